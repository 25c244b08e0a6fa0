import PyProof.Rows.All
import Wide.All
import OpenK.AllK
import Wide.FinOn
import HandS.ForMost
import HandS.Wide
import HandS.Gcd
import HandS.Deep
import HandS.Lambda
import HandS.TupAny
import HandS.TupMul
import HandS.SortInts
import HandS.Zip
import PyProof.ReprRoads
import PyProof.Rows.Digits
import HandS.Conv
import HandS.More
import HandS.Style
import HandS.Ends
import KE.GoesEnum
import HandS.Strs
import KE.KNestM
import HandS.EndOwn
import HandS.ExcInit
import HandS.ExcField
import HandS.ExcOwn
import HandS.ClsMeth
import HandS.WordsExc
import KE.KDictDisplayH
import KE.KeyNested
import HandS.Dict
import KE.SortData
import HandS.IsInst
import KE.KDictZip
import KE.KDictSum
import HandS.ExcValue
import HandS.NoneIn
import KE.DataMinMax
import HandS.Star
import HandS.DictComp
import PyProof.Rows.ReprOcc
import PyProof.StrLawsRepr
import HandS.SetFor
import PySem.Challenge.RW_heldthrough_k64_schemes_and_tables_of_an
set_option Elab.async false
set_option linter.all false
set_option maxRecDepth 100000
set_option maxHeartbeats 4000000
namespace DW
structure Shut (P : Prop) : Prop where
  out : P
theorem shutI {P : Prop} (h : P) : Shut P = True := eq_true ⟨h⟩
end DW
namespace DW
open PySem PySem.Spec L2
open PyProof.Rows hiding St
section
variable {X : Cx}
def tW (X : Cx) (e : Expr) : TE := fun σ H Q => ∀ pins s, Inv X pins σ H s → wpAny (model X.prog X.w) X.A (eval e X.env) (EP X pins σ Q) X.xe s
def tWt (X : Cx) (e : Expr) : TT := fun σ H Q => ∀ pins s, Inv X pins σ H s → wpAny (model X.prog X.w) X.A (isTrue e X.env (eval e X.env)) (TP X pins σ Q) X.xe s
def tWw (X : Cx) (e : Expr) : TT := fun σ H Q => ∀ (whole : Sem Value) pins s, Inv X pins σ H s → wpAny (model X.prog X.w) X.A (isTrue e X.env whole) (TP X pins σ Q) X.xe s
def tWa (X : Cx) (es : List Expr) : TA := fun σ H Q => ∀ (pos : Pos) pins s, Inv X pins σ H s → wpAny (model X.prog X.w) X.A (spliced (backTo pos (starEach es X.env))) (AP X pins σ Q) X.xe s
def tWs (X : Cx) (st : Stmt) : TS := fun D σ H => ∀ pins s, Inv X pins σ H s → wpAny (model X.prog X.w) X.A (exec st X.env) (SP X pins D) X.xe s
def tWb (X : Cx) (st : List Stmt) : TS := fun D σ H => ∀ pins s, Inv X pins σ H s → wpAny (model X.prog X.w) X.A (execs st X.env) (SP X pins D) X.xe s
def tWg (X : Cx) (tg : Expr) : TG := fun v σ H Q => ∀ pins s u, Inv X pins σ H s → RelV v u → wpAny (model X.prog X.w) X.A (assign tg X.env u) (fun _ s' => ∃ σ' H', Inv X pins σ' H' s' ∧ Q σ' H') X.xe s
theorem pe_w (e : Expr) : PE X e (tW X e) := ⟨fun pins s _ _ _ I h => h pins s I⟩
theorem pt_w (e : Expr) : PT X e (tWt X e) := ⟨fun pins s _ _ _ I h => h pins s I⟩
theorem pw_w (e : Expr) : PW X e (tWw X e) := ⟨fun wh pins s _ _ _ I h => h wh pins s I⟩
theorem pa_w (es : List Expr) : PA X es (tWa X es) := ⟨fun pos pins s _ _ _ I h => h pos pins s I⟩
theorem ps_w (st : Stmt) : PS X st (tWs X st) := ⟨fun pins s _ _ _ I h => h pins s I⟩
theorem pss_w (st : List Stmt) : PSs X st (tWb X st) := ⟨fun pins s _ _ _ I h => h pins s I⟩
theorem pg_w (tg : Expr) : PG X tg (tWg X tg) := ⟨fun pins s _ _ _ u _ I r h => h pins s u I r⟩
theorem tW.of {e : Expr} {t : TE} {σ : St} {H : Hp} {Q : VK} (p : PE X e t) (h : t σ H Q) : tW X e σ H Q := fun pins s I => p.run pins s σ H Q I h
theorem tWt.of {e : Expr} {t : TT} {σ : St} {H : Hp} {Q : Bool → Hp → Prop} (p : PT X e t) (h : t σ H Q) : tWt X e σ H Q := fun pins s I => p.run pins s σ H Q I h
theorem tWw.of {e : Expr} {t : TT} {σ : St} {H : Hp} {Q : Bool → Hp → Prop} (p : PW X e t) (h : t σ H Q) : tWw X e σ H Q := fun wh pins s I => p.run wh pins s σ H Q I h
theorem tWa.of {es : List Expr} {t : TA} {σ : St} {H : Hp} {Q : List V → Hp → Prop} (p : PA X es t) (h : t σ H Q) : tWa X es σ H Q := fun pos pins s I => p.run pos pins s σ H Q I h
theorem tWs.of {st : Stmt} {t : TS} {σ : St} {H : Hp} {D : Ends} (p : PS X st t) (h : t D σ H) : tWs X st D σ H := fun pins s I => p.run pins s σ H D I h
theorem tWb.of {st : List Stmt} {t : TS} {σ : St} {H : Hp} {D : Ends} (p : PSs X st t) (h : t D σ H) : tWb X st D σ H := fun pins s I => p.run pins s σ H D I h
theorem tWg.of {tg : Expr} {t : TG} {v : V} {σ : St} {H : Hp} {Q : St → Hp → Prop} (p : PG X tg t) (h : t v σ H Q) : tWg X tg v σ H Q := fun pins s u I r => p.run pins s σ H v u Q I r h
theorem tW.mono {e : Expr} {σ : St} {H : Hp} {Q Q' : VK} (h : tW X e σ H Q) (k : ∀ v H', Q v H' → Q' v H') : tW X e σ H Q' :=
  fun pins s I => thn (h pins s I) fun _ _ ⟨v, H', I', r, q⟩ => ⟨v, H', I', r, k v H' q⟩
theorem tWt.mono {e : Expr} {σ : St} {H : Hp} {Q Q' : Bool → Hp → Prop} (h : tWt X e σ H Q) (k : ∀ v H', Q v H' → Q' v H') : tWt X e σ H Q' :=
  fun pins s I => thn (h pins s I) fun v _ ⟨H', I', q⟩ => ⟨H', I', k v H' q⟩
theorem tWw.mono {e : Expr} {σ : St} {H : Hp} {Q Q' : Bool → Hp → Prop} (h : tWw X e σ H Q) (k : ∀ v H', Q v H' → Q' v H') : tWw X e σ H Q' :=
  fun wh pins s I => thn (h wh pins s I) fun v _ ⟨H', I', q⟩ => ⟨H', I', k v H' q⟩
theorem tWa.mono {es : List Expr} {σ : St} {H : Hp} {Q Q' : List V → Hp → Prop} (h : tWa X es σ H Q) (k : ∀ v H', Q v H' → Q' v H') : tWa X es σ H Q' :=
  fun pos pins s I => thn (h pos pins s I) fun _ _ ⟨v, H', I', r, q⟩ => ⟨v, H', I', r, k v H' q⟩
theorem tWg.mono {tg : Expr} {v : V} {σ : St} {H : Hp} {Q Q' : St → Hp → Prop} (h : tWg X tg v σ H Q) (k : ∀ σ' H', Q σ' H' → Q' σ' H') : tWg X tg v σ H Q' :=
  fun pins s u I r => thn (h pins s u I r) fun _ _ ⟨σ', H', I', q⟩ => ⟨σ', H', I', k _ _ q⟩
end
theorem SP.mono {X : Cx} {pins : List (Addr × Obj)} {D D' : Ends} {f : Flow} {s : Shared} (h : SP X pins D f s) (n : ∀ σ H, D.nx σ H → D'.nx σ H) (r : ∀ v H, D.rt v H → D'.rt v H) (b : ∀ σ H, D.bk σ H → D'.bk σ H) (c : ∀ σ H, D.ct σ H → D'.ct σ H) : SP X pins D' f s := by
  cases f with
  | next => obtain ⟨σ', H', I, q⟩ := h; exact ⟨σ', H', I, n _ _ q⟩
  | brk => obtain ⟨σ', H', I, q⟩ := h; exact ⟨σ', H', I, b _ _ q⟩
  | cont => obtain ⟨σ', H', I, q⟩ := h; exact ⟨σ', H', I, c _ _ q⟩
  | ret u => obtain ⟨v, σ', H', I, rr, q⟩ := h; exact ⟨v, σ', H', I, rr, r _ _ q⟩
theorem tWs.mono {X : Cx} {st : Stmt} {σ : St} {H : Hp} {D D' : Ends} (h : tWs X st D σ H) (n : ∀ σ H, D.nx σ H → D'.nx σ H) (r : ∀ v H, D.rt v H → D'.rt v H) (b : ∀ σ H, D.bk σ H → D'.bk σ H) (c : ∀ σ H, D.ct σ H → D'.ct σ H) : tWs X st D' σ H :=
  fun pins s I => thn (h pins s I) fun _ _ q => SP.mono q n r b c
theorem tWb.mono {X : Cx} {st : List Stmt} {σ : St} {H : Hp} {D D' : Ends} (h : tWb X st D σ H) (n : ∀ σ H, D.nx σ H → D'.nx σ H) (r : ∀ v H, D.rt v H → D'.rt v H) (b : ∀ σ H, D.bk σ H → D'.bk σ H) (c : ∀ σ H, D.ct σ H → D'.ct σ H) : tWb X st D' σ H :=
  fun pins s I => thn (h pins s I) fun _ _ q => SP.mono q n r b c
theorem same_new {H : Hp} {p : Addr} {o : HO} (h : H p = none) : Same H (upd H p o) := fun b x e => by
  rw [upd_ne (ne_of_none e h)]; exact e
theorem same_rd {H H' : Hp} {a : Addr} {u : HO} (e : Same H H') (h : Rd H a u) : Rd H' a u := by
  rcases h with h | ⟨o, h⟩
  · exact .inl (e a _ h)
  · exact .inr ⟨o, e a _ h⟩
theorem same_l {K : PySem.W.Frag} {H H' : Hp} {a : Addr} {xs : List V} (e : Same H H') (h : SqL K H a xs) : SqL K H' a xs := h.imp (same_rd e) id
theorem same_t {K : PySem.W.Frag} {H H' : Hp} {a : Addr} {xs : List V} (e : Same H H') (h : SqT K H a xs) : SqT K H' a xs := h.imp (same_rd e) id
/-- a dict's key as data -/
def keyD : Key → PyData
  | .inl i => .int i
  | .inr x => .str x
mutual
inductive Dp (K : PySem.W.Frag) (H : Hp) : V → PyData → Prop
  | non : Dp K H .non .none
  | bl (b : Bool) : Dp K H (.bl b) (.bool b)
  | int (i : Int) : Dp K H (.int i) (.int i)
  | str (x : Str) : Dp K H (.str x) (.str x)
  | lst {a : Addr} {xs : List V} {ds : List PyData} : SqL K H a xs → DpAll K H xs ds → Dp K H (.ref a) (.list ds)
  | tup {a : Addr} {xs : List V} {ds : List PyData} : SqT K H a xs → DpAll K H xs ds → Dp K H (.ref a) (.tuple ds)
  | dic {a : Addr} {kvs : List (Key × V)} {ds : List (PyData × PyData)} : H a = some (.dK kvs) → DpKv K H kvs ds → Dp K H (.ref a) (.dict ds)
inductive DpAll (K : PySem.W.Frag) (H : Hp) : List V → List PyData → Prop
  | nil : DpAll K H [] []
  | cons {v : V} {vs : List V} {d : PyData} {ds : List PyData} : Dp K H v d → DpAll K H vs ds → DpAll K H (v :: vs) (d :: ds)
inductive DpKv (K : PySem.W.Frag) (H : Hp) : List (Key × V) → List (PyData × PyData) → Prop
  | nil : DpKv K H [] []
  | cons {k : Key} {v : V} {kvs : List (Key × V)} {d : PyData} {ds : List (PyData × PyData)} : Dp K H v d → DpKv K H kvs ds → DpKv K H ((k, v) :: kvs) ((keyD k, d) :: ds)
end
mutual
theorem dp_mono {K : PySem.W.Frag} {S S' : Hp} (e : Same S S') : ∀ {v : V} {d : PyData}, Dp K S v d → Dp K S' v d
  | _, _, .non => .non
  | _, _, .bl b => .bl b
  | _, _, .int i => .int i
  | _, _, .str x => .str x
  | _, _, .lst h a => .lst (same_l e h) (dpa_mono e a)
  | _, _, .tup h a => .tup (same_t e h) (dpa_mono e a)
  | _, _, .dic h a => .dic (e _ _ h) (dpk_mono e a)
theorem dpa_mono {K : PySem.W.Frag} {S S' : Hp} (e : Same S S') : ∀ {vs : List V} {ds : List PyData}, DpAll K S vs ds → DpAll K S' vs ds
  | _, _, .nil => .nil
  | _, _, .cons h t => .cons (dp_mono e h) (dpa_mono e t)
theorem dpk_mono {K : PySem.W.Frag} {S S' : Hp} (e : Same S S') : ∀ {vs : List (Key × V)} {ds : List (PyData × PyData)}, DpKv K S vs ds → DpKv K S' vs ds
  | _, _, .nil => .nil
  | _, _, .cons h t => .cons (dp_mono e h) (dpk_mono e t)
end
mutual
inductive RdD (h : Heap) : Value → PyData → List Addr → Prop
  | none : RdD h .none .none []
  | bool (b) : RdD h (.bool b) (.bool b) []
  | int (i t) : RdD h (.int i t) (.int i) []
  | str (x t) : RdD h (.str x t) (.str x) []
  | list {a o vs n xs as} : h.get? a = some o → o.cls = .type "list" → o.data = .seq vs n → RdAll h vs.toList xs as → RdD h (.ref a) (.list xs) (a :: as)
  | tuple {a o vs n xs as} : h.get? a = some o → o.cls = .type "tuple" → o.data = .seq vs n → RdAll h vs.toList xs as → RdD h (.ref a) (.tuple xs) as
  | dict {a o es n kvs as bs} : (a == sysModules) = false → h.get? a = some o → o.cls = .type "dict" → o.data = .dict es n → RdAll h (es.toList.map (·.key)) (kvs.map (·.1)) as →
      RdAll h (es.toList.map (·.val)) (kvs.map (·.2)) bs → RdD h (.ref a) (.dict kvs) (a :: as ++ bs)
inductive RdAll (h : Heap) : List Value → List PyData → List Addr → Prop
  | nil : RdAll h [] [] []
  | cons {v vs d ds as bs} : RdD h v d as → RdAll h vs ds bs → RdAll h (v :: vs) (d :: ds) (as ++ bs)
end
mutual
theorem RdD.reads {h : Heap} : ∀ {v : Value} {d : PyData} {as : List Addr}, RdD h v d as → Reads h v d as
  | _, _, _, .none => .none
  | _, _, _, .bool b => .bool b
  | _, _, _, .int i t => .int i t
  | _, _, _, .str x t => .str x t
  | _, _, _, .list a b c r => .list a b c r.readsAll
  | _, _, _, .tuple a b c r => .tuple a b c r.readsAll
  | _, _, _, .dict _ a b c r q => .dict a b c r.readsAll q.readsAll
theorem RdAll.readsAll {h : Heap} : ∀ {vs : List Value} {ds : List PyData} {as : List Addr}, RdAll h vs ds as → ReadsAll h vs ds as
  | _, _, _, .nil => .nil
  | _, _, _, .cons r q => .cons r.reads q.readsAll
end
section
variable {X : Cx} {pins : List (Addr × Obj)} {σ : St} {H : Hp} {s : Shared}
theorem key_rd {k : Key} {u : Value} (h : Heap) (e : keyIs k u = true) : RdD h u (keyD k) [] := by
  rcases keyIs_shape e with ⟨i, t, rfl, rfl⟩ | ⟨x, t, rfl, rfl⟩
  · exact .int i t
  · exact .str x t
mutual
theorem Dp.rd (I : Inv X pins σ H s) : ∀ (d : PyData) (v : V) (u : Value), Dp X.K H v d → RelV v u → ∃ as, RdD s.heap u d as
  | .none, _, _, h, r => by cases h; cases r; exact ⟨_, .none⟩
  | .bool b, _, _, h, r => by cases h; cases r; exact ⟨_, .bool b⟩
  | .int i, _, _, h, r => by cases h; obtain ⟨t, rfl⟩ := r; exact ⟨_, .int i t⟩
  | .str x, _, _, h, r => by cases h; obtain ⟨t, rfl⟩ := r; exact ⟨_, .str x t⟩
  | .list ds, _, _, h, r => by
    cases h with
    | lst hs ha =>
      cases r
      obtain ⟨its, rv, ⟨o, n, ho, hc, _, hd⟩, _⟩ := I.list hs
      obtain ⟨as, q⟩ := DpAll.rd I ds _ its ha rv
      exact ⟨_, .list ho hc hd q⟩
  | .tuple ds, _, _, h, r => by
    cases h with
    | tup hs ha =>
      cases r
      obtain ⟨its, rv, ⟨o, ho, hc, n, hd⟩, _⟩ := I.tuple hs
      obtain ⟨as, q⟩ := DpAll.rd I ds _ its ha rv
      exact ⟨_, .tuple ho hc hd q⟩
  | .dict ds, _, _, h, r => by
    cases h with
    | dic hs ha =>
      cases r
      obtain ⟨_, hy, vs, kv, o, es, ep, ho, hx, hdt, _, hp, _⟩ := (show ObjOk X.prog X.w H s.heap _ (.dK _) from I.hok _ _ hs)
      obtain ⟨as, bs, q1, q2⟩ := DpKv.rd I ds _ vs es.toList ha kv hp
      exact ⟨_, .dict hy ho hx.1 hdt q1 q2⟩
theorem DpAll.rd (I : Inv X pins σ H s) : ∀ (ds : List PyData) (vs : List V) (us : List Value), DpAll X.K H vs ds → Vals vs us → ∃ as, RdAll s.heap us ds as
  | [], _, _, h, r => by cases h; cases r; exact ⟨_, .nil⟩
  | d :: ds, _, _, h, r => by
    cases h with
    | cons h1 h2 =>
      cases r with
      | cons r1 r2 =>
        obtain ⟨as, q1⟩ := Dp.rd I d _ _ h1 r1
        obtain ⟨bs, q2⟩ := DpAll.rd I ds _ _ h2 r2
        exact ⟨_, .cons q1 q2⟩
theorem DpKv.rd (I : Inv X pins σ H s) : ∀ (ds : List (PyData × PyData)) (vs : List (Key × V)) (us : List (Key × Value)) (es : List DictEntry), DpKv X.K H vs ds → KV vs us → Pairs (mixKind X.prog X.w) es us →
    ∃ as bs, RdAll s.heap (es.map (·.key)) (ds.map (·.1)) as ∧ RdAll s.heap (es.map (·.val)) (ds.map (·.2)) bs
  | [], _, _, _, h, r, p => by cases h; cases r; cases p; exact ⟨_, _, .nil, .nil⟩
  | (_, d) :: ds, _, _, _, h, r, p => by
    cases h with
    | cons h1 h2 =>
      cases r with
      | cons r1 r2 =>
        cases p with
        | cons p1 p2 p3 =>
          obtain ⟨as, q1⟩ := Dp.rd I d _ _ h1 r1.2
          obtain ⟨a2, b2, q2, q3⟩ := DpKv.rd I ds _ _ _ h2 r2 p3
          rw [← r1.1] at p1
          rw [← p2] at q1
          exact ⟨_, _, .cons (key_rd _ p1) q2, .cons q1 q3⟩
end
theorem Dp.reads (I : Inv X pins σ H s) (d : PyData) (v : V) (u : Value) (h : Dp X.K H v d) (r : RelV v u) : ∃ as, Reads s.heap u d as := let ⟨as, q⟩ := Dp.rd I d v u h r; ⟨as, q.reads⟩
theorem Dp.readsAll (I : Inv X pins σ H s) (ds : List PyData) (vs : List V) (us : List Value) (h : DpAll X.K H vs ds) (r : Vals vs us) : ∃ as, ReadsAll s.heap us ds as := let ⟨as, q⟩ := DpAll.rd I ds vs us h r; ⟨as, q.readsAll⟩
end
section
variable {X : Cx}
def rEqD (K : PySem.W.Frag) : R2 := fun x y H Q => ∃ d e, Dp K H x d ∧ Dp K H y e ∧ SeqAt.shaped d = true ∧ SeqAt.shaped e = true ∧ Q (.bl (PyData.eqv d e)) H
def rNeD (K : PySem.W.Frag) : R2 := fun x y H Q => ∃ d e, Dp K H x d ∧ Dp K H y e ∧ SeqAt.shaped d = true ∧ SeqAt.shaped e = true ∧ Q (.bl (!PyData.eqv d e)) H
theorem op_eqD (hu : X.A.units + 64 < cLine) : OpR X (compareOp .Eq) (rEqD X.K) := fun pins s σ H x y v u Q I rx ry ⟨d, e, hd, he, sd, se, q⟩ => by
  obtain ⟨as, r1⟩ := Dp.reads I d x v hd rx
  obtain ⟨bs, r2⟩ := Dp.reads I e y u he ry
  exact SeqAt.compareEq_shaped r1 r2 sd se hu ⟨.bl _, H, I, rfl, q⟩
theorem op_neD (hu : X.A.units + 64 < cLine) : OpR X (compareOp .NotEq) (rNeD X.K) := fun pins s σ H x y v u Q I rx ry ⟨d, e, hd, he, sd, se, q⟩ => by
  obtain ⟨as, r1⟩ := Dp.reads I d x v hd rx
  obtain ⟨bs, r2⟩ := Dp.reads I e y u he ry
  exact SeqAt.compareNe_shaped r1 r2 sd se hu ⟨.bl _, H, I, rfl, q⟩
end
section
variable {K : PySem.W.Frag} {S : Hp}
theorem DpAll.len : ∀ {vs : List V} {ds : List PyData}, DpAll K S vs ds → vs.length = ds.length
  | _, _, .nil => rfl
  | _, _, .cons _ t => congrArg (· + 1) t.len
theorem DpAll.get : ∀ {vs : List V} {ds : List PyData} {i : Nat} {d : PyData}, DpAll K S vs ds → ds[i]? = some d → ∃ v, vs[i]? = some v ∧ Dp K S v d
  | _, _, _, _, .nil, e => by simp at e
  | _, _, 0, _, .cons r _, e => ⟨_, rfl, by simp at e; subst e; exact r⟩
  | _, _, i + 1, d, .cons _ t, e => by
    obtain ⟨v, h1, h2⟩ := DpAll.get (i := i) (d := d) t (by simpa using e)
    exact ⟨v, by simpa using h1, h2⟩
theorem DpAll.app : ∀ {vs us : List V} {ds es : List PyData}, DpAll K S vs ds → DpAll K S us es → DpAll K S (vs ++ us) (ds ++ es)
  | _, _, _, _, .nil, h => h
  | _, _, _, _, .cons r t, h => .cons r (t.app h)
theorem DpAll.one {v : V} {d : PyData} (h : Dp K S v d) : DpAll K S [v] [d] := .cons h .nil
theorem DpAll.take : ∀ {vs : List V} {ds : List PyData} (n : Nat), DpAll K S vs ds → DpAll K S (vs.take n) (ds.take n)
  | _, _, 0, _ => .nil
  | _, _, _ + 1, .nil => .nil
  | _, _, n + 1, .cons r t => .cons r (t.take n)
theorem DpAll.drop : ∀ {vs : List V} {ds : List PyData} (n : Nat), DpAll K S vs ds → DpAll K S (vs.drop n) (ds.drop n)
  | _, _, 0, h => h
  | _, _, _ + 1, .nil => .nil
  | _, _, n + 1, .cons _ t => t.drop n
theorem DpAll.ints : ∀ {vs : List V} {ns : List Int}, DpAll K S vs (ns.map PyData.int) → vs = ns.map V.int
  | _, [], .nil => rfl
  | _, _ :: _, .cons h t => by cases h; rw [t.ints]; rfl
theorem DpAll.ofInts : ∀ {ns : List Int}, DpAll K S (ns.map V.int) (ns.map PyData.int)
  | [] => .nil
  | n :: _ => .cons (.int n) DpAll.ofInts
theorem DpAll.strs : ∀ {vs : List V} {ns : List Str}, DpAll K S vs (ns.map PyData.str) → vs = ns.map V.str
  | _, [], .nil => rfl
  | _, _ :: _, .cons h t => by cases h; rw [t.strs]; rfl
theorem DpAll.bools : ∀ {vs : List V} {ns : List Bool}, DpAll K S vs (ns.map PyData.bool) → vs = ns.map V.bl
  | _, [], .nil => rfl
  | _, _ :: _, .cons h t => by cases h; rw [t.bools]; rfl
end
open PyProof.Rows hiding St
inductive Bd where
  | no
  /-- data that stays -/
  | im (d : PyData)
  /-- an own list that changes -/
  | mu (ds : List PyData)
  /-- a value as it is -/
  | rw (v : V)
structure Fx where
  H0 : Hp
  S0 : Hp
  bag : Option Addr
  /-- the tables of code objects that may grow -/
  tb : List (Addr × Str)
/-- the drawing's state -/
def BagIn (K : PySem.W.Frag) (S H : Hp) (b : Addr) : Prop :=
  ∃ (c : Addr) (i j k : Int) (ns : List Int), H b = some (.lst [.int i, .int j, .int k, .ref c]) ∧ SqL K S c (ns.map V.int) ∧ 0 ≤ i ∧ 0 ≤ j ∧ j < 2147483647 ∧ 0 ≤ k ∧ (ns.length ≤ 63 ∧ ∀ n ∈ ns, 0 ≤ n)
theorem BagIn.mono {K : PySem.W.Frag} {S S' H H' : Hp} {b : Addr} (h : BagIn K S H b) (e : Same S S') (k : H' b = H b) : BagIn K S' H' b := by
  obtain ⟨c, i, j, m, ns, h1, h2, r⟩ := h
  exact ⟨c, i, j, m, ns, k.trans h1, same_l e h2, r⟩
/-- no table -/
def NT (o : HO) : Prop := ∀ ps, o ≠ .tbl ps
theorem nt_lst {xs : List V} : NT (.lst xs) := fun _ z => by cases z
/-- what is kept, all but the bag and the tables -/
def Kp (F : Fx) (H H' : Hp) : Prop := ∀ a o, H a = some o → F.bag ≠ some a → (F.tb = [] ∨ NT o) → H' a = some o
theorem Kp.refl {F : Fx} (H : Hp) : Kp F H H := fun _ _ e _ _ => e
theorem Kp.trans {F : Fx} {H H1 H2 : Hp} (a : Kp F H H1) (b : Kp F H1 H2) : Kp F H H2 := fun x o e n t => b x o (a x o e n t) n t
theorem Kp.same {F : Fx} {H H' : Hp} (e : Same H H') : Kp F H H' := fun a o h _ _ => e a o h
/-- all that is no list stays -/
def Nl (H H' : Hp) : Prop := ∀ a o, H a = some o → (∀ xs, o ≠ .lst xs) → H' a = some o
theorem Nl.upd {H : Hp} {p : Addr} {o : HO} (h : H p = none ∨ ∃ xs, H p = some (.lst xs)) : Nl H (upd H p o) := fun a u e n => by
  have ne : a ≠ p := fun z => by
    rw [z] at e
    rcases h with h | ⟨xs, h⟩
    · rw [h] at e; cases e
    · rw [h] at e; cases e; exact n xs rfl
  rw [upd_ne ne]; exact e
theorem tabs_nl {T : List (Addr × Str)} {H H' : Hp} (t : LamX.Tabs T H) (n : Nl H H') : LamX.Tabs T H' := fun p hp => by
  obtain ⟨ps, h1, h2, h3⟩ := t p hp
  refine ⟨ps, n _ _ h1 (fun _ z => by cases z), h2, fun pos cv hc => ?_⟩
  obtain ⟨c, e1, e2⟩ := h3 pos cv hc
  exact ⟨c, e1, n _ _ e2 fun _ z => by unfold LamX.CodeO at z; cases z⟩
def Dom (H H' : Hp) : Prop := ∀ a o, H a = some o → ∃ u, H' a = some u
theorem Dom.refl (H : Hp) : Dom H H := fun _ o e => ⟨o, e⟩
theorem Dom.trans {H H1 H2 : Hp} (a : Dom H H1) (b : Dom H1 H2) : Dom H H2 := fun x o e => by
  obtain ⟨u, e'⟩ := a x o e
  exact b x u e'
theorem Dom.upd (H : Hp) (p : Addr) (o : HO) : Dom H (upd H p o) := fun a u e => by
  by_cases q : a = p
  · exact ⟨o, by rw [q]; exact upd_same⟩
  · exact ⟨u, by rw [upd_ne q]; exact e⟩
/-- texts alone, one at least -/
def isS : V → Bool
  | .str _ => true
  | _ => false
def txt (xs : List V) : Bool := !xs.isEmpty && xs.all isS
/-- a tuple of texts that stays is known as an object -/
def TOk : HO → Prop
  | .tup xs => txt xs = false
  | .frz ob (.tup _) => ob.cls = .type "tuple" ∧ ob.dict = none
  | .tbl _ => False
  | _ => True
def TdS (S : Hp) : Prop := ∀ a o, S a = some o → TOk o
/-- what stands for a new tuple -/
def TupAs (xs : List V) (o : HO) : Prop := (o = .tup xs ∧ txt xs = false) ∨ ∃ ob : Obj, o = .frz ob (.tup xs) ∧ ob.cls = .type "tuple" ∧ ob.dict = none
theorem TupAs.tok {xs : List V} {o : HO} (h : TupAs xs o) : TOk o := by
  rcases h with ⟨rfl, h⟩ | ⟨ob, rfl, h⟩
  · exact h
  · exact h
theorem TupAs.rd {xs : List V} {o : HO} {H : Hp} {p : Addr} (h : TupAs xs o) : Rd (upd H p o) p (.tup xs) := by
  rcases h with ⟨rfl, h⟩ | ⟨ob, rfl, h⟩
  · exact .inl upd_same
  · exact .inr ⟨ob, upd_same⟩
theorem laidT {X : Cx} {pins : List (Addr × Obj)} {σ : St} {H : Hp} {s : Shared} {h' : Heap} {t' : Nat} {p : Addr} {xs : List V} {its : List Value} {ob : Obj} {n : Nat} (I : Inv X pins σ H s) (k : ∀ b u, s.heap.get? b = some u → h'.get? b = some u) (hp : s.heap.objs.size ≤ p)
    (e : h'.get? p = some ob) (ec : ob.cls = .type "tuple") (ed : ob.dict = none) (es : ob.data = .seq its.toArray n) (r : Vals xs its) (z : xs.length ≤ sizeLine) : ∃ o, TupAs xs o ∧ Inv X pins σ (upd H p o) { s with heap := h', toks := t' } := by
  have tup : IsTup h' p its.toArray := ⟨ob, e, ec, n, es⟩
  by_cases ht : txt xs = false
  · exact ⟨.tup xs, .inl ⟨rfl, ht⟩, I.laid k hp ⟨z, its, r, tup⟩⟩
  · exact ⟨.frz ob (.tup xs), .inr ⟨ob, rfl, ec, ed⟩, I.laid k hp ⟨e, z, its, r, tup⟩⟩
theorem TdS.upd {S : Hp} {p : Addr} {o : HO} (h : TdS S) (t : TOk o) : TdS (upd S p o) := fun a u e => by
  by_cases q : a = p
  · subst q; rw [upd_same] at e; cases e; exact t
  · rw [upd_ne q] at e; exact h a u e
structure GRel (K : PySem.W.Frag) (F : Fx) (Γ : List Bd) (σ : St) (H S : Hp) : Prop where
  ex : Same S H
  s0 : Same F.S0 S
  nw : ∀ a o, S a = some o → (∃ u, F.S0 a = some u) ∨ F.H0 a = none
  keep : Kp F F.H0 H
  bag : ∀ b, F.bag = some b → S b = none ∧ (∃ o, F.H0 b = some o) ∧ BagIn K S H b
  loc : ∀ (i : Nat) (d : PyData), Γ[i]? = some (Bd.im d) → ∃ v, σ[i]? = some (some v) ∧ Dp K S v d
  own : ∀ (i : Nat) (ds : List PyData), Γ[i]? = some (Bd.mu ds) → ∃ a xs, σ[i]? = some (some (.ref a)) ∧ H a = some (.lst xs) ∧ S a = none ∧ F.H0 a = none ∧ DpAll K S xs ds
  raw : ∀ (i : Nat) (v : V), Γ[i]? = some (Bd.rw v) → σ[i]? = some (some v)
  sep : ∀ (i j : Nat) (a : Addr) (ds es : List PyData), Γ[i]? = some (Bd.mu ds) → Γ[j]? = some (Bd.mu es) → σ[i]? = some (some (.ref a)) → σ[j]? = some (some (.ref a)) → i = j
  td : TdS S
  dm : Dom F.H0 H
  tab : LamX.Tabs F.tb H
section
variable {K : PySem.W.Frag} {F : Fx} {Γ Γ' : List Bd} {σ σ' : St} {H H' S S' : Hp}
theorem GRel.h0 (g : GRel K F Γ σ H S) {p : Addr} (h : H p = none) : F.H0 p = none := by
  cases e : F.H0 p with
  | none => rfl
  | some o =>
    obtain ⟨u, q⟩ := g.dm p o e
    rw [h] at q; cases q
theorem GRel.sNone (g : GRel K F Γ σ H S) {p : Addr} (h : H p = none) : S p = none := by
  cases e : S p with
  | none => rfl
  | some o => rw [g.ex p o e] at h; cases h
theorem GRel.nb (g : GRel K F Γ σ H S) {p : Addr} (h : H p = none) : F.bag ≠ some p := fun e => by
  obtain ⟨_, ⟨o, q⟩, _⟩ := g.bag p e
  rw [g.h0 h] at q; cases q
/-- the heap grows -/
theorem GRel.ext (g : GRel K F Γ σ H S) (k : Kp F H H') (e : Same S S') (x : Same S' H') (n : ∀ a o, S' a = some o → (∃ u, S a = some u) ∨ H a = none) (b : ∀ b, F.bag = some b → S' b = none ∧ BagIn K S' H' b) (td : TdS S') (dm : Dom H H') (tab : LamX.Tabs F.tb H') : GRel K F Γ σ H' S' := by
  have nS : ∀ {a : Addr} {o : HO}, H a = some o → S a = none → S' a = none := fun {a o} h1 h2 => by
    cases q : S' a with
    | none => rfl
    | some u =>
      rcases n a u q with ⟨u', z⟩ | z
      · rw [h2] at z; cases z
      · rw [h1] at z; cases z
  refine ⟨x, g.s0.trans e, fun a o h => ?_, g.keep.trans k, fun c hc => ⟨(b c hc).1, (g.bag c hc).2.1, (b c hc).2⟩, fun i d h => ?_, fun i ds h => ?_, g.raw, g.sep, td, g.dm.trans dm, tab⟩
  · rcases n a o h with ⟨u, z⟩ | z
    · exact g.nw a u z
    · exact .inr (g.h0 z)
  · obtain ⟨v, h1, h2⟩ := g.loc i d h
    exact ⟨v, h1, dp_mono e h2⟩
  · obtain ⟨a, xs, h1, h2, h3, h4, h5⟩ := g.own i ds h
    have nb : F.bag ≠ some a := fun z => by
      obtain ⟨_, ⟨o, q⟩, _⟩ := g.bag a z
      rw [h4] at q; cases q
    exact ⟨a, xs, h1, k a _ h2 nb (.inr nt_lst), nS h2 h3, h4, dpa_mono e h5⟩
theorem GRel.bagNone (g : GRel K F Γ σ H S) (b : Addr) (hb : F.bag = some b) {p : Addr} (h : H p = none) : b ≠ p := fun e => g.nb h (e ▸ hb)
/-- a new thing that stays -/
theorem GRel.new (g : GRel K F Γ σ H S) {p : Addr} (o : HO) (h : H p = none) (to : TOk o) : GRel K F Γ σ (upd H p o) (upd S p o) := by
  have hs := g.sNone h
  refine g.ext (Kp.same (same_new h)) (same_new hs) (fun a u e => ?_) (fun a u e => ?_) (fun b hb => ?_) (g.td.upd to) (Dom.upd H p o) (tabs_nl g.tab (Nl.upd (.inl h)))
  · by_cases q : a = p
    · subst q; rw [upd_same] at e ⊢; exact e
    · rw [upd_ne q] at e ⊢; exact g.ex a u e
  · by_cases q : a = p
    · subst q; exact .inr h
    · rw [upd_ne q] at e; exact .inl ⟨u, e⟩
  · have hn := g.bagNone b hb h
    obtain ⟨h1, _, h3⟩ := g.bag b hb
    exact ⟨by rw [upd_ne hn]; exact h1, h3.mono (same_new hs) (upd_ne hn)⟩
/-- a new thing of which nothing is said -/
theorem GRel.more (g : GRel K F Γ σ H S) {p : Addr} (o : HO) (h : H p = none) : GRel K F Γ σ (upd H p o) S :=
  g.ext (Kp.same (same_new h)) (Same.refl S) (fun a u e => same_new h a u (g.ex a u e)) (fun a u e => .inl ⟨u, e⟩) (fun b hb => by
    obtain ⟨h1, _, h3⟩ := g.bag b hb
    exact ⟨h1, h3.mono (Same.refl S) (upd_ne (g.bagNone b hb h))⟩) g.td (Dom.upd H p o) (tabs_nl g.tab (Nl.upd (.inl h)))
theorem GRel.nil (g : GRel K F Γ σ H S) : GRel K F [] σ' H S :=
  ⟨g.ex, g.s0, g.nw, g.keep, g.bag, fun _ _ h => by simp at h, fun _ _ h => by simp at h, fun _ _ h => by simp at h, fun _ _ _ _ _ h => by simp at h, g.td, g.dm, g.tab⟩
/-- other names -/
theorem GRel.re (g : GRel K F Γ σ H S) (l : ∀ (i : Nat) (d : PyData), Γ'[i]? = some (Bd.im d) → ∃ v, σ'[i]? = some (some v) ∧ Dp K S v d) (m : ∀ (i : Nat) (ds : List PyData), Γ'[i]? = some (Bd.mu ds) → Γ[i]? = some (Bd.mu ds) ∧ σ'[i]? = σ[i]?) (r : ∀ (i : Nat) (v : V), Γ'[i]? = some (Bd.rw v) → σ'[i]? = some (some v)) : GRel K F Γ' σ' H S :=
  ⟨g.ex, g.s0, g.nw, g.keep, g.bag, l, fun i ds h => by
    obtain ⟨h1, h2⟩ := m i ds h
    rw [h2]
    exact g.own i ds h1, r, fun i j a ds es h1 h2 h3 h4 => by
    obtain ⟨p1, p2⟩ := m i ds h1
    obtain ⟨q1, q2⟩ := m j es h2
    rw [p2] at h3
    rw [q2] at h4
    exact g.sep i j a ds es p1 q1 h3 h4, g.td, g.dm, g.tab⟩
theorem get_set {α : Type} {l : List α} {i j : Nat} {x y : α} (h : (l.set i x)[j]? = some y) : (j = i ∧ y = x ∧ i < l.length) ∨ (j ≠ i ∧ l[j]? = some y) := by
  by_cases e : i = j
  · subst e
    by_cases hl : i < l.length
    · rw [List.getElem?_set_self hl] at h
      exact .inl ⟨rfl, (Option.some.inj h).symm, hl⟩
    · rw [List.getElem?_eq_none (by simpa using hl)] at h; cases h
  · rw [List.getElem?_set_ne e] at h
    exact .inr ⟨fun z => e z.symm, h⟩
/-- a name is stored -/
theorem GRel.store (g : GRel K F Γ σ H S) (hl : Γ.length = σ.length) {i : Nat} {v : V} {d : PyData} (h : Dp K S v d) : GRel K F (Γ.set i (Bd.im d)) (σ.set i (some v)) H S := by
  refine g.re (fun j e hj => ?_) (fun j ds hj => ?_) fun j u hj => ?_
  · rcases get_set hj with ⟨rfl, q, hi⟩ | ⟨ne, q⟩
    · cases q
      exact ⟨v, List.getElem?_set_self (by rw [← hl]; exact hi), h⟩
    · rw [List.getElem?_set_ne (Ne.symm ne)]
      exact g.loc j e q
  · rcases get_set hj with ⟨rfl, q, hi⟩ | ⟨ne, q⟩
    · cases q
    · exact ⟨q, List.getElem?_set_ne (Ne.symm ne)⟩
  · rcases get_set hj with ⟨rfl, q, hi⟩ | ⟨ne, q⟩
    · cases q
    · rw [List.getElem?_set_ne (Ne.symm ne)]
      exact g.raw j u q
theorem GRel.storeRaw (g : GRel K F Γ σ H S) (hl : Γ.length = σ.length) {i : Nat} {v : V} : GRel K F (Γ.set i (Bd.rw v)) (σ.set i (some v)) H S := by
  refine g.re (fun j e hj => ?_) (fun j ds hj => ?_) fun j u hj => ?_
  · rcases get_set hj with ⟨rfl, q, hi⟩ | ⟨ne, q⟩
    · cases q
    · rw [List.getElem?_set_ne (Ne.symm ne)]
      exact g.loc j e q
  · rcases get_set hj with ⟨rfl, q, hi⟩ | ⟨ne, q⟩
    · cases q
    · exact ⟨q, List.getElem?_set_ne (Ne.symm ne)⟩
  · rcases get_set hj with ⟨rfl, q, hi⟩ | ⟨ne, q⟩
    · cases q
      exact List.getElem?_set_self (by rw [← hl]; exact hi)
    · rw [List.getElem?_set_ne (Ne.symm ne)]
      exact g.raw j u q
/-- an own list is stored -/
theorem GRel.storeMu (g : GRel K F Γ σ H S) (hl : Γ.length = σ.length) {i : Nat} {p : Addr} {xs : List V} {ds : List PyData} (h1 : H p = some (.lst xs)) (h2 : S p = none) (h3 : F.H0 p = none) (h4 : DpAll K S xs ds)
    (h5 : ∀ (j : Nat) (es : List PyData), Γ[j]? = some (Bd.mu es) → σ[j]? ≠ some (some (.ref p))) : GRel K F (Γ.set i (Bd.mu ds)) (σ.set i (some (.ref p))) H S := by
  refine ⟨g.ex, g.s0, g.nw, g.keep, g.bag, fun j e hj => ?_, fun j es hj => ?_, fun j u hj => ?_, fun j k a es fs hj hk ej ek => ?_, g.td, g.dm, g.tab⟩
  · rcases get_set hj with ⟨rfl, q, hi⟩ | ⟨ne, q⟩
    · cases q
    · rw [List.getElem?_set_ne (Ne.symm ne)]
      exact g.loc j e q
  · rcases get_set hj with ⟨rfl, q, hi⟩ | ⟨ne, q⟩
    · cases q
      exact ⟨p, xs, List.getElem?_set_self (by rw [← hl]; exact hi), h1, h2, h3, h4⟩
    · rw [List.getElem?_set_ne (Ne.symm ne)]
      exact g.own j es q
  · rcases get_set hj with ⟨rfl, q, hi⟩ | ⟨ne, q⟩
    · cases q
    · rw [List.getElem?_set_ne (Ne.symm ne)]
      exact g.raw j u q
  · rcases get_set hj with ⟨rfl, qj, hi⟩ | ⟨nj, qj⟩ <;> rcases get_set hk with ⟨rfl, qk, hi'⟩ | ⟨nk, qk⟩
    · rfl
    · rw [List.getElem?_set_self (by rw [← hl]; exact hi)] at ej
      rw [List.getElem?_set_ne (Ne.symm nk)] at ek
      cases ej
      exact absurd ek (h5 k fs qk)
    · rw [List.getElem?_set_self (by rw [← hl]; exact hi')] at ek
      rw [List.getElem?_set_ne (Ne.symm nj)] at ej
      cases ek
      exact absurd ej (h5 j es qj)
    · rw [List.getElem?_set_ne (Ne.symm nj)] at ej
      rw [List.getElem?_set_ne (Ne.symm nk)] at ek
      exact g.sep j k a es fs qj qk ej ek
/-- an own list changes -/
theorem GRel.change (g : GRel K F Γ σ H S) {i : Nat} {p : Addr} {ys : List V} {ds es : List PyData} (hi : Γ[i]? = some (Bd.mu ds)) (h1 : σ[i]? = some (some (.ref p))) (h4 : DpAll K S ys es) : GRel K F (Γ.set i (Bd.mu es)) σ (upd H p (.lst ys)) S := by
  obtain ⟨a, xs, e1, e2, e3, e4, _⟩ := g.own i ds hi
  rw [h1] at e1
  cases e1
  have iL : i < Γ.length := (List.getElem?_eq_some_iff.mp hi).1
  have other : ∀ {j : Nat} {fs : List PyData} {b : Addr}, j ≠ i → Γ[j]? = some (Bd.mu fs) → σ[j]? = some (some (.ref b)) → b ≠ p := fun {j fs b} ne q z e => ne (g.sep j i p fs ds q hi (e ▸ z) h1)
  refine ⟨fun a u e => ?_, g.s0, g.nw, fun a u e n t => ?_, fun b hb => ?_, fun j d hj => ?_, fun j fs hj => ?_, fun j u hj => ?_, fun j k a fs gs hj hk ej ek => ?_, g.td, g.dm.trans (Dom.upd H p _), tabs_nl g.tab (Nl.upd (.inr ⟨_, e2⟩))⟩
  · have ne : a ≠ p := ne_of_none e e3
    rw [upd_ne ne]
    exact g.ex a u e
  · have ne : a ≠ p := fun z => by rw [z, e4] at e; cases e
    rw [upd_ne ne]
    exact g.keep a u e n t
  · obtain ⟨q1, ⟨o, q2⟩, q3⟩ := g.bag b hb
    have ne : b ≠ p := fun z => by rw [z, e4] at q2; cases q2
    exact ⟨q1, ⟨o, q2⟩, q3.mono (Same.refl S) (upd_ne ne)⟩
  · rcases get_set hj with ⟨rfl, q, _⟩ | ⟨ne, q⟩
    · cases q
    · exact g.loc j d q
  · rcases get_set hj with ⟨rfl, q, _⟩ | ⟨ne, q⟩
    · cases q
      exact ⟨p, ys, h1, upd_same, e3, e4, h4⟩
    · obtain ⟨b, zs, q1, q2, q3, q4, q5⟩ := g.own j fs q
      exact ⟨b, zs, q1, by rw [upd_ne (other ne q q1)]; exact q2, q3, q4, q5⟩
  · rcases get_set hj with ⟨rfl, q, _⟩ | ⟨ne, q⟩
    · cases q
    · exact g.raw j u q
  · have z : ∀ {j : Nat} {fs : List PyData}, (Γ.set i (Bd.mu es))[j]? = some (Bd.mu fs) → ∃ fs', Γ[j]? = some (Bd.mu fs') := fun {j fs} hj => by
      rcases get_set hj with ⟨rfl, q, _⟩ | ⟨ne, q⟩
      · exact ⟨ds, hi⟩
      · exact ⟨fs, q⟩
    obtain ⟨fs', z1⟩ := z hj
    obtain ⟨gs', z2⟩ := z hk
    exact g.sep j k a fs' gs' z1 z2 ej ek
/-- an own list stays from now on -/
theorem GRel.freeze (g : GRel K F Γ σ H S) {i : Nat} {ds : List PyData} (hi : Γ[i]? = some (Bd.mu ds)) : ∃ S', GRel K F (Γ.set i (Bd.im (.list ds))) σ H S' ∧ Same S S' := by
  obtain ⟨p, xs, e1, e2, e3, e4, e5⟩ := g.own i ds hi
  have sm : Same S (upd S p (.lst xs)) := same_new e3
  have other : ∀ {j : Nat} {fs : List PyData} {b : Addr}, j ≠ i → Γ[j]? = some (Bd.mu fs) → σ[j]? = some (some (.ref b)) → b ≠ p := fun {j fs b} ne q z e => ne (g.sep j i p fs ds q hi (e ▸ z) e1)
  refine ⟨upd S p (.lst xs), ⟨fun a u e => ?_, g.s0.trans sm, fun a u e => ?_, g.keep, fun b hb => ?_, fun j d hj => ?_, fun j fs hj => ?_, fun j u hj => ?_, fun j k a fs gs hj hk ej ek => ?_, g.td.upd trivial, g.dm, g.tab⟩, sm⟩
  · by_cases q : a = p
    · subst q; rw [upd_same] at e; rw [e2]; exact e
    · rw [upd_ne q] at e; exact g.ex a u e
  · by_cases q : a = p
    · subst q; exact .inr e4
    · rw [upd_ne q] at e; exact g.nw a u e
  · obtain ⟨q1, ⟨o, q2⟩, q3⟩ := g.bag b hb
    have ne : b ≠ p := fun z => by rw [z, e4] at q2; cases q2
    exact ⟨by rw [upd_ne ne]; exact q1, ⟨o, q2⟩, q3.mono sm rfl⟩
  · rcases get_set hj with ⟨rfl, q, _⟩ | ⟨ne, q⟩
    · cases q
      exact ⟨.ref p, e1, .lst (.inl (.inl upd_same)) (dpa_mono sm e5)⟩
    · obtain ⟨v, q1, q2⟩ := g.loc j d q
      exact ⟨v, q1, dp_mono sm q2⟩
  · rcases get_set hj with ⟨rfl, q, _⟩ | ⟨ne, q⟩
    · cases q
    · obtain ⟨b, zs, q1, q2, q3, q4, q5⟩ := g.own j fs q
      exact ⟨b, zs, q1, q2, by rw [upd_ne (other ne q q1)]; exact q3, q4, dpa_mono sm q5⟩
  · rcases get_set hj with ⟨rfl, q, _⟩ | ⟨ne, q⟩
    · cases q
    · exact g.raw j u q
  · rcases get_set hj with ⟨rfl, q, _⟩ | ⟨nj, qj⟩
    · cases q
    rcases get_set hk with ⟨rfl, q, _⟩ | ⟨nk, qk⟩
    · cases q
    exact g.sep j k a fs gs qj qk ej ek
end
end DW
namespace DW
open PySem PySem.Spec L2
open PyProof.Rows hiding St
inductive Kd where | no | rd | lo | ce
structure Nm where
  N : List Str
  kd : List Kd
  gl : List Str
  sc : Scope
def kdOk (sc : Scope) (x : Str) : Kd → Bool
  | .no => true
  | .rd => decide (sc.names.lookup x = some .local) || (decide (sc.names.lookup x = some .cell) || decide (sc.names.lookup x = some .free))
  | .lo => decide (sc.names.lookup x = some .local)
  | .ce => decide (sc.names.lookup x = some .cell)
def kdsOk (sc : Scope) : List Str → List Kd → Bool
  | x :: xs, k :: ks => kdOk sc x k && kdsOk sc xs ks
  | _, _ => true
def glOk (sc : Scope) : List Str → Bool
  | [] => true
  | x :: xs => decide (sc.names.lookup x = some .globalImplicit) && glOk sc xs
def nmOk (M : Nm) : Bool := kdsOk M.sc M.N M.kd && glOk M.sc M.gl && decide M.N.Nodup
theorem kdsOk_get {sc : Scope} : ∀ {xs : List Str} {ks : List Kd} {i : Nat} {x : Str} {k : Kd}, kdsOk sc xs ks = true → xs[i]? = some x → ks[i]? = some k → kdOk sc x k = true
  | [], _, _, _, _, _, h, _ => by simp at h
  | _ :: _, [], _, _, _, _, _, h => by simp at h
  | a :: xs, b :: ks, 0, x, k, h, h1, h2 => by
    simp at h1 h2
    subst h1 h2
    exact (Bool.and_eq_true_iff.mp h).1
  | a :: xs, b :: ks, i + 1, x, k, h, h1, h2 => kdsOk_get (i := i) (Bool.and_eq_true_iff.mp h).2 (by simpa using h1) (by simpa using h2)
theorem glOk_get {sc : Scope} : ∀ {xs : List Str} {x : Str}, glOk sc xs = true → x ∈ xs → sc.names.lookup x = some .globalImplicit
  | [], _, _, h => by cases h
  | a :: xs, x, h, hm => by
    obtain ⟨h1, h2⟩ := Bool.and_eq_true_iff.mp h
    rcases List.mem_cons.mp hm with e | e
    · subst e
      exact of_decide_eq_true h1
    · exact glOk_get h2 e
structure Gd where
  P : Program
  w : World
  K : PySem.W.Frag
  mg : Str → Option Value
  base : Heap
  k : Nat
  grd : Bool
  /-- the law's own code and its names' head -/
  cq : Option (Value × Str)
/-- what stands of a context -/
structure Good (G : Gd) (M : Nm) (X : Cx) : Prop where
  prog : X.prog = G.P
  w : X.w = G.w
  K : X.K = G.K
  mg : X.mg = G.mg
  base : X.base = G.base
  room : Room G.k X.A
  grd : G.grd = true → X.A.guards = some []
  calm : X.calm = true
  N : X.N = M.N
  sc : X.env.scope = M.sc
  ok : nmOk M = true
  fn : ∀ (i : Nat) (x : Str), M.N[i]? = some x → M.kd[i]? = some Kd.ce → X.fn x = true
  xe : X.xe = fun _ _ => False
  cq : G.grd = true → ∀ v q, G.cq = some (v, q) → X.env.code = v ∧ X.env.qual = q
section
variable {G : Gd} {M : Nm} {X : Cx}
theorem Good.nd (g : Good G M X) : X.N.Nodup := by
  rw [g.N]
  exact of_decide_eq_true (Bool.and_eq_true_iff.mp g.ok).2
theorem Good.at (g : Good G M X) {i : Nat} {x : Str} (h : M.N[i]? = some x) : X.N[i]? = some x := by rw [g.N]; exact h
theorem Good.kd (g : Good G M X) {i : Nat} {x : Str} {k : Kd} (h : M.N[i]? = some x) (hk : M.kd[i]? = some k) : kdOk X.env.scope x k = true := by
  rw [g.sc]
  exact kdsOk_get (Bool.and_eq_true_iff.mp (Bool.and_eq_true_iff.mp g.ok).1).1 h hk
theorem Good.gl (g : Good G M X) {x : Str} (h : x ∈ M.gl) : Gl X x := by
  have := glOk_get (Bool.and_eq_true_iff.mp (Bool.and_eq_true_iff.mp g.ok).1).2 h
  show X.env.scope.names.lookup x = _
  rw [g.sc]; exact this
/-- a name that may be read -/
def Rdb (M : Nm) (i : Nat) (x : Str) : Prop := M.N[i]? = some x ∧ (∃ k, M.kd[i]? = some k ∧ k ≠ .no) ∧ (x == ("__debug__" : Str)) = false ∧ (x == ("__classdict__" : Str)) = false
/-- a name that may be stored -/
def Sto (M : Nm) (i : Nat) (x : Str) : Prop := M.N[i]? = some x ∧ (M.kd[i]? = some Kd.lo ∨ M.kd[i]? = some Kd.ce)
def Lcl (M : Nm) (i : Nat) (x : Str) : Prop := M.N[i]? = some x ∧ M.kd[i]? = some Kd.lo
theorem Good.vis (g : Good G M X) {i : Nat} {x : Str} (h : Rdb M i x) : Vis X.env.scope x := by
  obtain ⟨h1, ⟨k, h2, h3⟩, _⟩ := h
  have := g.kd h1 h2
  cases k with
  | no => exact absurd rfl h3
  | rd =>
    rcases Bool.or_eq_true_iff.mp this with q | q
    · exact .inl (of_decide_eq_true q)
    · rcases Bool.or_eq_true_iff.mp q with q | q
      · exact .inr (.inl (of_decide_eq_true q))
      · exact .inr (.inr (of_decide_eq_true q))
  | lo => exact .inl (of_decide_eq_true this)
  | ce => exact .inr (.inl (of_decide_eq_true this))
theorem Good.lcl (g : Good G M X) {i : Nat} {x : Str} (h : Lcl M i x) : X.env.scope.names.lookup x = some .local := of_decide_eq_true (g.kd h.1 h.2)
theorem Good.sto (g : Good G M X) {i : Nat} {x : Str} (h : Sto M i x) : Loc X.env.scope x ∧ (X.fn x = true ∨ X.env.scope.names.lookup x = some .local) := by
  rcases h.2 with q | q
  · have := g.lcl ⟨h.1, q⟩
    exact ⟨.inl this, .inr this⟩
  · exact ⟨.inr (of_decide_eq_true (g.kd h.1 q)), .inl (g.fn i x h.1 q)⟩
end
/-- what an evaluation leaves as it was -/
structure Kq (F : Fx) (H S H' S' : Hp) : Prop where
  kp : Kp F H H'
  dom : ∀ a o, H a = some o → ∃ u, H' a = some u
  nw : ∀ a o, S' a = some o → (∃ u, S a = some u) ∨ H a = none
theorem Kq.refl {F : Fx} (H S : Hp) : Kq F H S H S := ⟨Kp.refl H, fun _ o e => ⟨o, e⟩, fun _ o e => .inl ⟨o, e⟩⟩
theorem Kq.trans {F : Fx} {H S H1 S1 H2 S2 : Hp} (a : Kq F H S H1 S1) (b : Kq F H1 S1 H2 S2) : Kq F H S H2 S2 := by
  refine ⟨a.kp.trans b.kp, fun x o e => ?_, fun x o e => ?_⟩
  · obtain ⟨u, e'⟩ := a.dom x o e
    exact b.dom x u e'
  · rcases b.nw x o e with ⟨u, z⟩ | z
    · exact a.nw x u z
    · refine .inr ?_
      cases q : H x with
      | none => rfl
      | some w =>
        obtain ⟨u, e'⟩ := a.dom x w q
        rw [z] at e'; cases e'
/-- a new thing that stays -/
theorem Kq.new {F : Fx} {H S : Hp} {p : Addr} {o : HO} (hp : H p = none) : Kq F H S (upd H p o) (upd S p o) := by
  refine ⟨Kp.same (same_new hp), fun x u e => ⟨u, same_new hp x u e⟩, fun x u e => ?_⟩
  by_cases q : x = p
  · subst q; exact .inr hp
  · rw [upd_ne q] at e; exact .inl ⟨u, e⟩
/-- a new thing of which nothing is said -/
theorem Kq.more {F : Fx} {H S : Hp} {p : Addr} {o : HO} (hp : H p = none) : Kq F H S (upd H p o) S := ⟨Kp.same (same_new hp), fun x u e => ⟨u, same_new hp x u e⟩, fun x u e => .inl ⟨u, e⟩⟩
section
variable (K : PySem.W.Frag) (F : Fx) (Γ : List Bd) (σ : St) (H S : Hp)
def PostE (Q : PyData → Prop) : VK := fun v H' => ∃ S' d, GRel K F Γ σ H' S' ∧ Same S S' ∧ Kq F H S H' S' ∧ Dp K S' v d ∧ Q d
/-- data, or an own list, to be read -/
def Db (v : V) (d : PyData) : Prop := Dp K S v d ∨ ∃ a xs ds, v = .ref a ∧ d = .list ds ∧ H a = some (.lst xs) ∧ F.bag ≠ some a ∧ DpAll K S xs ds
def PostB (Q : PyData → Prop) : VK := fun v H' => ∃ S' d, GRel K F Γ σ H' S' ∧ Same S S' ∧ Kq F H S H' S' ∧ Db K F H' S' v d ∧ Q d
def PostT (Q : Bool → Prop) : Bool → Hp → Prop := fun b H' => ∃ S', GRel K F Γ σ H' S' ∧ Same S S' ∧ Kq F H S H' S' ∧ Q b
def PostL (Q : List PyData → Prop) : List V → Hp → Prop := fun vs H' => ∃ S' ds, GRel K F Γ σ H' S' ∧ Same S S' ∧ Kq F H S H' S' ∧ DpAll K S' vs ds ∧ Q ds
end
structure WE (G : Gd) (M : Nm) (F : Fx) (e : Expr) (Γ : List Bd) (Q : PyData → Prop) : Prop where
  run : ∀ X, Good G M X → ∀ σ H S, σ.length = M.N.length → GRel G.K F Γ σ H S → tW X e σ H (PostE G.K F Γ σ H S Q)
structure WB (G : Gd) (M : Nm) (F : Fx) (e : Expr) (Γ : List Bd) (Q : PyData → Prop) : Prop where
  run : ∀ X, Good G M X → ∀ σ H S, σ.length = M.N.length → GRel G.K F Γ σ H S → tW X e σ H (PostB G.K F Γ σ H S Q)
structure WT (G : Gd) (M : Nm) (F : Fx) (e : Expr) (Γ : List Bd) (Q : Bool → Prop) : Prop where
  run : ∀ X, Good G M X → ∀ σ H S, σ.length = M.N.length → GRel G.K F Γ σ H S → tWt X e σ H (PostT G.K F Γ σ H S Q)
structure WW (G : Gd) (M : Nm) (F : Fx) (e : Expr) (Γ : List Bd) (Q : Bool → Prop) : Prop where
  run : ∀ X, Good G M X → ∀ σ H S, σ.length = M.N.length → GRel G.K F Γ σ H S → tWw X e σ H (PostT G.K F Γ σ H S Q)
structure WL (G : Gd) (M : Nm) (F : Fx) (es : List Expr) (Γ : List Bd) (Q : List PyData → Prop) : Prop where
  run : ∀ X, Good G M X → ∀ σ H S, σ.length = M.N.length → GRel G.K F Γ σ H S → tWa X es σ H (PostL G.K F Γ σ H S Q)
section
variable {K : PySem.W.Frag} {F : Fx} {Γ : List Bd} {σ : St} {H H1 S S1 : Hp} {v : V} {d : PyData}
theorem PostE.ahead {Q : PyData → Prop} {H' : Hp} (e : Same S S1) (k : Kq F H S H1 S1) (h : PostE K F Γ σ H1 S1 Q v H') : PostE K F Γ σ H S Q v H' := by
  obtain ⟨S', d, g, e', k', hd, q⟩ := h
  exact ⟨S', d, g, e.trans e', k.trans k', hd, q⟩
theorem PostB.ahead {Q : PyData → Prop} {H' : Hp} (e : Same S S1) (k : Kq F H S H1 S1) (h : PostB K F Γ σ H1 S1 Q v H') : PostB K F Γ σ H S Q v H' := by
  obtain ⟨S', d, g, e', k', hd, q⟩ := h
  exact ⟨S', d, g, e.trans e', k.trans k', hd, q⟩
theorem PostT.ahead {Q : Bool → Prop} {b : Bool} {H' : Hp} (e : Same S S1) (k : Kq F H S H1 S1) (h : PostT K F Γ σ H1 S1 Q b H') : PostT K F Γ σ H S Q b H' := by
  obtain ⟨S', g, e', k', q⟩ := h
  exact ⟨S', g, e.trans e', k.trans k', q⟩
theorem PostL.ahead {Q : List PyData → Prop} {vs : List V} {H' : Hp} (e : Same S S1) (k : Kq F H S H1 S1) (h : PostL K F Γ σ H1 S1 Q vs H') : PostL K F Γ σ H S Q vs H' := by
  obtain ⟨S', d, g, e', k', hd, q⟩ := h
  exact ⟨S', d, g, e.trans e', k.trans k', hd, q⟩
theorem Db.mono (h : Db K F H S v d) (e : Same S S1) (k : Kq F H S H1 S1) : Db K F H1 S1 v d := by
  rcases h with h | ⟨a, xs, ds, rfl, rfl, h1, h2, h3⟩
  · exact .inl (dp_mono e h)
  · exact .inr ⟨a, xs, ds, rfl, rfl, k.kp a _ h1 h2 (.inr nt_lst), h2, dpa_mono e h3⟩
theorem Db.dp (ex : Same S H) (h : Db K F H S v d) : Dp K H v d := by
  rcases h with h | ⟨a, xs, ds, rfl, rfl, h1, h2, h3⟩
  · exact dp_mono ex h
  · exact .lst (.inl (.inl h1)) (dpa_mono ex h3)
/-- a list's, a tuple's items -/
theorem Db.l {ds : List PyData} (ex : Same S H) (h : Db K F H S v (.list ds)) : ∃ a xs, v = .ref a ∧ SqL K H a xs ∧ DpAll K S xs ds := by
  rcases h with h | ⟨a, xs, es, rfl, e, h1, h2, h3⟩
  · cases h with | lst h1 h2 => exact ⟨_, _, rfl, same_l ex h1, h2⟩
  · cases e; exact ⟨a, xs, rfl, .inl (.inl h1), h3⟩
theorem Db.t {ds : List PyData} (ex : Same S H) (h : Db K F H S v (.tuple ds)) : ∃ a xs, v = .ref a ∧ SqT K H a xs ∧ DpAll K S xs ds := by
  rcases h with h | ⟨a, xs, es, _, e, _⟩
  · cases h with | tup h1 h2 => exact ⟨_, _, rfl, same_t ex h1, h2⟩
  · cases e
theorem Db.int {i : Int} (h : Db K F H S v (.int i)) : v = .int i := by
  rcases h with h | ⟨a, xs, es, _, e, _⟩
  · cases h; rfl
  · cases e
theorem Db.str {i : Str} (h : Db K F H S v (.str i)) : v = .str i := by
  rcases h with h | ⟨a, xs, es, _, e, _⟩
  · cases h; rfl
  · cases e
theorem Db.bl {i : Bool} (h : Db K F H S v (.bool i)) : v = .bl i := by
  rcases h with h | ⟨a, xs, es, _, e, _⟩
  · cases h; rfl
  · cases e
theorem Db.non (h : Db K F H S v .none) : v = .non := by
  rcases h with h | ⟨a, xs, es, _, e, _⟩
  · cases h; rfl
  · cases e
end
section
variable {G : Gd} {M : Nm} {F : Fx} {Γ : List Bd} {Q : PyData → Prop} {pos : Pos} {a b c e : Expr}
theorem wb_of (h : WE G M F e Γ Q) : WB G M F e Γ Q := ⟨fun X gd σ H S hl g => (h.run X gd σ H S hl g).mono fun v H' ⟨S', d, g', e', k, hd, q⟩ => ⟨S', d, g', e', k, .inl hd, q⟩⟩
theorem we_mono {Q' : PyData → Prop} (h : WE G M F e Γ Q) (k : ∀ d, Q d → Q' d) : WE G M F e Γ Q' := ⟨fun X gd σ H S hl g => (h.run X gd σ H S hl g).mono fun v H' ⟨S', d, g', e', k', hd, q⟩ => ⟨S', d, g', e', k', hd, k d q⟩⟩
theorem wt_mono {Q Q' : Bool → Prop} (h : WT G M F e Γ Q) (k : ∀ d, Q d → Q' d) : WT G M F e Γ Q' := ⟨fun X gd σ H S hl g => (h.run X gd σ H S hl g).mono fun v H' ⟨S', g', e', k', q⟩ => ⟨S', g', e', k', k v q⟩⟩
/-- a def's call of values: what stands behind (a fresh thing that stays) -/
theorem PostE.here {K : PySem.W.Frag} {σ : St} {H S : Hp} {v : V} {d : PyData} (g : GRel K F Γ σ H S) (h : Dp K S v d) (q : Q d) : PostE K F Γ σ H S Q v H := ⟨S, d, g, Same.refl S, Kq.refl H S, h, q⟩
theorem PostE.newL {K : PySem.W.Frag} {σ : St} {H S : Hp} {p : Addr} {xs : List V} {ds : List PyData} (g : GRel K F Γ σ H S) (hp : H p = none) (h : DpAll K S xs ds) (q : Q (.list ds)) : PostE K F Γ σ H S Q (.ref p) (upd H p (.lst xs)) :=
  ⟨_, _, g.new _ hp trivial, same_new (g.sNone hp), Kq.new hp, .lst (.inl (.inl upd_same)) (dpa_mono (same_new (g.sNone hp)) h), q⟩
theorem PostE.newT {K : PySem.W.Frag} {σ : St} {H S : Hp} {p : Addr} {xs : List V} {ds : List PyData} {o : HO} (g : GRel K F Γ σ H S) (hp : H p = none) (to : TupAs xs o) (h : DpAll K S xs ds) (q : Q (.tuple ds)) : PostE K F Γ σ H S Q (.ref p) (upd H p o) :=
  ⟨_, _, g.new _ hp to.tok, same_new (g.sNone hp), Kq.new hp, .tup (.inl to.rd) (dpa_mono (same_new (g.sNone hp)) h), q⟩
theorem we_var (i : Nat) {x : Str} {d : PyData} (hn : Rdb M i x) (hg : Γ[i]? = some (Bd.im d)) (h : Q d) : WE G M F (.Name x pos) Γ Q := by
  refine ⟨fun X gd σ H S hl g => ?_⟩
  obtain ⟨v, h1, h2⟩ := g.loc i d hg
  exact tW.of (pe_var (gd.at hn.1) (gd.vis hn) hn.2.2.1 hn.2.2.2) ⟨v, h1, PostE.here g h2 h⟩
theorem wb_mu (i : Nat) {x : Str} {ds : List PyData} (hn : Rdb M i x) (hg : Γ[i]? = some (Bd.mu ds)) (h : Q (.list ds)) : WB G M F (.Name x pos) Γ Q := by
  refine ⟨fun X gd σ H S hl g => ?_⟩
  obtain ⟨p, xs, h1, h2, h3, h4, h5⟩ := g.own i ds hg
  refine tW.of (pe_var (gd.at hn.1) (gd.vis hn) hn.2.2.1 hn.2.2.2) ⟨.ref p, h1, S, _, g, Same.refl S, Kq.refl H S, .inr ⟨p, xs, ds, rfl, rfl, h2, fun e => ?_, h5⟩, h⟩
  obtain ⟨_, ⟨o, q⟩, _⟩ := g.bag p e
  rw [h4] at q; cases q
theorem we_int {i : Int} {j : Nat} (h : Q (.int i)) : WE G M F (.Constant (.int i) j pos) Γ Q := ⟨fun X gd σ H S hl g => tW.of pe_int (PostE.here g (.int i) h)⟩
theorem we_bool {i : Bool} {j : Nat} (h : Q (.bool i)) : WE G M F (.Constant (.bool i) j pos) Γ Q := ⟨fun X gd σ H S hl g => tW.of pe_bl (PostE.here g (.bl i) h)⟩
theorem we_none {j : Nat} (h : Q .none) : WE G M F (.Constant .none j pos) Γ Q := ⟨fun X gd σ H S hl g => tW.of pe_non (PostE.here g .non h)⟩
theorem we_str {i : Str} {j : Nat} (h : Q (.str i)) : WE G M F (.Constant (.str i) j pos) Γ Q := ⟨fun X gd σ H S hl g => tW.of pe_str (PostE.here g (.str i) h)⟩
theorem two {R : PyData → PyData → Prop} (h : WB G M F a Γ fun d => WB G M F b Γ fun e => R d e) {X : Cx} (gd : Good G M X) {σ : St} {H S : Hp} (hl : σ.length = M.N.length) (g : GRel G.K F Γ σ H S) {T : V → V → Hp → Prop}
    (k : ∀ x y H2 S2 d e, GRel G.K F Γ σ H2 S2 → Same S S2 → Kq F H S H2 S2 → Db G.K F H2 S2 x d → Db G.K F H2 S2 y e → R d e → T x y H2) : tW X a σ H fun x H1 => tW X b σ H1 fun y H2 => T x y H2 :=
  (h.run X gd σ H S hl g).mono fun x H1 ⟨S1, d, g1, e1, k1, hd, q⟩ => (q.run X gd σ H1 S1 hl g1).mono fun y H2 ⟨S2, e, g2, e2, k2, he, r⟩ =>
    k x y H2 S2 d e g2 (e1.trans e2) (k1.trans k2) (hd.mono e2 k2) he r
theorem OpR.or {X : Cx} {f : Value → Value → Sem Value} {r r' : R2} (h : OpR X f r) (h' : OpR X f r') : OpR X f fun x y H Q => r x y H Q ∨ r' x y H Q := by
  intro pins s σ H x y v u Q I rx ry q
  rcases q with q | q
  · exact h pins s σ H x y v u Q I rx ry q
  · exact h' pins s σ H x y v u Q I rx ry q
/-- list + list -/
def rCatS (K : PySem.W.Frag) : R2 := fun x y H Q => ∃ l b xs zs, x = .ref l ∧ y = .ref b ∧ SqL K H l xs ∧ SqL K H b zs ∧ xs.length + zs.length ≤ sizeLine ∧ ∀ p, H p = none → Q (.ref p) (upd H p (.lst (xs ++ zs)))
theorem op_catS {X : Cx} : OpR X (binaryOp .Add) (rCatS X.K) := by
  intro pins s σ H x y v u Q I rx ry h
  obtain ⟨l, b, xs, zs, rfl, rfl, hH, hB, hz, q⟩ := h
  cases rx
  cases ry
  obtain ⟨i1, r1, p1, _⟩ := I.list hH
  obtain ⟨i2, r2, p2, _⟩ := I.list hB
  obtain ⟨⟨c1, d1, t1, s1⟩, e1, ec1, n1, et1⟩ := p1.isList
  obtain ⟨⟨c2, d2, t2, s2⟩, e2, ec2, n2, et2⟩ := p2.isList
  simp only at ec1 et1 ec2 et2
  subst ec1 et1 ec2 et2
  have l1 := r1.length
  have l2 := r2.length
  have es : i1.toArray ++ i2.toArray = (i1 ++ i2).toArray := by simp
  refine concat_meets ⟨_, e1, rfl⟩ ⟨_, e2, rfl⟩ noFill_list_add seq_list_add PySem.F.slot_list_add PySem.F.entry_list_add (PySem.F.args_list_add_2 _ _) (PyProof.Rows.list_addW l b i1.toArray i2.toArray n1 n2 d1 d2 s1 s2 (by simp; omega)) ⟨e1, e2, ?_⟩
  rw [es]
  refine ⟨.ref s.heap.objs.size, _, I.laid (t' := s.toks) (o := .lst (xs ++ zs)) (fun b o e => Heap.get?_push_of_some _ e) (Nat.le_refl _) ?_, rfl, q _ (I.hok.fresh (Nat.le_refl _))⟩
  exact ⟨by rw [List.length_append]; exact hz, i1 ++ i2, 0, r1.append r2, Heap.get?_push_size _ rfl⟩
end
end DW
namespace DW
open PySem PySem.Spec L2
open PyProof.Rows hiding St
section
variable {X : Cx}
theorem laidZ {pins : List (Addr × Obj)} {σ : St} {H : Hp} {s : Shared} {xs : List V} {its : List Value} (I : Inv X pins σ H s) (r : Vals xs its) (z : xs.length ≤ sizeLine) {Q : VK} (q : ∀ p o, H p = none → TupAs xs o → Q (.ref p) (upd H p o)) :
    EP X pins σ Q (.ref s.heap.objs.size) { s with heap := s.heap.push { cls := .type "tuple", data := .seq its.toArray } } := by
  obtain ⟨o, h1, h2⟩ := laidT (t' := s.toks) I (fun b u e => Heap.get?_push_of_some _ e) (Nat.le_refl _) (Heap.get?_push_size s.heap (o := { cls := .type "tuple", data := .seq its.toArray }) rfl) rfl rfl rfl r z
  exact ⟨.ref s.heap.objs.size, _, h2, rfl, q _ o (I.hok.fresh (Nat.le_refl _)) h1⟩
def tTupZ (t : TA) : TE := fun σ H Q => t σ H fun xs H1 => xs.length ≤ sizeLine ∧ ∀ p o, H1 p = none → TupAs xs o → Q (.ref p) (upd H1 p o)
theorem pe_tupZ {x1} {es : List Expr} {t : TA} {pos : Pos} (h : PA X es t) : PE X (.Tuple es x1 pos) (tTupZ t) :=
  ⟨fun pins s σ H Q I hq => wpAny_Tuple_spliced (thn (h.run pos pins s σ H _ I hq) fun us s1 ⟨xs, H1, I1, r, z, q⟩ => ⟨by rw [← r.length]; exact z, laidZ I1 r z q⟩)⟩
def rCatZ (K : PySem.W.Frag) : R2 := fun x y H Q => ∃ a b xs ys, x = .ref a ∧ y = .ref b ∧ SqT K H a xs ∧ SqT K H b ys ∧ xs.length + ys.length ≤ sizeLine ∧
  (xs = [] → Q (.ref b) H) ∧ (xs ≠ [] → ys = [] → Q (.ref a) H) ∧ ∀ p o, H p = none → TupAs (xs ++ ys) o → Q (.ref p) (upd H p o)
theorem op_catZ : OpR X (binaryOp .Add) (rCatZ X.K) := by
  intro pins s σ H x y v u Q I rx ry ⟨a, b, xs, ys, ex, ey, ha, hb, hz, q0, q1, q2⟩
  subst ex ey
  cases rx; cases ry
  obtain ⟨i1, r1, p1, _⟩ := I.tuple ha
  obtain ⟨i2, r2, p2, _⟩ := I.tuple hb
  by_cases hx : xs = []
  · subst hx
    cases r1
    exact cat_tup0 p1 p2 ⟨.ref b, H, I, rfl, q0 rfl⟩
  · refine HT.cat_tup p1 p2 (fun z => hx (r1.nil_iff.mp z)) (fun z => ⟨.ref a, H, I, rfl, q1 hx (r2.nil_iff.mp z)⟩) (fun z => ?_) (by rw [← r1.length, ← r2.length]; exact hz)
    exact laidZ I (r1.append r2) (by rw [List.length_append]; exact hz) q2
def rSlZ (K : PySem.W.Frag) : V → Option Int → Option Int → Hp → VK → Prop := fun x lo hi H Q => ∃ a xs, x = .ref a ∧ SqT K H a xs ∧
  (HT.sIx xs.length 0 lo = 0 ∧ HT.sIx xs.length xs.length hi = xs.length → Q (.ref a) H) ∧ ∀ p o, H p = none → TupAs (cutV xs lo hi) o → Q (.ref p) (upd H p o)
theorem sl_tupZ : SlR X (rSlZ X.K) := by
  intro pins s σ H x v vl vu lo hi sl Q I rx hs pl pu ⟨a, xs, ex, hx, q1, q2⟩
  subst ex
  cases rx
  obtain ⟨its, r, ht, hz⟩ := I.tuple hx
  have hlen : its.toArray.size = xs.length := by rw [List.size_toArray]; exact r.length.symm
  refine ⟨"tuple", _, PyProof.Rows.slot_tuple_getitem.lookup, ht.typeIs, ?_⟩
  by_cases hw : HT.sIx xs.length 0 lo = 0 ∧ HT.sIx xs.length xs.length hi = xs.length
  · exact getItem_tuple_whole ht hs pl pu (by rw [hlen]; exact hw) ⟨.ref a, H, I, rfl, q1 hw⟩
  · refine HT.getItem_tuple_cut ht hs pl pu (by rw [hlen]; exact hw) ?_ (by rw [hlen]; exact hz)
    rw [hlen]
    exact laidZ I ((r.drop _).take _) (Nat.le_trans (cutV_length xs lo hi) hz) q2
theorem call_tupZ : CallR X (.type "tuple") (fun xs H Q => ∃ p ys, xs = [.ref p] ∧ ((SqL X.K H p ys ∧ ∀ l o, H l = none → TupAs ys o → Q (.ref l) (upd H l o)) ∨ (SqT X.K H p ys ∧ Q (.ref p) H))) := by
  intro pins s σ H xs us Q I r ⟨p, ys, exs, h⟩
  subst exs
  obtain ⟨u, rfl, rx⟩ := vals1 r
  cases rx
  rcases h with ⟨hq, q⟩ | ⟨hq, q⟩
  · obtain ⟨its, r', pl, hz⟩ := I.list hq
    have hlen := r'.length
    exact call_tuple_list pl.isList (fun h' kp => laidZ (s := { s with heap := h' }) (I.kept (t' := s.toks) kp) r' hz q) (by simp only [List.size_toArray] <;> omega)
  · obtain ⟨its, r', pl, hz⟩ := I.tuple hq
    exact call_tuple_same pl ⟨.ref p, H, I, rfl, q⟩
def rRepZ (K : PySem.W.Frag) : R2 := fun x y H Q => ∃ l k xs, x = .ref l ∧ y = .int k ∧ SqT K H l xs ∧ xs ≠ [] ∧ 2 ≤ k ∧ k ≤ 1000 ∧ xs.length ≤ 1000 ∧ ∀ p o, H p = none → TupAs (List.replicate k.toNat xs).flatten o → Q (.ref p) (upd H p o)
theorem op_repZ : OpR X (binaryOp .Mult) (rRepZ X.K) := by
  intro pins s σ H x y v u Q I rx ry ⟨l, k, xs, ex, ey, hT, hne, h1, h2, hz, q⟩
  subst ex ey
  cases rx
  obtain ⟨t, rfl⟩ := ry
  obtain ⟨its, r, ⟨⟨cls, dd, data, sl⟩, ho, hc, n, hd⟩, hs⟩ := I.tuple hT
  simp only at hc hd
  subst hc hd
  have hle : its.length = xs.length := r.length.symm
  have hi : its.toArray.isEmpty = false := by
    cases its with
    | nil => exact absurd (List.eq_nil_of_length_eq_zero hle.symm) hne
    | cons a b => rfl
  have hsz0 : its.toArray.size = xs.length := by rw [List.size_toArray, hle]
  have hm : ((its.toArray.size : Nat) : Int) * k ≤ 1000000 := by
    rw [hsz0]
    exact Int.le_trans (Int.mul_le_mul_of_nonneg_right (show ((xs.length : Nat) : Int) ≤ 1000 by omega) (by omega)) (by omega)
  have lenF : ∀ {α : Type} (zs : List α), zs.length ≤ 1000 → (List.replicate k.toNat zs).flatten.length ≤ sizeLine := fun zs hz => by
    rw [PyProof.Rows.lm_len_rep_flat, sizeLine_eq]
    exact Nat.le_trans (Nat.mul_le_mul (show k.toNat ≤ 1000 by omega) hz) (by decide)
  have c0 : (decide (k < -(2 ^ 63)) || decide (k ≥ 2 ^ 63)) = false := by simp; omega
  have c1 : (its.toArray.isEmpty || k == 1) = false := by rw [hi, Bool.false_or]; exact beq_eq_false_iff_ne.mpr (by omega)
  have c2 : (decide (k ≤ 0) || its.toArray.isEmpty) = false := by rw [hi, Bool.or_false]; exact decide_eq_false (by omega)
  have c4 : Builtin.Tuple.tupleTooMany (((its.toArray.size : Nat) : Int) * k) = false := by unfold Builtin.Tuple.tupleTooMany; rw [sizeLine_eq]; exact decide_eq_false (by omega)
  refine wpAny_binaryOp_repeat_ref (T := "tuple") (U := "int") (by decide) ⟨_, ho, rfl⟩ (fun s' => typeIs_int s' k t) noFill_tuple_mul F.fills_int_mul F.slot_int_rmul repeat_tuple F.slot_int_index.lookup
    (call_meets F.slot_int_rmul (typeIs_int s k t) F.entry_int_rmul (F.args_int_rmul_2 _ _) (int_rmul_tuple k t l its.toArray n dd sl)
      ⟨ho, rfl, ⟨_, ho, rfl⟩, call_meets F.slot_tuple_mul ⟨_, ho, rfl⟩ F.entry_tuple_mul (F.args_tuple_mul_2 _ _) (tuple_mulW l its.toArray n dd sl k t c0 c1 c2 (by omega) c4 (by rw [size_rep, List.size_toArray]; exact lenF its (by omega))) ⟨ho, ?_⟩⟩)
  rw [size_rep]
  exact laidZ I (r.rep k.toNat) (lenF xs hz) q
end
section
variable {G : Gd} {M : Nm} {F : Fx} {Γ : List Bd} {Q : PyData → Prop} {pos : Pos} {a b c e : Expr}
theorem we_bin {op : Operator} {r : Hp → R2} (ho : ∀ X, Good G M X → OpR X (binaryOp op) fun x y H Q => r H x y H Q) {R : PyData → PyData → Prop} (h : WB G M F a Γ fun d => WB G M F b Γ fun e => R d e)
    (k : ∀ {σ : St} {H S : Hp} {x y : V} {d e : PyData}, GRel G.K F Γ σ H S → Db G.K F H S x d → Db G.K F H S y e → R d e → ∀ Q' : VK, (∀ v H', PostE G.K F Γ σ H S Q v H' → Q' v H') → r H x y H Q') : WE G M F (.BinOp a op b pos) Γ Q := by
  refine ⟨fun X gd σ H S hl g => ?_⟩
  refine tW.of (pe_op (ho X gd) (pe_w a) (pe_w b)) ?_
  exact two h gd hl g fun x y H2 S2 d e g2 e2 k2 hd he r' => k g2 hd he r' _ fun v H' p => p.ahead e2 k2
def lim : Nat := sizeLine
theorem lim_eq : lim = 16777216 := sizeLine_eq
def AddD : PyData → PyData → (PyData → Prop) → Prop
  | .int i, .int j, Q => Q (.int (i + j))
  | .str x, .str y, Q => x.length + y.length ≤ lim ∧ Q (.str (x ++ y))
  | .list xs, .list ys, Q => xs.length + ys.length ≤ lim ∧ Q (.list (xs ++ ys))
  | .tuple xs, .tuple ys, Q => xs.length + ys.length ≤ lim ∧ Q (.tuple (xs ++ ys))
  | _, _, _ => False
def rAddU (K : PySem.W.Frag) : R2 := fun x y H Q => (rI0 (fun i j => .int (i + j)) x y H Q ∨ (∃ i j, x = .str i ∧ y = .str j ∧ i.length + j.length ≤ sizeLine ∧ Q (.str (i ++ j)) H)) ∨ (rCatS K x y H Q ∨ rCatZ K x y H Q)
theorem we_add (h : WB G M F a Γ fun d => WB G M F b Γ fun e => AddD d e Q) : WE G M F (.BinOp a .Add b pos) Γ Q := by
  refine we_bin (r := fun _ => rAddU G.K) (fun X gd => by rw [← gd.K]; exact (op_add.or op_add_str).or (op_catS.or op_catZ)) h ?_
  intro σ H S x y d e g hd he r Q' k
  cases d with
  | int i =>
    cases e <;> try exact r.elim
    rw [hd.int, he.int]
    exact .inl (.inl ⟨_, _, rfl, rfl, k _ _ (PostE.here g (.int _) r)⟩)
  | str i =>
    cases e <;> try exact r.elim
    rw [hd.str, he.str]
    exact .inl (.inr ⟨_, _, rfl, rfl, r.1, k _ _ (PostE.here g (.str _) r.2)⟩)
  | list xs =>
    cases e <;> try exact r.elim
    obtain ⟨p, us, rfl, s1, d1⟩ := hd.l g.ex
    obtain ⟨q, ws, rfl, s2, d2⟩ := he.l g.ex
    exact .inr (.inl ⟨p, q, us, ws, rfl, rfl, s1, s2, by rw [d1.len, d2.len]; exact r.1, fun t ht => k _ _ (PostE.newL g ht (d1.app d2) r.2)⟩)
  | tuple xs =>
    cases e <;> try exact r.elim
    obtain ⟨p, us, rfl, s1, d1⟩ := hd.t g.ex
    obtain ⟨q, ws, rfl, s2, d2⟩ := he.t g.ex
    have dp : ∀ {t : Addr} {zs : List V} {ds : List PyData}, Db G.K F H S (.ref t) (.tuple ds) → Dp G.K S (.ref t) (.tuple ds) := fun {t zs ds} h => by
      rcases h with h | ⟨_, _, _, _, z, _⟩
      · exact h
      · cases z
    refine .inr (.inr ⟨p, q, us, ws, rfl, rfl, s1, s2, by rw [d1.len, d2.len]; exact r.1, fun z => k _ _ ?_, fun _ z => k _ _ ?_, fun t o ht to => k _ _ (PostE.newT g ht to (d1.app d2) r.2)⟩)
    · subst z
      cases d1
      exact PostE.here g (dp (zs := []) he) (by have := r.2; rwa [List.nil_append] at this)
    · subst z
      cases d2
      exact PostE.here g (dp (zs := []) hd) (by have := r.2; rwa [List.append_nil] at this)
  | _ => exact r.elim
def SubD : PyData → PyData → (PyData → Prop) → Prop
  | .int i, .int j, Q => Q (.int (i - j))
  | _, _, _ => False
theorem we_sub (h : WB G M F a Γ fun d => WB G M F b Γ fun e => SubD d e Q) : WE G M F (.BinOp a .Sub b pos) Γ Q := by
  refine we_bin (r := fun _ => rI0 (fun i j => .int (i - j))) (fun X gd => op_sub) h ?_
  intro σ H S x y d e g hd he r Q' k
  cases d <;> try exact r.elim
  cases e <;> try exact r.elim
  rw [hd.int, he.int]
  exact ⟨_, _, rfl, rfl, k _ _ (PostE.here g (.int _) r)⟩
def big : Nat := 400000
def Big : Nat := 2 ^ big
def MulOk (i j : Int) : Prop := (-(2 ^ 64) < i ∧ i < 2 ^ 64) ∨ (-(2 ^ 64) < j ∧ j < 2 ^ 64) ∨ (i.natAbs < Big ∧ j.natAbs < Big)
theorem MulOk.ok {i j : Int} (h : MulOk i j) : IntMulOk i j := by
  rcases h with h | h | ⟨h1, h2⟩
  · exact CMul.ok (.inl h)
  · exact CMul.ok (.inr h)
  · exact CMulW.ok (wide_mul (a := big) (b := big) h1 h2 (by decide) (by decide) (by decide))
theorem tupleMulOne (l : Addr) (items : Array Value) (n : Nat) (sl : Array (Option Value)) (dd : Option Addr) (u : Tok) :
    Meets (Builtin.«tuple.__mul__» ⟨[.ref l, .int 1 u], []⟩) (fun _ R s => s.heap.get? l = some { cls := .type "tuple", dict := dd, data := .seq items n, slots := sl } ∧ R (.ok (.ret (Value.ref l))) s) :=
  .of_wp fun prog w A R s h => by
    obtain ⟨hp, g, d, tk, os⟩ := s
    obtain ⟨hl, h⟩ := h
    have f1 := AutoSeq1.idx_int
    wp_walk using wpAny_loadPart' hl
    repeat (first
      | (refine wpAny_ite_false (decide_eq_false (by decide)) ?_; wp_walk using wpAny_loadPart' hl)
      | (refine wpAny_ite_true (decide_eq_true (by simp)) ?_; wp_walk using wpAny_loadPart' hl))
    exact ⟨_, rfl, h⟩
def rRepOne (K : PySem.W.Frag) : R2 := fun x y H Q => ∃ l xs, x = .ref l ∧ y = .int 1 ∧ SqT K H l xs ∧ Q (.ref l) H
theorem op_repOne {X : Cx} : OpR X (binaryOp .Mult) (rRepOne X.K) := by
  intro pins s σ H x y v u Q I rx ry h
  obtain ⟨l, xs, rfl, rfl, hT, q⟩ := h
  cases rx
  obtain ⟨t, rfl⟩ := ry
  obtain ⟨its, r, ⟨⟨cls, dd, data, sl⟩, ho, hc, n, hd⟩, hs⟩ := I.tuple hT
  simp only at hc hd
  subst hc hd
  refine wpAny_binaryOp_repeat_ref (T := "tuple") (U := "int") (by decide) ⟨_, ho, rfl⟩ (fun s' => typeIs_int s' 1 t) noFill_tuple_mul F.fills_int_mul F.slot_int_rmul repeat_tuple F.slot_int_index.lookup
    (call_meets F.slot_int_rmul (typeIs_int s 1 t) F.entry_int_rmul (F.args_int_rmul_2 _ _) (int_rmul_tuple 1 t l its.toArray n dd sl)
      ⟨ho, rfl, ⟨_, ho, rfl⟩, call_meets F.slot_tuple_mul ⟨_, ho, rfl⟩ F.entry_tuple_mul (F.args_tuple_mul_2 _ _) (tupleMulOne l its.toArray n sl dd t) ⟨ho, ?_⟩⟩)
  exact ⟨.ref l, _, I, rfl, q⟩
def MulD : PyData → PyData → (PyData → Prop) → Prop
  | .int i, .int j, Q => MulOk i j ∧ Q (.int (i * j))
  | .tuple xs, .int k, Q => xs ≠ [] ∧ 1 ≤ k ∧ k ≤ 1000 ∧ xs.length ≤ 1000 ∧ Q (.tuple (List.replicate k.toNat xs).flatten)
  | _, _, _ => False
theorem op_mulA {X : Cx} : OpR X (binaryOp .Mult) (rI MulOk fun i j => .int (i * j)) := opI fun _ _ _ _ _ _ _ hc q => mul_int q hc.ok
theorem DpAll.rep {K : PySem.W.Frag} {S : Hp} {vs : List V} {ds : List PyData} (h : DpAll K S vs ds) : ∀ n : Nat, DpAll K S (List.replicate n vs).flatten (List.replicate n ds).flatten
  | 0 => .nil
  | n + 1 => by
    rw [List.replicate_succ, List.replicate_succ, List.flatten_cons, List.flatten_cons]
    exact h.app (DpAll.rep h n)
theorem we_mul (h : WB G M F a Γ fun d => WB G M F b Γ fun e => MulD d e Q) : WE G M F (.BinOp a .Mult b pos) Γ Q := by
  refine we_bin (r := fun _ x y H Q => rI MulOk (fun i j => .int (i * j)) x y H Q ∨ (rRepZ G.K x y H Q ∨ rRepOne G.K x y H Q)) (fun X gd => by rw [← gd.K]; exact op_mulA.or (op_repZ.or op_repOne)) h ?_
  intro σ H S x y d e g hd he r Q' k
  cases d <;> try exact r.elim
  · cases e <;> try exact r.elim
    rw [hd.int, he.int]
    exact .inl ⟨_, _, rfl, rfl, r.1, k _ _ (PostE.here g (.int _) r.2)⟩
  · cases e <;> try exact r.elim
    obtain ⟨r1, r2, r3, r4, r5⟩ := r
    obtain ⟨p, us, rfl, s1, d1⟩ := hd.t g.ex
    rw [he.int]
    rename_i kk
    by_cases h1 : kk = 1
    · subst h1
      refine .inr (.inr ⟨p, us, rfl, rfl, s1, k _ _ (PostE.here g ?_ r5)⟩)
      rcases hd with hd | ⟨_, _, _, _, z, _⟩
      · simpa using hd
      · cases z
    refine .inr <| .inl ⟨p, _, us, rfl, rfl, s1, fun z => r1 ?_, by omega, r3, by rw [d1.len]; exact r4, fun t o ht to => k _ _ (PostE.newT g ht to (DpAll.rep d1 _) r5)⟩
    subst z
    cases d1
    rfl
/-- //: a small divisor that is not 0, or one above 0 and below 2^9000 -/
def DivOk (j : Int) : Prop := j ≠ 0 ∧ j.natAbs.log2 < 9000
/-- .. or any other by which the quotient is not too long -/
def DivQ (i j : Int) : Prop := DivOk j ∨ (j ≠ 0 ∧ Builtin.divisionGoesByPylong i j = false)
theorem op_fdivA {X : Cx} : OpR X (binaryOp .FloorDiv) (rI DivQ fun i j => .int (i.fdiv j)) := opI fun _ _ _ _ _ _ _ hc q => hc.elim (fun hc => floordiv_int hc.1 q (.inl (PyProof.noPylong_of_log2 hc.2))) fun hc => floordiv_int hc.1 q (.inl hc.2)
def FDivD : PyData → PyData → (PyData → Prop) → Prop
  | .int i, .int j, Q => DivQ i j ∧ Q (.int (i.fdiv j))
  | _, _, _ => False
theorem we_fdiv (h : WB G M F a Γ fun d => WB G M F b Γ fun e => FDivD d e Q) : WE G M F (.BinOp a .FloorDiv b pos) Γ Q := by
  refine we_bin (r := fun _ => rI DivQ fun i j => .int (i.fdiv j)) (fun X gd => op_fdivA) h ?_
  intro σ H S x y d e g hd he r Q' k
  cases d <;> try exact r.elim
  cases e <;> try exact r.elim
  rw [hd.int, he.int]
  exact ⟨_, _, rfl, rfl, r.1, k _ _ (PostE.here g (.int _) r.2)⟩
def ModD : PyData → PyData → (PyData → Prop) → Prop
  | .int i, .int j, Q => 0 < j ∧ Q (.int (i % j))
  | _, _, _ => False
theorem we_mod (h : WB G M F a Γ fun d => WB G M F b Γ fun e => ModD d e Q) : WE G M F (.BinOp a .Mod b pos) Γ Q := by
  refine we_bin (r := fun _ => rI (fun _ j => 0 < j) fun i j => .int (i % j)) (fun X gd => op_mod) h ?_
  intro σ H S x y d e g hd he r Q' k
  cases d <;> try exact r.elim
  cases e <;> try exact r.elim
  rw [hd.int, he.int]
  exact ⟨_, _, rfl, rfl, r.1, k _ _ (PostE.here g (.int _) r.2)⟩
def PowD : PyData → PyData → (PyData → Prop) → Prop
  | .int i, .int j, Q => (0 ≤ j ∧ j ≤ 1000000 ∧ i.natAbs < 2 ^ 64) ∧ Q (.int (i ^ j.toNat))
  | _, _, _ => False
theorem we_pow (h : WB G M F a Γ fun d => WB G M F b Γ fun e => PowD d e Q) : WE G M F (.BinOp a .Pow b pos) Γ Q := by
  refine we_bin (r := fun _ => rI CPow fun i j => .int (i ^ j.toNat)) (fun X gd => op_pow) h ?_
  intro σ H S x y d e g hd he r Q' k
  cases d <;> try exact r.elim
  cases e <;> try exact r.elim
  rw [hd.int, he.int]
  exact ⟨_, _, rfl, rfl, r.1, k _ _ (PostE.here g (.int _) r.2)⟩
def NegD : PyData → (PyData → Prop) → Prop
  | .int i, Q => Q (.int (-i))
  | _, _ => False
theorem we_neg (h : WB G M F a Γ fun d => NegD d Q) : WE G M F (.UnaryOp .USub a pos) Γ Q := by
  refine ⟨fun X gd σ H S hl g => tW.of (pe_un un_neg (pe_w a)) ((h.run X gd σ H S hl g).mono fun x H1 ⟨S1, d, g1, e1, k1, hd, q⟩ => ?_)⟩
  cases d <;> try exact q.elim
  rw [hd.int]
  exact ⟨_, rfl, (PostE.here g1 (.int _) q).ahead e1 k1⟩
/-- by values, as a value and as a test -/
theorem we_cmp {op : CmpOp} {r : R2} (ho : ∀ X, Good G M X → OpR X (compareOp op) r) {R : PyData → PyData → Prop} {Qb : Bool → Prop} (h : WB G M F a Γ fun d => WB G M F b Γ fun e => R d e)
    (k : ∀ {σ : St} {H S : Hp} {x y : V} {d e : PyData}, GRel G.K F Γ σ H S → Db G.K F H S x d → Db G.K F H S y e → R d e → ∀ Q' : VK, (∀ c, Qb c → Q' (.bl c) H) → r x y H Q') (hm : behindInMarks op b = false) (hq : ∀ c, Qb c → Q (.bool c)) : WE G M F (.Compare a [op] [b] pos) Γ Q := by
  refine ⟨fun X gd σ H S hl g => tW.of (pe_cmpR (ho X gd) (pe_w a) (pe_w b) hm) ?_⟩
  exact two h gd hl g fun x y H2 S2 d e g2 e2 k2 hd he r' => k g2 hd he r' _ fun c p => (PostE.here g2 (.bl c) (hq c p)).ahead e2 k2
theorem wt_cmp {op : CmpOp} {r : R2} (ho : ∀ X, Good G M X → OpR X (compareOp op) r) {R : PyData → PyData → Prop} {Qb : Bool → Prop} (h : WB G M F a Γ fun d => WB G M F b Γ fun e => R d e)
    (k : ∀ {σ : St} {H S : Hp} {x y : V} {d e : PyData}, GRel G.K F Γ σ H S → Db G.K F H S x d → Db G.K F H S y e → R d e → ∀ Q' : VK, (∀ c, Qb c → Q' (.bl c) H) → r x y H Q') (hm : behindInMarks op b = false) : WT G M F (.Compare a [op] [b] pos) Γ Qb := by
  refine ⟨fun X gd σ H S hl g => tWt.of (pt_cmpR (ho X gd) (pe_w a) (pe_w b) hm) ?_⟩
  exact two h gd hl g fun x y H2 S2 d e g2 e2 k2 hd he r' => k g2 hd he r' _ fun c p => ⟨c, rfl, PostT.ahead e2 k2 ⟨S2, g2, Same.refl S2, Kq.refl H2 S2, p⟩⟩
def LtD : PyData → PyData → (Bool → Prop) → Prop
  | .int i, .int j, Q => Q (decide (i < j))
  | _, _, _ => False
def LeD : PyData → PyData → (Bool → Prop) → Prop
  | .int i, .int j, Q => Q (decide (i ≤ j))
  | _, _, _ => False
theorem k_lt {H S : Hp} {x y : V} {d e : PyData} {Qb : Bool → Prop} (hd : Db G.K F H S x d) (he : Db G.K F H S y e) (r : LtD d e Qb) (Q' : VK) (k : ∀ c, Qb c → Q' (.bl c) H) : rI0 (fun i j => .bl (decide (i < j))) x y H Q' := by
  cases d <;> try exact r.elim
  cases e <;> try exact r.elim
  rw [hd.int, he.int]
  exact ⟨_, _, rfl, rfl, k _ r⟩
theorem k_le {H S : Hp} {x y : V} {d e : PyData} {Qb : Bool → Prop} (hd : Db G.K F H S x d) (he : Db G.K F H S y e) (r : LeD d e Qb) (Q' : VK) (k : ∀ c, Qb c → Q' (.bl c) H) : rI0 (fun i j => .bl (decide (i ≤ j))) x y H Q' := by
  cases d <;> try exact r.elim
  cases e <;> try exact r.elim
  rw [hd.int, he.int]
  exact ⟨_, _, rfl, rfl, k _ r⟩
theorem k_gt {H S : Hp} {x y : V} {d e : PyData} {Qb : Bool → Prop} (hd : Db G.K F H S x d) (he : Db G.K F H S y e) (r : LtD e d Qb) (Q' : VK) (k : ∀ c, Qb c → Q' (.bl c) H) : rI0 (fun i j => .bl (decide (j < i))) x y H Q' := by
  cases e <;> try exact r.elim
  cases d <;> try exact r.elim
  rw [hd.int, he.int]
  exact ⟨_, _, rfl, rfl, k _ r⟩
theorem k_ge {H S : Hp} {x y : V} {d e : PyData} {Qb : Bool → Prop} (hd : Db G.K F H S x d) (he : Db G.K F H S y e) (r : LeD e d Qb) (Q' : VK) (k : ∀ c, Qb c → Q' (.bl c) H) : rI0 (fun i j => .bl (decide (j ≤ i))) x y H Q' := by
  cases e <;> try exact r.elim
  cases d <;> try exact r.elim
  rw [hd.int, he.int]
  exact ⟨_, _, rfl, rfl, k _ r⟩
variable {Qb : Bool → Prop}
theorem we_lt (h : WB G M F a Γ fun d => WB G M F b Γ fun e => LtD d e fun c => Q (.bool c)) : WE G M F (.Compare a [.Lt] [b] pos) Γ Q := we_cmp (fun X gd => op_lt) h (fun _ hd he r => k_lt hd he r) (nomark _) fun _ q => q
theorem wt_lt (h : WB G M F a Γ fun d => WB G M F b Γ fun e => LtD d e Qb) : WT G M F (.Compare a [.Lt] [b] pos) Γ Qb := wt_cmp (fun X gd => op_lt) h (fun _ hd he r => k_lt hd he r) (nomark _)
theorem we_le (h : WB G M F a Γ fun d => WB G M F b Γ fun e => LeD d e fun c => Q (.bool c)) : WE G M F (.Compare a [.LtE] [b] pos) Γ Q := we_cmp (fun X gd => op_le) h (fun _ hd he r => k_le hd he r) (nomark _) fun _ q => q
theorem wt_le (h : WB G M F a Γ fun d => WB G M F b Γ fun e => LeD d e Qb) : WT G M F (.Compare a [.LtE] [b] pos) Γ Qb := wt_cmp (fun X gd => op_le) h (fun _ hd he r => k_le hd he r) (nomark _)
theorem we_gt (h : WB G M F a Γ fun d => WB G M F b Γ fun e => LtD e d fun c => Q (.bool c)) : WE G M F (.Compare a [.Gt] [b] pos) Γ Q := we_cmp (fun X gd => op_gt) h (fun _ hd he r => k_gt hd he r) (nomark _) fun _ q => q
theorem wt_gt (h : WB G M F a Γ fun d => WB G M F b Γ fun e => LtD e d Qb) : WT G M F (.Compare a [.Gt] [b] pos) Γ Qb := wt_cmp (fun X gd => op_gt) h (fun _ hd he r => k_gt hd he r) (nomark _)
theorem we_ge (h : WB G M F a Γ fun d => WB G M F b Γ fun e => LeD e d fun c => Q (.bool c)) : WE G M F (.Compare a [.GtE] [b] pos) Γ Q := we_cmp (fun X gd => op_ge) h (fun _ hd he r => k_ge hd he r) (nomark _) fun _ q => q
theorem wt_ge (h : WB G M F a Γ fun d => WB G M F b Γ fun e => LeD e d Qb) : WT G M F (.Compare a [.GtE] [b] pos) Γ Qb := wt_cmp (fun X gd => op_ge) h (fun _ hd he r => k_ge hd he r) (nomark _)
/-- == -/
def EqD : PyData → PyData → (Bool → Prop) → Prop
  | .int i, .int j, Q => Q (decide (i = j))
  | .str i, .str j, Q => Q (decide (i = j))
  | .bool i, .bool j, Q => Q (decide (i = j))
  | d, e, Q => SeqAt.shaped d = true ∧ SeqAt.shaped e = true ∧ Q (PyData.eqv d e)
theorem k_eq {H S : Hp} {x y : V} {d e : PyData} {Qb : Bool → Prop} (ex : Same S H) (hd : Db G.K F H S x d) (he : Db G.K F H S y e) (r : EqD d e Qb) (Q' : VK) (k : ∀ c, Qb c → Q' (.bl c) H) : rEq x y H Q' ∨ rEqD G.K x y H Q' := by
  unfold EqD at r
  split at r
  · rw [hd.int, he.int]
    refine .inl ⟨rfl, k _ ?_⟩
    have : ∀ i j : Int, decide (V.int i = V.int j) = decide (i = j) := fun i j => by rw [decide_eq_decide]; exact ⟨fun z => V.int.inj z, fun z => by rw [z]⟩
    rw [this]; exact r
  · rw [hd.str, he.str]
    refine .inl ⟨rfl, k _ ?_⟩
    have : ∀ i j : Str, decide (V.str i = V.str j) = decide (i = j) := fun i j => by rw [decide_eq_decide]; exact ⟨fun z => V.str.inj z, fun z => by rw [z]⟩
    rw [this]; exact r
  · rw [hd.bl, he.bl]
    refine .inl ⟨rfl, k _ ?_⟩
    have : ∀ i j : Bool, decide (V.bl i = V.bl j) = decide (i = j) := fun i j => by rw [decide_eq_decide]; exact ⟨fun z => V.bl.inj z, fun z => by rw [z]⟩
    rw [this]; exact r
  · exact .inr ⟨_, _, hd.dp ex, he.dp ex, r.1, r.2.1, k _ r.2.2⟩
theorem k_ne {H S : Hp} {x y : V} {d e : PyData} {Qb : Bool → Prop} (ex : Same S H) (hd : Db G.K F H S x d) (he : Db G.K F H S y e) (r : EqD d e fun c => Qb (!c)) (Q' : VK) (k : ∀ c, Qb c → Q' (.bl c) H) : rNe x y H Q' ∨ rNeD G.K x y H Q' := by
  unfold EqD at r
  split at r
  · rw [hd.int, he.int]
    refine .inl ⟨rfl, k _ ?_⟩
    have : ∀ i j : Int, decide (V.int i = V.int j) = decide (i = j) := fun i j => by rw [decide_eq_decide]; exact ⟨fun z => V.int.inj z, fun z => by rw [z]⟩
    rw [this]; exact r
  · rw [hd.str, he.str]
    refine .inl ⟨rfl, k _ ?_⟩
    have : ∀ i j : Str, decide (V.str i = V.str j) = decide (i = j) := fun i j => by rw [decide_eq_decide]; exact ⟨fun z => V.str.inj z, fun z => by rw [z]⟩
    rw [this]; exact r
  · rw [hd.bl, he.bl]
    refine .inl ⟨rfl, k _ ?_⟩
    have : ∀ i j : Bool, decide (V.bl i = V.bl j) = decide (i = j) := fun i j => by rw [decide_eq_decide]; exact ⟨fun z => V.bl.inj z, fun z => by rw [z]⟩
    rw [this]; exact r
  · exact .inr ⟨_, _, hd.dp ex, he.dp ex, r.1, r.2.1, k _ r.2.2⟩
theorem op_eqA {X : Cx} (gd : Good G M X) : OpR X (compareOp .Eq) fun x y H Q => rEq x y H Q ∨ rEqD G.K x y H Q := by
  rw [← gd.K]; exact op_eq.or (op_eqD gd.room.units)
theorem op_neA {X : Cx} (gd : Good G M X) : OpR X (compareOp .NotEq) fun x y H Q => rNe x y H Q ∨ rNeD G.K x y H Q := by
  rw [← gd.K]; exact op_ne.or (op_neD gd.room.units)
theorem we_eq (h : WB G M F a Γ fun d => WB G M F b Γ fun e => EqD d e fun c => Q (.bool c)) : WE G M F (.Compare a [.Eq] [b] pos) Γ Q := we_cmp (fun X gd => op_eqA gd) h (fun g hd he r => k_eq g.ex hd he r) (nomark _) fun _ q => q
theorem wt_eq (h : WB G M F a Γ fun d => WB G M F b Γ fun e => EqD d e Qb) : WT G M F (.Compare a [.Eq] [b] pos) Γ Qb := wt_cmp (fun X gd => op_eqA gd) h (fun g hd he r => k_eq g.ex hd he r) (nomark _)
theorem we_ne (h : WB G M F a Γ fun d => WB G M F b Γ fun e => EqD d e fun c => Q (.bool (!c))) : WE G M F (.Compare a [.NotEq] [b] pos) Γ Q := we_cmp (Qb := fun c => Q (.bool c)) (fun X gd => op_neA gd) h (fun g hd he r => k_ne g.ex hd he r) (nomark _) fun _ q => q
theorem wt_ne (h : WB G M F a Γ fun d => WB G M F b Γ fun e => EqD d e fun c => Qb (!c)) : WT G M F (.Compare a [.NotEq] [b] pos) Γ Qb := wt_cmp (fun X gd => op_neA gd) h (fun g hd he r => k_ne g.ex hd he r) (nomark _)
/-- is None, is not None -/
def isNoneD : PyData → Bool
  | .none => true
  | _ => false
theorem k_isn {H S : Hp} {x y : V} {d e : PyData} {Qb : Bool → Prop} (hd : Db G.K F H S x d) (he : Db G.K F H S y e) (r : e = .none ∧ Qb (isNoneD d)) (Q' : VK) (k : ∀ c, Qb c → Q' (.bl c) H) : y = .non ∧ Q' (.bl (decide (x = .non))) H := by
  obtain ⟨rfl, r⟩ := r
  refine ⟨he.non, ?_⟩
  have : decide (x = .non) = isNoneD d := by
    rcases hd with h | ⟨_, _, _, rfl, rfl, _⟩
    · cases h <;> rfl
    · rfl
  rw [this]; exact k _ r
theorem k_notn {H S : Hp} {x y : V} {d e : PyData} {Qb : Bool → Prop} (hd : Db G.K F H S x d) (he : Db G.K F H S y e) (r : e = .none ∧ Qb (!isNoneD d)) (Q' : VK) (k : ∀ c, Qb c → Q' (.bl c) H) : y = .non ∧ Q' (.bl (!decide (x = .non))) H := by
  obtain ⟨rfl, r⟩ := r
  refine ⟨he.non, ?_⟩
  have : decide (x = .non) = isNoneD d := by
    rcases hd with h | ⟨_, _, _, rfl, rfl, _⟩
    · cases h <;> rfl
    · rfl
  rw [this]; exact k _ r
theorem wt_is (h : WB G M F a Γ fun d => WB G M F b Γ fun e => e = .none ∧ Qb (isNoneD d)) : WT G M F (.Compare a [.Is] [b] pos) Γ Qb := wt_cmp (fun X gd => op_isN) h (fun _ hd he r => k_isn hd he r) (nomark _)
theorem wt_isnot (h : WB G M F a Γ fun d => WB G M F b Γ fun e => e = .none ∧ Qb (!isNoneD d)) : WT G M F (.Compare a [.IsNot] [b] pos) Γ Qb := wt_cmp (fun X gd => op_notN) h (fun _ hd he r => k_notn hd he r) (nomark _)
/-- in, not in -/
def flatD : PyData → Bool
  | .none => true | .bool _ => true | .int _ => true | .str _ => true
  | _ => false
def InD (d : PyData) : PyData → (Bool → Prop) → Prop
  | .list ys, Q => ((flatD d = true ∧ ys.all flatD = true) ∨ (SeqAt.shaped d = true ∧ SeqAt.shaped (.list ys) = true)) ∧ Q (ys.any fun z => PyData.eqv z d)
  | .tuple ys, Q => ((flatD d = true ∧ ys.all flatD = true) ∨ (SeqAt.shaped d = true ∧ SeqAt.shaped (.tuple ys) = true)) ∧ Q (ys.any fun z => PyData.eqv z d)
  | _, _ => False
theorem flat_v {K : PySem.W.Frag} {S : Hp} {v : V} {d : PyData} (h : Dp K S v d) (f : flatD d = true) : flatV v = true := by cases h <;> first | rfl | cases f
theorem flat_vs {K : PySem.W.Frag} {S : Hp} : ∀ {vs : List V} {ds : List PyData}, DpAll K S vs ds → ds.all flatD = true → vs.all flatV = true
  | _, _, .nil, _ => rfl
  | _, _, .cons h t, f => by
    rw [List.all_cons, Bool.and_eq_true] at f ⊢
    exact ⟨flat_v h f.1, flat_vs t f.2⟩
theorem eqv_v {K : PySem.W.Frag} {S : Hp} {v u : V} {d e : PyData} (h : Dp K S v d) (h' : Dp K S u e) (f : flatD d = true) (f' : flatD e = true) : eqV v u = PyData.eqv d e := by
  cases h <;> cases h' <;> first | rfl | cases f | cases f' | simp [eqV, PyData.eqv]
theorem inv_v {K : PySem.W.Frag} {S : Hp} {v : V} {d : PyData} (h : Dp K S v d) (f : flatD d = true) : ∀ {vs : List V} {ds : List PyData}, DpAll K S vs ds → ds.all flatD = true → inV v vs = ds.any fun z => PyData.eqv z d
  | _, _, .nil, _ => rfl
  | _, _, .cons h' t, f' => by
    rw [List.all_cons, Bool.and_eq_true] at f'
    show (List.any (_ :: _) _) = _
    rw [List.any_cons, List.any_cons, eqv_v h' h f'.1 f]
    congr 1
    exact inv_v h f t f'.2
def rInD (K : PySem.W.Frag) : R2 := fun x y H Q => ∃ d ds, Dp K H x d ∧ Dp K H y (.list ds) ∧ SeqAt.shaped d = true ∧ SeqAt.shaped (.list ds) = true ∧ Q (.bl (ds.any fun z => PyData.eqv z d)) H
def rNotInD (K : PySem.W.Frag) : R2 := fun x y H Q => ∃ d ds, Dp K H x d ∧ Dp K H y (.list ds) ∧ SeqAt.shaped d = true ∧ SeqAt.shaped (.list ds) = true ∧ Q (.bl (!ds.any fun z => PyData.eqv z d)) H
theorem op_inD {X : Cx} (hu : X.A.units + 65 < cLine) : OpR X (compareOp .In) (rInD X.K) := fun pins s σ H x y v u Q I rx ry ⟨d, ds, hd, he, sd, se, q⟩ => by
  obtain ⟨_, r1⟩ := Dp.reads I d x v hd rx
  obtain ⟨_, r2⟩ := Dp.reads I (.list ds) y u he ry
  exact SeqAt.in_list_reads r2 r1 (SeqAt.canLay_of_shaped se) (SeqAt.canLay_of_shaped sd) (room_in_shaped sd hu) ⟨.bl _, H, I, rfl, q⟩
theorem op_notInD {X : Cx} (hu : X.A.units + 65 < cLine) : OpR X (compareOp .NotIn) (rNotInD X.K) := fun pins s σ H x y v u Q I rx ry ⟨d, ds, hd, he, sd, se, q⟩ => by
  obtain ⟨_, r1⟩ := Dp.reads I d x v hd rx
  obtain ⟨_, r2⟩ := Dp.reads I (.list ds) y u he ry
  exact SeqAt.notIn_list_reads r2 r1 (SeqAt.canLay_of_shaped se) (SeqAt.canLay_of_shaped sd) (room_in_shaped sd hu) ⟨.bl _, H, I, rfl, q⟩
def rInT (K : PySem.W.Frag) : R2 := fun x y H Q => ∃ d ds, Dp K H x d ∧ Dp K H y (.tuple ds) ∧ SeqAt.shaped d = true ∧ SeqAt.shaped (.tuple ds) = true ∧ Q (.bl (ds.any fun z => PyData.eqv z d)) H
def rNotInT (K : PySem.W.Frag) : R2 := fun x y H Q => ∃ d ds, Dp K H x d ∧ Dp K H y (.tuple ds) ∧ SeqAt.shaped d = true ∧ SeqAt.shaped (.tuple ds) = true ∧ Q (.bl (!ds.any fun z => PyData.eqv z d)) H
theorem op_inT {X : Cx} (hu : X.A.units + 65 < cLine) : OpR X (compareOp .In) (rInT X.K) := fun pins s σ H x y v u Q I rx ry ⟨d, ds, hd, he, sd, se, q⟩ => by
  obtain ⟨_, r1⟩ := Dp.reads I d x v hd rx
  obtain ⟨_, r2⟩ := Dp.reads I (.tuple ds) y u he ry
  exact SeqAt.in_tuple_reads r2 r1 (SeqAt.canLay_of_shaped se) (SeqAt.canLay_of_shaped sd) (room_in_shaped sd hu) ⟨.bl _, H, I, rfl, q⟩
theorem op_notInT {X : Cx} (hu : X.A.units + 65 < cLine) : OpR X (compareOp .NotIn) (rNotInT X.K) := fun pins s σ H x y v u Q I rx ry ⟨d, ds, hd, he, sd, se, q⟩ => by
  obtain ⟨_, r1⟩ := Dp.reads I d x v hd rx
  obtain ⟨_, r2⟩ := Dp.reads I (.tuple ds) y u he ry
  exact SeqAt.notIn_tuple_reads r2 r1 (SeqAt.canLay_of_shaped se) (SeqAt.canLay_of_shaped sd) (room_in_shaped sd hu) ⟨.bl _, H, I, rfl, q⟩
theorem k_in {H S : Hp} {x y : V} {d e : PyData} {Qb : Bool → Prop} (ex : Same S H) (hd : Db G.K F H S x d) (he : Db G.K F H S y e) (r : InD d e Qb) (Q' : VK) (k : ∀ c, Qb c → Q' (.bl c) H) : rIn G.K false x y H Q' ∨ (rInD G.K x y H Q' ∨ rInT G.K x y H Q') := by
  cases e <;> try exact r.elim
  · rcases r with ⟨⟨f1, f2⟩ | ⟨f1, f2⟩, r⟩
    · obtain ⟨p, xs, rfl, s1, d1⟩ := he.l ex
      have dd := hd.dp ex
      exact .inl ⟨p, xs, rfl, .inl s1, flat_v dd f1, flat_vs d1 f2, by
        rw [if_neg Bool.false_ne_true, inv_v dd f1 (dpa_mono ex d1) f2]; exact k _ r⟩
    · exact .inr (.inl ⟨d, _, hd.dp ex, he.dp ex, f1, f2, k _ r⟩)
  · rcases r with ⟨⟨f1, f2⟩ | ⟨f1, f2⟩, r⟩
    · obtain ⟨p, xs, rfl, s1, d1⟩ := he.t ex
      have dd := hd.dp ex
      exact .inl ⟨p, xs, rfl, .inr s1, flat_v dd f1, flat_vs d1 f2, by
        rw [if_neg Bool.false_ne_true, inv_v dd f1 (dpa_mono ex d1) f2]; exact k _ r⟩
    · exact .inr (.inr ⟨d, _, hd.dp ex, he.dp ex, f1, f2, k _ r⟩)
theorem k_notin {H S : Hp} {x y : V} {d e : PyData} {Qb : Bool → Prop} (ex : Same S H) (hd : Db G.K F H S x d) (he : Db G.K F H S y e) (r : InD d e fun c => Qb (!c)) (Q' : VK) (k : ∀ c, Qb c → Q' (.bl c) H) : rIn G.K true x y H Q' ∨ (rNotInD G.K x y H Q' ∨ rNotInT G.K x y H Q') := by
  cases e <;> try exact r.elim
  · rcases r with ⟨⟨f1, f2⟩ | ⟨f1, f2⟩, r⟩
    · obtain ⟨p, xs, rfl, s1, d1⟩ := he.l ex
      have dd := hd.dp ex
      exact .inl ⟨p, xs, rfl, .inl s1, flat_v dd f1, flat_vs d1 f2, by
        rw [if_pos rfl, inv_v dd f1 (dpa_mono ex d1) f2]; exact k _ r⟩
    · exact .inr (.inl ⟨d, _, hd.dp ex, he.dp ex, f1, f2, k _ r⟩)
  · rcases r with ⟨⟨f1, f2⟩ | ⟨f1, f2⟩, r⟩
    · obtain ⟨p, xs, rfl, s1, d1⟩ := he.t ex
      have dd := hd.dp ex
      exact .inl ⟨p, xs, rfl, .inr s1, flat_v dd f1, flat_vs d1 f2, by
        rw [if_pos rfl, inv_v dd f1 (dpa_mono ex d1) f2]; exact k _ r⟩
    · exact .inr (.inr ⟨d, _, hd.dp ex, he.dp ex, f1, f2, k _ r⟩)
theorem op_inA {X : Cx} (gd : Good G M X) : OpR X (compareOp .In) fun x y H Q => rIn G.K false x y H Q ∨ (rInD G.K x y H Q ∨ rInT G.K x y H Q) := by
  rw [← gd.K]; exact op_in_seq.or ((op_inD (by have := gd.room.un; omega)).or (op_inT (by have := gd.room.un; omega)))
theorem op_notinA {X : Cx} (gd : Good G M X) : OpR X (compareOp .NotIn) fun x y H Q => rIn G.K true x y H Q ∨ (rNotInD G.K x y H Q ∨ rNotInT G.K x y H Q) := by
  rw [← gd.K]; exact op_notIn_seq.or ((op_notInD (by have := gd.room.un; omega)).or (op_notInT (by have := gd.room.un; omega)))
theorem we_in (h : WB G M F a Γ fun d => WB G M F b Γ fun e => InD d e fun c => Q (.bool c)) (hm : behindInMarks .In b = false := by rfl) : WE G M F (.Compare a [.In] [b] pos) Γ Q := we_cmp (fun X gd => op_inA gd) h (fun g hd he r => k_in g.ex hd he r) hm fun _ q => q
theorem wt_in (h : WB G M F a Γ fun d => WB G M F b Γ fun e => InD d e Qb) (hm : behindInMarks .In b = false := by rfl) : WT G M F (.Compare a [.In] [b] pos) Γ Qb := wt_cmp (fun X gd => op_inA gd) h (fun g hd he r => k_in g.ex hd he r) hm
theorem we_notin (h : WB G M F a Γ fun d => WB G M F b Γ fun e => InD d e fun c => Q (.bool (!c))) (hm : behindInMarks .NotIn b = false := by rfl) : WE G M F (.Compare a [.NotIn] [b] pos) Γ Q := we_cmp (Qb := fun c => Q (.bool c)) (fun X gd => op_notinA gd) h (fun g hd he r => k_notin g.ex hd he r) hm fun _ q => q
theorem wt_notin (h : WB G M F a Γ fun d => WB G M F b Γ fun e => InD d e fun c => Qb (!c)) (hm : behindInMarks .NotIn b = false := by rfl) : WT G M F (.Compare a [.NotIn] [b] pos) Γ Qb := wt_cmp (fun X gd => op_notinA gd) h (fun g hd he r => k_notin g.ex hd he r) hm
end
end DW
namespace DW
open PySem PySem.Spec L2
open PyProof.Rows hiding St
section
variable {G : Gd} {M : Nm} {F : Fx} {Γ : List Bd} {Q : PyData → Prop} {Qb : Bool → Prop} {pos : Pos} {a b c e : Expr} {es : List Expr}
theorem wt_val (h : WE G M F e Γ fun d => ∃ c, d = .bool c ∧ Qb c) (he : ∀ env whole, isTrue e env whole = (do let v ← whole; standAt e.pos; holding [v] (truthy v)) := by intro _ _; rfl) : WT G M F e Γ Qb := by
  refine ⟨fun X gd σ H S hl g => tWt.of (pt_val (pe_w e) fun w => he X.env w) ((h.run X gd σ H S hl g).mono fun v H1 ⟨S1, d, g1, e1, k1, hd, c, ec, q⟩ => ?_)⟩
  subst ec
  cases hd
  exact ⟨c, rfl, S1, g1, e1, k1, q⟩
theorem wt_not (h : WT G M F e Γ fun c => Qb (!c)) : WT G M F (.UnaryOp .Not e pos) Γ Qb :=
  ⟨fun X gd σ H S hl g => tWt.of (pt_not (pt_w e)) ((h.run X gd σ H S hl g).mono fun c H1 p => p)⟩
theorem we_not (h : WE G M F e Γ fun d => ∃ c, d = .bool c ∧ Q (.bool (!c))) : WE G M F (.UnaryOp .Not e pos) Γ Q := by
  refine ⟨fun X gd σ H S hl g => tW.of (pe_not (pe_w e)) ((h.run X gd σ H S hl g).mono fun v H1 ⟨S1, d, g1, e1, k1, hd, c, ec, q⟩ => ?_)⟩
  subst ec
  cases hd
  exact ⟨c, rfl, (PostE.here g1 (.bl _) q).ahead e1 k1⟩
theorem wt_of_ww (h : WW G M F e Γ Qb) : WT G M F e Γ Qb := ⟨fun X gd σ H S hl g => tWt.of (PW.pt (pw_w e)) (h.run X gd σ H S hl g)⟩
theorem ww_and1 (h : WT G M F a Γ Qb) : WW G M F (.BoolOp .And [a] pos) Γ Qb := ⟨fun X gd σ H S hl g => tWw.of (pw_and1 (pt_w a)) (h.run X gd σ H S hl g)⟩
theorem ww_or1 (h : WT G M F a Γ Qb) : WW G M F (.BoolOp .Or [a] pos) Γ Qb := ⟨fun X gd σ H S hl g => tWw.of (pw_or1 (pt_w a)) (h.run X gd σ H S hl g)⟩
theorem ww_and (h : WT G M F a Γ fun x => (x = true → WW G M F (.BoolOp .And (b :: es) pos) Γ Qb) ∧ (x = false → Qb false)) : WW G M F (.BoolOp .And (a :: b :: es) pos) Γ Qb := by
  refine ⟨fun X gd σ H S hl g => tWw.of (pw_and (pt_w a) (pw_w _)) ((h.run X gd σ H S hl g).mono fun x H1 ⟨S1, g1, e1, k1, q1, q2⟩ => ?_)⟩
  cases x with
  | true => rw [if_pos rfl]; exact ((q1 rfl).run X gd σ H1 S1 hl g1).mono fun c H2 p => p.ahead e1 k1
  | false => rw [if_neg Bool.false_ne_true]; exact ⟨S1, g1, e1, k1, q2 rfl⟩
theorem ww_or (h : WT G M F a Γ fun x => (x = false → WW G M F (.BoolOp .Or (b :: es) pos) Γ Qb) ∧ (x = true → Qb true)) : WW G M F (.BoolOp .Or (a :: b :: es) pos) Γ Qb := by
  refine ⟨fun X gd σ H S hl g => tWw.of (pw_or (pt_w a) (pw_w _)) ((h.run X gd σ H S hl g).mono fun x H1 ⟨S1, g1, e1, k1, q1, q2⟩ => ?_)⟩
  cases x with
  | false => rw [if_neg Bool.false_ne_true]; exact ((q1 rfl).run X gd σ H1 S1 hl g1).mono fun c H2 p => p.ahead e1 k1
  | true => rw [if_pos rfl]; exact ⟨S1, g1, e1, k1, q2 rfl⟩
/-- as values -/
theorem we_one {op} (h : WE G M F a Γ Q) : WE G M F (.BoolOp op [a] pos) Γ Q := ⟨fun X gd σ H S hl g => tW.of (pe_one (pe_w a)) (h.run X gd σ H S hl g)⟩
theorem we_and (h : WE G M F a Γ fun d => ∃ c, d = .bool c ∧ (c = true → WE G M F (.BoolOp .And (b :: es) pos) Γ Q) ∧ (c = false → Q (.bool false))) : WE G M F (.BoolOp .And (a :: b :: es) pos) Γ Q := by
  refine ⟨fun X gd σ H S hl g => tW.of (pe_and (pe_w a) (pe_w _)) ((h.run X gd σ H S hl g).mono fun v H1 ⟨S1, d, g1, e1, k1, hd, c, ec, q1, q2⟩ => ?_)⟩
  subst ec
  cases hd
  refine ⟨c, rfl, ?_⟩
  cases c with
  | true => rw [if_pos rfl]; exact ((q1 rfl).run X gd σ H1 S1 hl g1).mono fun v H2 p => p.ahead e1 k1
  | false => rw [if_neg Bool.false_ne_true]; exact (PostE.here g1 (.bl _) (q2 rfl)).ahead e1 k1
theorem we_or (h : WE G M F a Γ fun d => ∃ c, d = .bool c ∧ (c = false → WE G M F (.BoolOp .Or (b :: es) pos) Γ Q) ∧ (c = true → Q (.bool true))) : WE G M F (.BoolOp .Or (a :: b :: es) pos) Γ Q := by
  refine ⟨fun X gd σ H S hl g => tW.of (pe_or (pe_w a) (pe_w _)) ((h.run X gd σ H S hl g).mono fun v H1 ⟨S1, d, g1, e1, k1, hd, c, ec, q1, q2⟩ => ?_)⟩
  subst ec
  cases hd
  refine ⟨c, rfl, ?_⟩
  cases c with
  | false => rw [if_neg Bool.false_ne_true]; exact ((q1 rfl).run X gd σ H1 S1 hl g1).mono fun v H2 p => p.ahead e1 k1
  | true => rw [if_pos rfl]; exact (PostE.here g1 (.bl _) (q2 rfl)).ahead e1 k1
theorem we_ifexp (h : WT G M F c Γ fun x => (x = true → WE G M F a Γ Q) ∧ (x = false → WE G M F b Γ Q)) : WE G M F (.IfExp c a b pos) Γ Q := by
  refine ⟨fun X gd σ H S hl g => tW.of (pe_ifExp (pt_w c) (pe_w a) (pe_w b)) ((h.run X gd σ H S hl g).mono fun x H1 ⟨S1, g1, e1, k1, q1, q2⟩ => ?_)⟩
  cases x with
  | true => rw [if_pos rfl]; exact ((q1 rfl).run X gd σ H1 S1 hl g1).mono fun v H2 p => p.ahead e1 k1
  | false => rw [if_neg Bool.false_ne_true]; exact ((q2 rfl).run X gd σ H1 S1 hl g1).mono fun v H2 p => p.ahead e1 k1
variable {Ql : List PyData → Prop}
theorem wl_nil (h : Ql []) : WL G M F [] Γ Ql := ⟨fun X gd σ H S hl g => tWa.of pa_nil ⟨S, [], g, Same.refl S, Kq.refl H S, .nil, h⟩⟩
theorem wl_cons (h : WE G M F e Γ fun d => WL G M F es Γ fun ds => Ql (d :: ds)) (hs : ∀ env, starEach (e :: es) env = (false, eval e env) :: starEach es env := by intro _; rfl) : WL G M F (e :: es) Γ Ql := by
  refine ⟨fun X gd σ H S hl g => tWa.of (pa_cons (pe_w e) (pa_w es) (hs X.env)) ((h.run X gd σ H S hl g).mono fun v H1 ⟨S1, d, g1, e1, k1, hd, q⟩ => ?_)⟩
  exact (q.run X gd σ H1 S1 hl g1).mono fun vs H2 ⟨S2, ds, g2, e2, k2, hds, q2⟩ => ⟨S2, d :: ds, g2, e1.trans e2, k1.trans k2, .cons (dp_mono e2 hd) hds, q2⟩
theorem we_tuple {x1} (h : WL G M F es Γ fun ds => ds.length ≤ lim ∧ Q (.tuple ds)) : WE G M F (.Tuple es x1 pos) Γ Q := by
  refine ⟨fun X gd σ H S hl g => tW.of (pe_tupZ (pa_w es)) ((h.run X gd σ H S hl g).mono fun vs H1 ⟨S1, ds, g1, e1, k1, hd, z, q⟩ => ?_)⟩
  exact ⟨by rw [hd.len]; exact z, fun p o hp to => (PostE.newT g1 hp to hd q).ahead e1 k1⟩
theorem atI_dp {K : PySem.W.Frag} {S : Hp} {vs : List V} {ds : List PyData} {i : Int} {d : PyData} (h : DpAll K S vs ds) (e : atI ds i = some d) : ∃ v, atI vs i = some v ∧ Dp K S v d := by
  unfold atI at e ⊢
  rw [h.len]
  cases q : ixN ds.length i with
  | none => rw [q] at e; cases e
  | some j =>
    rw [q] at e
    exact h.get e
def IxD : PyData → PyData → (PyData → Prop) → Prop
  | .list xs, .int i, Q => ∃ d, atI xs i = some d ∧ Q d
  | .tuple xs, .int i, Q => ∃ d, atI xs i = some d ∧ Q d
  | .str z, .int i, Q => ∃ c, z.length ≤ lim ∧ atI z.cps.toList i = some c ∧ Q (.str ⟨#[c]⟩)
  | _, _, _ => False
theorem we_ix (h : WB G M F a Γ fun d => WB G M F b Γ fun e => IxD d e Q) (hs : PlainIx b := by intro _ _; rfl) : WE G M F (.Subscript a b pos) Γ Q := by
  refine ⟨fun X gd σ H S hl g => ?_⟩
  refine tW.of (pe_ix ix_seq (pe_w a) (pe_w b) hs) ?_
  refine two h gd hl g fun x y H2 S2 d e g2 e2 k2 hd he r => ?_
  rw [gd.K]
  cases d <;> try exact r.elim
  · cases e <;> try exact r.elim
    obtain ⟨c, z, hc, q⟩ := r
    rw [hd.str, he.int]
    exact .inr (.inr ⟨_, _, c, rfl, rfl, z, hc, (PostE.here g2 (.str _) q).ahead e2 k2⟩)
  · cases e <;> try exact r.elim
    obtain ⟨d, hc, q⟩ := r
    obtain ⟨p, us, rfl, s1, d1⟩ := hd.l g2.ex
    obtain ⟨v, hv, dv⟩ := atI_dp d1 hc
    rw [he.int]
    exact .inl ⟨p, us, _, v, rfl, rfl, s1, hv, (PostE.here g2 dv q).ahead e2 k2⟩
  · cases e <;> try exact r.elim
    obtain ⟨d, hc, q⟩ := r
    obtain ⟨p, us, rfl, s1, d1⟩ := hd.t g2.ex
    obtain ⟨v, hv, dv⟩ := atI_dp d1 hc
    rw [he.int]
    exact .inr (.inl ⟨p, us, _, v, rfl, rfl, s1, hv, (PostE.here g2 dv q).ahead e2 k2⟩)
@[irreducible] def cutD (xs : List PyData) (lo hi : Option Int) : List PyData := (xs.drop (HT.sIx xs.length 0 lo)).take (HT.sIx xs.length xs.length hi - HT.sIx xs.length 0 lo)
theorem cut_dp {K : PySem.W.Frag} {S : Hp} {vs : List V} {ds : List PyData} {lo hi : Option Int} (h : DpAll K S vs ds) : DpAll K S (cutV vs lo hi) (cutD ds lo hi) := by
  unfold cutV cutD
  rw [h.len]
  exact (h.drop _).take _
/-- a part of a slice -/
def tWo (X : Cx) (e : Option Expr) : TO := fun σ H Q => ∀ pins s, Inv X pins σ H s → wpAny (model X.prog X.w) X.A (evalPart e X.env) (fun u s' => ∃ o H', Inv X pins σ H' s' ∧ IsPart u o ∧ Q o H') X.xe s
theorem po_w {X : Cx} (e : Option Expr) : PO X e (tWo X e) := ⟨fun pins s _ _ _ I h => h pins s I⟩
theorem tWo.of {X : Cx} {e : Option Expr} {t : TO} {σ : St} {H : Hp} {Q : Option Int → Hp → Prop} (p : PO X e t) (h : t σ H Q) : tWo X e σ H Q := fun pins s I => p.run pins s σ H Q I h
theorem tWo.mono {X : Cx} {e : Option Expr} {σ : St} {H : Hp} {Q Q' : Option Int → Hp → Prop} (h : tWo X e σ H Q) (k : ∀ v H', Q v H' → Q' v H') : tWo X e σ H Q' :=
  fun pins s I => thn (h pins s I) fun _ _ ⟨o, H', I', r, q⟩ => ⟨o, H', I', r, k o H' q⟩
structure WO (G : Gd) (M : Nm) (F : Fx) (e : Option Expr) (Γ : List Bd) (Q : Option Int → Prop) : Prop where
  run : ∀ X, Good G M X → ∀ σ H S, σ.length = M.N.length → GRel G.K F Γ σ H S → tWo X e σ H fun o H' => ∃ S', GRel G.K F Γ σ H' S' ∧ Same S S' ∧ Kq F H S H' S' ∧ Q o
theorem wo_none {Qo : Option Int → Prop} (h : Qo none) : WO G M F none Γ Qo := ⟨fun X gd σ H S hl g => tWo.of po_none ⟨S, g, Same.refl S, Kq.refl H S, h⟩⟩
theorem wo_some {Qo : Option Int → Prop} (h : WE G M F e Γ fun d => ∃ i, d = .int i ∧ Qo (some i)) : WO G M F (some e) Γ Qo :=
  ⟨fun X gd σ H S hl g => tWo.of (po_some (pe_w e)) ((h.run X gd σ H S hl g).mono fun v H1 ⟨S1, d, g1, e1, k1, hd, i, ei, q⟩ => by
    subst ei
    cases hd
    exact ⟨i, rfl, S1, g1, e1, k1, q⟩)⟩
def SlD : PyData → Option Int → Option Int → (PyData → Prop) → Prop
  | .list xs, lo, hi, Q => Q (.list (cutD xs lo hi))
  | .tuple xs, lo, hi, Q => Q (.tuple (cutD xs lo hi))
  | .str z, lo, hi, Q => z.length ≤ lim ∧ Q (.str (cutS z lo hi))
  | _, _, _, _ => False
theorem cut_whole {xs : List PyData} {lo hi : Option Int} (h1 : HT.sIx xs.length 0 lo = 0) (h2 : HT.sIx xs.length xs.length hi = xs.length) : cutD xs lo hi = xs := by
  unfold cutD
  rw [h1, h2, Nat.sub_zero, List.drop_zero, List.take_length]
theorem _root_.DW.Db.tdp {K : PySem.W.Frag} {F : Fx} {H S : Hp} {v : V} {xs : List PyData} (h : Db K F H S v (.tuple xs)) : Dp K S v (.tuple xs) := by
  rcases h with h | ⟨_, _, _, _, z, _⟩
  · exact h
  · cases z
theorem we_slice {lo hi : Option Expr} {p2 : Pos} (h : WB G M F a Γ fun d => WO G M F lo Γ fun l => WO G M F hi Γ fun u => SlD d l u Q) : WE G M F (.Subscript a (.Slice lo hi none p2) pos) Γ Q := by
  refine ⟨fun X gd σ H S hl g => tW.of (pe_slice (SlR.or sl_list (SlR.or sl_tupZ sl_str)) (pe_w a) (po_w lo) (po_w hi)) ((h.run X gd σ H S hl g).mono fun x H1 ⟨S1, d, g1, e1, k1, hd, q⟩ => ?_)⟩
  refine (q.run X gd σ H1 S1 hl g1).mono fun l H2 ⟨S2, g2, e2, k2, q2⟩ => (q2.run X gd σ H2 S2 hl g2).mono fun u H3 ⟨S3, g3, e3, k3, q3⟩ => ?_
  have hd := (hd.mono e2 k2).mono e3 k3
  have e13 : Same S S3 := e1.trans (e2.trans e3)
  have k13 : Kq F H S H3 S3 := k1.trans (k2.trans k3)
  rw [gd.K]
  cases d <;> try exact q3.elim
  · rw [hd.str]
    obtain ⟨z, q3⟩ := q3
    exact .inr (.inr ⟨_, rfl, z, (PostE.here g3 (.str _) q3).ahead e13 k13⟩)
  · obtain ⟨p, us, rfl, s1, d1⟩ := hd.l g3.ex
    exact .inl ⟨p, us, rfl, s1, fun t ht => (PostE.newL g3 ht (cut_dp d1) q3).ahead e13 k13⟩
  · obtain ⟨p, us, rfl, s1, d1⟩ := hd.t g3.ex
    refine .inr (.inl ⟨p, us, rfl, s1, fun w => ?_, fun t o ht to => (PostE.newT g3 ht to (cut_dp d1) q3).ahead e13 k13⟩)
    rw [d1.len] at w
    rw [show SlD _ _ _ Q = Q _ from rfl, cut_whole w.1 w.2] at q3
    exact (PostE.here g3 hd.tdp q3).ahead e13 k13
end
end DW
namespace DW
open PySem PySem.Spec L2
open PyProof.Rows hiding St
mutual
def showB : PyData → Bool
  | .none | .bool _ | .str _ => true
  | .int i => decide (i.natAbs.log2 < 12900)
  | .list xs | .tuple xs => showBAll xs
  | .dict kvs => showBKv kvs
def showBAll : List PyData → Bool
  | [] => true
  | x :: xs => showB x && showBAll xs
def showBKv : List (PyData × PyData) → Bool
  | [] => true
  | (k, v) :: r => showB k && showB v && showBKv r
end
theorem showBKv_split : ∀ kvs : List (PyData × PyData), showBKv kvs = true → showBAll (kvs.map (·.1)) = true ∧ showBAll (kvs.map (·.2)) = true
  | [], _ => ⟨by simp [showBAll], by simp [showBAll]⟩
  | (k, v) :: r, h => by
    simp only [showBKv, Bool.and_eq_true] at h
    obtain ⟨h1, h2⟩ := showBKv_split r h.2
    exact ⟨by simp only [List.map_cons, showBAll, h.1.1, h1, Bool.and_self], by simp only [List.map_cons, showBAll, h.1.2, h2, Bool.and_self]⟩
/-- the interpreter's own limit of figures stands as it was -/
def dgOk (K : PySem.W.Frag) : Bool := match PySem.W.nsIn K cStatics "sys.int_max_str_digits" with
  | some none => true
  | _ => false
section
variable {K : PySem.W.Frag} {prog : Program} {w : World} {A : Around} {E : Value → Shared → Prop} {s : Shared}
theorem over_dg {M : Model} {Q : Option Nat → Shared → Prop} {a : Int} (x : K.In s.heap) (e : dgOk K = true) (ha : a.natAbs.log2 < 12900) (h : Q none s) : wpAny M A (Builtin.overDigitLimit? a) Q E s := by
  unfold Builtin.overDigitLimit?
  by_cases hs : a.natAbs.log2 < 1920
  · rw [if_pos hs]
    exact wpAny_pure h
  · rw [if_neg hs]
    unfold Builtin.intMaxStrDigits
    have en : PySem.W.nsIn K cStatics "sys.int_max_str_digits" = some none := by
      unfold dgOk at e
      split at e
      · assumption
      · cases e
    refine wpAny_bind (wpAny_bind ((PySem.W.looks_nsIn x en).here ?_))
    refine wpAny_pure ?_
    dsimp only
    rw [if_neg (by omega), if_pos (by simp [ha])]
    exact wpAny_pure h
theorem text_fits {a : Int} (ha : a.natAbs.log2 < 12900) : (Str.ofString (toString a)).length ≤ sizeLine := int_text_fits10 (Nat.lt_of_lt_of_le (PyProof.Rows.lt_of_log2 ha) PyProof.Rows.pow_lo)
theorem call_repr_dg {Q : Value → Shared → Prop} {a : Int} {t : Tok} (x : K.In s.heap) (e : dgOk K = true) (ha : a.natAbs.log2 < 12900) (h : Q (.str (toString a) s.toks) { s with toks := s.toks + 1 }) : wpAny (model prog w) A (call (.builtin "int.__repr__") [.int a t]) Q E s := by
  refine wpAny_call_entry F.slot_int_repr (typeIs_int s a t) F.entry_int_repr ?_ (F.args_int_repr_1 _)
  unfold Builtin.«int.__repr__»
  show wpAny _ _ (do let r ← Builtin.overDigitLimit? a; _) _ _ s
  exact wpAny_bind (over_dg x e ha (wpAny_bind (wpAny_mkStr (wpAny_pure ⟨_, rfl, h⟩) (text_fits ha))))
theorem reprK_dg {h₀ : Heap} {a : Int} (t : Tok) (x : K.In h₀) (e : dgOk K = true) (ha : a.natAbs.log2 < 12900) (as : List Addr) (d : Nat) : ReprK prog w as h₀ d (.int a t) (toString a) :=
  fun base hb A g E s Q _ _ hu hk hQ => by
    rw [pyReprUnder_leaf (v := .int a t) (by omega) (fun _ e => nomatch e)]
    unfold pyRepr
    exact wpAny_bind (wpAny_pyReprObj_slot (by omega) (typeIs_int s a t) F.slot_int_repr.toG (call_repr_dg (x.keeps hk) e ha ⟨_, _, rfl, wpAny_pure (hQ s.heap _ fun _ _ e => e)⟩))
end
section
variable {K : PySem.W.Frag} {prog : Program} {w : World} {h₀ : Heap}
mutual
theorem reprB_of : ∀ {v : Value} {d : PyData} {as : List Addr}, K.In h₀ → dgOk K = true → RdD h₀ v d as → showB d = true → d.shown.length ≤ sizeLine → ∃ bs, ReadAtMost h₀ d.depth bs ∧ ReprK prog w bs h₀ d.depth v d.shown
  | _, _, _, _, _, .none, _, _ => ⟨[], (fun _ h => nomatch h), by simp only [PyData.shown]; exact .of_is ReprIs.none _ _ _⟩
  | _, _, _, _, _, .bool b, _, _ => ⟨[], (fun _ h => nomatch h), by simp only [PyData.shown]; exact .of_is (ReprIs.bool b) _ _ _⟩
  | _, _, _, x, e, .int i t, hs, _ => ⟨[], (fun _ h => nomatch h), by simp only [PyData.shown]; exact reprK_dg t x e (by simpa [showB] using hs) _ _⟩
  | _, _, _, _, _, .str x t, _, hz => ⟨[], (fun _ h => nomatch h), by simp only [PyData.shown]; exact .of_is (ReprIs.str x t (by simpa only [PyData.shown] using hz)) _ _ _⟩
  | _, _, _, x, e, .list (a := a) (vs := vs) (xs := xs) h1 h2 h3 h4, hs, hz => by
    have hz' : (listText (PyData.shownAll xs)).length ≤ sizeLine := by simpa only [PyData.shown] using hz
    obtain ⟨bs, hb, hk⟩ := reprBAll_of x e h4 (by simpa [showB] using hs) (fun t ht => Nat.le_trans (listText_mem_le ht) hz')
    have r : Reads h₀ (.ref a) (.list xs) _ := .list h1 h2 h3 h4.readsAll
    have hna : a ∉ bs := not_mem_of_deeper r (by simp only [PyData.depth]; omega) hb
    refine ⟨a :: bs, ReadAtMost.cons r (by simp only [PyData.depth]; omega) hb, ?_⟩
    simp only [PyData.depth, PyData.shown]
    obtain ⟨l⟩ := vs
    cases l with
    | nil =>
      have h4' : RdAll h₀ [] xs _ := h4
      cases h4'
      simp only [PyData.shownAll, listText_nil]
      exact ReprK.listEmpty h1 h2 h3
    | cons x l => exact ReprK.list h1 h2 h3 hna (by simpa using hk.length_eq) (fun i y e => hk.item i y (by simpa using e))
  | _, _, _, x, e, .tuple (a := a) (xs := xs) h1 h2 h3 h4, hs, hz => by
    have hz' : (tupleText (PyData.shownAll xs)).length ≤ sizeLine := by simpa only [PyData.shown] using hz
    obtain ⟨bs, hb, hk⟩ := reprBAll_of x e h4 (by simpa [showB] using hs) (fun t ht => Nat.le_trans (tupleText_mem_le ht) hz')
    have r : Reads h₀ (.ref a) (.tuple xs) _ := .tuple h1 h2 h3 h4.readsAll
    have hna : a ∉ bs := not_mem_of_deeper r (by simp only [PyData.depth]; omega) hb
    refine ⟨a :: bs, ReadAtMost.cons r (by simp only [PyData.depth]; omega) hb, ?_⟩
    simp only [PyData.depth, PyData.shown]
    exact ReprK.tuple h1 h2 h3 hna hk
  | _, _, _, x, e, .dict (a := a) (es := es) (kvs := kvs) h0 h1 h2 h3 h4 h5, hs, hz => by
    have hz' : (dictText (PyData.shownKv kvs)).length ≤ sizeLine := by simpa only [PyData.shown] using hz
    obtain ⟨hs1, hs2⟩ := showBKv_split kvs (by simpa [showB] using hs)
    obtain ⟨b1, hb1, k1⟩ := reprBAll_of x e h4 hs1 (fun t ht => let ⟨p, hp, hl⟩ := PyData.shownKv_key_le kvs t ht; Nat.le_trans hl (Nat.le_trans (dictText_mem_le hp) hz'))
    obtain ⟨b2, hb2, k2⟩ := reprBAll_of x e h5 hs2 (fun t ht => let ⟨p, hp, hl⟩ := PyData.shownKv_val_le kvs t ht; Nat.le_trans hl (Nat.le_trans (dictText_mem_le hp) hz'))
    have r : Reads h₀ (.ref a) (.dict kvs) _ := .dict h1 h2 h3 h4.readsAll h5.readsAll
    have hb : ReadAtMost h₀ (PyData.depthKv kvs) (b1 ++ b2) := (hb1.mono (PyData.depthAll_keys_le kvs)).append (hb2.mono (PyData.depthAll_vals_le kvs))
    have hna : a ∉ b1 ++ b2 := not_mem_of_deeper r (by simp only [PyData.depth]; omega) hb
    refine ⟨a :: (b1 ++ b2), ReadAtMost.cons r (by simp only [PyData.depth]; omega) hb, ?_⟩
    simp only [PyData.depth, PyData.shown, PyData.shownKv_eq]
    exact ReprK.dict h1 h2 h3 h0 hna (ReprEntriesK.of_two es.toList _ _
      (k1.more_le (fun b hb => List.mem_append_left _ hb) (PyData.depthAll_keys_le kvs)) (k2.more_le (fun b hb => List.mem_append_right _ hb) (PyData.depthAll_vals_le kvs)))
theorem reprBAll_of : ∀ {vs : List Value} {ds : List PyData} {as : List Addr}, K.In h₀ → dgOk K = true → RdAll h₀ vs ds as → showBAll ds = true → (∀ t ∈ PyData.shownAll ds, t.length ≤ sizeLine) →
    ∃ bs, ReadAtMost h₀ (PyData.depthAll ds) bs ∧ ReprAllK prog w bs h₀ (PyData.depthAll ds) vs (PyData.shownAll ds)
  | _, _, _, _, _, .nil, _, _ => ⟨[], (fun _ h => nomatch h), by simp only [PyData.shownAll]; exact .nil⟩
  | _, _, _, x, e, .cons (d := d) (ds := ds) r rs, hs, hz => by
    have hs' : showB d = true ∧ showBAll ds = true := by simpa [showBAll] using hs
    obtain ⟨b1, hb1, k1⟩ := reprB_of x e r hs'.1 (hz _ (by simp only [PyData.shownAll]; exact List.mem_cons_self ..))
    obtain ⟨b2, hb2, k2⟩ := reprBAll_of x e rs hs'.2 (fun t ht => hz t (by simp only [PyData.shownAll]; exact List.mem_cons_of_mem _ ht))
    refine ⟨b1 ++ b2, ?_, ?_⟩
    · intro b hm
      simp only [PyData.depthAll]
      rcases List.mem_append.mp hm with hm | hm
      · obtain ⟨d', as', r', hd'⟩ := hb1 b hm
        exact ⟨d', as', r', Nat.le_trans hd' (Nat.le_max_left _ _)⟩
      · obtain ⟨d', as', r', hd'⟩ := hb2 b hm
        exact ⟨d', as', r', Nat.le_trans hd' (Nat.le_max_right _ _)⟩
    · simp only [PyData.depthAll, PyData.shownAll]
      exact .cons ((k1.more fun b hb => List.mem_append_left _ hb).level_le (Nat.le_max_left _ _)) (k2.more_le (fun b hb => List.mem_append_right _ hb) (Nat.le_max_right _ _))
end
theorem showsB_of {a : Addr} {d : PyData} {as : List Addr} (x : K.In h₀) (e : dgOk K = true) (r : RdD h₀ (.ref a) d as) (hs : showB d = true) (hsz : d.shown.length ≤ sizeLine) : ∃ T idr, ShowsBy prog w h₀ a d T idr := by
  cases r with
  | list h1 h2 h3 h4 =>
    rename_i o vs n xs bs₀
    have hz' : (listText (PyData.shownAll xs)).length ≤ sizeLine := by simpa only [PyData.shown] using hsz
    obtain ⟨bs, hb, hk⟩ := reprBAll_of (prog := prog) (w := w) x e h4 (by simpa [showB] using hs) (fun t ht => Nat.le_trans (listText_mem_le ht) hz')
    have hna : a ∉ bs := not_mem_of_deeper (.list h1 h2 h3 h4.readsAll) (by simp only [PyData.depth]; omega) hb
    refine ⟨"list", "list.__repr__", F.slot_list_repr.toG, F.slot_list_str, F.slot_list_format, fun s hk0 => ⟨o, hk0 _ _ h1, h2⟩, fun A E s Q hg hu hk0 hQ => ?_⟩
    simp only [PyData.depth] at hu
    simp only [PyData.shown] at hQ
    obtain ⟨l⟩ := vs
    cases l with
    | nil =>
      have h4' : RdAll h₀ [] xs _ := h4
      cases h4'
      simp only [PyData.shownAll, listText_nil] at hQ
      exact call_list_repr_empty ⟨o, hk0 _ _ h1, h2⟩ (hk0 _ _ h1) h3 (hQ s.heap _ _ fun _ _ e => e)
    | cons x l =>
      exact call_list_reprK h1 h2 h3 hna (by simpa using hk.length_eq) (fun i y e => hk.item i y (by simpa using e)) hg (fun b _ => Clear.nil b) hu hk0 hQ hz'
  | tuple h1 h2 h3 h4 =>
    rename_i o vs n xs
    have hz' : (tupleText (PyData.shownAll xs)).length ≤ sizeLine := by simpa only [PyData.shown] using hsz
    obtain ⟨bs, hb, hk⟩ := reprBAll_of (prog := prog) (w := w) x e h4 (by simpa [showB] using hs) (fun t ht => Nat.le_trans (tupleText_mem_le ht) hz')
    have hna : a ∉ bs := not_mem_of_deeper (.tuple h1 h2 h3 h4.readsAll) (by simp only [PyData.depth]; omega) hb
    refine ⟨"tuple", "tuple.__repr__", F.slot_tuple_repr, F.slot_tuple_str, F.slot_tuple_format, fun s hk0 => ⟨o, hk0 _ _ h1, h2⟩, fun A E s Q hg hu hk0 hQ => ?_⟩
    simp only [PyData.depth] at hu
    simp only [PyData.shown] at hQ
    exact call_tuple_reprK h1 h2 h3 hna hk hg (fun b _ => Clear.nil b) hu hk0 hQ hz'
  | dict h0 h1 h2 h3 h4 h5 =>
    rename_i o es n kvs as bs
    have hz' : (dictText (PyData.shownKv kvs)).length ≤ sizeLine := by simpa only [PyData.shown] using hsz
    obtain ⟨hs1, hs2⟩ := showBKv_split kvs (by simpa [showB] using hs)
    obtain ⟨b1, hb1, k1⟩ := reprBAll_of (prog := prog) (w := w) x e h4 hs1 (fun t ht => let ⟨p, hp, hl⟩ := PyData.shownKv_key_le kvs t ht; Nat.le_trans hl (Nat.le_trans (dictText_mem_le hp) hz'))
    obtain ⟨b2, hb2, k2⟩ := reprBAll_of (prog := prog) (w := w) x e h5 hs2 (fun t ht => let ⟨p, hp, hl⟩ := PyData.shownKv_val_le kvs t ht; Nat.le_trans hl (Nat.le_trans (dictText_mem_le hp) hz'))
    have r : Reads h₀ (.ref a) (.dict kvs) _ := .dict h1 h2 h3 h4.readsAll h5.readsAll
    have hb : ReadAtMost h₀ (PyData.depthKv kvs) (b1 ++ b2) := (hb1.mono (PyData.depthAll_keys_le kvs)).append (hb2.mono (PyData.depthAll_vals_le kvs))
    have hna : a ∉ b1 ++ b2 := not_mem_of_deeper r (by simp only [PyData.depth]; omega) hb
    refine ⟨"dict", "dict.__repr__", F.slot_dict_repr, F.slot_dict_str, F.slot_dict_format, fun s hk0 => ⟨o, hk0 _ _ h1, h2⟩, fun A E s Q hg hu hk0 hQ => ?_⟩
    simp only [PyData.depth] at hu
    simp only [PyData.shown, PyData.shownKv_eq] at hQ
    rw [PyData.shownKv_eq] at hz'
    exact call_dict_reprK h1 h2 h3 h0 hna (ReprEntriesK.of_two es.toList _ _
      (k1.more_le (fun b hb => List.mem_append_left _ hb) (PyData.depthAll_keys_le kvs)) (k2.more_le (fun b hb => List.mem_append_right _ hb) (PyData.depthAll_vals_le kvs))) hg (fun b _ => Clear.nil b) hu hk0 hQ hz'
theorem repr_of_readsB {A : Around} {E : Value → Shared → Prop} {s : Shared} {Q : Value → Shared → Prop} {a : Addr} {d : PyData} {as : List Addr} (x : K.In s.heap) (e : dgOk K = true) (r : RdD s.heap (.ref a) d as) (hs : showB d = true) (hg : A.guards = some []) (hu : A.units + (d.depth + 1) < cLine)
    (hQ : ∀ h' u tk, (∀ b o, s.heap.get? b = some o → h'.get? b = some o) → Q (.str d.shown u) { s with heap := h', toks := tk })
    (hsz : d.shown.length ≤ sizeLine) : wpAny (model prog w) A (call (.builtin "repr") [.ref a]) Q E s := by
  obtain ⟨T, idr, S⟩ := showsB_of (prog := prog) (w := w) x e r hs hsz
  exact call_repr_slot (by omega) (S.typeIs s fun _ _ e => e) S.slotRepr (S.call A.in1 E s _ hg (by show A.units + 1 + d.depth < cLine; omega) (fun _ _ e => e) fun h' u tk hk => ⟨_, _, rfl, hQ h' u tk hk⟩)
end
abbrev DS := List PyData → (PyData → Prop) → Prop
/-- what stands behind a call that returns d -/
def Back (K : PySem.W.Frag) (H S : Hp) (bag : Option Addr) (Q : VK) (d : PyData) : Prop :=
  ∀ v H' S', (∀ a o, H a = some o → bag ≠ some a → H' a = some o) → Same S S' → (Same S' H' ∧ TdS S') → (∀ a o, S' a = some o → (∃ u, S a = some u) ∨ H a = none) → (∀ b, bag = some b → S' b = none ∧ BagIn K S' H' b) → Dp K S' v d → Q v H'
/-- of data -/
def spD (K : PySem.W.Frag) (n : Nat) (sp : DS) : Sp := fun vs H Q _ => ∃ ds S Q0, ds.length = n ∧ (Same S H ∧ TdS S) ∧ DpAll K S vs ds ∧ sp ds Q0 ∧ ∀ d, Q0 d → Back K H S none Q d
/-- of the bag and data -/
def spB (K : PySem.W.Frag) (n : Nat) (sp : DS) : Sp := fun vs H Q _ => ∃ b us ds S Q0, vs = .ref b :: us ∧ ds.length + 1 = n ∧ (Same S H ∧ TdS S) ∧ S b = none ∧ BagIn K S H b ∧ DpAll K S us ds ∧ sp ds Q0 ∧ ∀ d, Q0 d → Back K H S (some b) Q d
/-- a def that stands -/
structure Fn (G : Gd) (k : Nat) (x : Str) (ps : List Str) (sp : Sp) : Prop where
  ex : ∃ f fd, G.mg x = some (.ref f) ∧ PySem.W.keepIn G.K (.ref f) = true ∧ Binds G.K fd ps [] ∧ FnOk G.P G.w G.K G.mg G.base CX0 k f fd ps sp
/-- another room -/
def Gd.at (G : Gd) (k : Nat) : Gd := { G with k := k }
theorem Fn.at {G : Gd} {k j : Nat} {x : Str} {ps : List Str} {sp : Sp} (h : Fn G k x ps sp) : Fn (G.at j) k x ps sp := ⟨h.ex⟩
section
variable {G : Gd} {M : Nm} {F : Fx} {Γ : List Bd} {Q : PyData → Prop} {Qb : Bool → Prop} {pos p : Pos} {a b c e : Expr} {es : List Expr}
theorem fn_use {X : Cx} (gd : Good G M X) {k : Nat} {f : Addr} {fd : FuncData} {ps : List Str} {sp : Sp} (h : FnOk G.P G.w G.K G.mg G.base CX0 k f fd ps sp) : FnOk X.prog X.w X.K X.mg X.base CX0 k f fd ps sp := by
  rw [gd.prog, gd.w, gd.K, gd.mg, gd.base]; exact h
theorem we_call {k n : Nat} {x : Str} {ps : List Str} {sp : DS} (fn : Fn G k x ps (spD G.K n sp)) (hg : x ∈ M.gl) (hk : k ≤ G.k) (h : WL G M F (e :: es) Γ fun ds => ds.length = n ∧ sp ds Q)
    (hdb : (x == ("__debug__" : Str)) = false := by decide) (he : ∀ env, starEach (e :: es) env = (false, eval e env) :: starEach es env := by intro _; rfl) (hpl : ∀ env, (backTo pos (starEach es env)).any (·.1) = false := by intro _; rfl) :
    WE G M F (.Call (.Name x p) (e :: es) [] pos) Γ Q := by
  obtain ⟨f, fd, h1, h2, h3, h4⟩ := fn.ex
  refine ⟨fun X gd σ H S hl g => ?_⟩
  refine tW.of (pe_call (E := fun _ _ _ => False) (fn_use gd h4) (gd.room.mono hk) (gd.gl hg) (by rw [gd.mg]; exact h1) (by rw [gd.K]; exact h2) (by rw [gd.K]; exact h3) .nil pass0 (pa_w (e :: es)) hdb (he X.env) (hpl X.env)) ?_
  refine (h.run X gd σ H S hl g).mono fun vs H1 ⟨S1, ds, g1, e1, k1, hd, hn, q⟩ => ?_
  rw [List.append_nil]
  refine ⟨ds, S1, Q, hn, ⟨g1.ex, g1.td⟩, hd, q, fun d qd v H2 S2 kp s2 x2 nw _ dp => ?_⟩
  have g2 : GRel G.K F Γ σ H2 S2 := g1.ext (fun a o q _ _ => kp a o q (by simp)) s2 x2.1 nw (td := x2.2) (dm := fun a o q => ⟨o, kp a o q (by simp)⟩) (tab := tabs_nl g1.tab fun a o q _ => kp a o q (by simp)) fun bb hb => by
    obtain ⟨q1, ⟨o, q2⟩, c, i, j, m, ns, q3, q4, q5⟩ := g1.bag bb hb
    refine ⟨?_, BagIn.mono ⟨c, i, j, m, ns, q3, q4, q5⟩ s2 ((kp bb _ q3 (by simp)).trans q3.symm)⟩
    cases z : S2 bb with
    | none => rfl
    | some u =>
      rcases nw bb u z with ⟨u', w⟩ | w
      · rw [q1] at w; cases w
      · rw [q3] at w; cases w
  exact ⟨S2, d, g2, e1.trans s2, k1.trans ⟨fun a o q _ _ => kp a o q (by simp), fun a o q => ⟨o, kp a o q (by simp)⟩, nw⟩, dp, qd⟩
theorem we_call0 {k : Nat} {x : Str} {sp : DS} (fn : Fn G k x [] (spD G.K 0 sp)) (hg : x ∈ M.gl) (hk : k ≤ G.k) (h : sp [] Q)
    (hdb : (x == ("__debug__" : Str)) = false := by decide) : WE G M F (.Call (.Name x p) [] [] pos) Γ Q := by
  obtain ⟨f, fd, h1, h2, h3, h4⟩ := fn.ex
  refine ⟨fun X gd σ H S hl g => ?_⟩
  refine tW.of (pe_call0 (E := fun _ _ _ => False) (fn_use gd h4) (gd.room.mono hk) (gd.gl hg) (by rw [gd.mg]; exact h1) (by rw [gd.K]; exact h2) (by rw [gd.K]; exact h3) .nil pass0 hdb) ?_
  refine ⟨[], S, Q, rfl, ⟨g.ex, g.td⟩, .nil, h, fun d qd v H2 S2 kp s2 x2 nw _ dp => ?_⟩
  have g2 : GRel G.K F Γ σ H2 S2 := g.ext (fun a o q _ _ => kp a o q (by simp)) s2 x2.1 nw (td := x2.2) (dm := fun a o q => ⟨o, kp a o q (by simp)⟩) (tab := tabs_nl g.tab fun a o q _ => kp a o q (by simp)) fun bb hb => by
    obtain ⟨q1, ⟨o, q2⟩, c, i, j, m, ns, q3, q4, q5⟩ := g.bag bb hb
    refine ⟨?_, BagIn.mono ⟨c, i, j, m, ns, q3, q4, q5⟩ s2 ((kp bb _ q3 (by simp)).trans q3.symm)⟩
    cases z : S2 bb with
    | none => rfl
    | some u =>
      rcases nw bb u z with ⟨u', w⟩ | w
      · rw [q1] at w; cases w
      · rw [q3] at w; cases w
  exact ⟨S2, d, g2, s2, ⟨fun a o q _ _ => kp a o q (by simp), fun a o q => ⟨o, kp a o q (by simp)⟩, nw⟩, dp, qd⟩
/-- f(bag, ..) -/
theorem we_bag {k n : Nat} {x y : Str} {ps : List Str} {sp : DS} {i : Nat} {bb : Addr} {py : Pos} (fn : Fn G k x ps (spB G.K n sp)) (hg : x ∈ M.gl) (hk : k ≤ G.k) (hn : Rdb M i y) (hb : Γ[i]? = some (Bd.rw (.ref bb))) (hF : F.bag = some bb)
    (h : WL G M F es Γ fun ds => ds.length + 1 = n ∧ sp ds Q) (hdb : (x == ("__debug__" : Str)) = false := by decide)
    (hpl : ∀ env, (backTo pos (starEach es env)).any (·.1) = false := by intro _; rfl) :
    WE G M F (.Call (.Name x p) (.Name y py :: es) [] pos) Γ Q := by
  obtain ⟨f, fd, h1, h2, h3, h4⟩ := fn.ex
  refine ⟨fun X gd σ H S hl g => ?_⟩
  refine tW.of (pe_call (E := fun _ _ _ => False) (fn_use gd h4) (gd.room.mono hk) (gd.gl hg) (by rw [gd.mg]; exact h1) (by rw [gd.K]; exact h2) (by rw [gd.K]; exact h3) .nil pass0
    (pa_cons (pe_var (gd.at hn.1) (gd.vis hn) hn.2.2.1 hn.2.2.2) (pa_w es)) hdb rfl (hpl X.env)) ?_
  refine ⟨.ref bb, g.raw i _ hb, ?_⟩
  refine (h.run X gd σ H S hl g).mono fun vs H1 ⟨S1, ds, g1, e1, k1, hd, hn, q⟩ => ?_
  show spB G.K n sp ((V.ref bb :: vs) ++ []) H1 _ _
  rw [List.append_nil]
  obtain ⟨b1, _, b2⟩ := g1.bag bb hF
  refine ⟨bb, vs, ds, S1, Q, rfl, hn, ⟨g1.ex, g1.td⟩, b1, b2, hd, q, fun d qd v H2 S2 kp s2 x2 nw bk dp => ?_⟩
  have kp' : Kp F H1 H2 := fun a o q z _ => kp a o q (by rw [← hF]; exact z)
  have dm : Dom H1 H2 := fun a o q => by
    by_cases z : bb = a
    · obtain ⟨_, _, _, _, _, w, _⟩ := (bk bb rfl).2
      exact ⟨_, z ▸ w⟩
    · exact ⟨o, kp a o q fun w => z (Option.some.inj w)⟩
  have nl : Nl H1 H2 := fun a o q n => kp a o q fun w => by
    cases w
    obtain ⟨_, _, _, _, _, w, _⟩ := b2
    rw [w] at q
    cases q
    exact n _ rfl
  have g2 : GRel G.K F Γ σ H2 S2 := g1.ext kp' s2 x2.1 nw (td := x2.2) (dm := dm) (tab := tabs_nl g1.tab nl) fun b' hb' => bk b' (by rw [← hF]; exact hb')
  refine ⟨S2, d, g2, e1.trans s2, k1.trans ⟨kp', fun a o q => ?_, nw⟩, dp, qd⟩
  by_cases z : bb = a
  · obtain ⟨_, _, _, _, _, _, w, _⟩ := bk bb rfl
    exact ⟨_, z ▸ w⟩
  · exact ⟨o, kp a o q fun w => z (Option.some.inj w)⟩
theorem we_b1 {id : String} {x : Str} {r : List V → Hp → VK → Prop} {R : PyData → Prop} (hc : ∀ X, Good G M X → CallR X (.builtin id) r) (hg : x ∈ M.gl) (hm : G.mg x = none) (hv : bootBuiltins x = some (.builtin id)) (h : WB G M F a Γ R)
    (k : ∀ {σ : St} {H S : Hp} {v : V} {d : PyData}, GRel G.K F Γ σ H S → Db G.K F H S v d → R d → ∀ Q' : VK, (∀ v H', PostE G.K F Γ σ H S Q v H' → Q' v H') → r [v] H Q') (hn : x ≠ "__name__" := by decide) (hdb : (x == ("__debug__" : Str)) = false := by decide)
    (hs : ∀ env, starEach [a] env = [(false, eval a env)] := by intro _; rfl) : WE G M F (.Call (.Name x p) [a] [] pos) Γ Q := by
  refine ⟨fun X gd σ H S hl g => tW.of (pe_callB (hc X gd) (gd.gl hg) (by rw [gd.mg]; exact hm) hv (pa_cons (pe_w a) pa_nil (hs X.env)) hn hdb (hs X.env) rfl) ?_⟩
  exact (h.run X gd σ H S hl g).mono fun v H1 ⟨S1, d, g1, e1, k1, hd, q⟩ => k g1 hd q _ fun v H' p => p.ahead e1 k1
theorem we_t1 {T : String} {x : Str} {r : List V → Hp → VK → Prop} {R : PyData → Prop} (hc : ∀ X, Good G M X → CallR X (.type T) r) (hg : x ∈ M.gl) (hm : G.mg x = none) (hv : bootBuiltins x = some (.type T)) (h : WB G M F a Γ R)
    (k : ∀ {σ : St} {H S : Hp} {v : V} {d : PyData}, GRel G.K F Γ σ H S → Db G.K F H S v d → R d → ∀ Q' : VK, (∀ v H', PostE G.K F Γ σ H S Q v H' → Q' v H') → r [v] H Q') (hn : x ≠ "__name__" := by decide) (hdb : (x == ("__debug__" : Str)) = false := by decide)
    (hs : ∀ env, starEach [a] env = [(false, eval a env)] := by intro _; rfl) : WE G M F (.Call (.Name x p) [a] [] pos) Γ Q := by
  refine ⟨fun X gd σ H S hl g => tW.of (pe_callTy (hc X gd) (gd.gl hg) (by rw [gd.mg]; exact hm) hv (pa_cons (pe_w a) pa_nil (hs X.env)) hn hdb (hs X.env) rfl) ?_⟩
  exact (h.run X gd σ H S hl g).mono fun v H1 ⟨S1, d, g1, e1, k1, hd, q⟩ => k g1 hd q _ fun v H' p => p.ahead e1 k1
def LenD : PyData → (PyData → Prop) → Prop
  | .list xs, Q => Q (.int xs.length)
  | .tuple xs, Q => Q (.int xs.length)
  | .str z, Q => z.length ≤ lim ∧ Q (.int z.length)
  | _, _ => False
theorem CallR.or {X : Cx} {f : Value} {r r' : List V → Hp → VK → Prop} (h : CallR X f r) (h' : CallR X f r') : CallR X f fun xs H Q => r xs H Q ∨ r' xs H Q := by
  intro pins s σ H xs us Q I rs q
  rcases q with q | q
  · exact h pins s σ H xs us Q I rs q
  · exact h' pins s σ H xs us Q I rs q
theorem we_len (hm : G.mg "len" = none) (hg : ("len" : Str) ∈ M.gl) (h : WB G M F a Γ fun d => LenD d Q) (hs : ∀ env, starEach [a] env = [(false, eval a env)] := by intro _; rfl) : WE G M F (.Call (.Name "len" p) [a] [] pos) Γ Q := by
  refine we_b1 (r := fun xs H Q => (∃ p ys, xs = [.ref p] ∧ (SqL G.K H p ys ∨ SqT G.K H p ys) ∧ Q (.int ys.length) H) ∨ (∃ z, xs = [.str z] ∧ z.length ≤ sizeLine ∧ Q (.int z.length) H)) (fun X gd => by rw [← gd.K]; exact CallR.or call_len_seq call_len_str) hg hm PySem.boot_len h ?_ (hs := hs)
  intro σ H S v d g hd r Q' k
  cases d <;> try exact r.elim
  · rw [hd.str]; exact .inr ⟨_, rfl, r.1, k _ _ (PostE.here g (.int _) r.2)⟩
  · obtain ⟨t, us, rfl, s1, d1⟩ := hd.l g.ex
    exact .inl ⟨t, us, rfl, .inl s1, k _ _ (PostE.here g (.int _) (by rw [d1.len]; exact r))⟩
  · obtain ⟨t, us, rfl, s1, d1⟩ := hd.t g.ex
    exact .inl ⟨t, us, rfl, .inr s1, k _ _ (PostE.here g (.int _) (by rw [d1.len]; exact r))⟩
def SeqD : PyData → (List PyData → Prop) → Prop
  | .list xs, Q => Q xs
  | .tuple xs, Q => Q xs
  | _, _ => False
theorem we_tup (hm : G.mg "tuple" = none) (hg : ("tuple" : Str) ∈ M.gl) (h : WB G M F a Γ fun d => SeqD d fun xs => Q (.tuple xs)) (hs : ∀ env, starEach [a] env = [(false, eval a env)] := by intro _; rfl) : WE G M F (.Call (.Name "tuple" p) [a] [] pos) Γ Q := by
  refine we_t1 (fun X gd => by have := @call_tupZ X; rw [gd.K] at this; exact this) hg hm (by decide +kernel) h ?_ (hs := hs)
  intro σ H S v d g hd r Q' k
  cases d <;> try exact r.elim
  · obtain ⟨t, us, rfl, s1, d1⟩ := hd.l g.ex
    exact ⟨t, us, rfl, .inl ⟨s1, fun l o hl to => k _ _ (PostE.newT g hl to d1 r)⟩⟩
  · obtain ⟨t, us, rfl, s1, d1⟩ := hd.t g.ex
    exact ⟨t, us, rfl, .inr ⟨s1, k _ _ (PostE.here g hd.tdp r)⟩⟩
theorem we_lst (hm : G.mg "list" = none) (hg : ("list" : Str) ∈ M.gl) (h : WB G M F a Γ fun d => SeqD d fun xs => Q (.list xs)) (hs : ∀ env, starEach [a] env = [(false, eval a env)] := by intro _; rfl) : WE G M F (.Call (.Name "list" p) [a] [] pos) Γ Q := by
  refine we_t1 (fun X gd => by have := @call_list_of X; rw [gd.K] at this; exact this) hg hm (by decide +kernel) h ?_ (hs := hs)
  intro σ H S v d g hd r Q' k
  cases d <;> try exact r.elim
  · obtain ⟨t, us, rfl, s1, d1⟩ := hd.l g.ex
    exact ⟨t, us, rfl, .inl s1, fun l hl => k _ _ (PostE.newL g hl d1 r)⟩
  · obtain ⟨t, us, rfl, s1, d1⟩ := hd.t g.ex
    exact ⟨t, us, rfl, .inr s1, fun l hl => k _ _ (PostE.newL g hl d1 r)⟩
def IntD : PyData → (PyData → Prop) → Prop
  | .int i, Q => Q (.int i)
  | .bool b, Q => Q (.int (if b then 1 else 0))
  | _, _ => False
theorem we_toint (hm : G.mg "int" = none) (hg : ("int" : Str) ∈ M.gl) (h : WB G M F a Γ fun d => IntD d Q) (hs : ∀ env, starEach [a] env = [(false, eval a env)] := by intro _; rfl) : WE G M F (.Call (.Name "int" p) [a] [] pos) Γ Q := by
  refine we_t1 (fun X gd => call_int1) hg hm (by decide +kernel) h ?_ (hs := hs)
  intro σ H S v d g hd r Q' k
  cases d <;> try exact r.elim
  · rw [hd.bl]; exact .inr ⟨_, rfl, k _ _ (PostE.here g (.int _) r)⟩
  · rw [hd.int]; exact .inl ⟨_, rfl, k _ _ (PostE.here g (.int _) r)⟩
def AbsD : PyData → (PyData → Prop) → Prop
  | .int i, Q => Q (.int (if i < 0 then -i else i))
  | _, _ => False
theorem we_abs (hm : G.mg "abs" = none) (hg : ("abs" : Str) ∈ M.gl) (h : WB G M F a Γ fun d => AbsD d Q) (hs : ∀ env, starEach [a] env = [(false, eval a env)] := by intro _; rfl) : WE G M F (.Call (.Name "abs" p) [a] [] pos) Γ Q := by
  refine we_b1 (fun X gd => call_abs) hg hm (by decide +kernel) h ?_ (hs := hs)
  intro σ H S v d g hd r Q' k
  cases d <;> try exact r.elim
  rw [hd.int]; exact ⟨_, rfl, k _ _ (PostE.here g (.int _) r)⟩
def AllD (d : PyData) (Q : Bool → Prop) : Prop := ∃ bs : List Bool, d = .list (bs.map PyData.bool) ∧ Q (bs.all id)
theorem we_all (hm : G.mg "all" = none) (hg : ("all" : Str) ∈ M.gl) (h : WB G M F a Γ fun d => AllD d fun c => Q (.bool c)) (hs : ∀ env, starEach [a] env = [(false, eval a env)] := by intro _; rfl) : WE G M F (.Call (.Name "all" p) [a] [] pos) Γ Q := by
  refine we_b1 (fun X gd => by have := @cr_all X gd.calm; rw [gd.K] at this; exact this) hg hm (by decide +kernel) h ?_ (hs := hs)
  intro σ H S v d g hd ⟨bs, e, r⟩ Q' k
  subst e
  obtain ⟨t, us, rfl, s1, d1⟩ := hd.l g.ex
  rw [d1.bools] at s1
  exact ⟨t, bs, rfl, s1, k _ _ (PostE.here g (.bl _) r)⟩
/-- gcd, a module's name for the built-in one -/
def GcdD : PyData → PyData → (PyData → Prop) → Prop
  | .int i, .int j, Q => Q (.int ((Nat.gcd i.natAbs j.natAbs : Nat) : Int))
  | _, _, _ => False
theorem we_gcd {x : Str} (hm : G.mg x = some (.builtin "math.gcd")) (hg : x ∈ M.gl) (h : WB G M F a Γ fun d => WB G M F b Γ fun e => GcdD d e Q) (hdb : (x == ("__debug__" : Str)) = false := by decide)
    (hs : ∀ env, starEach [a, b] env = (false, eval a env) :: starEach [b] env := by intro _; rfl) (hs2 : ∀ env, starEach [b] env = [(false, eval b env)] := by intro _; rfl) : WE G M F (.Call (.Name x p) [a, b] [] pos) Γ Q := by
  refine ⟨fun X gd σ H S hl g => tW.of (pe_callBfun cr_gcd (gd.gl hg) (by rw [gd.mg]; exact hm) (pa_cons (pe_w a) (pa_cons (pe_w b) pa_nil (hs2 X.env)) (hs X.env)) hdb (hs X.env) (by rw [hs2]; rfl)) ?_⟩
  refine two h gd hl g fun x y H2 S2 d e g2 e2 k2 hd he r' => ?_
  cases d <;> try exact r'.elim
  cases e <;> try exact r'.elim
  rw [hd.int, he.int]
  exact ⟨_, _, rfl, (PostE.here g2 (.int _) r').ahead e2 k2⟩
/-- repr of data, where nothing is being shown -/
def ReprD (d : PyData) (Q : PyData → Prop) : Prop := showB d = true ∧ d.depth ≤ 60 ∧ d.shown.length ≤ lim ∧ Q (.str d.shown)
def rReprD (K : PySem.W.Frag) : List V → Hp → VK → Prop := fun xs H Q => ∃ p d, xs = [.ref p] ∧ Dp K H (.ref p) d ∧ showB d = true ∧ d.depth ≤ 60 ∧ d.shown.length ≤ lim ∧ Q (.str d.shown) H
theorem cr_reprD {X : Cx} (hdg : dgOk X.K = true) (hg : X.A.guards = some []) (hu : X.A.units + 64 < cLine) : CallR X (.builtin "repr") (rReprD X.K) := by
  intro pins s σ H vs us Q I r h
  obtain ⟨p, d, rfl, hd, hs, hdp, hz, q⟩ := h
  obtain ⟨u, rfl, ru⟩ := vals1 r
  obtain ⟨as, rd⟩ := Dp.rd I d _ u hd ru
  cases ru
  refine repr_of_readsB (I.mod.kin.keeps I.bk) hdg rd hs hg (by omega) (fun h' u' tk kp => ?_) hz
  exact ⟨.str d.shown, H, I.kept kp, ⟨_, rfl⟩, q⟩
theorem we_repr (hG : G.grd = true) (hdg : dgOk G.K = true) (hm : G.mg "repr" = none) (hg : ("repr" : Str) ∈ M.gl) (h : WB G M F a Γ fun d => SeqD d (fun _ => True) ∧ ReprD d Q) (hs : ∀ env, starEach [a] env = [(false, eval a env)] := by intro _; rfl) : WE G M F (.Call (.Name "repr" p) [a] [] pos) Γ Q := by
  refine we_b1 (fun X gd => by have := @cr_reprD X (by rw [gd.K]; exact hdg) (gd.grd hG) gd.room.units; rw [gd.K] at this; exact this) hg hm (by decide +kernel) h ?_ (hs := hs)
  intro σ H S v d g hd ⟨r0, r1, r2, r3, r4⟩ Q' k
  have hp := hd.dp g.ex
  have z : ∃ t, v = .ref t := by
    cases d <;> try exact r0.elim
    · obtain ⟨t, _, e, _⟩ := hd.l g.ex; exact ⟨t, e⟩
    · obtain ⟨t, _, e, _⟩ := hd.t g.ex; exact ⟨t, e⟩
  obtain ⟨t, rfl⟩ := z
  exact ⟨t, d, rfl, hp, r1, r2, r3, k _ _ (PostE.here g (.str _) r4)⟩
end
end DW
namespace DW
open PySem PySem.Spec L2
open PyProof.Rows hiding St
structure DE where
  nx : List Bd → Prop
  rt : PyData → Prop
  bk : List Bd → Prop := fun _ => False
  ct : List Bd → Prop := fun _ => False
def PostS (K : PySem.W.Frag) (F : Fx) (n : Nat) (S : Hp) (N : List Bd → Prop) : St → Hp → Prop := fun σ' H' => ∃ Γ' S', σ'.length = n ∧ Γ'.length = n ∧ GRel K F Γ' σ' H' S' ∧ Same S S' ∧ N Γ'
def PostR (K : PySem.W.Frag) (F : Fx) (S : Hp) (R : PyData → Prop) : VK := fun v H' => ∃ S' d, GRel K F [] [] H' S' ∧ Same S S' ∧ Dp K S' v d ∧ R d
def ends (K : PySem.W.Frag) (F : Fx) (n : Nat) (D : DE) (S : Hp) : Ends := ⟨PostS K F n S D.nx, PostR K F S D.rt, PostS K F n S D.bk, PostS K F n S D.ct⟩
structure WS (G : Gd) (M : Nm) (F : Fx) (st : List Stmt) (Γ : List Bd) (D : DE) : Prop where
  run : Γ.length = M.N.length → ∀ X, Good G M X → ∀ σ H S, σ.length = M.N.length → GRel G.K F Γ σ H S → tWb X st (ends G.K F M.N.length D S) σ H
structure W1 (G : Gd) (M : Nm) (F : Fx) (st : Stmt) (Γ : List Bd) (D : DE) : Prop where
  run : Γ.length = M.N.length → ∀ X, Good G M X → ∀ σ H S, σ.length = M.N.length → GRel G.K F Γ σ H S → tWs X st (ends G.K F M.N.length D S) σ H
/-- a target -/
structure WG (G : Gd) (M : Nm) (F : Fx) (tg : Expr) (d : PyData) (Γ : List Bd) (N : List Bd → Prop) : Prop where
  run : Γ.length = M.N.length → ∀ X, Good G M X → ∀ σ H S v, σ.length = M.N.length → GRel G.K F Γ σ H S → Dp G.K S v d → tWg X tg v σ H (PostS G.K F M.N.length S N)
section
variable {K : PySem.W.Frag} {F : Fx} {n : Nat} {S S1 : Hp} {N : List Bd → Prop} {R : PyData → Prop} {σ : St} {H : Hp} {v : V}
theorem PostS.ahead (e : Same S S1) (h : PostS K F n S1 N σ H) : PostS K F n S N σ H := by
  obtain ⟨Γ', S', h1, h1', h2, h3, h4⟩ := h
  exact ⟨Γ', S', h1, h1', h2, e.trans h3, h4⟩
theorem PostR.ahead (e : Same S S1) (h : PostR K F S1 R v H) : PostR K F S R v H := by
  obtain ⟨S', d, h2, h3, h4⟩ := h
  exact ⟨S', d, h2, e.trans h3, h4⟩
theorem ends_ahead {X : Cx} {st : List Stmt} {D : DE} (e : Same S S1) (h : tWb X st (ends K F n D S1) σ H) : tWb X st (ends K F n D S) σ H := h.mono (fun _ _ => PostS.ahead e) (fun _ _ => PostR.ahead e) (fun _ _ => PostS.ahead e) (fun _ _ => PostS.ahead e)
end
section
variable {G : Gd} {M : Nm} {F : Fx} {Γ : List Bd} {D : DE} {pos p p2 p3 : Pos} {a b c e o : Expr} {es : List Expr} {st : Stmt} {sts t1 t2 : List Stmt}
theorem ws_nil (h : D.nx Γ) : WS G M F [] Γ D := ⟨fun hΓ X gd σ H S hl g => tWb.of pss_nil ⟨Γ, S, hl, hΓ, g, Same.refl S, h⟩⟩
theorem ws_cons (h : W1 G M F st Γ { D with nx := fun Γ' => WS G M F sts Γ' D }) : WS G M F (st :: sts) Γ D := by
  refine ⟨fun hΓ X gd σ H S hl g => tWb.of (pss_cons (ps_w st) (pss_w sts)) ?_⟩
  show tWs X st { ends G.K F M.N.length D S with nx := tWb X sts (ends G.K F M.N.length D S) } σ H
  refine (h.run hΓ X gd σ H S hl g).mono (fun σ' H' q => ?_) (fun _ _ q => q) (fun _ _ q => q) fun _ _ q => q
  obtain ⟨Γ', S', h1, h1', h2, h3, h4⟩ := q
  exact ends_ahead h3 (h4.run h1' X gd σ' H' S' h1 h2)
/-- a list of one's own stays from here on -/
theorem ws_freeze (i : Nat) {ds : List PyData} (hi : Γ[i]? = some (Bd.mu ds)) (h : WS G M F sts (Γ.set i (Bd.im (.list ds))) D) : WS G M F sts Γ D := by
  refine ⟨fun hΓ X gd σ H S hl g => ?_⟩
  obtain ⟨S', g', e'⟩ := g.freeze hi
  exact ends_ahead e' (h.run (by rw [List.length_set]; exact hΓ) X gd σ H S' hl g')
theorem w1_set (i : Nat) {x : Str} (hx : Sto M i x) (h : WE G M F e Γ fun d => D.nx (Γ.set i (Bd.im d))) (hs : ∀ env, swapsWith e (some (.Name x p)) pos.line env = pure false := by intro _; rfl) : W1 G M F (.Assign [.Name x p] e pos) Γ D := by
  refine ⟨fun hΓ X gd σ H S hl g => tWs.of (ps_set gd.nd (gd.at hx.1) (gd.sto hx).1 (pe_w e) (hs X.env) (gd.sto hx).2) ?_⟩
  exact (h.run X gd σ H S hl g).mono fun v H1 ⟨S1, d, g1, e1, _, hd, q⟩ => ⟨_, S1, by rw [List.length_set]; exact hl, by rw [List.length_set]; exact hΓ, g1.store (hΓ.trans hl.symm) hd, e1, q⟩
theorem w1_doc {x : Str} {j : Nat} (h : D.nx Γ) : W1 G M F (.Expr (.Constant (.str x) j p) pos) Γ D := ⟨fun hΓ X gd σ H S hl g => tWs.of ps_doc ⟨Γ, S, hl, hΓ, g, Same.refl S, h⟩⟩
theorem w1_ret (h : WE G M F e Γ D.rt) : W1 G M F (.Return (some e) pos) Γ D := by
  refine ⟨fun hΓ X gd σ H S hl g => tWs.of (ps_ret (pe_w e)) ?_⟩
  exact (h.run X gd σ H S hl g).mono fun v H1 ⟨S1, d, g1, e1, _, hd, q⟩ => ⟨S1, d, g1.nil, e1, hd, q⟩
theorem w1_retN (h : D.rt .none) : W1 G M F (.Return none pos) Γ D := ⟨fun hΓ X gd σ H S hl g => tWs.of ps_retN ⟨S, .none, g.nil, Same.refl S, .non, h⟩⟩
theorem w1_pass (h : D.nx Γ) : W1 G M F (.Pass pos) Γ D := ⟨fun hΓ X gd σ H S hl g => tWs.of ps_pass ⟨Γ, S, hl, hΓ, g, Same.refl S, h⟩⟩
theorem w1_break (h : D.bk Γ) : W1 G M F (.Break pos) Γ D := ⟨fun hΓ X gd σ H S hl g => tWs.of ps_break ⟨Γ, S, hl, hΓ, g, Same.refl S, h⟩⟩
theorem w1_cont (h : D.ct Γ) : W1 G M F (.Continue pos) Γ D := ⟨fun hΓ X gd σ H S hl g => tWs.of ps_continue ⟨Γ, S, hl, hΓ, g, Same.refl S, h⟩⟩
theorem w1_if (h : WT G M F c Γ fun x => (x = true → WS G M F t1 Γ D) ∧ (x = false → WS G M F t2 Γ D)) : W1 G M F (.If c t1 t2 pos) Γ D := by
  refine ⟨fun hΓ X gd σ H S hl g => tWs.of (ps_if (pt_w c) (pss_w t1) (pss_w t2)) ((h.run X gd σ H S hl g).mono fun x H1 ⟨S1, g1, e1, _, q1, q2⟩ => ?_)⟩
  cases x with
  | true => rw [if_pos rfl]; exact ends_ahead e1 ((q1 rfl).run hΓ X gd σ H1 S1 hl g1)
  | false => rw [if_neg Bool.false_ne_true]; exact ends_ahead e1 ((q2 rfl).run hΓ X gd σ H1 S1 hl g1)
theorem wg_name (i : Nat) {x : Str} {d : PyData} {N : List Bd → Prop} (hx : Sto M i x) (h : N (Γ.set i (Bd.im d))) : WG G M F (.Name x p) d Γ N :=
  ⟨fun hΓ X gd σ H S v hl g hd => tWg.of (pg_name gd.nd (gd.at hx.1) (gd.sto hx).1 (gd.sto hx).2) ⟨_, S, by rw [List.length_set]; exact hl, by rw [List.length_set]; exact hΓ, g.store (hΓ.trans hl.symm) hd, Same.refl S, h⟩⟩
def tWgs (X : Cx) (tgs : List Expr) : TGs := fun vs σ H Q => ∀ pins s us, Inv X pins σ H s → Vals vs us → wpAny (model X.prog X.w) X.A (assignInOrder ((assignEach tgs X.env).map (·.2)) us) (fun _ s' => ∃ σ' H', Inv X pins σ' H' s' ∧ Q σ' H') X.xe s
theorem pgs_w {X : Cx} (tgs : List Expr) : PGs X tgs (tWgs X tgs) := ⟨fun pins s _ _ _ us _ I r h => h pins s us I r⟩
theorem tWgs.of {X : Cx} {tgs : List Expr} {t : TGs} {vs : List V} {σ : St} {H : Hp} {Q : St → Hp → Prop} (p : PGs X tgs t) (h : t vs σ H Q) : tWgs X tgs vs σ H Q := fun pins s us I r => p.run pins s σ H vs us Q I r h
structure WH (G : Gd) (M : Nm) (F : Fx) (tgs : List Expr) (ds : List PyData) (Γ : List Bd) (N : List Bd → Prop) : Prop where
  run : Γ.length = M.N.length → ∀ X, Good G M X → ∀ σ H S vs, σ.length = M.N.length → GRel G.K F Γ σ H S → DpAll G.K S vs ds → tWgs X tgs vs σ H (PostS G.K F M.N.length S N)
theorem tWgs.mono {X : Cx} {tgs : List Expr} {vs : List V} {σ : St} {H : Hp} {Q Q' : St → Hp → Prop} (h : tWgs X tgs vs σ H Q) (k : ∀ σ' H', Q σ' H' → Q' σ' H') : tWgs X tgs vs σ H Q' :=
  fun pins s u I r => thn (h pins s u I r) fun _ _ ⟨σ', H', I', q⟩ => ⟨σ', H', I', k _ _ q⟩
theorem wh_nil {N : List Bd → Prop} (h : N Γ) : WH G M F [] [] Γ N := ⟨fun hΓ X gd σ H S vs hl g hd => tWgs.of pgs_nil ⟨by cases hd; rfl, Γ, S, hl, hΓ, g, Same.refl S, h⟩⟩
theorem wh_cons {d : PyData} {ds : List PyData} {N : List Bd → Prop} (h : WG G M F e d Γ fun Γ' => WH G M F es ds Γ' N) (hs : ∀ env, (assignEach (e :: es) env).map (·.2) = assign e env :: (assignEach es env).map (·.2) := by intro _; rfl) : WH G M F (e :: es) (d :: ds) Γ N := by
  refine ⟨fun hΓ X gd σ H S vs hl g hd => ?_⟩
  cases hd with
  | cons h1 h2 =>
    refine tWgs.of (pgs_cons (pg_w e) (pgs_w es) (hs X.env)) ⟨_, _, rfl, (h.run hΓ X gd σ H S _ hl g h1).mono fun σ' H' ⟨Γ', S', q1, q1', q2, q3, q4⟩ => ?_⟩
    exact (q4.run q1' X gd σ' H' S' _ q1 q2 (dpa_mono q3 h2)).mono fun _ _ => PostS.ahead q3
theorem wg_tup {k n : Nat} {ds : List PyData} {N : List Bd → Prop} (hl' : ds.length = n) (h : WH G M F es ds Γ N) (hn : ∀ env, (assignEach es env).length = n := by intro _; rfl) (hst : ∀ env, (assignEach es env).findIdx? (·.1) = none := by intro _; rfl) : WG G M F (.Tuple es k p) (.tuple ds) Γ N := by
  refine ⟨fun hΓ X gd σ H S v hl g hd => tWg.of (pg_tup gd.calm (pgs_w es) (hn X.env) (hst X.env)) ?_⟩
  cases hd with
  | tup h1 h2 =>
    rw [gd.K]
    exact ⟨_, _, rfl, same_t g.ex h1, h2.len.trans hl', h.run hΓ X gd σ H S _ hl g h2⟩
theorem w1_asg {tg : Expr} (h : WE G M F e Γ fun d => WG G M F tg d Γ D.nx) (hs : ∀ env, swapsWithSole [tg] e pos.line env = pure false := by intro _; rfl) (hw : ∀ env, swappedStores [tg] e env = pure none := by intro _; rfl)
    (h1 : ∀ env, (assignEach [tg] env).map (·.2) = [assign tg env] := by intro _; rfl) : W1 G M F (.Assign [tg] e pos) Γ D := by
  refine ⟨fun hΓ X gd σ H S hl g => tWs.of (ps_asg (pe_w e) (pg_w tg) (hs X.env) (hw X.env) (h1 X.env)) ((h.run X gd σ H S hl g).mono fun v H1 ⟨S1, d, g1, e1, _, hd, q⟩ => ?_)⟩
  exact (q.run hΓ X gd σ H1 S1 v hl g1 hd).mono fun _ _ => PostS.ahead e1
def noStar (vs : List Expr) : Bool := vs.all fun | .Starred .. => false | _ => true
def isStarE (e : Expr) : Bool := match e with | .Starred .. => true | _ => false
theorem noStar_one {a : Expr} {vs : List Expr} (h : noStar vs = true) (m : a ∈ vs) : isStarE a = false := by
  unfold noStar at h
  have := List.all_eq_true.mp h a m
  cases a <;> first | rfl | exact nomatch this
theorem swap2 {env : Env} {x y : Str} {px py pt pt2 : Pos} {kt k2} {a b : Expr} (h1 : env.scope.kind = .function) (h2 : env.scope.names.lookup x = some .local) (h3 : env.scope.names.lookup y = some .local)
    (hs : noStar [a, b] = true) (hf : [a, b].all (foldedForSure 8) = false) (hc : [a, b].all (constantsAlone 8) = false) (hl : (py.line == px.line) = true) (hxy : x ≠ y) :
    swappedStores [.Tuple [.Name x px, .Name y py] kt pt] (.Tuple [a, b] k2 pt2) env = pure (some [x, y]) := by
  have hb : env.blockKind = .function := by unfold Env.blockKind; rw [h1]; rfl
  have e1 : env.kindOf x = some .local := h2
  have e2 : env.kindOf y = some .local := h3
  have e3 : ¬ y = x := fun z => hxy z.symm
  have e4 : py.line = px.line := eq_of_beq hl
  have f1 := noStar_one hs (List.Mem.head _ : a ∈ [a, b])
  have f2 := noStar_one hs (List.Mem.tail _ (List.Mem.head _) : b ∈ [a, b])
  have f3 : (y == x) = false := beq_eq_false_iff_ne.mpr e3
  simp only [swappedStores, hb, hf, hc]
  simp [f3, e1, e2, hl, hxy, e3, e4, List.eraseDups, List.eraseDupsBy, Expr.pos, List.eraseDupsBy.loop]
  intro z
  rcases z with z | z
  · exact absurd (f1.symm.trans z) (by decide)
  · exact absurd (f2.symm.trans z) (by decide)
theorem swap3 {env : Env} {x y z : Str} {px py pz pt pt2 : Pos} {kt k2} {a b c : Expr} (h1 : env.scope.kind = .function) (h2 : env.scope.names.lookup x = some .local) (h3 : env.scope.names.lookup y = some .local) (h4 : env.scope.names.lookup z = some .local)
    (hs : noStar [a, b, c] = true) (hf : [a, b, c].all (foldedForSure 8) = false) (hc : [a, b, c].all (constantsAlone 8) = false) (hl : (py.line == px.line && pz.line == px.line) = true) (hxy : x ≠ y) (hxz : x ≠ z) (hyz : y ≠ z) :
    swappedStores [.Tuple [.Name x px, .Name y py, .Name z pz] kt pt] (.Tuple [a, b, c] k2 pt2) env = pure (some [x, y, z]) := by
  have hb : env.blockKind = .function := by unfold Env.blockKind; rw [h1]; rfl
  have e1 : env.kindOf x = some .local := h2
  have e2 : env.kindOf y = some .local := h3
  have e6 : env.kindOf z = some .local := h4
  rw [Bool.and_eq_true] at hl
  have e4 : py.line = px.line := eq_of_beq hl.1
  have e7 : pz.line = px.line := eq_of_beq hl.2
  have f1 := noStar_one hs (List.Mem.head _ : a ∈ [a, b, c])
  have f2 := noStar_one hs (List.Mem.tail _ (List.Mem.head _) : b ∈ [a, b, c])
  have f4 := noStar_one hs (List.Mem.tail _ (List.Mem.tail _ (List.Mem.head _)) : c ∈ [a, b, c])
  have f3 : (y == x) = false := beq_eq_false_iff_ne.mpr hxy.symm
  have f5 : (z == x) = false := beq_eq_false_iff_ne.mpr hxz.symm
  have f6 : (z == y) = false := beq_eq_false_iff_ne.mpr hyz.symm
  simp only [swappedStores, hb, hf, hc]
  simp [f3, f5, f6, e1, e2, e6, hxy, hxz, hyz, hxy.symm, hxz.symm, hyz.symm, e4, e7, List.eraseDups, List.eraseDupsBy, Expr.pos, List.eraseDupsBy.loop]
  intro z
  rcases z with z | z | z
  · exact absurd (f1.symm.trans z) (by decide)
  · exact absurd (f2.symm.trans z) (by decide)
  · exact absurd (f4.symm.trans z) (by decide)
/-- a, b = x, y, plain locals -/
theorem w1_par (i j : Nat) {x y : Str} {px py pt pt2 : Pos} {kt k2} (hx : Lcl M i x) (hy : Lcl M j y) (hij : i ≠ j) (h : WL G M F [a, b] Γ fun ds => ∃ d d', ds = [d, d'] ∧ D.nx ((Γ.set i (Bd.im d)).set j (Bd.im d')))
    (hs1 : noStar [a, b] = true := by rfl) (hf : [a, b].all (foldedForSure 8) = false := by rfl) (hc : [a, b].all (constantsAlone 8) = false := by rfl) (hln : (py.line == px.line) = true := by rfl) (hxy : x ≠ y := by decide)
    (hs : ∀ env, swapsWithSole [.Tuple [.Name x px, .Name y py] kt pt] (.Tuple [a, b] k2 pt2) pos.line env = pure false := by intro _; rfl) : W1 G M F (.Assign [.Tuple [.Name x px, .Name y py] kt pt] (.Tuple [a, b] k2 pt2) pos) Γ D := by
  refine ⟨fun hΓ X gd σ H S hl g pins s I => ?_⟩
  refine (tWs.of (ps_par gd.calm gd.nd (gd.at hx.1) (gd.at hy.1) hij (gd.lcl hx) (gd.lcl hy) (pa_w [a, b]) (swap2 I.ok.kind (gd.lcl hx) (gd.lcl hy) hs1 hf hc hln hxy) (hs X.env)) ?_) pins s I
  refine (h.run X gd σ H S hl g).mono fun vs H1 ⟨S1, ds, g1, e1, _, hd, d, d', eds, q⟩ => ?_
  subst eds
  cases hd with
  | cons h1 h2 =>
    cases h2 with
    | cons h2 h3 =>
      cases h3
      exact ⟨_, _, rfl, _, S1, by simp [hl], by simp [hΓ], (g1.store (hΓ.trans hl.symm) h1).store (by simp [hΓ, hl]) h2, e1, q⟩
def PostF (K : PySem.W.Frag) (F : Fx) (Γ : List Bd) (σ : St) (H S : Hp) (Q : List PyData → Prop) : VK := fun v H' => ∃ S' p xs ds, v = .ref p ∧ H p = none ∧ H' p = some (.lst xs) ∧ S' p = none ∧ F.H0 p = none ∧ (∀ (j : Nat) (es : List PyData), Γ[j]? = some (Bd.mu es) → σ[j]? ≠ some (some (.ref p))) ∧
  GRel K F Γ σ H' S' ∧ Same S S' ∧ Kq F H S H' S' ∧ DpAll K S' xs ds ∧ Q ds
structure WF (G : Gd) (M : Nm) (F : Fx) (e : Expr) (Γ : List Bd) (Q : List PyData → Prop) : Prop where
  run : ∀ X, Good G M X → ∀ σ H S, σ.length = M.N.length → GRel G.K F Γ σ H S → tW X e σ H (PostF G.K F Γ σ H S Q)
theorem PostF.ahead {K : PySem.W.Frag} {σ : St} {H S H1 S1 H' : Hp} {v : V} {Q : List PyData → Prop} (e : Same S S1) (k : Kq F H S H1 S1) (h : PostF K F Γ σ H1 S1 Q v H') : PostF K F Γ σ H S Q v H' := by
  obtain ⟨S', p, xs, ds, h1, h0, h2, h3, h4, h5, h6, h7, h8, h9⟩ := h
  refine ⟨S', p, xs, ds, h1, ?_, h2, h3, h4, h5, h6, e.trans h7, k.trans h8, h9⟩
  cases q : H p with
  | none => rfl
  | some w =>
    obtain ⟨u, e'⟩ := k.dom p w q
    rw [h0] at e'; cases e'
theorem PostF.new {K : PySem.W.Frag} {σ : St} {H S : Hp} {p : Addr} {xs : List V} {ds : List PyData} {Q : List PyData → Prop} (g : GRel K F Γ σ H S) (hp : H p = none) (h : DpAll K S xs ds) (q : Q ds) : PostF K F Γ σ H S Q (.ref p) (upd H p (.lst xs)) := by
  refine ⟨S, p, xs, ds, rfl, hp, upd_same, g.sNone hp, g.h0 hp, fun j es hj z => ?_, g.more _ hp, Same.refl S, Kq.more hp, h, q⟩
  obtain ⟨a, ys, h1, h2, _⟩ := g.own j es hj
  rw [z] at h1
  cases h1
  rw [hp] at h2
  cases h2
/-- a new list that stays -/
theorem PostF.stay {K : PySem.W.Frag} {F : Fx} {Γ : List Bd} {σ : St} {H S H' : Hp} {v : V} {Q : PyData → Prop} (h : PostF K F Γ σ H S (fun ds => Q (.list ds)) v H') : PostE K F Γ σ H S Q v H' := by
  obtain ⟨S', p, xs, ds, e0, h0, h1, h2, h3, h5, g', e', k', hd, q⟩ := h
  subst e0
  have sm : Same S' (upd S' p (.lst xs)) := same_new h2
  refine ⟨upd S' p (.lst xs), _, ?_, e'.trans sm, ⟨k'.kp, k'.dom, fun a u z => ?_⟩, .lst (.inl (.inl upd_same)) (dpa_mono sm hd), q⟩
  rotate_left
  · by_cases w : a = p
    · subst w; exact .inr h0
    · rw [upd_ne w] at z; exact k'.nw a u z
  refine ⟨fun a u z => ?_, g'.s0.trans sm, fun a u z => ?_, g'.keep, fun b hb => ?_, fun i d hi => ?_, fun i ds hi => ?_, g'.raw, g'.sep, g'.td.upd trivial, g'.dm, g'.tab⟩
  · by_cases w : a = p
    · subst w; rw [upd_same] at z; rw [h1]; exact z
    · rw [upd_ne w] at z; exact g'.ex a u z
  · by_cases w : a = p
    · subst w; exact .inr h3
    · rw [upd_ne w] at z; exact g'.nw a u z
  · obtain ⟨q1, ⟨o, q2⟩, q3⟩ := g'.bag b hb
    have ne : b ≠ p := fun w => by rw [w, h3] at q2; cases q2
    exact ⟨by rw [upd_ne ne]; exact q1, ⟨o, q2⟩, q3.mono sm rfl⟩
  · obtain ⟨v, w1, w2⟩ := g'.loc i d hi
    exact ⟨v, w1, dp_mono sm w2⟩
  · obtain ⟨a, ys, w1, w2, w3, w4, w5⟩ := g'.own i ds hi
    have ne : a ≠ p := fun w => h5 i ds hi (w ▸ w1)
    exact ⟨a, ys, w1, w2, by rw [upd_ne ne]; exact w3, w4, dpa_mono sm w5⟩
theorem we_fresh {Q : PyData → Prop} (h : WF G M F e Γ fun ds => Q (.list ds)) : WE G M F e Γ Q := ⟨fun X gd σ H S hl g => (h.run X gd σ H S hl g).mono fun v H' p => p.stay⟩
theorem wf_list {Q : List PyData → Prop} (h : WL G M F es Γ fun ds => ds.length ≤ lim ∧ Q ds) : WF G M F (.List es pos) Γ Q := by
  refine ⟨fun X gd σ H S hl g => tW.of (pe_lst (pa_w es)) ((h.run X gd σ H S hl g).mono fun vs H1 ⟨S1, ds, g1, e1, k1, hd, z, q⟩ => ?_)⟩
  exact ⟨by rw [hd.len]; exact z, fun p hp => (PostF.new g1 hp hd q).ahead e1 k1⟩
theorem wf_lst {Q : List PyData → Prop} (hm : G.mg "list" = none) (hg : ("list" : Str) ∈ M.gl) (h : WB G M F a Γ fun d => SeqD d Q) (hs : ∀ env, starEach [a] env = [(false, eval a env)] := by intro _; rfl) : WF G M F (.Call (.Name "list" p) [a] [] pos) Γ Q := by
  refine ⟨fun X gd σ H S hl g => tW.of (pe_callTy call_list_of (gd.gl hg) (by rw [gd.mg]; exact hm) (by decide +kernel) (pa_cons (pe_w a) pa_nil (hs X.env)) (he := hs X.env) (hpl := rfl)) ?_⟩
  refine (h.run X gd σ H S hl g).mono fun v H1 ⟨S1, d, g1, e1, k1, hd, q⟩ => ?_
  rw [gd.K]
  cases d <;> try exact q.elim
  · obtain ⟨t, us, rfl, s1, d1⟩ := hd.l g1.ex
    exact ⟨t, us, rfl, .inl s1, fun l hl => (PostF.new g1 hl d1 q).ahead e1 k1⟩
  · obtain ⟨t, us, rfl, s1, d1⟩ := hd.t g1.ex
    exact ⟨t, us, rfl, .inr s1, fun l hl => (PostF.new g1 hl d1 q).ahead e1 k1⟩
theorem w1_own (i : Nat) {x : Str} (hx : Sto M i x) (h : WF G M F e Γ fun ds => D.nx (Γ.set i (Bd.mu ds))) (hs : ∀ env, swapsWith e (some (.Name x p)) pos.line env = pure false := by intro _; rfl) : W1 G M F (.Assign [.Name x p] e pos) Γ D := by
  refine ⟨fun hΓ X gd σ H S hl g => tWs.of (ps_set gd.nd (gd.at hx.1) (gd.sto hx).1 (pe_w e) (hs X.env) (gd.sto hx).2) ?_⟩
  refine (h.run X gd σ H S hl g).mono fun v H1 ⟨S1, p, xs, ds, e0, _, h1, h2, h3, h5, g1, e1, _, hd, q⟩ => ?_
  subst e0
  exact ⟨_, S1, by rw [List.length_set]; exact hl, by rw [List.length_set]; exact hΓ, g1.storeMu (hΓ.trans hl.symm) h1 h2 h3 hd h5, e1, q⟩
theorem w1_append (i : Nat) {x : Str} {ds : List PyData} (hx : Rdb M i x) (hi : Γ[i]? = some (Bd.mu ds)) (h : WE G M F e Γ fun d => ds.length < lim ∧ D.nx (Γ.set i (Bd.mu (ds ++ [d]))))
   
    (hbase : ∀ env, attributeBase (.Name x p) "append" env (eval (.Name x p) env) = eval (.Name x p) env := by intro _; rfl)
    (hfew : ∀ env, ((backTo p3 (starEach [e] env)).all (fun x => !x.1) && (backToKw p3 (keywordEach [] env)).all (fun x => x.1.isSome) && decide ([e].length + ([] : List Keyword).length + (if ([] : List Keyword).isEmpty then 0 else 1) < 30)) = true := by intro _; rfl)
    (hline : (p2.endLine == p3.line) = true := by rfl) (hs : ∀ env, starEach [e] env = [(false, eval e env)] := by intro _; rfl) :
    W1 G M F (.Expr (.Call (.Attribute (.Name x p) "append" p2) [e] [] p3) pos) Γ D := by
  refine ⟨fun hΓ X gd σ H S hl g => tWs.of (ps_expr (pe_bm PySem.F.plainAttrs_list PySem.F.slot_list_append PySem.F.type_list_append mt_append (pe_var (gd.at hx.1) (gd.vis hx) hx.2.2.1 hx.2.2.2) (pa_cons (pe_w e) pa_nil (hs X.env)) (hbase X.env) (hfew X.env) hline (hs X.env) (by rfl)) (by rfl)) ?_⟩
  obtain ⟨a, xs, h1, h2, _⟩ := g.own i ds hi
  refine ⟨_, h1, .inl ⟨rfl, xs, SqL.of h2⟩, ?_⟩
  refine (h.run X gd σ H S hl g).mono fun v H1 ⟨S1, d, g1, e1, _, hd, z, q⟩ => ?_
  obtain ⟨b, ys, k1, k2, k3, k4, k5⟩ := g1.own i ds hi
  rw [h1] at k1
  cases k1
  exact ⟨a, ys, v, rfl, rfl, k2, by rw [k5.len]; exact z, _, S1, hl, by rw [List.length_set]; exact hΓ, g1.change hi h1 (k5.app (.one hd)), e1, q⟩
theorem w1_extend (i : Nat) {x : Str} {ds : List PyData} (hx : Rdb M i x) (hi : Γ[i]? = some (Bd.mu ds)) (h : WF G M F e Γ fun es => ds.length + es.length ≤ lim ∧ D.nx (Γ.set i (Bd.mu (ds ++ es))))
    (hbase : ∀ env, attributeBase (.Name x p) "extend" env (eval (.Name x p) env) = eval (.Name x p) env := by intro _; rfl)
    (hfew : ∀ env, ((backTo p3 (starEach [e] env)).all (fun x => !x.1) && (backToKw p3 (keywordEach [] env)).all (fun x => x.1.isSome) && decide ([e].length + ([] : List Keyword).length + (if ([] : List Keyword).isEmpty then 0 else 1) < 30)) = true := by intro _; rfl)
    (hline : (p2.endLine == p3.line) = true := by rfl) (hs : ∀ env, starEach [e] env = [(false, eval e env)] := by intro _; rfl) :
    W1 G M F (.Expr (.Call (.Attribute (.Name x p) "extend" p2) [e] [] p3) pos) Γ D := by
  refine ⟨fun hΓ X gd σ H S hl g => tWs.of (ps_expr (pe_bm PySem.F.plainAttrs_list PySem.F.slot_list_extend PySem.F.type_list_extend mt_extend (pe_var (gd.at hx.1) (gd.vis hx) hx.2.2.1 hx.2.2.2) (pa_cons (pe_w e) pa_nil (hs X.env)) (hbase X.env) (hfew X.env) hline (hs X.env) (by rfl)) (by rfl)) ?_⟩
  obtain ⟨a, xs, h1, h2, _⟩ := g.own i ds hi
  refine ⟨_, h1, .inl ⟨rfl, xs, SqL.of h2⟩, ?_⟩
  refine (h.run X gd σ H S hl g).mono fun v H1 ⟨S1, p, zs, es, e0, _, w1, w2, w3, w5, g1, e1, _, hd, z, q⟩ => ?_
  subst e0
  obtain ⟨b, ys, k1, k2, k3, k4, k5⟩ := g1.own i ds hi
  rw [h1] at k1
  cases k1
  exact ⟨a, p, ys, zs, rfl, rfl, k2, w1, by rw [k5.len, hd.len]; exact z, _, S1, hl, by rw [List.length_set]; exact hΓ, g1.change hi h1 (k5.app hd), e1, q⟩
theorem w1_insert (i : Nat) {x : Str} {ds : List PyData} (hx : Rdb M i x) (hi : Γ[i]? = some (Bd.mu ds)) (h : WL G M F [a, b] Γ fun es => ∃ k d, es = [.int k, d] ∧ ds.length < lim ∧ 0 ≤ k ∧ k < 2 ^ 63 ∧ D.nx (Γ.set i (Bd.mu (ds.take k.toNat ++ [d] ++ ds.drop k.toNat))))
   
    (hbase : ∀ env, attributeBase (.Name x p) "insert" env (eval (.Name x p) env) = eval (.Name x p) env := by intro _; rfl)
    (hfew : ∀ env, ((backTo p3 (starEach [a, b] env)).all (fun x => !x.1) && (backToKw p3 (keywordEach [] env)).all (fun x => x.1.isSome) && decide ([a, b].length + ([] : List Keyword).length + (if ([] : List Keyword).isEmpty then 0 else 1) < 30)) = true := by intro _; rfl)
    (hline : (p2.endLine == p3.line) = true := by rfl) (hs : ∀ env, starEach [a, b] env = (false, eval a env) :: starEach [b] env := by intro _; rfl) (hpl : ∀ env, (backTo p3 (starEach [b] env)).any (·.1) = false := by intro _; rfl) :
    W1 G M F (.Expr (.Call (.Attribute (.Name x p) "insert" p2) [a, b] [] p3) pos) Γ D := by
  refine ⟨fun hΓ X gd σ H S hl g => tWs.of (ps_expr (pe_bm PySem.F.plainAttrs_list PySem.F.slot_list_insert PySem.F.type_list_insert mt_insert (pe_var (gd.at hx.1) (gd.vis hx) hx.2.2.1 hx.2.2.2) (pa_w [a, b]) (hbase X.env) (hfew X.env) hline (hs X.env) (hpl X.env)) (by rfl)) ?_⟩
  obtain ⟨t, xs, h1, h2, _⟩ := g.own i ds hi
  refine ⟨_, h1, .inl ⟨rfl, xs, SqL.of h2⟩, ?_⟩
  refine (h.run X gd σ H S hl g).mono fun vs H1 ⟨S1, es, g1, e1, _, hd, k, d, ees, z, r1, r2, q⟩ => ?_
  subst ees
  obtain ⟨b, ys, k1, k2, k3, k4, k5⟩ := g1.own i ds hi
  rw [h1] at k1
  cases k1
  cases hd with
  | cons a1 a2 =>
    cases a2 with
    | cons a2 a3 =>
      cases a3
      cases a1
      exact ⟨t, ys, k, _, rfl, rfl, k2, by rw [k5.len]; exact z, r1, r2, _, S1, hl, by rw [List.length_set]; exact hΓ, g1.change hi h1 (((k5.take k.toNat).app (.one a2)).app (k5.drop k.toNat)), e1, q⟩
end
end DW
namespace DW
open PySem PySem.Spec L2
open PyProof.Rows hiding St
/-- what a turn yields: data that is there; one tuple laid anew; a couple laid anew of a number and a tuple laid anew -/
def Yd (K : PySem.W.Frag) (S H : Hp) (x : V) (H' : Hp) (d : PyData) : Prop :=
  (H' = H ∧ Dp K S x d) ∨ (∃ T xs es o, x = .ref T ∧ H T = none ∧ H' = upd H T o ∧ d = .tuple es ∧ DpAll K S xs es ∧ TupAs xs o) ∨
    ∃ T T' xs es o o' n, x = .ref T' ∧ H T = none ∧ H T' = none ∧ T' ≠ T ∧ H' = upd (upd H T o) T' o' ∧ d = .tuple [.int n, .tuple es] ∧ DpAll K S xs es ∧ TupAs xs o ∧ TupAs [.int n, .ref T] o'
structure IterOk (K : PySem.W.Frag) (J : It) (ds : List PyData) (S : Hp) : Prop where
  go : ∀ (i : Nat) (d : PyData) (H' S' : Hp), Same S S' → Same S' H' → ds[i]? = some d → J.go i H' ∧ ∀ x H'', J.yld i H' x H'' →
    Yd K S' H' x H'' d
  stop : ∀ (i : Nat) (H' S' : Hp), Same S S' → Same S' H' → ds.length = i → J.stop i H'
section
variable {K : PySem.W.Frag} {S : Hp}
theorem iter_list {a : Addr} {xs : List V} {ds : List PyData} (h : SqL K S a xs) (hd : DpAll K S xs ds) : IterOk K (Itl K a) ds S := by
  refine ⟨fun i d H' S' e x hi => ?_, fun i H' S' e x hi => ⟨xs, same_l (e.trans x) h, by rw [hd.len]; exact Nat.le_of_eq hi⟩⟩
  obtain ⟨v, h1, h2⟩ := hd.get hi
  refine ⟨⟨xs, v, same_l (e.trans x) h, h1⟩, fun y H'' ⟨h3, h4⟩ => .inl ⟨h3, ?_⟩⟩
  have := h4 xs (same_l (e.trans x) h)
  rw [h1] at this
  cases this
  exact dp_mono e h2
theorem iter_tup {a : Addr} {xs : List V} {ds : List PyData} (h : SqT K S a xs) (hd : DpAll K S xs ds) : IterOk K (Itt K a) ds S := by
  refine ⟨fun i d H' S' e x hi => ?_, fun i H' S' e x hi => ⟨xs, same_t (e.trans x) h, by rw [hd.len]; exact Nat.le_of_eq hi⟩⟩
  obtain ⟨v, h1, h2⟩ := hd.get hi
  refine ⟨⟨xs, v, same_t (e.trans x) h, h1⟩, fun y H'' ⟨h3, h4⟩ => .inl ⟨h3, ?_⟩⟩
  have := h4 xs (same_t (e.trans x) h)
  rw [h1] at this
  cases this
  exact dp_mono e h2
def rngD (lo : Int) (n : Nat) : List PyData := (List.range n).map fun i => PyData.int (lo + (i : Nat))
theorem rngD_len (lo : Int) (n : Nat) : (rngD lo n).length = n := by unfold rngD; rw [List.length_map, List.length_range]
theorem rngD_get {lo : Int} {n i : Nat} {d : PyData} (h : (rngD lo n)[i]? = some d) : i < n ∧ d = .int (lo + (i : Nat)) := by
  have hi : i < n := by
    have := (List.getElem?_eq_some_iff.mp h).1
    rwa [rngD_len] at this
  unfold rngD at h
  rw [List.getElem?_map, List.getElem?_range hi] at h
  exact ⟨hi, (Option.some.inj h).symm⟩
theorem iter_rng {lo : Int} {n : Nat} : IterOk K (Itr lo n) (rngD lo n) S := by
  refine ⟨fun i d H' S' e x hi => ?_, fun i H' S' e x hi => by rw [rngD_len] at hi; exact Nat.le_of_eq hi⟩
  obtain ⟨h1, rfl⟩ := rngD_get hi
  exact ⟨h1, fun y H'' ⟨h3, h4⟩ => .inl ⟨h3, by rw [h4]; exact .int _⟩⟩
def zipD (xs ys : List PyData) : List PyData := List.zipWith (fun x y => PyData.tuple [x, y]) xs ys
def enumD (xs : List PyData) : List PyData := xs.zipIdx.map fun p => PyData.tuple [.int (p.2 : Nat), p.1]
end
def tWi (X : Cx) (tg iter : Expr) : TI := fun σ H R => ∀ pins s, Inv X pins σ H s → wpAny (model X.prog X.w) X.A (eval iter X.env) (fun v s1 => wpAny (model X.prog X.w) X.A (pyIter v) (PIE X pins σ tg R) X.xe s1) X.xe s
theorem pi_w {X : Cx} (tg iter : Expr) : PI X tg iter (tWi X tg iter) := ⟨fun pins s _ _ _ I h => h pins s I⟩
theorem tWi.of {X : Cx} {tg iter : Expr} {t : TI} {σ : St} {H : Hp} {R : It → Hp → Prop} (p : PI X tg iter t) (h : t σ H R) : tWi X tg iter σ H R := fun pins s I => p.run pins s σ H R I h
theorem tW.knows {X : Cx} {e : Expr} {σ : St} {H : Hp} {Q : VK} (h : tW X e σ H fun v H' => (∃ pins s, Inv X pins σ H' s) → Q v H') : tW X e σ H Q :=
  fun pins s I => thn (h pins s I) fun _ s' ⟨v, H', I', r, q⟩ => ⟨v, H', I', r, q ⟨pins, s', I'⟩⟩
/-- a list or a tuple, whichever comes -/
def iSeq (K : PySem.W.Frag) (tl : TE) : TI := fun σ H R => tl σ H fun x H1 => ∃ a, x = .ref a ∧ ((∃ xs, SqL K H1 a xs ∧ R (Itl K a) H1) ∨ ∃ xs, SqT K H1 a xs ∧ R (Itt K a) H1)
theorem pi_seq {X : Cx} {tg l : Expr} {tl : TE} (hl : PE X l tl) : PI X tg l (iSeq X.K tl) := by
  refine ⟨fun pins s σ H R I h => thn (hl.run pins s σ H _ I h) ?_⟩
  rintro v s1 ⟨x, H1, I1, r1, a, ex, q⟩
  subst ex
  cases r1
  have one : ∀ b ∈ [s1.heap.objs.size], FpOk X pins H1 b := fun b hb => by
    rw [List.mem_singleton.mp hb]
    exact I1.fpOk (Nat.le_refl _) (I1.hok.fresh (Nat.le_refl _))
  rcases q with ⟨xs, hq, q⟩ | ⟨xs, hq, q⟩
  · obtain ⟨its, _, pl, _⟩ := I1.list hq
    refine wpAny_pyIter_list pl.isList ⟨_, [_], _, _, H1, rfl, ?_, turn_list a _, ⟨_, Heap.get?_push_size _ rfl, rfl, rfl⟩, one, q⟩
    exact I1.kept (t' := s1.toks) fun _ _ z => Heap.get?_push_of_some _ z
  · obtain ⟨its, _, pl, _⟩ := I1.tuple hq
    refine wpAny_pyIter_tuple (items := its.toArray) pl ⟨_, [_], _, _, H1, rfl, ?_, turn_tuple a _, ⟨_, Heap.get?_push_size _ rfl, rfl, rfl⟩, one, q⟩
    exact I1.kept (t' := s1.toks) fun _ _ z => Heap.get?_push_of_some _ z
structure WI (G : Gd) (M : Nm) (F : Fx) (tg iter : Expr) (Γ : List Bd) (Q : List PyData → Prop) : Prop where
  run : ∀ X, Good G M X → ∀ σ H S, σ.length = M.N.length → GRel G.K F Γ σ H S → tWi X tg iter σ H fun J H1 => ∃ S1 ds, GRel G.K F Γ σ H1 S1 ∧ Same S S1 ∧ Kq F H S H1 S1 ∧ IterOk G.K J ds S1 ∧ ds.length ≤ lim ∧ Q ds
/-- .. as long as all that is kept stays -/
structure IterOkC (K : PySem.W.Frag) (F : Fx) (H1 : Hp) (J : It) (ds : List PyData) (S : Hp) : Prop where
  go : ∀ (i : Nat) (d : PyData) (H' S' : Hp), Same S S' → Same S' H' → Kp F H1 H' → ds[i]? = some d → J.go i H' ∧ ∀ x H'', J.yld i H' x H'' →
    Yd K S' H' x H'' d
  stop : ∀ (i : Nat) (H' S' : Hp), Same S S' → Same S' H' → Kp F H1 H' → ds.length = i → J.stop i H'
theorem IterOk.c {K : PySem.W.Frag} {F : Fx} {H1 : Hp} {J : It} {ds : List PyData} {S : Hp} (h : IterOk K J ds S) : IterOkC K F H1 J ds S :=
  ⟨fun i d H' S' e x _ hi => h.go i d H' S' e x hi, fun i H' S' e x _ hi => h.stop i H' S' e x hi⟩
/-- a thing to be walked where nothing of one's own changes -/
structure WJ (G : Gd) (M : Nm) (F : Fx) (tg iter : Expr) (Γ : List Bd) (Q : List PyData → Prop) : Prop where
  run : ∀ X, Good G M X → ∀ σ H S, σ.length = M.N.length → GRel G.K F Γ σ H S → tWi X tg iter σ H fun J H1 => ∃ S1 ds, GRel G.K F Γ σ H1 S1 ∧ Same S S1 ∧ Kq F H S H1 S1 ∧ IterOkC G.K F H1 J ds S1 ∧ ds.length ≤ lim ∧ Q ds
theorem wj_of {G : Gd} {M : Nm} {F : Fx} {tg iter : Expr} {Γ : List Bd} {Q : List PyData → Prop} (h : WI G M F tg iter Γ Q) : WJ G M F tg iter Γ Q :=
  ⟨fun X gd σ H S hl g pins s I => thn (h.run X gd σ H S hl g pins s I) fun v s1 h1 => thn h1 fun itv s2 ⟨it, fp, tn, It, H1, e0, I2, T, st2, f2, S1, ds, g1, e1, k1, io, hz, q⟩ => ⟨it, fp, tn, It, H1, e0, I2, T, st2, f2, S1, ds, g1, e1, k1, io.c, hz, q⟩⟩
section
variable {G : Gd} {M : Nm} {F : Fx} {Γ : List Bd} {D : DE} {pos p p2 p3 : Pos} {a b c e tg iter : Expr} {es : List Expr} {Q : List PyData → Prop}
theorem sq_len {X : Cx} {pins : List (Addr × Obj)} {σ : St} {H : Hp} {s : Shared} {q : Addr} {xs : List V} (I : Inv X pins σ H s) (h : SqL X.K H q xs ∨ SqT X.K H q xs) : xs.length ≤ lim := by
  rcases h with h | h
  · obtain ⟨_, _, _, z⟩ := I.list h; exact z
  · obtain ⟨_, _, _, z⟩ := I.tuple h; exact z
theorem wi_seq (h : WE G M F iter Γ fun d => SeqD d Q) : WI G M F tg iter Γ Q := by
  refine ⟨fun X gd σ H S hl g => tWi.of (pi_seq (pe_w iter)) (tW.knows ((h.run X gd σ H S hl g).mono fun v H1 ⟨S1, d, g1, e1, k1, hd, q⟩ ⟨pins, s, I⟩ => ?_))⟩
  rw [gd.K]
  cases hd with
  | lst h1 h2 =>
    exact ⟨_, rfl, .inl ⟨_, same_l g1.ex h1, S1, _, g1, e1, k1, iter_list h1 h2, by rw [← h2.len]; exact sq_len I (.inl (by rw [gd.K]; exact same_l g1.ex h1)), q⟩⟩
  | tup h1 h2 =>
    exact ⟨_, rfl, .inr ⟨_, same_t g1.ex h1, S1, _, g1, e1, k1, iter_tup h1 h2, by rw [← h2.len]; exact sq_len I (.inr (by rw [gd.K]; exact same_t g1.ex h1)), q⟩⟩
  | _ => exact q.elim
theorem wj_mu (i : Nat) {x : Str} {ds : List PyData} (hn : Rdb M i x) (hi : Γ[i]? = some (Bd.mu ds)) (h : Q ds) : WJ G M F tg (.Name x p) Γ Q := by
  refine ⟨fun X gd σ H S hl g pins s I => ?_⟩
  obtain ⟨a, xs, h1, h2, h3, h4, h5⟩ := g.own i ds hi
  have hz : xs.length ≤ lim := sq_len I (.inl (.inl (.inl h2)))
  refine (tWi.of (pi_seq (pe_var (gd.at hn.1) (gd.vis hn) hn.2.2.1 hn.2.2.2)) ?_) pins s I
  have nb : F.bag ≠ some a := fun e => by
    obtain ⟨_, ⟨o, q⟩, _⟩ := g.bag a e
    rw [h4] at q; cases q
  have sq : ∀ {H' : Hp}, Kp F H H' → SqL G.K H' a xs := fun k => .inl (.inl (k a _ h2 nb (.inr nt_lst)))
  rw [gd.K]
  refine ⟨_, h1, a, rfl, .inl ⟨xs, sq (Kp.refl H), S, ds, g, Same.refl S, Kq.refl H S, ⟨fun j d H' S' e x k hj => ?_, fun j H' S' e x k hj => ?_⟩, by rw [← h5.len]; exact hz, h⟩⟩
  · obtain ⟨v, w1, w2⟩ := h5.get hj
    refine ⟨⟨xs, v, sq k, w1⟩, fun y H'' z => .inl ?_⟩
    obtain ⟨z1, z2⟩ := z
    have w3 := z2 xs (sq k)
    rw [w1] at w3
    cases w3
    exact ⟨z1, dp_mono e w2⟩
  · exact ⟨xs, sq k, by rw [h5.len]; exact Nat.le_of_eq hj⟩
theorem wi_range (hm : G.mg "range" = none) (hg : ("range" : Str) ∈ M.gl) (h : WL G M F [a] Γ fun ds => ∃ n : Int, ds = [.int n] ∧ n ≤ 16777216 ∧ -1000000 ≤ n ∧ Q (rngD 0 n.toNat)) (hs : ∀ env, starEach [a] env = [(false, eval a env)] := by intro _; rfl) : WI G M F tg (.Call (.Name "range" p) [a] [] pos) Γ Q := by
  refine ⟨fun X gd σ H S hl g => tWi.of (pi_range1 (gd.gl hg) (by rw [gd.mg]; exact hm) (pa_w [a]) (hs X.env)) ((h.run X gd σ H S hl g).mono fun vs H1 ⟨S1, ds, g1, e1, k1, hd, n, en, z1, z2, q⟩ => ?_)⟩
  subst en
  cases hd with
  | cons r rr =>
    cases rr
    cases r
    exact ⟨n, rfl, by omega, by omega, S1, _, g1, e1, k1, iter_rng, by rw [rngD_len, lim_eq]; omega, q⟩
theorem wi_range2 (hm : G.mg "range" = none) (hg : ("range" : Str) ∈ M.gl) (h : WL G M F [a, b] Γ fun ds => ∃ n m : Int, ds = [.int n, .int m] ∧ (n ≤ 16777216 ∧ -1000000 ≤ n ∧ m ≤ 16777216 ∧ -1000000 ≤ m ∧ m - n ≤ 16777216) ∧ Q (rngD n (m - n).toNat))
    (hs : ∀ env, starEach [a, b] env = [(false, eval a env), (false, eval b env)] := by intro _; rfl) (hs2 : ∀ env, starEach [b] env = [(false, eval b env)] := by intro _; rfl) : WI G M F tg (.Call (.Name "range" p) [a, b] [] pos) Γ Q := by
  refine ⟨fun X gd σ H S hl g => tWi.of (pi_range2 (gd.gl hg) (by rw [gd.mg]; exact hm) (pa_w [a, b]) (hs X.env) (hs2 X.env)) ((h.run X gd σ H S hl g).mono fun vs H1 ⟨S1, ds, g1, e1, k1, hd, n, m, en, z, q⟩ => ?_)⟩
  subst en
  cases hd with
  | cons r rr =>
    cases rr with
    | cons r' rr =>
      cases rr
      cases r
      cases r'
      exact ⟨n, m, rfl, by omega, S1, _, g1, e1, k1, iter_rng, by rw [rngD_len, lim_eq]; omega, q⟩
theorem GRel.yield {K : PySem.W.Frag} {Γ : List Bd} {σ : St} {H S H' : Hp} {x : V} {d : PyData} (g : GRel K F Γ σ H S) (h : Yd K S H x H' d) :
    ∃ S', GRel K F Γ σ H' S' ∧ Same S S' ∧ Kq F H S H' S' ∧ Dp K S' x d := by
  rcases h with ⟨rfl, h⟩ | ⟨T, xs, es, o, rfl, h1, rfl, rfl, h2, to⟩ | ⟨T, T', xs, es, o, o', n, rfl, h1, h1', nT, rfl, rfl, h2, to, to'⟩
  · exact ⟨S, g, Same.refl S, Kq.refl _ S, h⟩
  · have sm := same_new (o := o) (g.sNone h1)
    exact ⟨_, g.new _ h1 to.tok, sm, Kq.new h1, .tup (.inl to.rd) (dpa_mono sm h2)⟩
  · have sm := same_new (o := o) (g.sNone h1)
    have g1 := g.new _ h1 to.tok
    have hT' : upd H T o T' = none := by rw [upd_ne nT]; exact h1'
    have sm' := same_new (o := o') (g1.sNone hT')
    exact ⟨_, g1.new _ hT' to'.tok, sm.trans sm', (Kq.new h1).trans (Kq.new hT'), .tup (.inl to'.rd) (.cons (.int n) (.cons (dp_mono sm' (.tup (.inl to.rd) (dpa_mono sm h2))) .nil))⟩
theorem w1_for {body : List Stmt} (J : Nat → List Bd → Prop) (h : WI G M F tg iter Γ fun ds => J 0 Γ ∧ (∀ (i : Nat) (d : PyData) (Γ1 : List Bd), ds[i]? = some d → J i Γ1 → WG G M F tg d Γ1 fun Γ2 => WS G M F body Γ2 ⟨J (i + 1), D.rt, D.nx, J (i + 1)⟩) ∧ ∀ Γ1, J ds.length Γ1 → D.nx Γ1)
    (hs : ∀ env x, foldedSetIterable iter env x = pure x := by intro _ _; rfl) : W1 G M F (.For tg iter body [] pos) Γ D := by
  refine ⟨fun hΓ X gd σ H S hl g => tWs.of (ps_for (by rw [gd.xe]; exact PassesOwn.never) gd.calm (pi_w tg iter) (pg_w tg) (pss_w body) (hs X.env)) ?_⟩
  refine fun pins s I => thn (h.run X gd σ H S hl g pins s I) fun v s1 h1 => thn h1 fun itv s2 ⟨it, fp, tn, It, H1, e0, I2, T, st2, f2, S1, ds, g1, e1, _, io, _, j0, jt, jd⟩ => ?_
  refine ⟨it, fp, tn, It, H1, e0, I2, T, st2, f2, ?_⟩
  refine ⟨fun i m σ' H' => m = ds.length - i ∧ i ≤ ds.length ∧ ∃ Γ1 S', σ'.length = M.N.length ∧ Γ1.length = M.N.length ∧ GRel G.K F Γ1 σ' H' S' ∧ Same S1 S' ∧ J i Γ1, ⟨ds.length, rfl, Nat.zero_le _, Γ, S1, hl, hΓ, g1, Same.refl S1, j0⟩, ?_⟩
  rintro i m σ' H' ⟨rfl, hi, Γ1, S', q1, q1', q2, q3, q4⟩
  by_cases hlt : i < ds.length
  · obtain ⟨go, yl⟩ := io.go i ds[i] H' S' q3 q2.ex (List.getElem?_eq_getElem hlt)
    refine .inr ⟨go, fun σ2 H2 => ∃ Γ2 S2, σ2.length = M.N.length ∧ Γ2.length = M.N.length ∧ GRel G.K F Γ2 σ2 H2 S2 ∧ Same S1 S2 ∧ J (i + 1) Γ2, fun σ2 H2 w => ⟨ds.length - (i + 1), by omega, rfl, by omega, w⟩, fun x H'' y => ?_⟩
    obtain ⟨S3, g3, e3, _, d3⟩ := q2.yield (yl x H'' y)
    refine ((jt i ds[i] Γ1 (List.getElem?_eq_getElem hlt) q4).run q1' X gd σ' H'' S3 x q1 g3 d3).mono fun σ4 H4 ⟨Γ4, S4, r1, r1', r2, r3, r4⟩ => ?_
    refine (r4.run r1' X gd σ4 H4 S4 r1 r2).mono ?_ ?_ ?_ ?_
    · rintro σ5 H5 ⟨Γ5, S5, w1, w1', w2, w3, w4⟩
      exact ⟨Γ5, S5, w1, w1', w2, q3.trans (e3.trans (r3.trans w3)), w4⟩
    · rintro v H5 ⟨S5, d, w1, w2, w3, w4⟩
      exact ⟨S5, d, w1, e1.trans (q3.trans (e3.trans (r3.trans w2))), w3, w4⟩
    · rintro σ5 H5 ⟨Γ5, S5, w1, w1', w2, w3, w4⟩
      exact ⟨Γ5, S5, w1, w1', w2, e1.trans (q3.trans (e3.trans (r3.trans w3))), w4⟩
    · rintro σ5 H5 ⟨Γ5, S5, w1, w1', w2, w3, w4⟩
      exact ⟨Γ5, S5, w1, w1', w2, q3.trans (e3.trans (r3.trans w3)), w4⟩
  · have e : i = ds.length := by omega
    subst e
    exact .inl ⟨io.stop ds.length H' S' q3 q2.ex rfl, Γ1, S', q1, q1', q2, e1.trans q3, jd Γ1 q4⟩
/-- while, by a word and a number that falls -/
theorem w1_while {body : List Stmt} (J : Nat → List Bd → Prop) (m0 : Nat) (h0 : J m0 Γ) (h : ∀ m Γ1, J m Γ1 → WT G M F c Γ1 fun x => (x = true → WS G M F body Γ1 ⟨fun Γ2 => ∃ m', m' < m ∧ J m' Γ2, D.rt, D.nx, fun Γ2 => ∃ m', m' < m ∧ J m' Γ2⟩) ∧ (x = false → D.nx Γ1)) : W1 G M F (.While c body [] pos) Γ D := by
  refine ⟨fun hΓ X gd σ H S hl g => tWs.of (ps_while (by rw [gd.xe]; exact PassesOwn.never) (pt_w c) (pss_w body)) ?_⟩
  refine ⟨fun m σ' H' => ∃ Γ1 S', σ'.length = M.N.length ∧ Γ1.length = M.N.length ∧ GRel G.K F Γ1 σ' H' S' ∧ Same S S' ∧ J m Γ1, ⟨m0, Γ, S, hl, hΓ, g, Same.refl S, h0⟩, ?_⟩
  rintro m σ' H' ⟨Γ1, S', q1, q1', q2, q3, q4⟩
  refine ((h m Γ1 q4).run X gd σ' H' S' q1 q2).mono fun x H1 ⟨S1, g1, e1, _, r1, r2⟩ => ?_
  cases x with
  | false => rw [if_neg Bool.false_ne_true]; exact ⟨Γ1, S1, q1, q1', g1, q3.trans e1, r2 rfl⟩
  | true =>
    rw [if_pos rfl]
    refine ⟨fun σ2 H2 => ∃ m', m' < m ∧ ∃ Γ2 S2, σ2.length = M.N.length ∧ Γ2.length = M.N.length ∧ GRel G.K F Γ2 σ2 H2 S2 ∧ Same S S2 ∧ J m' Γ2, fun σ2 H2 w => w, ?_⟩
    refine ((r1 rfl).run q1' X gd σ' H1 S1 q1 g1).mono ?_ ?_ ?_ ?_
    · rintro σ5 H5 ⟨Γ5, S5, w1, w1', w2, w3, m', hm, w4⟩
      exact ⟨m', hm, Γ5, S5, w1, w1', w2, q3.trans (e1.trans w3), w4⟩
    · rintro v H5 ⟨S5, d, w1, w2, w3, w4⟩
      exact ⟨S5, d, w1, q3.trans (e1.trans w2), w3, w4⟩
    · rintro σ5 H5 ⟨Γ5, S5, w1, w1', w2, w3, w4⟩
      exact ⟨Γ5, S5, w1, w1', w2, q3.trans (e1.trans w3), w4⟩
    · rintro σ5 H5 ⟨Γ5, S5, w1, w1', w2, w3, m', hm, w4⟩
      exact ⟨m', hm, Γ5, S5, w1, w1', w2, q3.trans (e1.trans w3), w4⟩
end
end DW
namespace DW
open PySem PySem.Spec L2
open PyProof.Rows hiding St
def wipeG (Γ : List Bd) : List Nat → List Bd
  | [] => Γ
  | v :: vs => (wipeG Γ vs).set v Bd.no
theorem wipeG_len (Γ : List Bd) : ∀ vs, (wipeG Γ vs).length = Γ.length
  | [] => rfl
  | v :: vs => by unfold wipeG; rw [List.length_set, wipeG_len Γ vs]
theorem wipeG_some {Γ : List Bd} {i : Nat} {b : Bd} (hb : b ≠ Bd.no) : ∀ {vs : List Nat}, (wipeG Γ vs)[i]? = some b → Γ[i]? = some b ∧ i ∉ vs
  | [], h => ⟨h, by simp⟩
  | v :: vs, h => by
    unfold wipeG at h
    rcases get_set h with ⟨_, q, _⟩ | ⟨ne, q⟩
    · exact absurd q hb
    · obtain ⟨h1, h2⟩ := wipeG_some hb q
      exact ⟨h1, by simp only [List.mem_cons, not_or]; exact ⟨ne, h2⟩⟩
theorem wipe_get (σ : St) (j : Nat) : ∀ vs : List Nat, (wipe σ vs)[j]? = if j ∈ vs then (if j < σ.length then some none else none) else σ[j]?
  | [] => by simp [wipe]
  | v :: vs => by
    unfold wipe
    by_cases e : v = j
    · subst e
      rw [if_pos (by simp)]
      by_cases hl : v < σ.length
      · rw [if_pos hl]; exact List.getElem?_set_self (by rw [wipe_length]; exact hl)
      · rw [if_neg hl]; exact List.getElem?_eq_none (by rw [List.length_set, wipe_length]; omega)
    · rw [List.getElem?_set_ne e, wipe_get σ j vs]
      have : (j ∈ v :: vs) ↔ j ∈ vs := by simp [List.mem_cons, Ne.symm e]
      simp only [this]
theorem wipe_idem (σ : St) (vs : List Nat) : wipe (wipe σ vs) vs = wipe σ vs := by
  refine List.ext_getElem? fun j => ?_
  rw [wipe_get, wipe_get, wipe_length]
  split <;> rfl
theorem wipe_set {σ : St} {i : Nat} {x : Option V} {vs : List Nat} (h : i ∈ vs) : wipe (σ.set i x) vs = wipe σ vs := by
  refine List.ext_getElem? fun j => ?_
  rw [wipe_get, wipe_get, List.length_set]
  split
  · rfl
  · rename_i hj
    exact List.getElem?_set_ne fun e => hj (by rw [← e]; exact h)
theorem GRel.wipe {K : PySem.W.Frag} {F : Fx} {Γ : List Bd} {σ : St} {H S : Hp} (g : GRel K F Γ σ H S) (vs : List Nat) : GRel K F (wipeG Γ vs) (wipe σ vs) H S := by
  have at' : ∀ {i : Nat}, i ∉ vs → (L2.wipe σ vs)[i]? = σ[i]? := fun {i} h => by rw [wipe_get, if_neg h]
  refine g.re (fun i d h => ?_) (fun i ds h => ?_) fun i v h => ?_
  · obtain ⟨h1, h2⟩ := wipeG_some (by simp) h
    rw [at' h2]; exact g.loc i d h1
  · obtain ⟨h1, h2⟩ := wipeG_some (by simp) h
    exact ⟨h1, at' h2⟩
  · obtain ⟨h1, h2⟩ := wipeG_some (by simp) h
    rw [at' h2]; exact g.raw i v h1
/-- a list that nobody names grows -/
theorem GRel.poke {K : PySem.W.Frag} {F : Fx} {Γ : List Bd} {σ : St} {H S : Hp} {p : Addr} {o : HO} (g : GRel K F Γ σ H S) (h1 : S p = none) (h2 : F.H0 p = none) (hl : H p = none ∨ ∃ xs, H p = some (.lst xs)) (h3 : ∀ (j : Nat) (es : List PyData), Γ[j]? = some (Bd.mu es) → σ[j]? ≠ some (some (.ref p))) : GRel K F Γ σ (upd H p o) S := by
  refine ⟨fun a u e => ?_, g.s0, g.nw, fun a u e n t => ?_, fun b hb => ?_, g.loc, fun i ds hi => ?_, g.raw, g.sep, g.td, g.dm.trans (Dom.upd H p o), tabs_nl g.tab (Nl.upd hl)⟩
  · have ne : a ≠ p := ne_of_none e h1
    rw [upd_ne ne]; exact g.ex a u e
  · have ne : a ≠ p := fun z => by rw [z, h2] at e; cases e
    rw [upd_ne ne]; exact g.keep a u e n t
  · obtain ⟨q1, ⟨w, q2⟩, q3⟩ := g.bag b hb
    have ne : b ≠ p := fun z => by rw [z, h2] at q2; cases q2
    exact ⟨q1, ⟨w, q2⟩, q3.mono (Same.refl S) (upd_ne ne)⟩
  · obtain ⟨a, xs, q1, q2, q3, q4, q5⟩ := g.own i ds hi
    have ne : a ≠ p := fun z => h3 i ds hi (z ▸ q1)
    exact ⟨a, xs, q1, by rw [upd_ne ne]; exact q2, q3, q4, q5⟩
theorem Kq.poke {F : Fx} {H S H' S' : Hp} {p : Addr} {o : HO} (k : Kq F H S H' S') (hp : H p = none) : Kq F H S (upd H' p o) S' := by
  refine ⟨fun a u e n t => ?_, fun a u e => ?_, k.nw⟩
  · rw [upd_ne (ne_of_none e hp)]; exact k.kp a u e n t
  · rw [upd_ne (ne_of_none e hp)]; exact k.dom a u e
/-- the block's names -/
def ceOk (scope : Scope) : List Str → List Kd → Bool
  | x :: xs, .ce :: ks => decide (scope.names.lookup x = some .cell) && ceOk scope xs ks
  | _ :: xs, _ :: ks => ceOk scope xs ks
  | _, _ => true
theorem ceOk_get {scope : Scope} : ∀ {xs : List Str} {ks : List Kd} {i : Nat} {x : Str}, ceOk scope xs ks = true → xs[i]? = some x → ks[i]? = some Kd.ce → scope.names.lookup x = some .cell
  | [], _, _, _, _, h, _ => by simp at h
  | _ :: _, [], _, _, _, _, h => by simp at h
  | a :: xs, b :: ks, 0, x, h, h1, h2 => by
    simp at h1 h2
    subst h1 h2
    exact of_decide_eq_true (Bool.and_eq_true_iff.mp h).1
  | a :: xs, b :: ks, i + 1, x, h, h1, h2 => by
    refine ceOk_get (i := i) ?_ (by simpa using h1) (by simpa using h2)
    cases b with
    | ce => exact (Bool.and_eq_true_iff.mp h).2
    | no => exact h
    | rd => exact h
    | lo => exact h
def blkNm (M : Nm) (scope : Scope) (kd : List Kd) (gl : List Str) : Nm := ⟨M.N, kd, gl, relS scope M.sc⟩
def cpOk (M : Nm) (scope : Scope) (kd : List Kd) (gl : List Str) (own : List (Str × Nat)) : Bool := blkC M.N M.sc scope own && (nmOk (blkNm M scope kd gl) && ceOk scope M.N kd)
theorem good_blk {G : Gd} {M : Nm} {X : Cx} {scope : Scope} {kd : List Kd} {gl : List Str} {own : List (Str × Nat)} (h : cpOk M scope kd gl own = true) (gd : Good G M X) (s : Shared) (H : Hp) (C : Addr) (cl : List (Str × Addr)) (fp : List Addr) :
    Good G (blkNm M scope kd gl) (X.blk s H scope (compEnvC scope cl C X.env) fp) := by
  obtain ⟨_, h2⟩ := Bool.and_eq_true_iff.mp h
  obtain ⟨h3, h4⟩ := Bool.and_eq_true_iff.mp h2
  refine ⟨gd.prog, gd.w, gd.K, gd.mg, gd.base, gd.room, gd.grd, gd.calm, gd.N, ?_, h3, fun i x e1 e2 => ?_, rfl, gd.cq⟩
  · show relS scope X.env.scope = relS scope M.sc
    rw [gd.sc]
  · have q := ceOk_get h4 e1 e2
    show (scope.names.lookup x == some .cell) = true
    rw [q]; rfl
theorem blk_ok {G : Gd} {M : Nm} {X : Cx} {scope : Scope} {kd : List Kd} {gl : List Str} {own : List (Str × Nat)} (h : cpOk M scope kd gl own = true) (gd : Good G M X) : BlkOk X.N X.env.scope scope own := by
  rw [gd.N, gd.sc]
  exact blkOk_by (Bool.and_eq_true_iff.mp h).1
/-- a target whose names are the block's own -/
structure WV (G : Gd) (M : Nm) (F : Fx) (vs : List Nat) (tg : Expr) (d : PyData) (Γ : List Bd) (N : List Bd → Prop) : Prop where
  run : Γ.length = M.N.length → ∀ X, Good G M X → ∀ σ H S v, σ.length = M.N.length → GRel G.K F Γ σ H S → Dp G.K S v d → tWg X tg v σ H fun σ' H' => L2.wipe σ' vs = L2.wipe σ vs ∧ H' = H ∧ ∃ Γ', σ'.length = M.N.length ∧ Γ'.length = M.N.length ∧ GRel G.K F Γ' σ' H S ∧ N Γ'
structure WVs (G : Gd) (M : Nm) (F : Fx) (vs : List Nat) (tgs : List Expr) (ds : List PyData) (Γ : List Bd) (N : List Bd → Prop) : Prop where
  run : Γ.length = M.N.length → ∀ X, Good G M X → ∀ σ H S us, σ.length = M.N.length → GRel G.K F Γ σ H S → DpAll G.K S us ds → tWgs X tgs us σ H fun σ' H' => L2.wipe σ' vs = L2.wipe σ vs ∧ H' = H ∧ ∃ Γ', σ'.length = M.N.length ∧ Γ'.length = M.N.length ∧ GRel G.K F Γ' σ' H S ∧ N Γ'
section
variable {G : Gd} {M : Nm} {F : Fx} {Γ : List Bd} {D : DE} {pos p p2 p3 : Pos} {a b c e tg iter elt : Expr} {es : List Expr} {vs : List Nat} {N : List Bd → Prop}
theorem wv_name (i : Nat) {x : Str} {d : PyData} (hx : Sto M i x) (hi : i ∈ vs) (h : N (Γ.set i (Bd.im d))) : WV G M F vs (.Name x p) d Γ N :=
  ⟨fun hΓ X gd σ H S v hl g hd => tWg.of (pg_name gd.nd (gd.at hx.1) (gd.sto hx).1 (gd.sto hx).2) ⟨wipe_set hi, rfl, _, by rw [List.length_set]; exact hl, by rw [List.length_set]; exact hΓ, g.store (hΓ.trans hl.symm) hd, h⟩⟩
theorem wvs_nil (h : N Γ) : WVs G M F vs [] [] Γ N := ⟨fun hΓ X gd σ H S us hl g hd => tWgs.of pgs_nil ⟨by cases hd; rfl, rfl, rfl, Γ, hl, hΓ, g, h⟩⟩
theorem wvs_cons {d : PyData} {ds : List PyData} (h : WV G M F vs e d Γ fun Γ' => WVs G M F vs es ds Γ' N) (hs : ∀ env, (assignEach (e :: es) env).map (·.2) = assign e env :: (assignEach es env).map (·.2) := by intro _; rfl) : WVs G M F vs (e :: es) (d :: ds) Γ N := by
  refine ⟨fun hΓ X gd σ H S us hl g hd => ?_⟩
  cases hd with
  | cons h1 h2 =>
    refine tWgs.of (pgs_cons (pg_w e) (pgs_w es) (hs X.env)) ⟨_, _, rfl, (h.run hΓ X gd σ H S _ hl g h1).mono fun σ' H' ⟨w, eH, Γ', q1, q1', q2, q4⟩ => ?_⟩
    subst eH
    exact (q4.run q1' X gd σ' H' S _ q1 q2 h2).mono fun σ2 H2 ⟨w2, r⟩ => ⟨w2.trans w, r⟩
theorem wv_tup {k n : Nat} {ds : List PyData} (hl' : ds.length = n) (h : WVs G M F vs es ds Γ N) (hn : ∀ env, (assignEach es env).length = n := by intro _; rfl) (hst : ∀ env, (assignEach es env).findIdx? (·.1) = none := by intro _; rfl) : WV G M F vs (.Tuple es k p) (.tuple ds) Γ N := by
  refine ⟨fun hΓ X gd σ H S v hl g hd => tWg.of (pg_tup gd.calm (pgs_w es) (hn X.env) (hst X.env)) ?_⟩
  cases hd with
  | tup h1 h2 =>
    rw [gd.K]
    exact ⟨_, _, rfl, same_t g.ex h1, h2.len.trans hl', h.run hΓ X gd σ H S _ hl g h2⟩
/-- the comprehension's reading over data -/
theorem lc_walk {scope : Scope} {kd : List Kd} {gl : List Str} {own : List (Str × Nat)} (hcp : cpOk M scope kd gl own = true) (J : Nat → List PyData → Prop) {Qd : List PyData → Prop} {tt : TT} {T : List Bd → (Bool → Prop) → Prop} {ds : List PyData} {X : Cx} (gd : Good G M X)
    (htm : ∀ σ H (Q Q' : Bool → Hp → Prop), tt σ H Q → (∀ b H', Q b H' → Q' b H') → tt σ H Q') (hT : ∀ Γ2 Qb, T Γ2 Qb → ∀ σ2 H2 S2, σ2.length = M.N.length → GRel G.K F Γ2 σ2 H2 S2 → tt σ2 H2 (PostT G.K F Γ2 σ2 H2 S2 Qb))
    (j0 : J 0 []) (jt : ∀ (i : Nat) (d : PyData) (acc : List PyData), ds[i]? = some d → J i acc → acc.length ≤ i → WV G (blkNm M scope kd gl) F (own.map (·.2)) tg d (wipeG Γ (own.map (·.2))) fun Γ2 => T Γ2 fun x => (x = true → WE G (blkNm M scope kd gl) F elt Γ2 fun y => J (i + 1) (acc ++ [y])) ∧ (x = false → J (i + 1) acc))
    (jd : ∀ acc, J ds.length acc → acc.length ≤ ds.length → Qd acc) {σ : St} {H1 S1 : Hp} {It : L2.It} (hΓ : Γ.length = M.N.length) (hl : σ.length = M.N.length) (g1 : GRel G.K F Γ σ H1 S1) (io : IterOkC G.K F H1 It ds S1) (hz : ds.length ≤ lim) (Dd : Addr) (hD : H1 Dd = none) :
    ∃ W : Nat → Nat → Hp → Prop, (∃ m, W 0 m (upd H1 Dd (.lst []))) ∧ ∀ i m H, W i m H → (It.stop i H ∧ PostF G.K F Γ σ H1 S1 Qd (.ref Dd) H) ∨ (It.go i H ∧ ∃ Nx : Hp → Prop, (∀ H', Nx H' → ∃ m', m' < m ∧ W (i + 1) m' H') ∧
      ∀ x H', It.yld i H x H' → (fun v σ H Q => ∀ s H0 C cl fp, tWg (X.blk s H0 scope (compEnvC scope cl C X.env) fp) tg v σ H Q) x (L2.wipe σ (own.map (·.2))) H' fun σ2 H2 => L2.wipe σ2 (own.map (·.2)) = L2.wipe σ (own.map (·.2)) ∧ tt σ2 H2 fun b H3 =>
        if b = true then (fun σ H Q => ∀ s H0 C cl fp, tW (X.blk s H0 scope (compEnvC scope cl C X.env) fp) elt σ H Q) σ2 H3 fun y H4 => ∃ acc, H4 Dd = some (.lst acc) ∧ acc.length < sizeLine ∧ Nx (upd H4 Dd (.lst (acc ++ [y]))) else Nx H3) := by
  have gb := fun s H C cl fp => good_blk hcp gd s H C cl fp
  have nmu : ∀ (j : Nat) (es : List PyData), Γ[j]? = some (Bd.mu es) → σ[j]? ≠ some (some (.ref Dd)) := fun j es hj z => by
    obtain ⟨a, ys, h1, h2, _⟩ := g1.own j es hj
    rw [z] at h1
    cases h1
    rw [hD] at h2; cases h2
  have nb : F.bag ≠ some Dd := g1.nb hD
  have h00 : F.H0 Dd = none := g1.h0 hD
  have s1D : S1 Dd = none := g1.sNone hD
  let St' : Nat → Hp → Prop := fun i H => ∃ S' xs acc, GRel G.K F Γ σ H S' ∧ Same S1 S' ∧ Kq F H1 S1 H S' ∧ H Dd = some (.lst xs) ∧ S' Dd = none ∧ DpAll G.K S' xs acc ∧ acc.length ≤ i ∧ J i acc
  refine ⟨fun i m H => m = ds.length - i ∧ i ≤ ds.length ∧ St' i H, ⟨ds.length, rfl, Nat.zero_le _, S1, [], [], g1.more _ hD, Same.refl S1, Kq.more hD, upd_same, s1D, .nil, Nat.le_refl 0, j0⟩, ?_⟩
  rintro i m H ⟨rfl, hi, S', xs, acc, g, e, k, hx, hS, da, la, ja⟩
  by_cases hlt : i < ds.length
  · obtain ⟨go, yl⟩ := io.go i ds[i] H S' e g.ex k.kp (List.getElem?_eq_getElem hlt)
    refine .inr ⟨go, St' (i + 1), fun H' w => ⟨ds.length - (i + 1), by omega, rfl, by omega, w⟩, fun x H' y => ?_⟩
    -- a further state of the same list
    have fwd : ∀ {H2 S2 : Hp}, Same S' S2 → Kq F H S' H2 S2 → Same S2 H2 → (∀ b, F.bag = some b → S2 b = none ∧ BagIn G.K S2 H2 b) → TdS S2 → LamX.Tabs F.tb H2 → GRel G.K F Γ σ H2 S2 ∧ Same S1 S2 ∧ Kq F H1 S1 H2 S2 ∧ H2 Dd = some (.lst xs) ∧ S2 Dd = none ∧ DpAll G.K S2 xs acc := fun {H2 S2} e2 k2 x2 b2 td tb => by
      refine ⟨g.ext k2.kp e2 x2 (fun a o q => ?_) b2 td k2.dom tb, e.trans e2, k.trans k2, k2.kp _ _ hx nb (.inr nt_lst), ?_, dpa_mono e2 da⟩
      · exact k2.nw a o q
      · cases q : S2 Dd with
        | none => rfl
        | some u =>
          rcases k2.nw Dd u q with ⟨u', z⟩ | z
          · rw [hS] at z; cases z
          · rw [hx] at z; cases z
    obtain ⟨S3, g3, e3, k3, d3⟩ := g.yield (yl x H' y)
    intro s H0 C cl fp
    have gw : GRel G.K F (wipeG Γ (own.map (·.2))) (L2.wipe σ (own.map (·.2))) H' S3 := g3.wipe _
    refine ((jt i ds[i] acc (List.getElem?_eq_getElem hlt) ja la).run (by rw [wipeG_len]; exact hΓ) _ (gb s H0 C cl fp) _ H' S3 x (by rw [wipe_length]; exact hl) gw d3).mono fun σ2 H2 ⟨w1, eH, Γ2, q1, q1', q2, q3⟩ => ⟨w1.trans (wipe_idem _ _), ?_⟩
    subst eH
    refine htm _ _ _ _ (hT Γ2 _ q3 σ2 H2 S3 q1 q2) fun bb H3 ⟨S4, g4, e4, k4, r1, r2⟩ => ?_
    cases bb with
    | false =>
      rw [if_neg Bool.false_ne_true]
      obtain ⟨z1, z2, z3, z4, z5, z6⟩ := fwd (e3.trans e4) (k3.trans k4) g4.ex (fun b hb => ⟨(g4.bag b hb).1, (g4.bag b hb).2.2⟩) g4.td g4.tab
      exact ⟨S4, xs, acc, z1, z2, z3, z4, z5, z6, by omega, r2 rfl⟩
    | true =>
      rw [if_pos rfl]
      intro s H0 C cl fp
      refine ((r1 rfl).run _ (gb s H0 C cl fp) σ2 H3 S4 q1 g4).mono fun y H4 ⟨S5, d5, g5, e5, k5, dy, j5⟩ => ?_
      obtain ⟨z1, z2, z3, z4, z5, z6⟩ := fwd (e3.trans (e4.trans e5)) (k3.trans (k4.trans k5)) g5.ex (fun b hb => ⟨(g5.bag b hb).1, (g5.bag b hb).2.2⟩) g5.td g5.tab
      refine ⟨xs, z4, ?_, S5, xs ++ [y], acc ++ [d5], z1.poke z5 h00 (.inr ⟨_, z4⟩) nmu, z2, z3.poke hD, upd_same, z5, z6.app (.one dy), ?_, j5⟩
      · have := z6.len
        have hs : lim = sizeLine := rfl
        omega
      · rw [List.length_append, List.length_singleton]; omega
  · have ei : i = ds.length := by omega
    subst ei
    exact .inl ⟨io.stop ds.length H S' e g.ex k.kp rfl, S', Dd, xs, acc, rfl, hD, hx, hS, h00, nmu, g, e, k, da, jd acc ja la⟩
/-- a comprehension, as a value or stored -/
structure WC (G : Gd) (M : Nm) (F : Fx) (elt tg iter : Expr) (ifs : List Expr) (scope : Scope) (Γ : List Bd) (Qd : List PyData → Prop) : Prop where
  hs : ∀ env x, foldedSetIterable iter env x = pure x
  run : ∀ X, Good G M X → ∃ wi g tt te own, PI X tg iter wi ∧ BlkOk X.N X.env.scope scope own ∧ (∀ s H C cl fp, PG (X.blk s H scope (compEnvC scope cl C X.env) fp) tg g) ∧ (∀ s H C cl fp, PTs (X.blk s H scope (compEnvC scope cl C X.env) fp) ifs tt) ∧
    (∀ s H C cl fp, PE (X.blk s H scope (compEnvC scope cl C X.env) fp) elt te) ∧ ∀ σ H S, σ.length = M.N.length → GRel G.K F Γ σ H S → ∀ Q' : VK, (∀ v H', PostF G.K F Γ σ H S Qd v H' → Q' v H') → tLc wi g tt te (own.map (·.2)) σ H Q'
theorem wc_for {scope : Scope} (kd : List Kd) (gl : List Str) (own : List (Str × Nat)) (hcp : cpOk M scope kd gl own = true) (J : List PyData → Nat → List PyData → Prop) {Qd : List PyData → Prop}
    (h : WJ G M F tg iter Γ fun ds => J ds 0 [] ∧ (∀ (i : Nat) (d : PyData) (acc : List PyData), ds[i]? = some d → J ds i acc → acc.length ≤ i → WV G (blkNm M scope kd gl) F (own.map (·.2)) tg d (wipeG Γ (own.map (·.2))) fun Γ2 => WE G (blkNm M scope kd gl) F elt Γ2 fun y => J ds (i + 1) (acc ++ [y])) ∧
      ∀ acc, J ds ds.length acc → acc.length ≤ ds.length → Qd acc) (hΓ : Γ.length = M.N.length := by rfl) (hs : ∀ env x, foldedSetIterable iter env x = pure x := by intro _ _; rfl) : WC G M F elt tg iter [] scope Γ Qd := by
  refine ⟨hs, fun X gd => ⟨tWi X tg iter, fun v σ H Q => ∀ s H0 C cl fp, tWg (X.blk s H0 scope (compEnvC scope cl C X.env) fp) tg v σ H Q, tYes, fun σ H Q => ∀ s H0 C cl fp, tW (X.blk s H0 scope (compEnvC scope cl C X.env) fp) elt σ H Q, own, pi_w tg iter, blk_ok hcp gd,
    fun s H C cl fp => ⟨fun pins s1 σ1 H1 v u Q I r q => q s H C cl fp pins s1 u I r⟩, fun s H C cl fp => pts_nil, fun s H C cl fp => ⟨fun pins s1 σ1 H1 Q I q => q s H C cl fp pins s1 I⟩, fun σ H S hl g Q' kq => ?_⟩⟩
  refine fun pins s I => thn (h.run X gd σ H S hl g pins s I) fun v s1 h1 => thn h1 fun itv s2 ⟨it, fp, tn, It, H1, e0, I2, T, st2, f2, S1, ds, g1, e1, k1, io, hz, j0, jt, jd⟩ => ?_
  refine ⟨it, fp, tn, It, H1, e0, I2, T, st2, f2, fun Dd hD => ?_⟩
  obtain ⟨W, w0, w1⟩ := lc_walk (T := fun Γ2 Qb => Qb true) hcp (J ds) gd (tt := tYes) (fun σ H Q Q' q k => k _ _ q) (fun Γ2 Qb q σ2 H2 S2 hl2 g2 => ⟨S2, g2, Same.refl S2, Kq.refl H2 S2, q⟩) j0
    (fun i d acc hd ja la => by
      refine ⟨fun hΓ X gd σ H S v hl g hv => ((jt i d acc hd ja la).run hΓ X gd σ H S v hl g hv).mono fun σ' H' ⟨w1, w2, Γ', w3, w4, w5, w6⟩ => ⟨w1, w2, Γ', w3, w4, w5, ?_⟩⟩
      exact ⟨fun _ => w6, fun z => nomatch z⟩) jd hΓ hl g1 io hz Dd hD
  refine ⟨W, w0, fun i m H w => ?_⟩
  rcases w1 i m H w with ⟨q1, q2⟩ | q
  · exact .inl ⟨q1, kq _ _ (q2.ahead e1 k1)⟩
  · exact .inr q
theorem wc_if {scope : Scope} (kd : List Kd) (gl : List Str) (own : List (Str × Nat)) (hcp : cpOk M scope kd gl own = true) (J : List PyData → Nat → List PyData → Prop) {Qd : List PyData → Prop}
    (h : WJ G M F tg iter Γ fun ds => J ds 0 [] ∧ (∀ (i : Nat) (d : PyData) (acc : List PyData), ds[i]? = some d → J ds i acc → acc.length ≤ i → WV G (blkNm M scope kd gl) F (own.map (·.2)) tg d (wipeG Γ (own.map (·.2))) fun Γ2 => WT G (blkNm M scope kd gl) F c Γ2 fun x => (x = true → WE G (blkNm M scope kd gl) F elt Γ2 fun y => J ds (i + 1) (acc ++ [y])) ∧ (x = false → J ds (i + 1) acc)) ∧
      ∀ acc, J ds ds.length acc → acc.length ≤ ds.length → Qd acc) (hΓ : Γ.length = M.N.length := by rfl) (hs : ∀ env x, foldedSetIterable iter env x = pure x := by intro _ _; rfl) : WC G M F elt tg iter [c] scope Γ Qd := by
  refine ⟨hs, fun X gd => ⟨tWi X tg iter, fun v σ H Q => ∀ s H0 C cl fp, tWg (X.blk s H0 scope (compEnvC scope cl C X.env) fp) tg v σ H Q, fun σ H Q => ∀ s H0 C cl fp, tWt (X.blk s H0 scope (compEnvC scope cl C X.env) fp) c σ H Q, fun σ H Q => ∀ s H0 C cl fp, tW (X.blk s H0 scope (compEnvC scope cl C X.env) fp) elt σ H Q, own, pi_w tg iter, blk_ok hcp gd,
    fun s H C cl fp => ⟨fun pins s1 σ1 H1 v u Q I r q => q s H C cl fp pins s1 u I r⟩, fun s H C cl fp => pts_one ⟨fun pins s1 σ1 H1 Q I q => q s H C cl fp pins s1 I⟩, fun s H C cl fp => ⟨fun pins s1 σ1 H1 Q I q => q s H C cl fp pins s1 I⟩, fun σ H S hl g Q' kq => ?_⟩⟩
  refine fun pins s I => thn (h.run X gd σ H S hl g pins s I) fun v s1 h1 => thn h1 fun itv s2 ⟨it, fp, tn, It, H1, e0, I2, T, st2, f2, S1, ds, g1, e1, k1, io, hz, j0, jt, jd⟩ => ?_
  refine ⟨it, fp, tn, It, H1, e0, I2, T, st2, f2, fun Dd hD => ?_⟩
  obtain ⟨W, w0, w1⟩ := lc_walk (T := fun Γ2 Qb => WT G (blkNm M scope kd gl) F c Γ2 Qb) hcp (J ds) gd (tt := fun σ H Q => ∀ s H0 C cl fp, tWt (X.blk s H0 scope (compEnvC scope cl C X.env) fp) c σ H Q) (fun σ H Q Q' q k s H0 C cl fp => (q s H0 C cl fp).mono k)
    (fun Γ2 Qb q σ2 H2 S2 hl2 g2 s H0 C cl fp => q.run _ (good_blk hcp gd s H0 C cl fp) σ2 H2 S2 hl2 g2) j0 jt jd hΓ hl g1 io hz Dd hD
  refine ⟨W, w0, fun i m H w => ?_⟩
  rcases w1 i m H w with ⟨q1, q2⟩ | q
  · exact .inl ⟨q1, kq _ _ (q2.ahead e1 k1)⟩
  · exact .inr q
variable {ifs : List Expr} {scope : Scope} {Qd : List PyData → Prop}
/-- as a value -/
theorem wf_lc (h : WC G M F elt tg iter ifs scope Γ Qd) : WF G M F (.ListComp elt [⟨tg, iter, ifs, 0⟩] scope pos) Γ Qd := by
  refine ⟨fun X gd σ H S hl g => ?_⟩
  obtain ⟨wi, gg, tt, te, own, h1, h2, h3, h4, h5, h6⟩ := h.run X gd
  exact tW.of (pe_lc gd.calm gd.nd h1 h2 h3 h4 h5 (h.hs X.env)) (h6 σ H S hl g _ fun _ _ q => q)
/-- .. that stays -/
theorem w1_lc (i : Nat) {y : Str} {py : Pos} (hy : Lcl M i y) (h : WC G M F elt tg iter ifs scope Γ fun ds => D.nx (Γ.set i (Bd.im (.list ds)))) (hl : (py.line == p.line) = true := by rfl) (ha : (scope.names.any fun (n, k) => n == y && (k == .local || k == .cell)) = false := by decide +kernel) :
    W1 G M F (.Assign [.Name y py] (.ListComp elt [⟨tg, iter, ifs, 0⟩] scope p) pos) Γ D := by
  refine ⟨fun hΓ X gd σ H S hls g pins s I => ?_⟩
  obtain ⟨wi, gg, tt, te, own, h1, h2, h3, h4, h5, h6⟩ := h.run X gd
  refine (tWs.of (ps_setLc gd.calm gd.nd (gd.at hy.1) (gd.lcl hy) (sw_true I.ok.kind (gd.lcl hy) hl ha) h1 h2 h3 h4 h5 (h.hs X.env)) ?_) pins s I
  refine h6 σ H S hls g _ fun v H1 pf => ?_
  obtain ⟨S1, d, g1, e1, _, hd, q⟩ := pf.stay (Q := fun d => D.nx (Γ.set i (Bd.im d)))
  exact ⟨_, S1, by rw [List.length_set]; exact hls, by rw [List.length_set]; exact hΓ, g1.store (hΓ.trans hls.symm) hd, e1, q⟩
end
end DW
namespace DW
open PySem PySem.Spec L2
open PyProof.Rows hiding St
/-- a def of the text, as it stands behind the top -/
structure Df (G : Gd) (x : Str) (st : Stmt) (ps : List Str) : Prop where
  ex : ∃ f fd, G.mg x = some (.ref f) ∧ L2.Fun G.K x x st f fd ∧ Binds G.K fd ps []
def initG (ds : List PyData) (n : Nat) : List Bd := ds.map Bd.im ++ List.replicate (n - ds.length) Bd.no
def initB (b : Addr) (ds : List PyData) (n : Nat) : List Bd := Bd.rw (.ref b) :: (ds.map Bd.im ++ List.replicate (n - (ds.length + 1)) Bd.no)
theorem good_def {G : Gd} {M : Nm} {qual : Str} {sc : Scope} {f : Addr} {cdv : Value} {A : Around} {outer : List Env} {s : Shared} {H : Hp} {E : XK} (hM : nmOk M = true) (hsc : M.sc = sc) (hr : Room G.k (A.deeper (envOfC qual sc s.heap.objs.size f cdv))) (hg : G.grd = true → A.guards = some []) (hq : G.grd = true → ∀ v q, G.cq = some (v, q) → cdv = v ∧ qual ++ ".<locals>." = q) :
    Good G M (cxOf CX0 G.P G.w G.K G.mg G.base M.N qual sc f cdv A outer s H E).nox := by
  refine ⟨rfl, rfl, rfl, rfl, rfl, hr, fun z => hg z, rfl, rfl, hsc.symm, hM, fun _ _ _ _ => rfl, rfl, hq⟩
theorem rep_get {α : Type} {n i : Nat} {x y : α} (h : (List.replicate n x)[i]? = some y) : y = x := by
  rw [List.getElem?_replicate] at h
  split at h
  · exact (Option.some.inj h).symm
  · cases h
theorem grel_start {K : PySem.W.Frag} {H S : Hp} {vs : List V} {ds : List PyData} {N : List Str} (ex : Same S H ∧ TdS S) (hd : DpAll K S vs ds) : GRel K ⟨H, S, none, []⟩ (initG ds N.length) (L2.start N vs) H S := by
  have at' : ∀ {i : Nat} {b : Bd}, b ≠ Bd.no → (initG ds N.length)[i]? = some b → ∃ d, ds[i]? = some d ∧ b = Bd.im d := fun {i b} hb h => by
    unfold initG at h
    by_cases hi : i < ds.length
    · rw [List.getElem?_append_left (by simpa using hi), List.getElem?_map, List.getElem?_eq_getElem hi] at h
      exact ⟨_, List.getElem?_eq_getElem hi, (Option.some.inj h).symm⟩
    · rw [List.getElem?_append_right (by simpa using hi)] at h
      exact absurd (rep_get h) hb
  refine ⟨ex.1, Same.refl S, fun a o e => .inl ⟨o, e⟩, Kp.refl H, fun b hb => (by cases hb), fun i d h => ?_, fun i es h => ?_, fun i v h => ?_, fun i j a es fs h => ?_, ex.2, Dom.refl H, (fun _ h => nomatch h)⟩
  · obtain ⟨d', h1, h2⟩ := at' (by simp) h
    cases h2
    obtain ⟨v, h3, h4⟩ := hd.get h1
    refine ⟨v, ?_, h4⟩
    have hi : i < vs.length := (List.getElem?_eq_some_iff.mp h3).1
    unfold L2.start
    rw [List.getElem?_append_left (by simpa using hi), List.getElem?_map, h3]
    rfl
  · obtain ⟨d', _, h2⟩ := at' (by simp) h; cases h2
  · obtain ⟨d', _, h2⟩ := at' (by simp) h; cases h2
  · obtain ⟨d', _, h2⟩ := at' (by simp) h; cases h2
theorem grel_bag {K : PySem.W.Frag} {H S : Hp} {b : Addr} {vs : List V} {ds : List PyData} {N : List Str} (ex : Same S H ∧ TdS S) (hb : S b = none) (bi : BagIn K S H b) (hd : DpAll K S vs ds) : GRel K ⟨H, S, some b, []⟩ (initB b ds N.length) (L2.start N (.ref b :: vs)) H S := by
  have at' : ∀ {i : Nat} {x : Bd}, x ≠ Bd.no → (initB b ds N.length)[i]? = some x → (i = 0 ∧ x = Bd.rw (.ref b)) ∨ ∃ j d, i = j + 1 ∧ ds[j]? = some d ∧ x = Bd.im d := fun {i x} hx h => by
    unfold initB at h
    cases i with
    | zero => exact .inl ⟨rfl, (Option.some.inj h).symm⟩
    | succ i =>
      rw [List.getElem?_cons_succ] at h
      by_cases hi : i < ds.length
      · rw [List.getElem?_append_left (by simpa using hi), List.getElem?_map, List.getElem?_eq_getElem hi] at h
        exact .inr ⟨i, _, rfl, List.getElem?_eq_getElem hi, (Option.some.inj h).symm⟩
      · rw [List.getElem?_append_right (by simpa using hi)] at h
        exact absurd (rep_get h) hx
  have bo : ∃ o, H b = some o := by obtain ⟨c, i, j, k, ns, e, _⟩ := bi; exact ⟨_, e⟩
  refine ⟨ex.1, Same.refl S, fun a o e => .inl ⟨o, e⟩, Kp.refl H, fun b' hb' => ?_, fun i d h => ?_, fun i es h => ?_, fun i v h => ?_, fun i j a es fs h => ?_, ex.2, Dom.refl H, (fun _ h => nomatch h)⟩
  · cases hb'
    exact ⟨hb, bo, bi⟩
  · rcases at' (by simp) h with ⟨_, h2⟩ | ⟨j, d', rfl, h1, h2⟩
    · cases h2
    cases h2
    obtain ⟨v, h3, h4⟩ := hd.get h1
    refine ⟨v, ?_, h4⟩
    have hi : j < vs.length := (List.getElem?_eq_some_iff.mp h3).1
    unfold L2.start
    rw [List.map_cons, List.cons_append, List.getElem?_cons_succ, List.getElem?_append_left (by simpa using hi), List.getElem?_map, h3]
    rfl
  · rcases at' (by simp) h with ⟨_, h2⟩ | ⟨_, _, _, _, h2⟩ <;> cases h2
  · rcases at' (by simp) h with ⟨rfl, h2⟩ | ⟨_, _, _, _, h2⟩
    · cases h2; rfl
    · cases h2
  · rcases at' (by simp) h with ⟨_, h2⟩ | ⟨_, _, _, _, h2⟩ <;> cases h2
theorem back_of {K : PySem.W.Frag} {H S H' S' : Hp} {bag : Option Addr} {Q : VK} {v : V} {d : PyData} (g : GRel K ⟨H, S, bag, []⟩ [] [] H' S') (dp : Dp K S' v d) (k : Back K H S bag Q d) : Q v H' :=
  k v H' S' (fun a o e n => g.keep a o e n (.inl rfl)) g.s0 ⟨g.ex, g.td⟩ (fun a o e => g.nw a o e) (fun b hb => ⟨(g.bag b hb).1, (g.bag b hb).2.2⟩) dp
theorem start_len {N : List Str} {vs : List V} (h : vs.length ≤ N.length) : (L2.start N vs).length = N.length := by
  unfold L2.start
  rw [List.length_append, List.length_map, List.length_replicate]; omega
/-- a def of data -/
theorem fn_pure {G : Gd} {M : Nm} {x : Str} {st : Stmt} {ps : List Str} {sp : DS} (df : Df G x st ps) (hg : G.grd = false) (S : FnScope M.N ps (defScope st)) (hM : nmOk M = true) (hsc : M.sc = defScope st)
    (body : ∀ F : Fx, F.bag = none → ∀ ds Q0, ds.length = ps.length → sp ds Q0 → WS G M F (defBody st) (initG ds M.N.length) ⟨fun _ => Q0 .none, Q0, fun _ => False, fun _ => False⟩) : Fn G (G.k + 1) x ps (spD G.K ps.length sp) := by
  obtain ⟨f, fd, h1, h2, h3⟩ := df.ex
  refine ⟨f, fd, h1, h2.kp, h3, h2.ok S (fun vs H Q E h => ?_) fun cdv A outer s H vs Q E hr h => ?_⟩
  · obtain ⟨ds, _, _, e, _, hd, _⟩ := h
    exact hd.len.trans e
  · obtain ⟨ds, S0, Q0, e, ex, hd, hs, k⟩ := h
    have hpl : ps.length ≤ M.N.length := by have := congrArg List.length S.pre; rw [List.length_take] at this; omega
    have gl : (initG ds M.N.length).length = M.N.length := by
      unfold initG
      rw [List.length_append, List.length_map, List.length_replicate]; omega
    have sl : (L2.start M.N vs).length = M.N.length := start_len (by rw [hd.len]; omega)
    refine ⟨_, pss_w _, ((body ⟨H, S0, none, []⟩ rfl ds Q0 e hs).run gl _ (good_def hM hsc hr (fun z => by rw [hg] at z; cases z) fun z => by rw [hg] at z; cases z) _ H S0 sl (grel_start ex hd)).mono ?_ ?_ ?_ ?_⟩
    · rintro σ' H' ⟨Γ', S', _, _, g, _, q⟩
      exact back_of g.nil .non (k _ q)
    · rintro v H' ⟨S', d, g, _, dp, q⟩
      exact back_of g dp (k _ q)
    · rintro σ' H' ⟨_, _, _, _, _, _, q⟩; exact q.elim
    · rintro σ' H' ⟨_, _, _, _, _, _, q⟩; exact q.elim
/-- a def of the bag and data -/
theorem fn_bag {G : Gd} {M : Nm} {x : Str} {st : Stmt} {ps : List Str} {sp : DS} (df : Df G x st ps) (hg : G.grd = false) (S : FnScope M.N ps (defScope st)) (hM : nmOk M = true) (hsc : M.sc = defScope st)
    (body : ∀ F b, F.bag = some b → ∀ ds Q0, ds.length + 1 = ps.length → sp ds Q0 → WS G M F (defBody st) (initB b ds M.N.length) ⟨fun _ => Q0 .none, Q0, fun _ => False, fun _ => False⟩) : Fn G (G.k + 1) x ps (spB G.K ps.length sp) := by
  obtain ⟨f, fd, h1, h2, h3⟩ := df.ex
  refine ⟨f, fd, h1, h2.kp, h3, h2.ok S (fun vs H Q E h => ?_) fun cdv A outer s H vs Q E hr h => ?_⟩
  · obtain ⟨b, us, ds, _, _, rfl, e, _, _, _, hd, _⟩ := h
    rw [List.length_cons, hd.len]; exact e
  · obtain ⟨b, us, ds, S0, Q0, rfl, e, ex, b1, b2, hd, hs, k⟩ := h
    have hpl : ps.length ≤ M.N.length := by have := congrArg List.length S.pre; rw [List.length_take] at this; omega
    have gl : (initB b ds M.N.length).length = M.N.length := by
      unfold initB
      rw [List.length_cons, List.length_append, List.length_map, List.length_replicate]; omega
    have sl : (L2.start M.N (.ref b :: us)).length = M.N.length := start_len (by rw [List.length_cons, hd.len]; omega)
    refine ⟨_, pss_w _, ((body ⟨H, S0, some b, []⟩ b rfl ds Q0 e hs).run gl _ (good_def hM hsc hr (fun z => by rw [hg] at z; cases z) fun z => by rw [hg] at z; cases z) _ H S0 sl (grel_bag ex b1 b2 hd)).mono ?_ ?_ ?_ ?_⟩
    · rintro σ' H' ⟨Γ', S', _, _, g, _, q⟩
      exact back_of g.nil .non (k _ q)
    · rintro v H' ⟨S', d, g, _, dp, q⟩
      exact back_of g dp (k _ q)
    · rintro σ' H' ⟨_, _, _, _, _, _, q⟩; exact q.elim
    · rintro σ' H' ⟨_, _, _, _, _, _, q⟩; exact q.elim
structure FnOkG (P : Program) (w : World) (K : PySem.W.Frag) (mg : Str → Option Value) (base : Heap) (k : Nat) (f : Addr) (fd : FuncData) (ps : List Str) (sp : Sp) : Prop where
  len : ∀ vs H Q E, sp vs H Q E → vs.length = ps.length
  run : ∀ (A : Around) (outer : List Env) (s : Shared) (H : Hp) (args : Args) (us : List Value) (vs : List V) (Q : VK) (E : XK), A.guards = some [] → Room k A → Env0 P w K mg base A outer s H → BindsTo s fd args (ps.zip us) → Vals vs us → sp vs H Q E →
    codeAny (model P w) A (.call (.ref f) args) (CR CX0 outer P w H s Q E) s
structure FnG (G : Gd) (k : Nat) (x : Str) (ps : List Str) (sp : Sp) : Prop where
  ex : ∃ f fd, G.mg x = some (.ref f) ∧ PySem.W.keepIn G.K (.ref f) = true ∧ Binds G.K fd ps [] ∧ FnOkG G.P G.w G.K G.mg G.base k f fd ps sp
/-- a def by its body, nothing being shown around -/
theorem okG {P : Program} {w : World} {K : PySem.W.Frag} {mg : Str → Option Value} {base : Heap} {k : Nat} {x qual : Str} {st : Stmt} {f : Addr} {fd : FuncData} {N ps : List Str} {sp : Sp} (F0 : L2.Fun K x qual st f fd) (S : FnScope N ps (defScope st)) (len : ∀ vs H Q E, sp vs H Q E → vs.length = ps.length)
    (hbody : ∀ (cdv : Value) (A : Around) (outer : List Env) (s : Shared) (H : Hp) (vs : List V) (Q : VK) (E : XK), A.guards = some [] → Room k (A.deeper (envOfC qual (defScope st) s.heap.objs.size f cdv)) → sp vs H Q E →
      ∃ t, PSs (cxOf CX0 P w K mg base N qual (defScope st) f cdv A outer s H E).nox (defBody st) t ∧ t ⟨fun _ H' => Q .non H', Q, fun _ _ => False, fun _ _ => False⟩ (L2.start N vs) H) : FnOkG P w K mg base (k + 1) f fd ps sp := by
  obtain ⟨oc, od, kV, doc, pm, an, cdv, ct, osl, rfl, lk, hcd⟩ := F0.ex
  constructor
  · exact len
  intro A outer s H args us vs Q E gd hr e0 hb r hsp
  have low : ∀ b o, base.get? b = some o → s.heap.get? b = some o := fun b o z => (e0.bs b o z).1
  have kin : K.In s.heap := e0.mod.kin.keeps low
  have nol : s.heap.NoLimit := e0.mod.nolimit.keeps low
  have par : ∀ y ∈ ps.zip us, (defScope st).names.lookup y.1 = some .local ∨ ((defScope st).names.lookup y.1 = some .cell ∧ ((cellsFrom (s.heap.objs.size + 1) (defScope st).names []).lookup y.1).isSome = true) := by
    rintro ⟨n, v⟩ hy
    rcases S.par n (List.of_mem_zip hy).1 with z | z
    · exact .inl z
    · exact .inr ⟨z, PySem.W.cellsFrom_some _ _ _ (.inl z)⟩
  refine codeAny_call_function hr.depth (kin _ _ lk) rfl S.co S.gen rfl (PySem.W.codeRec_of kin hcd) ?_
  refine hb _ _ _ _ (wpAny_newFunctionEnv_cells S.kind par ?_)
  intro env he s1 x1
  subst he
  refine ⟨nol.keeps x1.toInCall.keep, ?_⟩
  obtain ⟨t, ht, hq⟩ := hbody cdv A outer s H vs Q E gd (hr.deeper _) hsp
  have I := inv_start (CX := CX0) (E := E) S hr.hd e0 (len _ _ _ _ hsp) r x1
  refine codeAny_func (wpAny_mono (ht.nox.run [] s1 (L2.start N vs) H _ I hq) ?_ fun _ _ z => z)
  intro fl s' hs
  cases fl with
  | ret u =>
    obtain ⟨v, σ', H', J, rv, q⟩ := hs
    exact ⟨v, H', J.os, J.bare, J.base, J.hok, rv, q⟩
  | next =>
    obtain ⟨σ', H', J, q⟩ := hs
    exact ⟨V.non, H', J.os, J.bare, J.base, J.hok, rfl, q⟩
  | brk => obtain ⟨_, _, _, q⟩ := hs; exact q.elim
  | cont => obtain ⟨_, _, _, q⟩ := hs; exact q.elim
theorem fnG_pure {G : Gd} {M : Nm} {x : Str} {st : Stmt} {ps : List Str} {sp : DS} (hc : G.cq = none) (df : Df G x st ps) (S : FnScope M.N ps (defScope st)) (hM : nmOk M = true) (hsc : M.sc = defScope st)
    (body : ∀ F : Fx, F.bag = none → ∀ ds Q0, ds.length = ps.length → sp ds Q0 → WS G M F (defBody st) (initG ds M.N.length) ⟨fun _ => Q0 .none, Q0, fun _ => False, fun _ => False⟩) : FnG G (G.k + 1) x ps (spD G.K ps.length sp) := by
  obtain ⟨f, fd, h1, h2, h3⟩ := df.ex
  refine ⟨f, fd, h1, h2.kp, h3, okG h2 S (fun vs H Q E h => ?_) fun cdv A outer s H vs Q E hgd hr h => ?_⟩
  · obtain ⟨ds, _, _, e, _, hd, _⟩ := h
    exact hd.len.trans e
  · obtain ⟨ds, S0, Q0, e, ex, hd, hs, k⟩ := h
    have hpl : ps.length ≤ M.N.length := by have := congrArg List.length S.pre; rw [List.length_take] at this; omega
    have gl : (initG ds M.N.length).length = M.N.length := by
      unfold initG
      rw [List.length_append, List.length_map, List.length_replicate]; omega
    have sl : (L2.start M.N vs).length = M.N.length := start_len (by rw [hd.len]; omega)
    refine ⟨_, pss_w _, ((body ⟨H, S0, none, []⟩ rfl ds Q0 e hs).run gl _ (good_def hM hsc hr (fun _ => hgd) fun _ v q e => by rw [hc] at e; cases e) _ H S0 sl (grel_start ex hd)).mono ?_ ?_ ?_ ?_⟩
    · rintro σ' H' ⟨Γ', S', _, _, g, _, q⟩
      exact back_of g.nil .non (k _ q)
    · rintro v H' ⟨S', d, g, _, dp, q⟩
      exact back_of g dp (k _ q)
    · rintro σ' H' ⟨_, _, _, _, _, _, q⟩; exact q.elim
    · rintro σ' H' ⟨_, _, _, _, _, _, q⟩; exact q.elim
section
variable {G : Gd} {M : Nm} {F : Fx} {Γ : List Bd} {Q : PyData → Prop} {pos p : Pos} {e : Expr} {es : List Expr}
theorem pe_callG {X : Cx} {k : Nat} {f : Addr} {fd : FuncData} {ps : List Str} {sp : Sp} {x : Str} {t : TA} (FG : FnOkG X.prog X.w X.K X.mg X.base k f fd ps sp) (hgd : X.A.guards = some []) (hr : Room k X.A) (hg : Gl X x) (hm : X.mg x = some (.ref f)) (hk : PySem.W.keepIn X.K (.ref f) = true) (hb : Binds X.K fd ps [])
    (ha : PA X (e :: es) t) (hdb : (x == ("__debug__" : Str)) = false) (he : starEach (e :: es) X.env = (false, eval e X.env) :: starEach es X.env) (hpl : (backTo pos (starEach es X.env)).any (·.1) = false) :
    PE X (.Call (.Name x p) (e :: es) [] pos) (tCall sp [] (fun _ _ _ => False) t) := by
  constructor
  intro pins s σ H Q I h
  refine wpAny_Call_Name_kw (ld_glob I hg hm (PySem.W.callWith_K (h₀ := X.base) I.ok.mod.kin hk (thn (ha.run pos pins s σ H _ I h) ?_) he hpl) hdb)
  intro us s1 ⟨vs, H1, I1, r, q⟩
  have q : sp (vs ++ []) H1 Q _ := q
  rw [List.append_nil] at q
  have hl : (us ++ ([] : List Value)).length = ps.length := by
    rw [List.append_nil, ← r.length]
    exact FG.len _ _ _ _ q
  refine ⟨I1.kIn, wpAny_call (codeAny_mono (FG.run X.A X.stack s1 H1 ⟨us, []⟩ us vs Q _ hgd hr I1.env0 (by have := hb s1 us I1.kIn hl; rwa [List.append_nil] at this) r q) ?_)⟩
  intro r' s' hq
  cases r' with
  | error _ => exact hq.elim
  | ok fl =>
    cases fl with
    | ret _ => exact I1.after hq
    | next => exact False.elim hq
    | brk => exact False.elim hq
    | cont => exact False.elim hq
theorem we_callG {k n : Nat} {x : Str} {ps : List Str} {sp : DS} (fn : FnG G k x ps (spD G.K n sp)) (hG : G.grd = true) (hg : x ∈ M.gl) (hk : k ≤ G.k) (h : WL G M F (e :: es) Γ fun ds => ds.length = n ∧ sp ds Q)
    (hdb : (x == ("__debug__" : Str)) = false := by decide) (he : ∀ env, starEach (e :: es) env = (false, eval e env) :: starEach es env := by intro _; rfl) (hpl : ∀ env, (backTo pos (starEach es env)).any (·.1) = false := by intro _; rfl) :
    WE G M F (.Call (.Name x p) (e :: es) [] pos) Γ Q := by
  obtain ⟨f, fd, h1, h2, h3, h4⟩ := fn.ex
  refine ⟨fun X gd σ H S hl g => ?_⟩
  have h4' : FnOkG X.prog X.w X.K X.mg X.base k f fd ps (spD G.K n sp) := by rw [gd.prog, gd.w, gd.K, gd.mg, gd.base]; exact h4
  refine tW.of (pe_callG h4' (gd.grd hG) (gd.room.mono hk) (gd.gl hg) (by rw [gd.mg]; exact h1) (by rw [gd.K]; exact h2) (by rw [gd.K]; exact h3) (pa_w (e :: es)) hdb (he X.env) (hpl X.env)) ?_
  refine (h.run X gd σ H S hl g).mono fun vs H1 ⟨S1, ds, g1, e1, k1, hd, hn, q⟩ => ?_
  rw [List.append_nil]
  refine ⟨ds, S1, Q, hn, ⟨g1.ex, g1.td⟩, hd, q, fun d qd v H2 S2 kp s2 x2 nw _ dp => ?_⟩
  have g2 : GRel G.K F Γ σ H2 S2 := g1.ext (fun a o q _ _ => kp a o q (by simp)) s2 x2.1 nw (td := x2.2) (dm := fun a o q => ⟨o, kp a o q (by simp)⟩) (tab := tabs_nl g1.tab fun a o q _ => kp a o q (by simp)) fun bb hb => by
    obtain ⟨q1, ⟨o, q2⟩, c, i, j, m, ns, q3, q4, q5⟩ := g1.bag bb hb
    refine ⟨?_, BagIn.mono ⟨c, i, j, m, ns, q3, q4, q5⟩ s2 ((kp bb _ q3 (by simp)).trans q3.symm)⟩
    cases z : S2 bb with
    | none => rfl
    | some u =>
      rcases nw bb u z with ⟨u', w⟩ | w
      · rw [q1] at w; cases w
      · rw [q3] at w; cases w
  exact ⟨S2, d, g2, e1.trans s2, k1.trans ⟨fun a o q _ _ => kp a o q (by simp), fun a o q => ⟨o, kp a o q (by simp)⟩, nw⟩, dp, qd⟩
end
end DW
namespace DW
open PySem PySem.Spec L2
open PyProof.Rows hiding St
section
variable {G : Gd} {M : Nm} {F : Fx} {Γ : List Bd} {D : DE} {Q : PyData → Prop} {pos p p2 p3 : Pos} {a b c e : Expr} {es : List Expr} {j : Nat} {bb : Addr} {y : Str} {i : Nat}
theorem GRel.bagSet {K : PySem.W.Frag} {σ : St} {H S : Hp} {xs : List V} (g : GRel K F Γ σ H S) (hF : F.bag = some bb) (h : BagIn K S (upd H bb (.lst xs)) bb) : GRel K F Γ σ (upd H bb (.lst xs)) S := by
  obtain ⟨b1, ⟨o, b2⟩, b3⟩ := g.bag bb hF
  refine ⟨fun x u z => ?_, g.s0, g.nw, fun x u z n t => ?_, fun b hb => ?_, g.loc, fun i ds hi => ?_, g.raw, g.sep, g.td, g.dm.trans (Dom.upd H bb _), tabs_nl g.tab (Nl.upd (.inr (by obtain ⟨_, _, _, _, _, w, _⟩ := b3; exact ⟨_, w⟩)))⟩
  · rw [upd_ne (ne_of_none z b1)]; exact g.ex x u z
  · have ne : x ≠ bb := fun w => n (by rw [w]; exact hF)
    rw [upd_ne ne]; exact g.keep x u z n t
  · rw [hF] at hb
    cases hb
    exact ⟨b1, ⟨o, b2⟩, h⟩
  · obtain ⟨t, ys, q1, q2, q3, q4, q5⟩ := g.own i ds hi
    have ne : t ≠ bb := fun w => by rw [w, b2] at q4; cases q4
    exact ⟨t, ys, q1, by rw [upd_ne ne]; exact q2, q3, q4, q5⟩
/-- bag[0], bag[1], bag[2]: some int -/
theorem we_bag0 (hn : Rdb M i y) (hb : Γ[i]? = some (Bd.rw (.ref bb))) (hF : F.bag = some bb) (h : ∀ n : Int, 0 ≤ n → Q (.int n)) : WE G M F (.Subscript (.Name y p) (.Constant (.int 0) j p2) pos) Γ Q := by
  refine ⟨fun X gd σ H S hl g => tW.of (pe_ix ix_list (pe_var (gd.at hn.1) (gd.vis hn) hn.2.2.1 hn.2.2.2) pe_int (fun _ _ => rfl)) ?_⟩
  obtain ⟨_, _, t, n0, n1, n2, ns, e, _, h0, _⟩ := g.bag bb hF
  exact ⟨_, g.raw i _ hb, bb, _, 0, .int n0, rfl, rfl, SqL.of e, rfl, PostE.here g (.int _) (h n0 h0)⟩
theorem we_bag1 (hn : Rdb M i y) (hb : Γ[i]? = some (Bd.rw (.ref bb))) (hF : F.bag = some bb) (h : ∀ n : Int, 0 ≤ n → n < 2147483647 → Q (.int n)) : WE G M F (.Subscript (.Name y p) (.Constant (.int 1) j p2) pos) Γ Q := by
  refine ⟨fun X gd σ H S hl g => tW.of (pe_ix ix_list (pe_var (gd.at hn.1) (gd.vis hn) hn.2.2.1 hn.2.2.2) pe_int (fun _ _ => rfl)) ?_⟩
  obtain ⟨_, _, t, n0, n1, n2, ns, e, _, _, h0, h1, _⟩ := g.bag bb hF
  exact ⟨_, g.raw i _ hb, bb, _, 1, .int n1, rfl, rfl, SqL.of e, rfl, PostE.here g (.int _) (h n1 h0 h1)⟩
theorem we_bag2 (hn : Rdb M i y) (hb : Γ[i]? = some (Bd.rw (.ref bb))) (hF : F.bag = some bb) (h : ∀ n : Int, 0 ≤ n → Q (.int n)) : WE G M F (.Subscript (.Name y p) (.Constant (.int 2) j p2) pos) Γ Q := by
  refine ⟨fun X gd σ H S hl g => tW.of (pe_ix ix_list (pe_var (gd.at hn.1) (gd.vis hn) hn.2.2.1 hn.2.2.2) pe_int (fun _ _ => rfl)) ?_⟩
  obtain ⟨_, _, t, n0, n1, n2, ns, e, _, _, _, _, h0, _⟩ := g.bag bb hF
  exact ⟨_, g.raw i _ hb, bb, _, 2, .int n2, rfl, rfl, SqL.of e, rfl, PostE.here g (.int _) (h n2 h0)⟩
theorem we_bag3 (hn : Rdb M i y) (hb : Γ[i]? = some (Bd.rw (.ref bb))) (hF : F.bag = some bb) (h : ∀ ns : List Int, ns.length ≤ 63 → (∀ n ∈ ns, 0 ≤ n) → Q (.list (ns.map PyData.int))) : WE G M F (.Subscript (.Name y p) (.Constant (.int 3) j p2) pos) Γ Q := by
  refine ⟨fun X gd σ H S hl g => tW.of (pe_ix ix_list (pe_var (gd.at hn.1) (gd.vis hn) hn.2.2.1 hn.2.2.2) pe_int (fun _ _ => rfl)) ?_⟩
  obtain ⟨_, _, t, n0, n1, n2, ns, e, sq, _, _, _, _, h0⟩ := g.bag bb hF
  exact ⟨_, g.raw i _ hb, bb, _, 3, .ref t, rfl, rfl, SqL.of e, rfl, PostE.here g (.lst sq DpAll.ofInts) (h ns h0.1 h0.2)⟩
theorem w1_bag0 (hn : Rdb M i y) (hb : Γ[i]? = some (Bd.rw (.ref bb))) (hF : F.bag = some bb) (h : WE G M F e Γ fun d => ∃ n : Int, d = .int n ∧ 0 ≤ n ∧ D.nx Γ)
    (hs : ∀ env, swapsWithSole [.Subscript (.Name y p) (.Constant (.int 0) j p3) p2] e pos.line env = pure false := by intro _; rfl) (hw : ∀ env, swappedStores [.Subscript (.Name y p) (.Constant (.int 0) j p3) p2] e env = pure none := by intro _; rfl) :
    W1 G M F (.Assign [.Subscript (.Name y p) (.Constant (.int 0) j p3) p2] e pos) Γ D := by
  refine ⟨fun hΓ X gd σ H S hl g => tWs.of (ps_asg (pe_w e) (pg_sub (pe_var (gd.at hn.1) (gd.vis hn) hn.2.2.1 hn.2.2.2) pe_int set_list (by intro _; rfl)) (hs X.env) (hw X.env) (by rfl)) ?_⟩
  refine (h.run X gd σ H S hl g).mono fun v H1 ⟨S1, d, g1, e1, k1, hdd, n, en, h0, q⟩ => ?_
  subst en
  cases hdd
  obtain ⟨_, _, t, n0, n1, n2, ns, eb, sq, r⟩ := g1.bag bb hF
  exact ⟨_, g1.raw i _ hb, bb, _, 0, 0, rfl, rfl, eb, rfl, Γ, S1, hl, hΓ, g1.bagSet hF ⟨t, n, n1, n2, ns, upd_same, sq, h0, r.2⟩, e1, q⟩
theorem w1_bag1 (hn : Rdb M i y) (hb : Γ[i]? = some (Bd.rw (.ref bb))) (hF : F.bag = some bb) (h : WE G M F e Γ fun d => ∃ n : Int, d = .int n ∧ (0 ≤ n ∧ n < 2147483647) ∧ D.nx Γ)
    (hs : ∀ env, swapsWithSole [.Subscript (.Name y p) (.Constant (.int 1) j p3) p2] e pos.line env = pure false := by intro _; rfl) (hw : ∀ env, swappedStores [.Subscript (.Name y p) (.Constant (.int 1) j p3) p2] e env = pure none := by intro _; rfl) :
    W1 G M F (.Assign [.Subscript (.Name y p) (.Constant (.int 1) j p3) p2] e pos) Γ D := by
  refine ⟨fun hΓ X gd σ H S hl g => tWs.of (ps_asg (pe_w e) (pg_sub (pe_var (gd.at hn.1) (gd.vis hn) hn.2.2.1 hn.2.2.2) pe_int set_list (by intro _; rfl)) (hs X.env) (hw X.env) (by rfl)) ?_⟩
  refine (h.run X gd σ H S hl g).mono fun v H1 ⟨S1, d, g1, e1, k1, hdd, n, en, ⟨h0, h1⟩, q⟩ => ?_
  subst en
  cases hdd
  obtain ⟨_, _, t, n0, n1, n2, ns, eb, sq, r0, _, _, r⟩ := g1.bag bb hF
  exact ⟨_, g1.raw i _ hb, bb, _, 1, 1, rfl, rfl, eb, rfl, Γ, S1, hl, hΓ, g1.bagSet hF ⟨t, n0, n, n2, ns, upd_same, sq, r0, h0, h1, r⟩, e1, q⟩
def rGetL (K : PySem.W.Frag) : V → V → Hp → VK → Prop := fun x y H Q => ∃ p xs k v, x = .ref p ∧ y = .int k ∧ SqL K H p xs ∧ 0 ≤ k ∧ k < 2 ^ 63 ∧ xs[k.toNat]? = some v ∧ Q v H
theorem get_list {X : Cx} : PGet X (rGetL X.K) := by
  intro pins s σ H o i ov iv Q I r1 r2 h
  obtain ⟨p, xs, k, v, rfl, rfl, hq, h0, h1, hv, q⟩ := h
  cases r1
  obtain ⟨t, rfl⟩ := r2
  obtain ⟨its, r, pl, _⟩ := I.list hq
  obtain ⟨u, hu, ru⟩ := r.get hv
  exact wpAny_getItem_list pl.isList h0 h1 (by simpa using hu) ⟨v, H, I, ru, q⟩
theorem w1_bag2 {j2 : Nat} {p4 : Pos} (hn : Rdb M i y) (hb : Γ[i]? = some (Bd.rw (.ref bb))) (hF : F.bag = some bb) (h : D.nx Γ) :
    W1 G M F (.AugAssign (.Subscript (.Name y p) (.Constant (.int 2) j p3) p2) .Add (.Constant (.int 1) j2 p4) pos) Γ D := by
  refine ⟨fun hΓ X gd σ H S hl g => tWs.of (ps_augS (pe_var (gd.at hn.1) (gd.vis hn) hn.2.2.1 hn.2.2.2) pe_int get_list pe_int ip_add set_list (by intros; rfl)) ?_⟩
  obtain ⟨_, _, t, n0, n1, n2, ns, eb, sq, r0, r1, r2, r3, r⟩ := g.bag bb hF
  refine ⟨_, g.raw i _ hb, bb, _, 2, .int n2, rfl, rfl, SqL.of eb, by decide, by decide, rfl, n2, 1, rfl, rfl, bb, _, 2, 2, rfl, rfl, eb, rfl, Γ, S, hl, hΓ, g.bagSet hF ⟨t, n0, n1, n2 + 1, ns, upd_same, sq, r0, r1, r2, by omega, r⟩, Same.refl S, h⟩
/-- the def that makes the bag -/
def spNew (K : PySem.W.Frag) : Sp := fun vs H Q _ => ∃ (ns : List Int) (S : Hp), (Same S H ∧ TdS S) ∧ DpAll K S vs [.list (ns.map PyData.int)] ∧ ns.length ≤ 63 ∧
  ∀ b H' S', Same H H' → Same S S' → (Same S' H' ∧ TdS S') → (∀ a o, S' a = some o → (∃ u, S a = some u) ∨ H a = none) → H b = none → S' b = none → BagIn K S' H' b → Q (.ref b) H'
theorem fn_new {x : Str} {st : Stmt} {ps : List Str} (df : Df G x st ps) (hg : G.grd = false) (S : FnScope M.N ps (defScope st)) (hM : nmOk M = true) (hsc : M.sc = defScope st) (h1 : ps.length = 1)
    (body : ∀ F : Fx, F.bag = none → ∀ ns : List Int, ns.length ≤ 63 → ∃ es pos pos', defBody st = [.Return (some (.List es pos')) pos] ∧ WL G M F es (initG [.list (ns.map PyData.int)] M.N.length) fun ds => ∃ (i j k : Int) (ms : List Int), ds = [.int i, .int j, .int k, .list (ms.map PyData.int)] ∧ 0 ≤ i ∧ 0 ≤ j ∧ j < 2147483647 ∧ 0 ≤ k ∧ (ms.length ≤ 63 ∧ ∀ m ∈ ms, 0 ≤ m)) : Fn G (G.k + 1) x ps (spNew G.K) := by
  obtain ⟨f, fd, r1, r2, r3⟩ := df.ex
  refine ⟨f, fd, r1, r2.kp, r3, r2.ok S (fun vs H Q E h => ?_) fun cdv A outer s H vs Q E hr h => ?_⟩
  · obtain ⟨ns, S, _, hd, _⟩ := h
    rw [hd.len, h1]; rfl
  · obtain ⟨ns, S0, ex, hd, hz, k⟩ := h
    obtain ⟨es, pos, pos', eb, hw⟩ := body ⟨H, S0, none, []⟩ rfl ns hz
    have hpl : ps.length ≤ M.N.length := by have := congrArg List.length S.pre; rw [List.length_take] at this; omega
    have sl : (L2.start M.N vs).length = M.N.length := start_len (by rw [hd.len]; show 1 ≤ _; omega)
    have gd : Good G M (cxOf CX0 G.P G.w G.K G.mg G.base M.N x (defScope st) f cdv A outer s H E).nox := good_def hM hsc hr (fun z => by rw [hg] at z; cases z) fun z => by rw [hg] at z; cases z
    rw [eb]
    refine ⟨_, pss_one (ps_ret (pe_lst (pa_w es))), (hw.run _ gd _ H S0 sl (grel_start ex hd)).mono fun us H1 ⟨S1, ds, g1, e1, k1, hdd, i, j, m, ms, eds, q0, q1, q2, q3, q4⟩ => ?_⟩
    subst eds
    cases hdd with
    | cons a1 a2 => cases a2 with
      | cons a2 a3 => cases a3 with
        | cons a3 a4 => cases a4 with
          | cons a4 a5 =>
            cases a5
            cases a1
            cases a2
            cases a3
            cases a4 with
            | lst s1 d1 =>
              rename_i t xs _
              rw [d1.ints] at s1
              refine ⟨by show 4 ≤ sizeLine; decide, fun p hp => ?_⟩
              have sm := same_new (o := .lst [.int i, .int j, .int m, .ref t]) hp
              exact k p _ S1 (fun x u z => sm x u (g1.keep x u z (by simp) (.inl rfl))) e1 ⟨fun x u z => sm x u (g1.ex x u z), g1.td⟩ (fun x u z => g1.nw x u z) (g1.h0 hp) (g1.sNone hp) ⟨t, i, j, m, ms, upd_same, s1, q0, q1, q2, q3, q4⟩
theorem GRel.back {K : PySem.W.Frag} {F' : Fx} {Γ0 Γ' : List Bd} {σ0 σ' : St} {H1 S1 H' S' : Hp} (g1 : GRel K F Γ0 σ0 H1 S1) (hF : F.bag = none) (hT : F'.tb = F.tb) (d0 : Dom F.H0 F'.H0) (e0 : ∀ a o, F.H0 a = some o → (F.tb = [] ∨ NT o) → F'.H0 a = some o ∧ F'.bag ≠ some a) (e1 : Same F.S0 F'.S0)
    (e2 : ∀ a o, F'.S0 a = some o → (∃ u, F.S0 a = some u) ∨ F.H0 a = none) (g : GRel K F' Γ' σ' H' S') : GRel K F Γ' σ' H' S' := by
  have n0 : ∀ {a : Addr}, F'.H0 a = none → F.H0 a = none := fun {a} h => by
    cases q : F.H0 a with
    | none => rfl
    | some o =>
      obtain ⟨u, w⟩ := d0 a o q
      rw [h] at w; cases w
  refine ⟨g.ex, e1.trans g.s0, fun a o z => ?_, fun a o z _ t => g.keep a o (e0 a o z t).1 (e0 a o z t).2 (by rw [hT]; exact t), fun b hb => (by rw [hF] at hb; cases hb), g.loc, fun i ds hi => ?_, g.raw, g.sep, g.td, d0.trans g.dm, hT ▸ g.tab⟩
  · rcases g.nw a o z with ⟨u, w⟩ | w
    · exact e2 a u w
    · exact .inr (n0 w)
  · obtain ⟨a, xs, q1, q2, q3, q4, q5⟩ := g.own i ds hi
    exact ⟨a, xs, q1, q2, q3, n0 q4, q5⟩
theorem noMu {ds : List PyData} {n : Nat} {i : Nat} {es : List PyData} (h : (initG ds n)[i]? = some (Bd.mu es)) : False := by
  unfold initG at h
  by_cases hi : i < ds.length
  · rw [List.getElem?_append_left (by simpa using hi), List.getElem?_map, List.getElem?_eq_getElem hi] at h
    cases h
  · rw [List.getElem?_append_right (by simpa using hi)] at h
    have := rep_get h
    cases this
/-- bag = f(script); .. -/
theorem ws_new {k : Nat} {x z : Str} {ps : List Str} {sts : List Stmt} (i : Nat) {px : Pos} {ns : List Int} {ds0 : List PyData} {n0 : Nat} (fn : Fn G k z ps (spNew G.K)) (hF : F.bag = none) (hg : z ∈ M.gl) (hk : k ≤ G.k) (hx : Sto M i x) (hz : ns.length ≤ 63)
    (h : WL G M F [a] (initG ds0 n0) fun ds => ds = [.list (ns.map PyData.int)])
    (rest : ∀ F' b, F'.bag = some b → WS G M F' sts ((initG ds0 n0).set i (Bd.rw (.ref b))) D) (hdb : (z == ("__debug__" : Str)) = false := by decide) (he : ∀ env, starEach [a] env = [(false, eval a env)] := by intro _; rfl)
    (hs : ∀ env, swapsWith (.Call (.Name z p) [a] [] p2) (some (.Name x px)) pos.line env = pure false := by intro _; rfl) :
    WS G M F (.Assign [.Name x px] (.Call (.Name z p) [a] [] p2) pos :: sts) (initG ds0 n0) D := by
  obtain ⟨f, fd, h1, h2, h3, h4⟩ := fn.ex
  refine ⟨fun hΓ X gd σ H S hl g => tWb.of (pss_cons (ps_set gd.nd (gd.at hx.1) (gd.sto hx).1 (pe_call (E := fun _ _ _ => False) (fn_use gd h4) (gd.room.mono hk) (gd.gl hg) (by rw [gd.mg]; exact h1) (by rw [gd.K]; exact h2) (by rw [gd.K]; exact h3) .nil pass0 (pa_w [a]) hdb (he X.env) rfl) (hs X.env) (gd.sto hx).2) (pss_w sts)) ?_⟩
  refine (h.run X gd σ H S hl g).mono fun vs H1 ⟨S1, ds, g1, e1, k1, hd, eds⟩ => ?_
  subst eds
  rw [List.append_nil]
  refine ⟨ns, S1, ⟨g1.ex, g1.td⟩, hd, hz, fun b H2 S2 kp s2 x2 nw hb sb bi => ?_⟩
  have nbF : F.H0 b = none := g1.h0 hb
  have g2 : GRel G.K F (initG ds0 n0) σ H2 S2 := g1.ext (fun t o q _ _ => kp t o q) s2 x2.1 nw (td := x2.2) (dm := fun a o q => ⟨o, kp a o q⟩) (tab := tabs_nl g1.tab fun a o q _ => kp a o q) fun b' hb' => by rw [hF] at hb'; cases hb'
  have bo : ∃ o, H2 b = some o := by obtain ⟨c, n0, n1, n2, ms, z, _⟩ := bi; exact ⟨_, z⟩
  have gB : GRel G.K ⟨H2, S2, some b, F.tb⟩ (initG ds0 n0) σ H2 S2 := by
    refine ⟨x2.1, Same.refl S2, fun t o q => .inl ⟨o, q⟩, Kp.refl H2, fun b' hb' => ?_, g2.loc, fun j es q => (noMu q).elim, g2.raw, fun j m t es fs q => (noMu q).elim, x2.2, Dom.refl H2, g2.tab⟩
    cases hb'
    exact ⟨sb, bo, bi⟩
  have gl := (rest ⟨H2, S2, some b, F.tb⟩ b rfl).run (by rw [List.length_set]; exact hΓ) X gd (σ.set i (some (.ref b))) H2 S2 (by rw [List.length_set]; exact hl) (gB.storeRaw (hΓ.trans hl.symm))
  have bk : ∀ {Γ' : List Bd} {σ' : St} {H' S' : Hp}, GRel G.K ⟨H2, S2, some b, F.tb⟩ Γ' σ' H' S' → GRel G.K F Γ' σ' H' S' := fun {Γ' σ' H' S'} q => by
    refine GRel.back (F' := ⟨H2, S2, some b, F.tb⟩) g1 hF rfl g2.dm (fun t o w nt => ⟨g2.keep t o w (by rw [hF]; simp) nt, fun w' => ?_⟩) g2.s0 (fun t o w => g2.nw t o w) q
    cases w'
    rw [nbF] at w; cases w
  have e12 : Same S S2 := e1.trans s2
  show tWb X sts (ends G.K F M.N.length D S) (σ.set i (some (.ref b))) H2
  refine gl.mono ?_ ?_ ?_ ?_
  · rintro σ5 H5 ⟨Γ5, S5, w1, w1', w2, w3, w4⟩
    exact ⟨Γ5, S5, w1, w1', bk w2, e12.trans w3, w4⟩
  · rintro v H5 ⟨S5, d, w1, w2, w3, w4⟩
    exact ⟨S5, d, bk w1, e12.trans w2, w3, w4⟩
  · rintro σ5 H5 ⟨Γ5, S5, w1, w1', w2, w3, w4⟩
    exact ⟨Γ5, S5, w1, w1', bk w2, e12.trans w3, w4⟩
  · rintro σ5 H5 ⟨Γ5, S5, w1, w1', w2, w3, w4⟩
    exact ⟨Γ5, S5, w1, w1', bk w2, e12.trans w3, w4⟩
end
/-- what the law's def promises -/
def spLaw : DS := fun ds Q => ∃ ns : List Int, ds = [.list (ns.map PyData.int)] ∧ ns.length ≤ 63 ∧ Q (.bool true)
theorem law_runs {P : Program} {w : World} {K : PySem.W.Frag} {mg mb : Str → Option Value} {k : Nat} {fa a : Addr} {x : Str} {s1 : Shared} {vs : List Value} {ns : List Int}
    (KX : K.In s1.heap) (hns : s1.heap.Ns mainGlobals mg) (hb : s1.heap.Ns builtinsNs mb) (hbb : ∀ x : Str, x ≠ "__name__" → mb x = bootBuiltins x) (hlim : s1.heap.NoLimit) (hg : s1.gens = #[])
    (ha : s1.heap.get? a = some { cls := .type "list", data := .seq vs.toArray }) (hi : IntsAre vs ns) (hl : ns.length ≤ 63) (hr : Room k callerA)
    (FG : ∀ base : Heap, ∃ fd : FuncData, Binds K fd [x] [] ∧ FnOkG P w K mg base k fa fd [x] (spD K 1 spLaw)) :
    codeAny (model P w) callerA (.call (.ref fa) ⟨[.ref a], []⟩) (fun r s' => r = .ok (.ret (.bool true)) ∧ OldK s1.heap s'.heap ∧ s'.os = s1.os ∧ AllBare s'.gens) s1 := by
  have rv := vals_ints hi
  have lenV := hi.length
  have small : ns.length ≤ sizeLine := Nat.le_trans hl (by decide)
  have go : ∀ H : Hp, Only H → SqL K H a (ns.map V.int) → HOk P w H s1.heap → (∀ b, H b ≠ none → b = a ∧ K.lookup a = none) →
      codeAny (model P w) callerA (.call (.ref fa) ⟨[.ref a], []⟩) (fun r s' => r = .ok (.ret (.bool true)) ∧ OldK s1.heap s'.heap ∧ s'.os = s1.os ∧ AllBare s'.gens) s1 := by
    intro H hO hS hok hA
    have dictFree : ∀ {b : Addr} {o : Obj} {es : Array DictEntry} {ep : Nat}, s1.heap.get? b = some o → o.data = .dict es ep → H b = none := by
      intro b o es ep e d
      cases q : H b with
      | none => rfl
      | some u =>
        obtain ⟨rfl, _⟩ := hA b (by rw [q]; simp)
        rw [ha] at e
        cases e
        cases (show Data.seq vs.toArray _ = Data.dict es ep from d)
    have lift : ∀ {b : Addr} {m : Str → Option Value}, s1.heap.Ns b m → (hidT s1.heap H).Ns b m := by
      rintro b m ⟨o, es, ep, e, d, r⟩
      exact ⟨o, es, ep, hidT_get e (dictFree e d), d, r⟩
    have inK : K.In (hidT s1.heap H) := by
      intro b o e
      refine hidT_get (KX b o e) ?_
      cases q : H b with
      | none => rfl
      | some u =>
        obtain ⟨rfl, z⟩ := hA b (by rw [q]; simp)
        rw [z] at e; cases e
    have md : Mod K mg (hidT s1.heap H) := by
      refine ⟨inK, lift hns, ⟨mb, lift hb, hbb⟩, ?_⟩
      obtain ⟨mc, h1, h2⟩ := hlim
      exact ⟨mc, lift h1, h2⟩
    have e0 : Env0 P w K mg (hidT s1.heap H) callerA [] s1 H :=
      ⟨rfl, md, fun b o e => of_hidT e, Nat.le_of_eq (hidT_size _ _), trivial, fun b hb => absurd (show b ∈ ([] : List Addr) from hb) (by simp), hok, .of_eq hg⟩
    obtain ⟨fd, hbind, FG1⟩ := FG (hidT s1.heap H)
    refine codeAny_mono (FG1.run callerA [] s1 H ⟨[.ref a], []⟩ [.ref a] [.ref a] (fun v _ => v = .bl true) (fun _ _ _ => False) rfl hr e0 (hbind s1 [.ref a] KX rfl) (.cons rfl .nil) ?_) ?_
    · refine ⟨[.list (ns.map PyData.int)], H, fun d => d = .bool true, rfl, ⟨Same.refl H, fun b o e => ?_⟩, .one (.lst hS DpAll.ofInts), ⟨ns, rfl, hl, rfl⟩, fun d hd v H' S' _ _ _ _ _ dp => ?_⟩
      rotate_left
      · subst hd
        cases dp
        rfl
      rcases hO b with z | ⟨ob, xs, z⟩
      · rw [z] at e; cases e
      · rw [z] at e; cases e; trivial
    · intro r s' h
      cases r with
      | error e => exact h.elim
      | ok fl =>
        cases fl with
        | next => exact False.elim h
        | brk => exact False.elim h
        | cont => exact False.elim h
        | ret u =>
          obtain ⟨v, H', os, bare, un, hok', r', q⟩ := h
          have q' : v = .bl true := q
          subst q'
          obtain rfl : u = Value.bool true := r'
          refine ⟨rfl, OldK.of_keep fun b o e => ?_, os, bare⟩
          cases q : H b with
          | none => exact un.keep b o e q (by intro z; exact absurd (show b ∈ ([] : List Addr) from z) (by simp)) (by simp)
          | some u =>
            rcases hO b with z | ⟨ob, xs, z⟩
            · rw [q] at z; cases z
            · obtain ⟨e1, _⟩ := hok b _ z
              obtain ⟨e2, _⟩ := hok' b _ (un.frzs b ob _ z)
              rw [e] at e1
              cases e1
              exact e2
  cases hk : K.lookup a with
  | some o =>
    have e := KX a o hk
    rw [ha] at e
    cases e
    refine go (fun _ => none) (fun _ => .inl rfl) (.inr ⟨_, vs.toArray, _, hk, rfl, rfl, rfl, by rw [List.size_toArray, lenV]; exact small, by simpa using rv⟩) ?_ fun b z => absurd rfl z
    intro b u z
    cases (show (none : Option HO) = some u from z)
  | none =>
    let ob : Obj := { cls := .type "list", data := .seq vs.toArray }
    refine go (fun b => if b = a then some (.frz ob (.lst (ns.map V.int))) else none) (fun b => ?_) (.inl (.inr ⟨ob, if_pos rfl⟩)) (fun b u z => ?_) fun b z => ⟨?_, hk⟩
    · by_cases hb : b = a
      · exact .inr ⟨_, _, if_pos hb⟩
      · exact .inl (if_neg hb)
    · by_cases hb : b = a
      · cases (if_pos hb).symm.trans z
        subst hb
        exact ⟨ha, by rw [List.length_map]; exact small, vs, _, rv, ha⟩
      · cases (if_neg hb).symm.trans z
    · by_cases hb : b = a
      · exact hb
      · exact absurd (if_neg hb) z
/-- the goal that k_head leaves, from the law's promise -/
theorem law_end {l : PySem.W.OpenLaw} {k : Nat} {q : Program} {loose : List Str} {XP : (Str → Option Value) → Heap → Prop} {YP : World → Heap → Prop} {d : DefRec} {K : Params → PySem.W.Frag} {x : Str}
    (hn : l.most = some 63) (hdf : d.params.defaults = []) (hr : Room k callerA) (hY : ∀ (w : World) (h : Heap), YP w h → (K w.params).In h)
    (FF : ∀ (w : World) (mg : Str → Option Value) (fa : Addr) (h : Heap), (K w.params).In h → h.Ns mainGlobals mg → mg d.name = some (.ref fa) →
      ∀ base : Heap, ∃ fd : FuncData, Binds (K w.params) fd [x] [] ∧ FnOkG l.prog w (K w.params) mg base k fa fd [x] (spD (K w.params) 1 spLaw)) :
    PySem.W.WalkO q loose XP YP l.row.toRowW d [] (fun f vs => PySem.call f vs) := by
  refine Att.attach_call hn hdf ?_
  intro w s0 s1 mg mb fa o pm cd doc a vs ns G Y ho hd hcd hmg hobj hints hlen hg
  exact law_runs (hY w _ Y) G.T.g G.T.b G.T.builtins G.T.nolimit hg hobj hints hlen hr (FF w mg fa _ (hY w _ Y) G.T.g hmg)
end DW
namespace DW
open PySem PySem.Spec L2
open PyProof.Rows hiding St
section
variable {Q : PyData → Prop} {Qb : Bool → Prop} {i j : Int} {x y : Str} {xs ys : List PyData} {a b c d e : PyData}
theorem d_addI (h : Q (.int (i + j))) : AddD (.int i) (.int j) Q := h
theorem d_addS (h1 : x.length + y.length ≤ lim) (h : Q (.str (x ++ y))) : AddD (.str x) (.str y) Q := ⟨h1, h⟩
theorem d_addL (h1 : xs.length + ys.length ≤ lim) (h : Q (.list (xs ++ ys))) : AddD (.list xs) (.list ys) Q := ⟨h1, h⟩
theorem d_addT (h1 : xs.length + ys.length ≤ lim) (h : Q (.tuple (xs ++ ys))) : AddD (.tuple xs) (.tuple ys) Q := ⟨h1, h⟩
theorem d_sub (h : Q (.int (i - j))) : SubD (.int i) (.int j) Q := h
theorem d_mul (h1 : MulOk i j) (h : Q (.int (i * j))) : MulD (.int i) (.int j) Q := ⟨h1, h⟩
theorem d_rep {k : Int} (h0 : xs ≠ []) (h1 : 1 ≤ k) (h2 : k ≤ 1000) (h3 : xs.length ≤ 1000) (h : Q (.tuple (List.replicate k.toNat xs).flatten)) : MulD (.tuple xs) (.int k) Q := ⟨h0, h1, h2, h3, h⟩
theorem d_fdiv (h1 : DivOk j) (h : Q (.int (i.fdiv j))) : FDivD (.int i) (.int j) Q := ⟨.inl h1, h⟩
theorem d_mod (h1 : 0 < j) (h : Q (.int (i % j))) : ModD (.int i) (.int j) Q := ⟨h1, h⟩
theorem d_pow (h1 : 0 ≤ j ∧ j ≤ 1000000 ∧ i.natAbs < 2 ^ 64) (h : Q (.int (i ^ j.toNat))) : PowD (.int i) (.int j) Q := ⟨h1, h⟩
theorem d_neg (h : Q (.int (-i))) : NegD (.int i) Q := h
theorem d_lt (h : Qb (decide (i < j))) : LtD (.int i) (.int j) Qb := h
theorem d_le (h : Qb (decide (i ≤ j))) : LeD (.int i) (.int j) Qb := h
theorem d_eqI (h : Qb (decide (i = j))) : EqD (.int i) (.int j) Qb := h
theorem d_eqS (h : Qb (decide (x = y))) : EqD (.str x) (.str y) Qb := h
theorem d_int (h : Q (.int i)) : IntD (.int i) Q := h
theorem d_intB {k : Bool} (h : Q (.int (if k then 1 else 0))) : IntD (.bool k) Q := h
theorem d_abs (h : Q (.int (i.natAbs : Int))) : AbsD (.int i) Q := by
  have e : (if i < 0 then -i else i) = (i.natAbs : Int) := by split <;> omega
  show Q (.int (if i < 0 then -i else i))
  rw [e]; exact h
theorem d_lenL (h : Q (.int xs.length)) : LenD (.list xs) Q := h
theorem d_lenT (h : Q (.int xs.length)) : LenD (.tuple xs) Q := h
theorem d_seqL {R : List PyData → Prop} (h : R xs) : SeqD (.list xs) R := h
theorem d_seqT {R : List PyData → Prop} (h : R xs) : SeqD (.tuple xs) R := h
theorem d_gcd (h : Q (.int ((Nat.gcd i.natAbs j.natAbs : Nat) : Int))) : GcdD (.int i) (.int j) Q := h
theorem atI_nat' {α : Type} {l : List α} {n : Nat} {z : α} (h : l[n]? = some z) : atI l (n : Int) = some z := by
  have hn : n < l.length := (List.getElem?_eq_some_iff.mp h).1
  unfold atI ixN
  rw [if_pos (by omega), if_pos (by omega)]
  simpa using h
theorem d_ixT0 (h : Q a) : IxD (.tuple (a :: xs)) (.int 0) Q := ⟨a, atI_nat' (n := 0) rfl, h⟩
theorem d_ixT1 (h : Q b) : IxD (.tuple (a :: b :: xs)) (.int 1) Q := ⟨b, atI_nat' (n := 1) rfl, h⟩
theorem d_ixT2 (h : Q c) : IxD (.tuple (a :: b :: c :: xs)) (.int 2) Q := ⟨c, atI_nat' (n := 2) rfl, h⟩
theorem d_ixT3 (h : Q d) : IxD (.tuple (a :: b :: c :: d :: xs)) (.int 3) Q := ⟨d, atI_nat' (n := 3) rfl, h⟩
theorem d_ixL0 (h : Q a) : IxD (.list (a :: xs)) (.int 0) Q := ⟨a, atI_nat' (n := 0) rfl, h⟩
theorem d_ixL1 (h : Q b) : IxD (.list (a :: b :: xs)) (.int 1) Q := ⟨b, atI_nat' (n := 1) rfl, h⟩
theorem d_ixL2 (h : Q c) : IxD (.list (a :: b :: c :: xs)) (.int 2) Q := ⟨c, atI_nat' (n := 2) rfl, h⟩
theorem d_ixLn (n : Nat) (hi : i = (n : Int)) (h : xs[n]? = some d) (q : Q d) : IxD (.list xs) (.int i) Q := ⟨d, by rw [hi]; exact atI_nat' h, q⟩
theorem d_ixTn (n : Nat) (hi : i = (n : Int)) (h : xs[n]? = some d) (q : Q d) : IxD (.tuple xs) (.int i) Q := ⟨d, by rw [hi]; exact atI_nat' h, q⟩
theorem d_slL {lo hi : Option Int} (h : Q (.list (cutD xs lo hi))) : SlD (.list xs) lo hi Q := h
theorem d_slT {lo hi : Option Int} (h : Q (.tuple (cutD xs lo hi))) : SlD (.tuple xs) lo hi Q := h
variable {A B : Prop}
theorem br_dec {p : Prop} [Decidable p] (h1 : p → A) (h2 : ¬ p → B) : (decide p = true → A) ∧ (decide p = false → B) := ⟨fun h => h1 (of_decide_eq_true h), fun h => h2 (of_decide_eq_false h)⟩
theorem br_ndec {p : Prop} [Decidable p] (h1 : ¬ p → A) (h2 : p → B) : ((!decide p) = true → A) ∧ ((!decide p) = false → B) :=
  ⟨fun h => h1 (of_decide_eq_false (by simpa using h)), fun h => h2 (of_decide_eq_true (by simpa using h))⟩
theorem br_dec' {p : Prop} [Decidable p] (h1 : p → A) (h2 : ¬ p → B) : (decide p = false → B) ∧ (decide p = true → A) := ⟨fun h => h2 (of_decide_eq_false h), fun h => h1 (of_decide_eq_true h)⟩
theorem br_ndec' {p : Prop} [Decidable p] (h1 : ¬ p → A) (h2 : p → B) : ((!decide p) = false → B) ∧ ((!decide p) = true → A) :=
  ⟨fun h => h2 (of_decide_eq_true (by simpa using h)), fun h => h1 (of_decide_eq_false (by simpa using h))⟩
theorem br_tt (h : A) : (true = true → A) ∧ (true = false → B) := ⟨fun _ => h, (fun z => nomatch z)⟩
theorem br_ff (h : B) : (false = true → A) ∧ (false = false → B) := ⟨(fun z => nomatch z), fun _ => h⟩
theorem ex_b {k : Bool} {R : Bool → Prop} (h : R k) : ∃ c, PyData.bool k = .bool c ∧ R c := ⟨k, rfl, h⟩
theorem ex_two {R : PyData → PyData → Prop} (h : R a b) : ∃ d e, [a, b] = [d, e] ∧ R d e := ⟨a, b, rfl, h⟩
theorem ex_oneI {R : Int → Prop} (h : R i) : ∃ n : Int, [PyData.int i] = [.int n] ∧ R n := ⟨i, rfl, h⟩
theorem ex_twoI {R : Int → Int → Prop} (h : R i j) : ∃ n m : Int, [PyData.int i, .int j] = [.int n, .int m] ∧ R n m := ⟨i, j, rfl, h⟩
theorem ex_par3 {R : PyData → PyData → PyData → Prop} (h : R a b c) : ∃ d d' d'', [a, b, c] = [d, d', d''] ∧ R d d' d'' := ⟨a, b, c, rfl, h⟩
theorem ex_lst {R : List PyData → Prop} (h : R xs) : ∃ zs, [PyData.list xs] = [.list zs] ∧ R zs := ⟨xs, rfl, h⟩
theorem ex_i {R : Int → Prop} (h : R i) : ∃ k, PyData.int i = .int k ∧ R k := ⟨i, rfl, h⟩
end
theorem cutD_len (xs : List PyData) (lo hi : Option Int) : (cutD xs lo hi).length ≤ xs.length := by
  unfold cutD
  rw [List.length_take, List.length_drop]
  omega
theorem cutD_mem {xs : List PyData} {lo hi : Option Int} {x : PyData} (h : x ∈ cutD xs lo hi) : x ∈ xs := by
  unfold cutD at h
  exact List.mem_of_mem_drop (List.mem_of_mem_take h)
theorem cutD_to (xs : List PyData) (k : Nat) : cutD xs none (some (k : Int)) = xs.take k := by
  unfold cutD
  rw [HT.sIx_none, HT.sIx_nat, List.drop_zero, Nat.sub_zero]
  by_cases h : k ≤ xs.length
  · rw [Nat.min_eq_left h]
  · rw [Nat.min_eq_right (by omega), List.take_length, List.take_of_length_le (by omega)]
theorem cutD_from (xs : List PyData) (k : Nat) : cutD xs (some (k : Int)) none = xs.drop k := by
  unfold cutD
  rw [HT.sIx_none, HT.sIx_nat]
  by_cases h : k ≤ xs.length
  · rw [Nat.min_eq_left h, List.take_of_length_le (by rw [List.length_drop]; omega)]
  · rw [Nat.min_eq_right (by omega), Nat.sub_self, List.take_zero, List.drop_of_length_le (by omega)]
section
variable {G : Gd} {M : Nm} {F : Fx} {Γ : List Bd} {tg iter elt c cd : Expr} {Qd : List PyData → Prop} {scope : Scope}
theorem take_succ {α : Type} {l : List α} {i : Nat} {x : α} (h : l[i]? = some x) : l.take (i + 1) = l.take i ++ [x] := by
  rw [List.take_add_one, h]; rfl
/-- [elt for tg in iter], each item's value some y with P -/
theorem wc_some (kd : List Kd) (gl : List Str) (own : List (Str × Nat)) (hcp : cpOk M scope kd gl own = true) (P : PyData → PyData → Prop)
    (h : WJ G M F tg iter Γ fun ds => (∀ d, d ∈ ds → WV G (blkNm M scope kd gl) F (own.map (·.2)) tg d (wipeG Γ (own.map (·.2))) fun Γ2 => WE G (blkNm M scope kd gl) F elt Γ2 fun y => P d y) ∧ ∀ ys : List PyData, ys.length = ds.length → (∀ (i : Nat) (d y : PyData), ds[i]? = some d → ys[i]? = some y → P d y) → Qd ys)
    (hΓ : Γ.length = M.N.length := by rfl) (hs : ∀ env x, foldedSetIterable iter env x = pure x := by intro _ _; rfl) : WC G M F elt tg iter [] scope Γ Qd := by
  refine wc_for kd gl own hcp (fun ds i acc => acc.length = min i ds.length ∧ ∀ (j : Nat) (d y : PyData), ds[j]? = some d → acc[j]? = some y → P d y) ?_ hΓ hs
  refine ⟨fun X gd σ H S hl gr pins s I => thn (h.run X gd σ H S hl gr pins s I) fun v s1 h1 => thn h1 fun itv s2 ⟨it, fp, tn, It, H1, e0, I2, T, st2, f2, S1, ds, g1, e1, k1, io, hz, h1, h2⟩ => ⟨it, fp, tn, It, H1, e0, I2, T, st2, f2, S1, ds, g1, e1, k1, io, hz, ⟨by simp, fun j d y _ hy => by simp at hy⟩, fun i d acc hd ja la => ?_, fun acc ja _ => ?_⟩⟩
  · refine ⟨fun hΓ X gd σ H S v hl g' hv => ((h1 d (List.mem_of_getElem? hd)).run hΓ X gd σ H S v hl g' hv).mono fun σ' H' ⟨w1, w2, Γ', w3, w4, w5, w6⟩ => ⟨w1, w2, Γ', w3, w4, w5, we_mono w6 fun y hy => ?_⟩⟩
    have hi : i < ds.length := (List.getElem?_eq_some_iff.mp hd).1
    have ea : acc.length = i := by rw [ja.1]; omega
    refine ⟨by rw [List.length_append, List.length_singleton]; omega, fun j d' y' hd' hy' => ?_⟩
    by_cases hj : j < acc.length
    · rw [List.getElem?_append_left hj] at hy'
      exact ja.2 j d' y' hd' hy'
    · have hj2 : j = acc.length := by
        have := (List.getElem?_eq_some_iff.mp hy').1
        rw [List.length_append, List.length_singleton] at this
        omega
      subst hj2
      rw [List.getElem?_append_right (Nat.le_refl _), Nat.sub_self] at hy'
      cases hy'
      rw [ea, hd] at hd'
      cases hd'
      exact hy
  · exact h2 acc (by rw [ja.1]; omega) fun j d y => ja.2 j d y
/-- [elt for tg in iter], iter's items told by a list of anything -/
theorem wc_typ {α : Type} (l : List α) (c : α → PyData) (g : α → PyData) (kd : List Kd) (gl : List Str) (own : List (Str × Nat)) (hcp : cpOk M scope kd gl own = true)
    (h : WJ G M F tg iter Γ fun ds => ds = l.map c ∧ (∀ a, a ∈ l → WV G (blkNm M scope kd gl) F (own.map (·.2)) tg (c a) (wipeG Γ (own.map (·.2))) fun Γ2 => WE G (blkNm M scope kd gl) F elt Γ2 fun y => y = g a) ∧ Qd (l.map g))
    (hΓ : Γ.length = M.N.length := by rfl) (hs : ∀ env x, foldedSetIterable iter env x = pure x := by intro _ _; rfl) : WC G M F elt tg iter [] scope Γ Qd := by
  refine wc_for kd gl own hcp (fun ds i acc => acc = (l.take i).map g) ?_ hΓ hs
  refine ⟨fun X gd σ H S hl gr pins s I => thn (h.run X gd σ H S hl gr pins s I) fun v s1 h1 => thn h1 fun itv s2 ⟨it, fp, tn, It, H1, e0, I2, T, st2, f2, S1, ds, g1, e1, k1, io, hz, h0, h1, h2⟩ => ⟨it, fp, tn, It, H1, e0, I2, T, st2, f2, S1, ds, g1, e1, k1, io, hz, rfl, fun i d acc hd ja la => ?_, fun acc ja _ => ?_⟩⟩
  · subst h0
    rw [List.getElem?_map] at hd
    cases hli : l[i]? with
    | none => rw [hli] at hd; cases hd
    | some a =>
      rw [hli] at hd
      cases hd
      refine ⟨fun hΓ X gd σ H S v hl g' hv => ((h1 a (List.mem_of_getElem? hli)).run hΓ X gd σ H S v hl g' hv).mono fun σ' H' ⟨w1, w2, Γ', w3, w4, w5, w6⟩ => ⟨w1, w2, Γ', w3, w4, w5, we_mono w6 fun y hy => ?_⟩⟩
      rw [hy, ja, take_succ hli, List.map_append]; rfl
  · subst h0
    rw [ja, List.length_map, List.take_length]; exact h2
theorem wc_ftyp {α : Type} (l : List α) (c : α → PyData) (p : α → Bool) (g : α → PyData) (kd : List Kd) (gl : List Str) (own : List (Str × Nat)) (hcp : cpOk M scope kd gl own = true)
    (h : WJ G M F tg iter Γ fun ds => ds = l.map c ∧ (∀ a, a ∈ l → WV G (blkNm M scope kd gl) F (own.map (·.2)) tg (c a) (wipeG Γ (own.map (·.2))) fun Γ2 => WT G (blkNm M scope kd gl) F cd Γ2 fun x => x = p a ∧ (x = true → WE G (blkNm M scope kd gl) F elt Γ2 fun y => y = g a)) ∧ Qd ((l.filter p).map g))
    (hΓ : Γ.length = M.N.length := by rfl) (hs : ∀ env x, foldedSetIterable iter env x = pure x := by intro _ _; rfl) : WC G M F elt tg iter [cd] scope Γ Qd := by
  refine wc_if kd gl own hcp (fun ds i acc => acc = ((l.take i).filter p).map g) ?_ hΓ hs
  refine ⟨fun X gd σ H S hl gr pins s I => thn (h.run X gd σ H S hl gr pins s I) fun v s1 h1 => thn h1 fun itv s2 ⟨it, fp, tn, It, H1, e0, I2, T, st2, f2, S1, ds, g1, e1, k1, io, hz, h0, h1, h2⟩ => ⟨it, fp, tn, It, H1, e0, I2, T, st2, f2, S1, ds, g1, e1, k1, io, hz, rfl, fun i d acc hd ja la => ?_, fun acc ja _ => ?_⟩⟩
  · subst h0
    rw [List.getElem?_map] at hd
    cases hli : l[i]? with
    | none => rw [hli] at hd; cases hd
    | some a =>
      rw [hli] at hd
      cases hd
      refine ⟨fun hΓ X gd σ H S v hl g' hv => ((h1 a (List.mem_of_getElem? hli)).run hΓ X gd σ H S v hl g' hv).mono fun σ' H' ⟨w1, w2, Γ', w3, w4, w5, w6⟩ => ⟨w1, w2, Γ', w3, w4, w5, wt_mono w6 fun x ⟨hx, hq⟩ => ⟨fun hxt => we_mono (hq hxt) fun y hy => ?_, fun hxf => ?_⟩⟩⟩
      · have hp : p a = true := hx.symm.trans hxt
        rw [hy, ja, take_succ hli, List.filter_append, List.map_append, List.filter_cons, if_pos hp]; rfl
      · have hp : ¬ p a = true := by rw [← hx, hxf]; exact Bool.false_ne_true
        rw [ja, take_succ hli, List.filter_append, List.map_append, List.filter_cons, if_neg hp]
        simp
  · subst h0
    rw [ja, List.length_map, List.take_length]; exact h2
theorem rngD_map (n : Nat) : rngD 0 n = (List.range n).map fun i => .int (i : Int) := by
  unfold rngD
  simp
end
end DW
namespace DW
open PySem PySem.Spec L2
open PyProof.Rows hiding St
/-- a FRACTION -/
def fr (q : Rat) : PyData := .tuple [.int q.num, .int q.den]
/-- an integer of at most N bits -/
def NB (N : Nat) (i : Int) : Prop := i.natAbs < 2 ^ N
def RB (N : Nat) (q : Rat) : Prop := NB N q.num ∧ NB N (q.den : Int)
theorem NB.up {N M : Nat} {i : Int} (h : NB N i) (l : N ≤ M) : NB M i := Nat.lt_of_lt_of_le h (Nat.pow_le_pow_right (by decide) l)
theorem RB.up {N M : Nat} {q : Rat} (h : RB N q) (l : N ≤ M) : RB M q := ⟨h.1.up l, h.2.up l⟩
theorem NB.mul {N M : Nat} {i j : Int} (h : NB N i) (k : NB M j) : NB (N + M) (i * j) := by
  unfold NB
  rw [Int.natAbs_mul, Nat.pow_add]
  exact Nat.mul_lt_mul'' h k
theorem NB.neg {N : Nat} {i : Int} (h : NB N i) : NB N (-i) := by
  unfold NB
  rw [Int.natAbs_neg]
  exact h
theorem NB.add {N : Nat} {i j : Int} (h : NB N i) (k : NB N j) : NB (N + 1) (i + j) := by
  unfold NB at *
  have := Int.natAbs_add_le i j
  rw [Nat.pow_succ]
  omega
theorem NB.sub {N : Nat} {i j : Int} (h : NB N i) (k : NB N j) : NB (N + 1) (i - j) := by
  rw [Int.sub_eq_add_neg]
  exact h.add k.neg
theorem NB.le {N : Nat} {i j : Int} (h : NB N i) (k : j.natAbs ≤ i.natAbs) : NB N j := Nat.lt_of_le_of_lt k h
theorem NB.log {N : Nat} {i : Int} (h : NB N i) (h0 : 0 < N) (h1 : N ≤ 9000) : i.natAbs.log2 < 9000 := by
  have := PySem.Flt.log2_lt_of h0 h
  omega
theorem NB.div {N : Nat} {i : Int} (h : NB N i) (h0 : 0 < N) (h1 : N ≤ 9000) (h2 : i ≠ 0) : DivOk i := ⟨h2, h.log h0 h1⟩
theorem natAbs_ediv_le (a b : Int) (hd : b ∣ a) : (a / b).natAbs ≤ a.natAbs := by
  obtain ⟨c, rfl⟩ := hd
  by_cases hb : b = 0
  · subst hb; simp
  · rw [Int.mul_ediv_cancel_left _ hb, Int.natAbs_mul]
    exact Nat.le_mul_of_pos_left _ (by omega)
theorem num_le (n d : Int) : (Rat.divInt n d).num.natAbs ≤ n.natAbs := by
  rw [Rat.num_divInt]
  refine Nat.le_trans (natAbs_ediv_le _ _ ?_) ?_
  · exact Int.dvd_mul_of_dvd_right (Int.gcd_dvd_right ..)
  · rw [Int.natAbs_mul]
    have : d.sign.natAbs ≤ 1 := by
      rw [Int.natAbs_sign]
      split <;> omega
    calc d.sign.natAbs * n.natAbs ≤ 1 * n.natAbs := Nat.mul_le_mul_right _ this
      _ = n.natAbs := Nat.one_mul _
theorem den_le (n d : Int) (h : d ≠ 0) : (Rat.divInt n d).den ≤ d.natAbs := by
  rw [Rat.den_divInt, if_neg h]
  exact Nat.div_le_self _ _
theorem RB.of {N : Nat} {n d : Int} (h : NB N n) (k : NB N d) (h0 : d ≠ 0) : RB N (Rat.divInt n d) := ⟨h.le (num_le n d), k.le (by rw [Int.natAbs_natCast]; exact den_le n d h0)⟩
theorem den_ne (q : Rat) : (q.den : Int) ≠ 0 := by have := q.den_nz; omega
theorem rat_add (p q : Rat) : p + q = Rat.divInt (p.num * q.den + q.num * p.den) (p.den * q.den) := by
  rw [← Rat.divInt_add_divInt _ _ (den_ne p) (den_ne q), Rat.num_divInt_den, Rat.num_divInt_den]
theorem rat_sub (p q : Rat) : p - q = Rat.divInt (p.num * q.den - q.num * p.den) (p.den * q.den) := by
  rw [← Rat.divInt_sub_divInt _ _ (den_ne p) (den_ne q), Rat.num_divInt_den, Rat.num_divInt_den]
theorem rat_mul (p q : Rat) : p * q = Rat.divInt (p.num * q.num) (p.den * q.den) := by
  rw [← Rat.divInt_mul_divInt, Rat.num_divInt_den, Rat.num_divInt_den]
theorem rat_div (p q : Rat) : p / q = Rat.divInt (p.num * q.den) (p.den * q.num) := by
  rw [Rat.div_def, Rat.inv_def, ← Rat.divInt_mul_divInt, Rat.num_divInt_den]
theorem rat_mulNe (p q : Rat) : (p.den : Int) * q.den ≠ 0 := Int.mul_ne_zero (den_ne p) (den_ne q)
theorem RB.add {N : Nat} {p q : Rat} (h : RB N p) (k : RB N q) : RB (N + N + 1) (p + q) := by
  rw [rat_add]
  exact .of ((h.1.mul k.2).add (k.1.mul h.2)) ((h.2.mul k.2).up (by omega)) (rat_mulNe p q)
theorem RB.sub {N : Nat} {p q : Rat} (h : RB N p) (k : RB N q) : RB (N + N + 1) (p - q) := by
  rw [rat_sub]
  exact .of ((h.1.mul k.2).sub (k.1.mul h.2)) ((h.2.mul k.2).up (by omega)) (rat_mulNe p q)
theorem RB.mul {N : Nat} {p q : Rat} (h : RB N p) (k : RB N q) : RB (N + N) (p * q) := by
  rw [rat_mul]
  exact .of (h.1.mul k.1) (h.2.mul k.2) (rat_mulNe p q)
theorem num_ne {q : Rat} (h : q ≠ 0) : q.num ≠ 0 := fun z => h (Rat.num_eq_zero.mp z)
theorem RB.div {N : Nat} {p q : Rat} (h : RB N p) (k : RB N q) (hq : q ≠ 0) : RB (N + N) (p / q) := by
  rw [rat_div]
  exact .of (h.1.mul k.2) (h.2.mul k.1) (Int.mul_ne_zero (den_ne p) (num_ne hq))
/-- what fraction(n, d) reckons -/
def sgcd (n d : Int) : Int := if d > 0 then ((Nat.gcd n.natAbs d.natAbs : Nat) : Int) else -((Nat.gcd n.natAbs d.natAbs : Nat) : Int)
theorem sgcd_ne {n d : Int} (h : d ≠ 0) : sgcd n d ≠ 0 := by
  have := Nat.gcd_pos_of_pos_right n.natAbs (show 0 < d.natAbs by omega)
  unfold sgcd
  split <;> omega
theorem sgcd_le (n d : Int) (h : d ≠ 0) : (sgcd n d).natAbs ≤ d.natAbs := by
  have := Nat.gcd_le_right n.natAbs (show 0 < d.natAbs by omega)
  unfold sgcd
  split <;> omega
theorem fdiv_of_dvd {n g : Int} (h : g ∣ n) : n.fdiv g = n / g := by
  rw [Int.fdiv_eq_ediv, if_pos (.inr h)]
  omega
theorem sgcd_num {n d : Int} (h : d ≠ 0) : n.fdiv (sgcd n d) = (Rat.divInt n d).num := by
  have hg : (Nat.gcd n.natAbs d.natAbs : Int) = Int.gcd d n := by rw [Int.gcd, Nat.gcd_comm]
  have hd : (Int.gcd d n : Int) ∣ n := Int.gcd_dvd_right ..
  rw [Rat.num_divInt]
  unfold sgcd
  rw [hg]
  split
  · rename_i hp
    rw [Int.sign_eq_one_of_pos hp, Int.one_mul, fdiv_of_dvd hd]
  · rw [Int.sign_eq_neg_one_of_neg (by omega), fdiv_of_dvd (Int.neg_dvd.mpr hd), Int.ediv_neg, ← Int.neg_one_mul, Int.mul_ediv_assoc _ hd]
theorem sgcd_den {n d : Int} (h : d ≠ 0) : d.fdiv (sgcd n d) = (Rat.divInt n d).den := by
  have hg : (Nat.gcd n.natAbs d.natAbs : Int) = Int.gcd d n := by rw [Int.gcd, Nat.gcd_comm]
  have hd : (Int.gcd d n : Int) ∣ d := Int.gcd_dvd_left ..
  rw [Rat.den_divInt, if_neg h]
  unfold sgcd
  rw [hg]
  split
  · rename_i hp
    rw [fdiv_of_dvd hd, Int.natCast_ediv]
    congr 1
    omega
  · rw [fdiv_of_dvd (Int.neg_dvd.mpr hd), Int.ediv_neg, Int.natCast_ediv, ← Int.neg_ediv_of_dvd hd]
    congr 1
    omega
theorem RB.cast {N : Nat} {i : Int} (h : NB N i) (h0 : 0 < N) : RB N (i : Rat) := ⟨h, by show 1 < 2 ^ N; exact Nat.one_lt_two_pow (by omega)⟩
theorem sgcd_ok {n d : Int} (h : DivOk d) : DivOk (sgcd n d) := by
  refine ⟨sgcd_ne h.1, Nat.lt_of_le_of_lt ?_ h.2⟩
  have h0 := sgcd_ne (n := n) h.1
  rw [Nat.le_log2 (by have := h.1; omega)]
  exact Nat.le_trans (Nat.log2_self_le (by omega)) (sgcd_le n d h.1)
theorem lim_n (n : Nat) (h : n ≤ 1000) : n ≤ lim := Nat.le_trans h (by rw [lim_eq]; decide)
abbrev sp_fraction : DS := fun ds Q => ∃ n d : Int, ds = [.int n, .int d] ∧ DivOk d ∧ Q (fr (Rat.divInt n d))
def vec (ps : List Rat) : PyData := .tuple (ps.map fr)
def VB (N : Nat) (ps : List Rat) : Prop := ∀ p, p ∈ ps → RB N p
theorem zipWith_map {α β γ : Type} (f : α → β → γ) (xs : List α) (ys : List β) : (xs.zip ys).map (fun p => f p.1 p.2) = List.zipWith f xs ys := by
  rw [List.zip, List.map_zipWith]
theorem zip_mem {α β : Type} {xs : List α} {ys : List β} {p : α × β} (h : p ∈ xs.zip ys) : p.1 ∈ xs ∧ p.2 ∈ ys := List.of_mem_zip (a := p.1) (b := p.2) h
theorem RB.den {N : Nat} {p : Rat} (h : RB N p) (h1 : N ≤ 4400) : DivOk (p.den : Int) := by
  have h2 : RB (N + 1) p := h.up (by omega)
  exact h2.2.div (by omega) (by omega) (den_ne p)
abbrev sp_lgcd : DS := fun ds Q => ∃ a b : Int, ds = [.int a, .int b] ∧ 0 ≤ a ∧ 0 ≤ b ∧ Q (.int ((Nat.gcd a.natAbs b.natAbs : Nat) : Int))
theorem gcd_step {a b : Int} (ha : 0 ≤ a) (hb : 0 < b) : Nat.gcd b.natAbs (a % b).natAbs = Nat.gcd a.natAbs b.natAbs := by
  obtain ⟨n, rfl⟩ := Int.eq_ofNat_of_zero_le ha
  obtain ⟨m, rfl⟩ := Int.eq_ofNat_of_zero_le (Int.le_of_lt hb)
  rw [← Int.natCast_emod]
  simp only [Int.natAbs_natCast]
  rw [Nat.gcd_comm n m, Nat.gcd_rec m n, Nat.gcd_comm (n % m) m]
theorem frac_pos {n d : Int} (h : 0 < d) : n.fdiv ((Nat.gcd n.natAbs d.natAbs : Nat) : Int) = (Rat.divInt n d).num ∧ d.fdiv ((Nat.gcd n.natAbs d.natAbs : Nat) : Int) = (Rat.divInt n d).den := by
  have h1 := sgcd_num (n := n) (d := d) (by omega)
  have h2 := sgcd_den (n := n) (d := d) (by omega)
  unfold sgcd at h1 h2
  rw [if_pos h] at h1 h2
  exact ⟨h1, h2⟩
abbrev sp_take : DS := fun ds Q => ∃ m : Int, ds = [.int m] ∧ 0 < m ∧ m < 1073741824 ∧ ∀ n : Int, 0 ≤ n → n < m → Q (.int n)
abbrev sp_mixed : DS := fun ds Q => ∃ xs : List PyData, ds = [.list xs] ∧ xs.length ≤ 1000 ∧ ∀ ys : List PyData, ys.Perm xs → Q (.list ys)
abbrev sp_stand : DS := fun ds Q => ∃ m : Nat, ds = [.int m] ∧ m ≤ 1000 ∧ ∀ ps : List Rat, ps.length = m → VB 4 ps → Q (vec ps)
theorem all_fr {P : Rat → Prop} : ∀ {ys : List PyData}, (∀ y, y ∈ ys → ∃ q, P q ∧ y = fr q) → ∃ ps : List Rat, ys = ps.map fr ∧ ∀ p, p ∈ ps → P p
  | [], _ => ⟨[], rfl, fun _ h => nomatch h⟩
  | y :: ys, h => by
    obtain ⟨q, hq, rfl⟩ := h y (List.Mem.head _)
    obtain ⟨ps, rfl, hp⟩ := all_fr (ys := ys) fun z hz => h z (List.Mem.tail _ hz)
    refine ⟨q :: ps, rfl, fun p hp' => ?_⟩
    cases hp' with
    | head => exact hq
    | tail _ m => exact hp p m
theorem get_some_of_mem {α β : Type} {P : α → β → Prop} {xs : List α} {ys : List β} (hl : ys.length = xs.length) (h : ∀ (i : Nat) (d : α) (y : β), xs[i]? = some d → ys[i]? = some y → P d y) (y : β) (hy : y ∈ ys) : ∃ d, d ∈ xs ∧ P d y := by
  obtain ⟨i, hi, e⟩ := List.getElem_of_mem hy
  have hi' : i < xs.length := by omega
  exact ⟨xs[i], List.getElem_mem hi', h i _ y (List.getElem?_eq_getElem hi') (by rw [List.getElem?_eq_getElem hi, e])⟩
def tstrs (xs : List Str) : PyData := .tuple (xs.map PyData.str)
def frD (cells : List Str) (groups : List (List Str)) (free : List Str) (way : Str) : PyData := .tuple [tstrs cells, .tuple (groups.map tstrs), tstrs free, .str way]
def lawNames : List Str := ["a", "b", "rent", "x", "y", "sum", "ab", "abcdefghijkl", "z", "p", "tax", "q"]
structure FrameOk (m : Nat) (cells : List Str) (groups : List (List Str)) (fre : List Str) (way : Str) : Prop where
  some : cells ≠ []
  most : cells.length ≤ m
  nodup : cells.Nodup
  known : ∀ c, c ∈ cells → c ∈ lawNames
  frees : fre.Sublist cells
  parts : groups.flatten.Perm (cells.filter fun c => !decide (c ∈ fre))
  each : ∀ g, g ∈ groups → g ≠ [] ∧ g.Sublist cells
  order : (groups.map fun g => g.headD "").Sublist cells
  ways : way = "usual" ∨ way = "strict"
end DW
namespace DW
open PySem PySem.Spec L2
open PyProof.Rows hiding St
structure TmD (k n : Nat) (d : PyData) : Prop where
  lay : d.canLay0 = true
  show_ : showB d = true
  deep : d.depth ≤ k
  len : d.shown.length ≤ n
theorem TmD.up {k n k' n' : Nat} {d : PyData} (h : TmD k n d) (hk : k ≤ k') (hn : n ≤ n') : TmD k' n' d := ⟨h.lay, h.show_, Nat.le_trans h.deep hk, Nat.le_trans h.len hn⟩
theorem str_app (a b : Str) : (a ++ b).length = a.length + b.length := by
  show (a.cps ++ b.cps).size = a.cps.size + b.cps.size
  exact Array.size_append
theorem tm_bool (b : Bool) : TmD 0 5 (.bool b) := by
  refine ⟨by simp [PyData.canLay0], by simp [showB], by simp [PyData.depth], ?_⟩
  cases b <;> decide +kernel
theorem tm_int {N : Nat} {i : Int} (h : NB N i) (h0 : 0 < N) (h1 : N ≤ 12000) : TmD 0 (N + 1) (.int i) := by
  have hl := PySem.Flt.log2_lt_of h0 h
  refine ⟨?_, ?_, by simp [PyData.depth], ?_⟩
  · simp [PyData.canLay0]
  · simp only [showB]; exact decide_eq_true (by omega)
  · simp only [PyData.shown]
    have e := int_text_length_le h0 hl
    have : (Str.ofString (toString i)).length = (toString i).length := PySem.ofString_length _
    show (Str.ofString (toString i)).length ≤ N + 1
    omega
theorem from_len (n : Nat) : ∀ (ts : List Str) (k : Nat) (acc : Str), (∀ t ∈ ts, t.length ≤ n) → (textFrom k acc ts).length ≤ acc.length + (n + 2) * ts.length
  | [], k, acc, _ => by show acc.length ≤ _; omega
  | t :: r, k, acc, h => by
    have ih := from_len n r (k + 1) (acc ++ (if k > 0 then ", " else "" : String) ++ t) fun z hz => h z (List.Mem.tail _ hz)
    have h1 := h t (List.Mem.head _)
    show (textFrom (k + 1) (acc ++ (if k > 0 then ", " else "" : String) ++ t) r).length ≤ _
    rw [str_app, str_app] at ih
    have h2 : (((if k > 0 then ", " else "" : String)) : Str).length ≤ 2 := by split <;> decide +kernel
    rw [List.length_cons, Nat.mul_add]
    omega
theorem piled_len (n : Nat) : ∀ ts : List Str, (∀ t ∈ ts, t.length ≤ n) → piled ts ≤ (n + 2) * ts.length
  | [], _ => by simp [piled]
  | t :: r, h => by
    have ih := piled_len n r fun z hz => h z (List.Mem.tail _ hz)
    have h1 := h t (List.Mem.head _)
    rw [piled_cons, List.length_cons, Nat.mul_add]
    omega
theorem shownAll_map (xs : List PyData) : PyData.shownAll xs = xs.map PyData.shown := by
  induction xs with
  | nil => simp [PyData.shownAll]
  | cons a r ih => simp [PyData.shownAll, ih]
theorem all_tm {k n : Nat} : ∀ {xs : List PyData}, (∀ d, d ∈ xs → TmD k n d) → PyData.canLayAll0 xs = true ∧ showBAll xs = true ∧ PyData.depthAll xs ≤ k
  | [], _ => ⟨by simp [PyData.canLayAll0], by simp [showBAll], by simp [PyData.depthAll]⟩
  | x :: xs, h => by
    have h1 := h x (List.Mem.head _)
    obtain ⟨i1, i2, i3⟩ := all_tm (xs := xs) fun d hd => h d (List.Mem.tail _ hd)
    have := h1.deep
    exact ⟨by simp [PyData.canLayAll0, h1.lay, i1], by simp [showBAll, h1.show_, i2], by simp only [PyData.depthAll]; omega⟩
theorem tm_list {k n L : Nat} {xs : List PyData} (h : ∀ d, d ∈ xs → TmD k n d) (hl : xs.length ≤ L) : TmD (k + 1) ((n + 2) * L + 3) (.list xs) := by
  obtain ⟨i1, i2, i3⟩ := all_tm h
  refine ⟨by simp only [PyData.canLay0]; exact i1, by simp only [showB]; exact i2, by simp only [PyData.depth]; omega, ?_⟩
  simp only [PyData.shown, listText, shownAll_map]
  have h1 := from_len n (xs.map PyData.shown) 0 "[" fun t ht => by
    obtain ⟨d, hd, rfl⟩ := List.mem_map.mp ht
    exact (h d hd).len
  rw [str_app]
  rw [List.length_map] at h1
  have h2 : (n + 2) * xs.length ≤ (n + 2) * L := Nat.mul_le_mul_left _ hl
  have h3 : (("[" : Str)).length = 1 := by decide +kernel
  have h4 : (("]" : Str)).length = 1 := by decide +kernel
  omega
theorem tm_tuple {k n L : Nat} {xs : List PyData} (h : ∀ d, d ∈ xs → TmD k n d) (hl : xs.length ≤ L) : TmD (k + 1) ((n + 2) * L + 3) (.tuple xs) := by
  obtain ⟨i1, i2, i3⟩ := all_tm h
  refine ⟨by simp only [PyData.canLay0]; exact i1, by simp only [showB]; exact i2, by simp only [PyData.depth]; omega, ?_⟩
  simp only [PyData.shown, tupleText, shownAll_map]
  have hm : ∀ t ∈ xs.map PyData.shown, t.length ≤ n := fun t ht => by
    obtain ⟨d, hd, rfl⟩ := List.mem_map.mp ht
    exact (h d hd).len
  have h1 := piled_len n _ hm
  have h5 : (Str.join ", " (xs.map PyData.shown)).length ≤ (n + 2) * xs.length := by
    rw [List.length_map] at h1
    by_cases e : xs.map PyData.shown = []
    · rw [e]
      have : (Str.join ", " []).length = 0 := by decide +kernel
      omega
    · have := join_length_add _ e
      omega
  rw [str_app, str_app]
  have h2 : (n + 2) * xs.length ≤ (n + 2) * L := Nat.mul_le_mul_left _ hl
  have h3 : (("(" : Str)).length = 1 := by decide +kernel
  have h4 : (((if (xs.map PyData.shown).length == 1 then ",)" else ")" : String)) : Str).length ≤ 2 := by split <;> decide +kernel
  omega
mutual
theorem eqv_same : ∀ d : PyData, d.hasDict = false → PyData.eqv d d = true
  | .none, _ => by simp [PyData.eqv]
  | .bool _, _ => by simp [PyData.eqv]
  | .int _, _ => by simp [PyData.eqv]
  | .str _, _ => by simp [PyData.eqv]
  | .list xs, h => by simp only [PyData.eqv]; exact eqvAll_same xs (by simpa [PyData.hasDict] using h)
  | .tuple xs, h => by simp only [PyData.eqv]; exact eqvAll_same xs (by simpa [PyData.hasDict] using h)
  | .dict _, h => by simp [PyData.hasDict] at h
theorem eqvAll_same : ∀ xs : List PyData, PyData.hasDictAll xs = false → PyData.eqvAll xs xs = true
  | [], _ => by simp [PyData.eqvAll]
  | x :: xs, h => by
    simp only [PyData.hasDictAll, Bool.or_eq_false_iff] at h
    simp [PyData.eqvAll, eqv_same x h.1, eqvAll_same xs h.2]
end
/-- told and due alike -/
abbrev sp_alike : DS := fun ds Q => ∃ xs k n, ds = [.list xs, .list xs] ∧ TmD k n (.list xs) ∧ k ≤ 60 ∧ n ≤ lim ∧ Q (.bool true)
theorem tm_fr {N : Nat} {q : Rat} (h : RB N q) (h0 : 0 < N) (h1 : N ≤ 12000) : TmD 1 ((N + 3) * 2 + 3) (fr q) := by
  refine (tm_tuple (k := 0) (n := N + 1) (L := 2) (xs := [.int q.num, .int q.den]) (fun d hd => ?_) (Nat.le_refl 2)).up (by omega) (by omega)
  simp only [List.mem_cons, List.not_mem_nil, or_false] at hd
  rcases hd with rfl | rfl
  · exact tm_int h.1 h0 h1
  · exact tm_int h.2 h0 h1
theorem tm_vec {N L : Nat} {ps : List Rat} (h : VB N ps) (hl : ps.length ≤ L) (h0 : 0 < N) (h1 : N ≤ 12000) : TmD 2 (((N + 3) * 2 + 3 + 2) * L + 3) (vec ps) := by
  refine tm_tuple (k := 1) (n := (N + 3) * 2 + 3) (L := L) (fun d hd => ?_) (by rw [List.length_map]; exact hl)
  obtain ⟨p, hp, rfl⟩ := List.mem_map.mp hd
  exact tm_fr (h p hp) h0 h1
theorem TmD.shaped {k n : Nat} {d : PyData} (h : TmD k n d) (hk : k ≤ 60) : SeqAt.shaped d = true := by
  unfold SeqAt.shaped
  rw [h.lay, Bool.true_and]
  exact decide_eq_true (Nat.le_trans h.deep (by omega))
theorem d_eqSame {xs : List PyData} {k n : Nat} {Q : Bool → Prop} (h : TmD k n (.list xs)) (hk : k ≤ 60) (q : Q true) : EqD (.list xs) (.list xs) Q := by
  have e : PyData.eqv (.list xs) (.list xs) = true := eqv_same _ (PyData.hasDict_of_canLay _ h.lay)
  exact ⟨h.shaped hk, h.shaped hk, by rw [e]; exact q⟩
theorem d_repr {d : PyData} {k n : Nat} {Q : PyData → Prop} (h : TmD k n d) (hk : k ≤ 60) (hn : n ≤ lim) (q : Q (.str d.shown)) : ReprD d Q := ⟨h.show_, Nat.le_trans h.deep hk, Nat.le_trans h.len hn, q⟩
theorem lim_lt (n : Nat) (h : n < 1000) : n < lim := Nat.lt_of_lt_of_le h (lim_n 1000 (by decide))
theorem NB.sign {N : Nat} (i : Int) (h0 : 0 < N) : NB N i.sign := by
  have : i.sign.natAbs ≤ 1 := by rw [Int.natAbs_sign]; split <;> omega
  exact Nat.lt_of_le_of_lt this (Nat.one_lt_two_pow (by omega))
/-- n divided by n + 1 -/
def nx (n : Nat) : Rat := ⟨n, n + 1, by omega, by
  show Nat.gcd n (n + 1) = 1
  rw [Nat.gcd_self_add_right]
  exact Nat.gcd_one_right n⟩
/-- lists of told things -/
def TL (L : Nat) (T : List PyData) : Prop := T.length ≤ L ∧ ∀ d, d ∈ T → TmD 3 3000 d
theorem TL.nil : TL 0 [] := ⟨Nat.le_refl 0, fun _ h => nomatch h⟩
theorem TL.cons {L : Nat} {T : List PyData} {d : PyData} (h : TmD 3 3000 d) (t : TL L T) : TL (L + 1) (d :: T) := by
  refine ⟨by rw [List.length_cons]; have := t.1; omega, fun e he => ?_⟩
  cases he with
  | head => exact h
  | tail _ m => exact t.2 e m
theorem TL.app {L L' : Nat} {T T' : List PyData} (h : TL L T) (t : TL L' T') : TL (L + L') (T ++ T') := by
  refine ⟨by rw [List.length_append]; have := t.1; have := h.1; omega, fun e he => ?_⟩
  rcases List.mem_append.mp he with m | m
  · exact h.2 e m
  · exact t.2 e m
theorem TL.up {L L' : Nat} {T : List PyData} (h : TL L T) (l : L ≤ L') : TL L' T := ⟨Nat.le_trans h.1 l, h.2⟩
theorem TL.list {L : Nat} {T : List PyData} (h : TL L T) : TmD 4 (3002 * L + 3) (.list T) := tm_list h.2 h.1
theorem TL.lt {L : Nat} {T : List PyData} (h : TL L T) (l : L < 1000) : T.length < lim := lim_lt _ (Nat.lt_of_le_of_lt h.1 l)
theorem TL.le {L : Nat} {T T' : List PyData} (h : TL L T) (l : L + T'.length ≤ 1000) : T.length + T'.length ≤ lim := lim_n _ (Nat.le_trans (Nat.add_le_add_right h.1 _) l)
theorem VB.up {N M : Nat} {ps : List Rat} (h : VB N ps) (l : N ≤ M) : VB M ps := fun p hp => (h p hp).up l
theorem VB.zip {N : Nat} {ps qs : List Rat} {f : Rat → Rat → Rat} {N' : Nat} (h : VB N ps) (k : VB N qs) (hf : ∀ p q, RB N p → RB N q → RB N' (f p q)) : VB N' (List.zipWith f ps qs) := by
  intro p hp
  rw [← zipWith_map] at hp
  obtain ⟨x, hx, rfl⟩ := List.mem_map.mp hp
  obtain ⟨m1, m2⟩ := zip_mem hx
  exact hf _ _ (h _ m1) (k _ m2)
theorem VB.map {N N' : Nat} {ps : List Rat} {f : Rat → Rat} (h : VB N ps) (hf : ∀ p, RB N p → RB N' (f p)) : VB N' (ps.map f) := by
  intro p hp
  obtain ⟨x, hx, rfl⟩ := List.mem_map.mp hp
  exact hf _ (h _ hx)
def gz (P : Program) (w : World) (K : PySem.W.Frag) (mg : Str → Option Value) (base : Heap) (k : Nat) (grd : Bool) : Gd := ⟨P, w, K, mg, base, k, grd, none⟩
def DfX (K : PySem.W.Frag) (mg : Str → Option Value) (x : Str) (st : Stmt) (ps : List Str) : Prop := ∃ f fd, mg x = some (.ref f) ∧ L2.Fun K x x st f fd ∧ Binds K fd ps []
theorem df_mk {K : PySem.W.Frag} {mg : Str → Option Value} {h : Heap} {x : Str} {st : Stmt} {ps : List Str} {f : Addr} {oc : Value} {od an : Option Addr} {osl : Array (Option Value)} {kV doc pm cdv ct : Value} (X : K.In h) (G : h.Ns mainGlobals mg)
    (a : PySem.W.nsIn K mainGlobals x = some (some (.ref f))) (l : K.lookup f = some ⟨oc, od, .func (PySem.W.fnOf x x (defArgs st) (defBody st) (defScope st) .none kV doc pm an cdv ct), osl⟩) (c : PySem.W.codeIn K cdv x = true) (k : PySem.W.keepIn K (.ref f) = true)
    (b : ∀ (kV doc pm : Value) (an : Option Addr) (cdv ct : Value) (us : List Value), us.length = ps.length → bindArgs (PySem.W.fnOf x x (defArgs st) (defBody st) (defScope st) .none kV doc pm an cdv ct) ⟨us, []⟩ = pure (ps.zip us)) : DfX K mg x st ps :=
  ⟨f, _, PySem.W.mg_of X G a, fun_mk l c k, (fun_mk l c k).binds b⟩
end DW
namespace DW
open PySem PySem.Spec L2
open PyProof.Rows hiding St
structure Nest (K : PySem.W.Frag) (F : Fx) (H S : Hp) (a : Addr) (ps : List Addr) (dss : List (List PyData)) : Prop where
  top : H a = some (.lst (ps.map V.ref))
  aS : S a = none
  aF : F.H0 a = none
  nd : ps.Nodup
  an : a ∉ ps
  len : ps.length = dss.length
  at_ : ∀ (k : Nat) (p : Addr) (ds : List PyData), ps[k]? = some p → dss[k]? = some ds → ∃ us, H p = some (.lst us) ∧ S p = none ∧ F.H0 p = none ∧ DpAll K S us ds
inductive Parts : List PyData → List (List PyData) → Prop
  | nil : Parts [] []
  | new {xs : List PyData} {dss : List (List PyData)} {d : PyData} : Parts xs dss → Parts (xs ++ [d]) (dss ++ [[d]])
  | put {xs : List PyData} {dss : List (List PyData)} {d : PyData} {k : Nat} {es : List PyData} : Parts xs dss → dss[k]? = some es → Parts (xs ++ [d]) (dss.set k (es ++ [d]))
section
variable {K : PySem.W.Frag} {F : Fx} {Γ : List Bd} {σ : St} {H S H1 S1 : Hp} {a : Addr} {ps : List Addr} {dss : List (List PyData)}
def Fx.re (F : Fx) (H S : Hp) : Fx := ⟨H, S, F.bag, F.tb⟩
theorem Nest.nb (n : Nest K F H S a ps dss) (g : GRel K F Γ σ H S) {p : Addr} (hp : p = a ∨ p ∈ ps) : F.bag ≠ some p ∧ S p = none ∧ F.H0 p = none ∧ ∃ xs, H p = some (.lst xs) := by
  have h : S p = none ∧ F.H0 p = none ∧ ∃ xs, H p = some (.lst xs) := by
    rcases hp with rfl | hp
    · exact ⟨n.aS, n.aF, _, n.top⟩
    · obtain ⟨k, hk, e⟩ := List.getElem_of_mem hp
      have hk' : k < dss.length := by rw [← n.len]; exact hk
      obtain ⟨us, h1, h2, h3, _⟩ := n.at_ k p _ (by rw [List.getElem?_eq_getElem hk, e]) (List.getElem?_eq_getElem hk')
      exact ⟨h2, h3, _, h1⟩
  refine ⟨fun z => ?_, h⟩
  obtain ⟨_, ⟨o, q⟩, _⟩ := g.bag p z
  rw [h.2.1] at q
  cases q
/-- one more list -/
theorem Nest.add (n : Nest K F H S a ps dss) {p : Addr} {us : List V} {ds : List PyData} (h1 : H p = some (.lst us)) (h2 : S p = none) (h3 : F.H0 p = none) (h4 : DpAll K S us ds) (hn : p ≠ a ∧ p ∉ ps) : Nest K F (upd H a (.lst (ps.map V.ref ++ [.ref p]))) S a (ps ++ [p]) (dss ++ [ds]) := by
  refine ⟨by rw [upd_same, List.map_append]; rfl, n.aS, n.aF, ?_, ?_, by simp [n.len], fun k q es hk hd => ?_⟩
  · rw [List.nodup_append]
    refine ⟨n.nd, by simp, fun x hx y hy => ?_⟩
    rw [List.mem_singleton] at hy
    subst hy
    exact fun z => hn.2 (z ▸ hx)
  · intro z
    rcases List.mem_append.mp z with z | z
    · exact n.an z
    · exact hn.1 (List.mem_singleton.mp z).symm
  · by_cases e : k < ps.length
    · rw [List.getElem?_append_left e] at hk
      rw [List.getElem?_append_left (by rw [← n.len]; exact e)] at hd
      obtain ⟨vs, q1, q2, q3, q4⟩ := n.at_ k q es hk hd
      have : q ≠ a := fun z => n.an (z ▸ List.mem_of_getElem? hk)
      exact ⟨vs, by rw [upd_ne this]; exact q1, q2, q3, q4⟩
    · have e2 : k = ps.length := by
        have := (List.getElem?_eq_some_iff.mp hk).1
        rw [List.length_append, List.length_singleton] at this
        omega
      subst e2
      rw [List.getElem?_append_right (Nat.le_refl _), Nat.sub_self] at hk
      rw [n.len, List.getElem?_append_right (Nat.le_refl _), Nat.sub_self] at hd
      cases hk
      cases hd
      exact ⟨us, by rw [upd_ne hn.1]; exact h1, h2, h3, h4⟩
/-- one list grows -/
theorem Nest.grow (n : Nest K F H S a ps dss) {k : Nat} {p : Addr} {us : List V} {es : List PyData} (hk : ps[k]? = some p) (hd : DpAll K S us es) : Nest K F (upd H p (.lst us)) S a ps (dss.set k es) := by
  have pa : a ≠ p := fun z => n.an (z ▸ List.mem_of_getElem? hk)
  refine ⟨by rw [upd_ne pa]; exact n.top, n.aS, n.aF, n.nd, n.an, by simp [n.len], fun j q fs hj hf => ?_⟩
  have hjl : j < dss.length := by rw [← n.len]; exact (List.getElem?_eq_some_iff.mp hj).1
  by_cases e : j = k
  · subst e
    rw [hk] at hj
    cases hj
    rw [List.getElem?_set_self hjl] at hf
    cases hf
    obtain ⟨vs, q1, q2, q3, q4⟩ := n.at_ j p _ hk (List.getElem?_eq_getElem hjl)
    exact ⟨us, upd_same, q2, q3, hd⟩
  · rw [List.getElem?_set_ne (Ne.symm e)] at hf
    obtain ⟨vs, q1, q2, q3, q4⟩ := n.at_ j q fs hj hf
    have : q ≠ p := fun z => by
      subst z
      have hkl := (List.getElem?_eq_some_iff.mp hk)
      have hjl' := (List.getElem?_eq_some_iff.mp hj)
      exact e ((List.getElem_inj n.nd).mp (hjl'.2.trans hkl.2.symm))
    exact ⟨vs, by rw [upd_ne this]; exact q1, q2, q3, q4⟩
end
open Classical in
noncomputable def Fx.kept (F : Fx) : Hp := fun x => if F.bag = some x ∨ (∃ ps, F.H0 x = some (.tbl ps)) then none else F.H0 x
section
variable {G : Gd} {M : Nm} {F : Fx} {Γ : List Bd} {Q : PyData → Prop} {Qb : Bool → Prop} {p pos : Pos} {ix : Expr}
theorem GRel.kept {K : PySem.W.Frag} {σ : St} {H S : Hp} (g : GRel K F Γ σ H S) : Same F.kept H := fun x o e => by
  unfold Fx.kept at e
  by_cases hb : F.bag = some x ∨ (∃ ps, F.H0 x = some (.tbl ps))
  · rw [if_pos hb] at e; cases e
  · rw [if_neg hb] at e; exact g.keep x o e (fun z => hb (.inl z)) (.inr fun ps z => hb (.inr ⟨ps, z ▸ e⟩))
theorem we_lenKept {p2 : Pos} (i : Nat) {x : Str} {a : Addr} {vs : List V} (hm : G.mg "len" = none) (hg : ("len" : Str) ∈ M.gl) (hn : Rdb M i x) (hb : Γ[i]? = some (Bd.rw (.ref a))) (h0 : F.H0 a = some (.lst vs)) (nb : F.bag ≠ some a) (h : Q (.int vs.length)) : WE G M F (.Call (.Name "len" p) [.Name x p2] [] pos) Γ Q := by
  refine ⟨fun X gd σ H S hl g => tW.of (pe_callB call_len_seq (gd.gl hg) (by rw [gd.mg]; exact hm) (by decide +kernel) (pa_cons (pe_var (gd.at hn.1) (gd.vis hn) hn.2.2.1 hn.2.2.2) pa_nil (by rfl)) (by decide) (by decide) (by rfl) rfl) ?_⟩
  exact ⟨_, g.raw i _ hb, a, vs, rfl, .inl (SqL.of (g.keep a _ h0 nb (.inr nt_lst))), PostE.here g (.int _) h⟩
end
section
variable {K : PySem.W.Frag} {F : Fx} {Γ : List Bd} {σ : St} {H S : Hp} {a : Addr} {ps : List Addr} {dss : List (List PyData)}
theorem dpa_refs {T : Hp} : ∀ {ps : List Addr} {dss : List (List PyData)}, ps.length = dss.length → (∀ (k : Nat) (p : Addr) (ds : List PyData), ps[k]? = some p → dss[k]? = some ds → Dp K T (.ref p) (.list ds)) → DpAll K T (ps.map V.ref) (dss.map PyData.list)
  | [], [], _, _ => .nil
  | p :: ps, ds :: dss, hl, h => .cons (h 0 p ds rfl rfl) (dpa_refs (by simpa using hl) fun k q es h1 h2 => h (k + 1) q es (by simpa using h1) (by simpa using h2))
  | [], _ :: _, hl, _ => by simp at hl
  | _ :: _, [], hl, _ => by simp at hl
theorem Nest.dp (n : Nest K F H S a ps dss) (g : GRel K F Γ σ H S) : Dp K (F.re H S).kept (.ref a) (.list (dss.map PyData.list)) := by
  have kp : ∀ {x : Addr} {o : HO}, H x = some o → NT o → F.bag ≠ some x → (F.re H S).kept x = H x := fun {x o} e nt hx => if_neg fun h => h.elim hx fun ⟨ps, z⟩ => by
    have z : H x = some (.tbl ps) := z
    rw [e] at z
    exact nt ps (Option.some.inj z)
  have sk : Same S (F.re H S).kept := fun x o e => by
    rw [kp (g.ex x o e) (fun ps z => by have := g.td x o e; rw [z] at this; exact this) fun z => by rw [(g.bag x z).1] at e; cases e]
    exact g.ex x o e
  refine .lst (.inl (.inl ((kp n.top nt_lst (n.nb g (.inl rfl)).1).trans n.top))) (dpa_refs n.len fun k p ds h1 h2 => ?_)
  obtain ⟨us, q1, q2, q3, q4⟩ := n.at_ k p ds h1 h2
  exact .lst (.inl (.inl ((kp q1 nt_lst (n.nb g (.inr (List.mem_of_getElem? h1))).1).trans q1))) (dpa_mono sk q4)
theorem Nest.freeze (n : Nest K F H S a ps dss) (g : GRel K F Γ σ H S) {i : Nat} (hi : Γ[i]? = some (Bd.rw (.ref a))) (nm : ∀ (j : Nat) (es : List PyData), Γ[j]? ≠ some (Bd.mu es)) : ∃ S', GRel K F (Γ.set i (Bd.im (.list (dss.map PyData.list)))) σ H S' ∧ Same S S' := by
  classical
  let S' : Hp := fun x => if x = a ∨ x ∈ ps then H x else S x
  have inn : ∀ {x : Addr}, (x = a ∨ x ∈ ps) → S' x = H x := fun h => if_pos h
  have out : ∀ {x : Addr}, ¬ (x = a ∨ x ∈ ps) → S' x = S x := fun h => if_neg h
  have sm : Same S S' := fun x o e => by
    rw [out fun z => by rw [(n.nb g z).2.1] at e; cases e]
    exact e
  have no : ∀ (j : Nat) (es : List PyData), (Γ.set i (Bd.im (.list (dss.map PyData.list))))[j]? ≠ some (Bd.mu es) := fun j es z => by
    rcases get_set z with ⟨_, q, _⟩ | ⟨_, q⟩
    · cases q
    · exact nm j es q
  refine ⟨S', ⟨fun x o e => ?_, g.s0.trans sm, fun x o e => ?_, g.keep, fun b hb => ?_, fun j d hj => ?_, fun j ds hj => absurd hj (no j ds), fun j v hj => ?_, fun j k x ds es hj => absurd hj (no j ds), fun x o e => ?_, g.dm, g.tab⟩, sm⟩
  rotate_right
  · by_cases h : x = a ∨ x ∈ ps
    · rw [inn h] at e
      rcases h with rfl | h
      · rw [n.top] at e; cases e; trivial
      · obtain ⟨k, hk, w⟩ := List.getElem_of_mem h
        obtain ⟨us, q1, _⟩ := n.at_ k x _ (by rw [List.getElem?_eq_getElem hk, w]) (List.getElem?_eq_getElem (n.len ▸ hk))
        rw [q1] at e; cases e; trivial
    · rw [out h] at e; exact g.td x o e
  · by_cases h : x = a ∨ x ∈ ps
    · rw [inn h] at e; exact e
    · rw [out h] at e; exact g.ex x o e
  · by_cases h : x = a ∨ x ∈ ps
    · exact .inr (n.nb g h).2.2.1
    · rw [out h] at e; exact g.nw x o e
  · obtain ⟨h1, h2, h3⟩ := g.bag b hb
    exact ⟨by rw [out fun z => (n.nb g z).1 hb]; exact h1, h2, h3.mono sm rfl⟩
  · rcases get_set hj with ⟨rfl, q, _⟩ | ⟨_, q⟩
    · cases q
      refine ⟨_, g.raw _ _ hi, .lst (.inl (.inl ((inn (.inl rfl)).trans n.top))) (dpa_refs n.len fun k p ds h1 h2 => ?_)⟩
      obtain ⟨us, q1, q2, q3, q4⟩ := n.at_ k p ds h1 h2
      exact .lst (.inl (.inl ((inn (.inr (List.mem_of_getElem? h1))).trans q1))) (dpa_mono sm q4)
    · obtain ⟨v, h1, h2⟩ := g.loc j d q
      exact ⟨v, h1, dp_mono sm h2⟩
  · rcases get_set hj with ⟨rfl, q, _⟩ | ⟨_, q⟩
    · cases q
    · exact g.raw j v q
end
end DW
namespace DW
open PySem PySem.Spec L2
open PyProof.Rows hiding St
section
variable {G : Gd} {M : Nm} {F : Fx} {Γ : List Bd} {D : DE} {iter c ix : Expr}
theorem Parts.mem {xs : List PyData} {dss : List (List PyData)} (h : Parts xs dss) : (∀ es, es ∈ dss → es ≠ [] ∧ es.length ≤ xs.length ∧ ∀ e, e ∈ es → e ∈ xs) ∧ dss.length ≤ xs.length := by
  induction h with
  | nil => exact ⟨fun _ h => (nomatch h), Nat.le_refl _⟩
  | new _ ih =>
    refine ⟨fun es he => ?_, by simp; exact ih.2⟩
    rcases List.mem_append.mp he with m | m
    · obtain ⟨h1, h2, h3⟩ := ih.1 es m
      exact ⟨h1, by simp; omega, fun e he => List.mem_append_left _ (h3 e he)⟩
    · rw [List.mem_singleton] at m
      subst m
      refine ⟨List.cons_ne_nil _ _, by simp, fun e he => List.mem_append_right _ he⟩
  | put _ hk ih =>
    refine ⟨fun es he => ?_, by simp; omega⟩
    rcases List.mem_or_eq_of_mem_set he with m | m
    · obtain ⟨h1, h2, h3⟩ := ih.1 es m
      exact ⟨h1, by simp; omega, fun e he => List.mem_append_left _ (h3 e he)⟩
    · subst m
      obtain ⟨h1, h2, h3⟩ := ih.1 _ (List.mem_of_getElem? hk)
      refine ⟨by simp, by simp; omega, fun e he => ?_⟩
      rcases List.mem_append.mp he with m | m
      · exact List.mem_append_left _ (h3 e m)
      · exact List.mem_append_right _ m
end
end DW
namespace DW
open PySem PySem.Spec L2
open PyProof.Rows hiding St
def sqB (κ : Bool) (K : PySem.W.Frag) (H : Hp) (a : Addr) (xs : List V) : Prop := match κ with | true => SqL K H a xs | false => SqT K H a xs
section
variable {K : PySem.W.Frag} {S : Hp}
/-- data that is walked: a list or a tuple -/
def seqD (κ : Bool) (xs : List PyData) : PyData := match κ with | true => .list xs | false => .tuple xs
theorem dp_seqB {κ : Bool} {v : V} {xs : List PyData} (h : Dp K S v (seqD κ xs)) : ∃ a us, v = .ref a ∧ sqB κ K S a us ∧ DpAll K S us xs := by
  cases κ
  · cases h with | tup h1 h2 => exact ⟨_, _, rfl, h1, h2⟩
  · cases h with | lst h1 h2 => exact ⟨_, _, rfl, h1, h2⟩
end
section
variable {G : Gd} {M : Nm} {F : Fx} {Γ : List Bd} {D : DE} {pos p p2 p3 : Pos} {a b c e tg iter : Expr} {es : List Expr} {Q : List PyData → Prop}
/-- what is walked: the items of a list or a tuple -/
def ZipE (d e : PyData) (Q : List PyData → Prop) : Prop := ∃ κ μ xs ys, d = seqD κ xs ∧ e = seqD μ ys ∧ Q (zipD xs ys)
def EnumE (d : PyData) (Q : List PyData → Prop) : Prop := ∃ κ xs, d = seqD κ xs ∧ Q (enumD xs)
theorem d_zeLL {xs ys : List PyData} (h : Q (zipD xs ys)) : ZipE (.list xs) (.list ys) Q := ⟨true, true, xs, ys, rfl, rfl, h⟩
theorem d_zeLT {xs ys : List PyData} (h : Q (zipD xs ys)) : ZipE (.list xs) (.tuple ys) Q := ⟨true, false, xs, ys, rfl, rfl, h⟩
theorem d_zeTL {xs ys : List PyData} (h : Q (zipD xs ys)) : ZipE (.tuple xs) (.list ys) Q := ⟨false, true, xs, ys, rfl, rfl, h⟩
theorem d_zeTT {xs ys : List PyData} (h : Q (zipD xs ys)) : ZipE (.tuple xs) (.tuple ys) Q := ⟨false, false, xs, ys, rfl, rfl, h⟩
theorem d_enL {xs : List PyData} (h : Q (enumD xs)) : EnumE (.list xs) Q := ⟨true, xs, rfl, h⟩
theorem d_enT {xs : List PyData} (h : Q (enumD xs)) : EnumE (.tuple xs) Q := ⟨false, xs, rfl, h⟩
theorem ex_one {d : PyData} {R : PyData → Prop} (h : R d) : ∃ e, [d] = [e] ∧ R e := ⟨d, rfl, h⟩
end
end DW
namespace DW
open PySem PySem.Spec L2
open PyProof.Rows hiding St
section
variable {G : Gd} {M : Nm} {F : Fx} {Γ : List Bd} {D : DE} {pos p p2 p3 : Pos} {a b c e : Expr} {es : List Expr}
/-- [..] * n -/
theorem wf_rep {Q : List PyData → Prop} (h : WF G M F a Γ fun ds => WE G M F b Γ fun e => ∃ k : Nat, e = .int k ∧ k ≤ 1000 ∧ ds.length ≤ 1000 ∧ Q (List.replicate k ds).flatten) : WF G M F (.BinOp a .Mult b pos) Γ Q := by
  refine ⟨fun X gd σ H S hl g => tW.of (pe_op op_rep (pe_w a) (pe_w b)) ?_⟩
  refine (h.run X gd σ H S hl g).mono fun v H1 ⟨S1, p, xs, ds, e0, hp, r1, r2, r3, r5, g1, e1, k1, hd, q⟩ => ?_
  subst e0
  refine (q.run X gd σ H1 S1 hl g1).mono fun w H2 ⟨S2, e, g2, e2, k2, he, k, ee, z1, z2, q⟩ => ?_
  subst ee
  cases he
  have keep : H2 p = some (.lst xs) := k2.kp _ _ r1 (g.nb hp) (.inr nt_lst)
  refine ⟨p, (k : Int), xs, rfl, rfl, keep, by omega, by omega, ?_, fun t ht => ?_⟩
  · rw [hd.len, Int.toNat_natCast]
    exact Nat.le_trans (Nat.mul_le_mul z2 z1) (by decide)
  · rw [Int.toNat_natCast]
    exact (PostF.new g2 ht (DpAll.rep (dpa_mono e2 hd) k) q).ahead (e1.trans e2) (k1.trans k2)
end
end DW
namespace DW
open PySem PySem.Spec L2
open PyProof.Rows hiding St
def rval : List Int → List Rat → Rat
  | n :: ns, p :: ps => (n : Rat) * p + rval ns ps
  | _, _ => 0
theorem rval_take {ns : List Int} {ps : List Rat} {i : Nat} {n : Int} {p : Rat} (h1 : ns[i]? = some n) (h2 : ps[i]? = some p) : rval (ns.take (i + 1)) (ps.take (i + 1)) = rval (ns.take i) (ps.take i) + (n : Rat) * p := by
  induction i generalizing ns ps with
  | zero =>
    cases ns <;> cases ps <;> simp_all [rval, Rat.add_comm, Rat.zero_add, Rat.add_zero]
  | succ i ih =>
    cases ns with
    | nil => simp at h1
    | cons a ns =>
      cases ps with
      | nil => simp at h2
      | cons b ps =>
        simp only [List.getElem?_cons_succ] at h1 h2
        have := ih h1 h2
        simp only [List.take_succ_cons, rval]
        rw [this, Rat.add_assoc]
def dotZ (ns ms : List Int) : Int := (List.zipWith (fun a b => a * b) ns ms).sum
theorem rval_step (s : Rat) : ∀ (ns : List Int) (ps : List Rat) (ws : List Int), ns.length = ps.length → ws.length = ps.length → rval ns (List.zipWith (fun p q => p + q) ps ((ws.map (Int.cast : Int → Rat)).map fun q => s * q)) = rval ns ps + s * (dotZ ns ws : Rat)
  | [], ps, ws, h, _ => by
    cases ps with
    | nil => simp [rval, dotZ, Rat.mul_zero, Rat.zero_add]
    | cons _ _ => simp at h
  | n :: ns, [], ws, h, _ => by simp at h
  | n :: ns, p :: ps, [], _, h => by simp at h
  | n :: ns, p :: ps, w :: ws, h, h' => by
    have ih := rval_step s ns ps ws (by simpa using h) (by simpa using h')
    simp only [List.map_cons, List.zipWith_cons_cons, rval, dotZ, List.sum_cons] at ih ⊢
    rw [ih, Rat.intCast_add, Rat.intCast_mul, Rat.mul_add, Rat.mul_add]
    have : (n : Rat) * (s * (w : Rat)) = s * ((n : Rat) * (w : Rat)) := by rw [← Rat.mul_assoc, Rat.mul_comm (n : Rat) s, Rat.mul_assoc]
    rw [this]
    grind
def RD (a b : Nat) (q : Rat) : Prop := NB a q.num ∧ NB b (q.den : Int)
theorem RD.of {a b : Nat} {n d : Int} (h : NB a n) (k : NB b d) (h0 : d ≠ 0) : RD a b (Rat.divInt n d) := ⟨h.le (num_le n d), k.le (by rw [Int.natAbs_natCast]; exact den_le n d h0)⟩
theorem RB.rd {N : Nat} {q : Rat} (h : RB N q) : RD N N q := h
theorem RD.rb {a b N : Nat} {q : Rat} (h : RD a b q) (l1 : a ≤ N) (l2 : b ≤ N) : RB N q := ⟨h.1.up l1, h.2.up l2⟩
theorem RD.add {a b c d : Nat} {p q : Rat} (h : RD a b p) (k : RD c d q) (e : Nat) (h1 : a + d ≤ e) (h2 : c + b ≤ e) : RD (e + 1) (b + d) (p + q) := by
  rw [rat_add]
  exact RD.of (((h.1.mul k.2).up h1).add ((k.1.mul h.2).up h2)) (h.2.mul k.2) (rat_mulNe p q)
theorem RD.sub {a b c d : Nat} {p q : Rat} (h : RD a b p) (k : RD c d q) (e : Nat) (h1 : a + d ≤ e) (h2 : c + b ≤ e) : RD (e + 1) (b + d) (p - q) := by
  rw [rat_sub]
  exact RD.of (((h.1.mul k.2).up h1).sub ((k.1.mul h.2).up h2)) (h.2.mul k.2) (rat_mulNe p q)
theorem RD.mul {a b c d : Nat} {p q : Rat} (h : RD a b p) (k : RD c d q) : RD (a + c) (b + d) (p * q) := by
  rw [rat_mul]
  exact RD.of (h.1.mul k.1) (h.2.mul k.2) (rat_mulNe p q)
theorem RD.div {a b c d : Nat} {p q : Rat} (h : RD a b p) (k : RD c d q) (hq : q ≠ 0) : RD (a + d) (b + c) (p / q) := by
  rw [rat_div]
  exact RD.of (h.1.mul k.2) (h.2.mul k.1) (Int.mul_ne_zero (den_ne p) (num_ne hq))
theorem RD.int {a : Nat} {i : Int} (h : NB a i) : RD a 1 (i : Rat) := ⟨h, by show 1 < 2 ^ 1; decide⟩
theorem RD.up {a b a' b' : Nat} {q : Rat} (h : RD a b q) (l1 : a ≤ a') (l2 : b ≤ b') : RD a' b' q := ⟨h.1.up l1, h.2.up l2⟩
theorem rval_rd {N k : Nat} : ∀ {ns : List Int} {ps : List Rat} (j : Nat), ps.length ≤ j → (∀ n, n ∈ ns → NB k n) → VB N ps → RD (j * (N + k + 1) + 1) (j * N + 1) (rval ns ps)
  | [], ps, j, _, _, _ => by
    have : rval [] ps = ((0 : Int) : Rat) := by cases ps <;> rfl
    rw [this]
    exact (RD.int (a := 1) (show NB 1 0 by unfold NB; decide)).up (by omega) (by omega)
  | _ :: _, [], j, _, _, _ => by
    show RD _ _ ((0 : Int) : Rat)
    exact (RD.int (a := 1) (show NB 1 0 by unfold NB; decide)).up (by omega) (by omega)
  | n :: ns, p :: ps, 0, h, _, _ => by simp at h
  | n :: ns, p :: ps, j + 1, h, h1, h2 => by
    have ih := rval_rd (ns := ns) (ps := ps) j (by simpa using h) (fun x hx => h1 x (List.Mem.tail _ hx)) fun x hx => h2 x (List.Mem.tail _ hx)
    have a := (RB.rd (h2 p (List.Mem.head _)))
    have b : RD (k + N) N ((n : Rat) * p) := by
      rw [rat_mul]
      refine RD.of ((h1 n (List.Mem.head _)).mul a.1) ?_ (rat_mulNe _ _)
      have e : (((n : Rat).den : Int) * (p.den : Int)) = (p.den : Int) := by
        show ((1 : Int) * _) = _
        rw [Int.one_mul]
      rw [e]; exact a.2
    have c := b.add ih (j * (N + k + 1) + 1 + N + k) (by rw [Nat.mul_add, Nat.mul_add]; omega) (by omega)
    refine c.up ?_ ?_
    · rw [Nat.add_mul]; omega
    · rw [Nat.add_mul]; omega
end DW
namespace DW
open PySem PySem.Spec L2
open PyProof.Rows hiding St
structure Rule where
  eq : Bool
  rd : List Int
  bd : Int
def tupI (ns : List Int) : PyData := .tuple (ns.map PyData.int)
def lstI (ns : List Int) : PyData := .list (ns.map PyData.int)
def Rule.d (r : Rule) : PyData := .tuple [.str (if r.eq = true then "=" else "<="), tupI r.rd, .int r.bd]
def Rule.kp (r : Rule) (ps : List Rat) : Bool := if r.eq = true then decide (rval r.rd ps = (r.bd : Rat)) else decide (rval r.rd ps ≤ (r.bd : Rat))
def Rule.sc (t : Int) (r : Rule) : Rule := { r with bd := r.bd * t }
/-- a RULE of m cells, of small numbers -/
structure Rule.Ok (m k b : Nat) (r : Rule) : Prop where
  len : r.rd.length = m
  rd : ∀ n, n ∈ r.rd → NB k n
  bd : NB b r.bd
theorem eqv_int (i j : Int) : PyData.eqv (.int i) (.int j) = decide (i = j) := by
  simp only [PyData.eqv]
  by_cases h : i = j <;> simp [h]
theorem eqv_nilL (xs : List PyData) : PyData.eqv (.list xs) (.list []) = xs.isEmpty := by
  cases xs <;> simp [PyData.eqv, PyData.eqvAll]
/-- data of so many storeys at most -/
def FlatTo (k : Nat) (d : PyData) : Prop := d.canLay0 = true ∧ d.depth ≤ k
theorem FlatTo.int (i : Int) : FlatTo 0 (.int i) := ⟨by simp [PyData.canLay0], by simp [PyData.depth]⟩
theorem FlatTo.str {i : Str} (h : PyData.strOk i = true) : FlatTo 0 (.str i) := ⟨by simp [PyData.canLay0, h], by simp [PyData.depth]⟩
theorem flats {k : Nat} : ∀ {xs : List PyData}, (∀ d, d ∈ xs → FlatTo k d) → PyData.canLayAll0 xs = true ∧ PyData.depthAll xs ≤ k
  | [], _ => ⟨by simp [PyData.canLayAll0], by simp [PyData.depthAll]⟩
  | x :: xs, h => by
    obtain ⟨a, b⟩ := h x (List.Mem.head _)
    obtain ⟨c, d⟩ := flats (xs := xs) fun y hy => h y (List.Mem.tail _ hy)
    exact ⟨by simp [PyData.canLayAll0, a, c], by simp only [PyData.depthAll]; omega⟩
theorem FlatTo.list {k : Nat} {xs : List PyData} (h : ∀ d, d ∈ xs → FlatTo k d) : FlatTo (k + 1) (.list xs) := by
  obtain ⟨a, b⟩ := flats h
  exact ⟨by simp only [PyData.canLay0]; exact a, by simp only [PyData.depth]; omega⟩
theorem FlatTo.tuple {k : Nat} {xs : List PyData} (h : ∀ d, d ∈ xs → FlatTo k d) : FlatTo (k + 1) (.tuple xs) := by
  obtain ⟨a, b⟩ := flats h
  exact ⟨by simp only [PyData.canLay0]; exact a, by simp only [PyData.depth]; omega⟩
theorem FlatTo.up {k j : Nat} {d : PyData} (h : FlatTo k d) (l : k ≤ j) : FlatTo j d := ⟨h.1, Nat.le_trans h.2 l⟩
theorem FlatTo.shaped {k : Nat} {d : PyData} (h : FlatTo k d) (l : k ≤ 64) : SeqAt.shaped d = true := by
  unfold SeqAt.shaped
  rw [h.1, Bool.true_and]
  exact decide_eq_true (Nat.le_trans h.2 l)
theorem eqv_lstI : ∀ (ns ms : List Int), PyData.eqv (lstI ns) (lstI ms) = decide (ns = ms) := by
  intro ns ms
  have : ∀ (ns ms : List Int), PyData.eqvAll (ns.map PyData.int) (ms.map PyData.int) = decide (ns = ms) := by
    intro ns
    induction ns with
    | nil => intro ms; cases ms <;> simp [PyData.eqvAll]
    | cons n ns ih =>
      intro ms
      cases ms with
      | nil => simp [PyData.eqvAll]
      | cons m ms =>
        simp only [List.map_cons, PyData.eqvAll, eqv_int, ih]
        by_cases h1 : n = m <;> by_cases h2 : ns = ms <;> simp [h1, h2]
  unfold lstI
  simp only [PyData.eqv]
  exact this ns ms
theorem d_eqFlat {k : Nat} {d e : PyData} {Qb : Bool → Prop} (h : FlatTo k d) (h' : FlatTo k e) (l : k ≤ 64) (hs : (match d, e with | .int _, _ => false | .str _, _ => false | .bool _, _ => false | _, _ => true) = true) (q : Qb (PyData.eqv d e)) : EqD d e Qb := by
  unfold EqD
  split
  · exact nomatch hs
  · exact nomatch hs
  · exact nomatch hs
  · exact ⟨h.shaped l, h'.shaped l, q⟩
end DW
namespace DW
open PySem PySem.Spec L2
open PyProof.Rows hiding St
def RowB (m b : Nat) (r : List Int) : Prop := r.length = m ∧ ∀ x, x ∈ r → NB b x
theorem getD_get {r : List Int} {i : Nat} {x : Int} (h : r[i]? = some x) : r.getD i 0 = x := by
  rw [List.getD_eq_getElem?_getD, h]; rfl
theorem getD_none {r : List Int} {i : Nat} (h : r.length ≤ i) : r.getD i 0 = 0 := by
  rw [List.getD_eq_getElem?_getD, List.getElem?_eq_none h]; rfl
theorem getD_nb {b : Nat} {r : List Int} (h : ∀ x, x ∈ r → NB b x) (i : Nat) : NB b (r.getD i 0) := by
  by_cases hi : i < r.length
  · rw [getD_get (List.getElem?_eq_getElem hi)]
    exact h _ (List.getElem_mem hi)
  · rw [getD_none (by omega)]
    unfold NB
    exact Nat.pow_pos (by decide)
/-- the columns taken, of the first m ones -/
inductive Cols : Nat → List Nat → Prop
  | nil : Cols 0 []
  | skip {m : Nat} {cs : List Nat} : Cols m cs → Cols (m + 1) cs
  | take {m : Nat} {cs : List Nat} : Cols m cs → Cols (m + 1) (cs ++ [m])
theorem Cols.lt {m : Nat} {cs : List Nat} (h : Cols m cs) : ∀ c, c ∈ cs → c < m := by
  induction h with
  | nil => intro c hc; cases hc
  | skip _ ih => intro c hc; have := ih c hc; omega
  | take _ ih =>
    intro c hc
    rcases List.mem_append.mp hc with z | z
    · have := ih c z; omega
    · rw [List.mem_singleton] at z; omega
theorem Cols.len {m : Nat} {cs : List Nat} (h : Cols m cs) : cs.length ≤ m := by
  induction h with
  | nil => exact Nat.le_refl 0
  | skip _ ih => omega
  | take _ ih => rw [List.length_append, List.length_singleton]; omega
theorem Cols.free {m : Nat} {cs : List Nat} (h : Cols m cs) : ((List.range m).filter fun i => !decide (i ∈ cs)).length + cs.length = m := by
  induction h with
  | nil => rfl
  | @skip m cs h ih =>
    rw [List.range_succ, List.filter_append, List.length_append]
    have : m ∉ cs := fun z => Nat.lt_irrefl _ (h.lt m z)
    simp [this]
    omega
  | @take m cs h ih =>
    rw [List.range_succ, List.filter_append, List.length_append]
    have e : (List.range m).filter (fun i => !decide (i ∈ cs ++ [m])) = (List.range m).filter fun i => !decide (i ∈ cs) := by
      refine List.filter_congr fun i hi => ?_
      have : i < m := List.mem_range.mp hi
      have ne : i ≠ m := by omega
      simp [ne]
    rw [e]
    simp
    omega
def grow (r b : Nat) : Nat := 2 ^ r * (b + 1) - 1
/-- what stands at a column of the reduction -/
structure SpSt (m b at_ : Nat) (Rs Ls : List (List Int)) (cs : List Nat) : Prop where
  cols : Cols at_ cs
  len : Ls.length = cs.length
  lead : ∀ (j : Nat) (L : List Int) (c : Nat), Ls[j]? = some L → cs[j]? = some c → (∀ i, i < c → L.getD i 0 = 0) ∧ 0 < L.getD c 0
  lok : ∀ L, L ∈ Ls → RowB m b L
  rok : ∀ R, R ∈ Rs → RowB m b R
  zer : ∀ R, R ∈ Rs → ∀ i, i < at_ → R.getD i 0 = 0
theorem SpSt.apart {m b at_ : Nat} {Rs Ls : List (List Int)} {cs : List Nat} (h : SpSt m b at_ Rs Ls cs) {R : List Int} (hR : R ∈ Rs) : R ∉ Ls := fun hL => by
  obtain ⟨j, hj⟩ := List.mem_iff_getElem?.mp hL
  have hj' : j < cs.length := by rw [← h.len]; exact (List.getElem?_eq_some_iff.mp hj).1
  have hc : cs[j]? = some cs[j] := List.getElem?_eq_getElem hj'
  have h1 := (h.lead j R _ hj hc).2
  have h2 := h.zer R hR cs[j] (h.cols.lt _ (List.getElem_mem hj'))
  omega
def pickR (at_ : Nat) (Ls : List (List Int)) (R : List Int) : Bool := decide (R.getD at_ 0 ≠ 0) && !decide (R ∈ Ls)
theorem SpSt.no {m b at_ : Nat} {Rs Ls : List (List Int)} {cs : List Nat} (h : SpSt m b at_ Rs Ls cs) (e : Rs.filter (pickR at_ Ls) = []) : SpSt m b (at_ + 1) Rs Ls cs := by
  refine ⟨.skip h.cols, h.len, h.lead, h.lok, h.rok, fun R hR i hi => ?_⟩
  by_cases hx : i < at_
  · exact h.zer R hR i hx
  · have : i = at_ := by omega
    subst this
    have := List.filter_eq_nil_iff.mp e R hR
    unfold pickR at this
    have ha := h.apart hR
    simp [ha] at this
    exact this
/-- a SPACE of m cells, of n rows at most -/
def SpaceOk (m n b : Nat) (Ls : List (List Int)) : Prop := ∃ cs, Cols m cs ∧ Ls.length = cs.length ∧ Ls.length ≤ n ∧ (∀ (j : Nat) (L : List Int) (c : Nat), Ls[j]? = some L → cs[j]? = some c → (∀ i, i < c → L.getD i 0 = 0) ∧ 0 < L.getD c 0) ∧ ∀ L, L ∈ Ls → RowB m (grow Ls.length b) L
end DW
namespace DW
open PySem PySem.Spec L2
open PyProof.Rows hiding St
end DW
namespace DW
open PySem PySem.Spec L2
open PyProof.Rows hiding St
theorem lt_of_get {α : Type} {xs : List α} {i : Nat} {x : α} (h : xs[i]? = some x) : i < xs.length := (List.getElem?_eq_some_iff.mp h).1
theorem map_get {α : Type} {f : α → PyData} {xs : List α} {i : Nat} {d : PyData} (h : (xs.map f)[i]? = some d) : ∃ x, xs[i]? = some x ∧ d = f x := by
  rw [List.getElem?_map] at h
  cases hx : xs[i]? with
  | none => rw [hx] at h; cases h
  | some x => rw [hx] at h; exact ⟨x, rfl, (Option.some.inj h).symm⟩
theorem d_seqB {κ : Bool} {xs : List PyData} {R : List PyData → Prop} (h : R xs) : SeqD (seqD κ xs) R := by
  cases κ <;> exact h
end DW
namespace DW
open PySem PySem.Spec L2
open PyProof.Rows hiding St
theorem rowB_zero {m b : Nat} : RowB m b (List.replicate m (0 : Int)) := ⟨List.length_replicate, fun x hx => by
  rw [List.eq_of_mem_replicate hx]
  unfold NB
  exact Nat.pow_pos (by decide)⟩
theorem RowB.put {m b : Nat} {O : List Int} {v : Int} (j : Nat) (h : RowB m b O) (hv : NB b v) : RowB m b (O.set j v) := ⟨by rw [List.length_set]; exact h.1, fun x hx => by
  rcases List.mem_or_eq_of_mem_set hx with z | z
  · exact h.2 x z
  · rw [z]; exact hv⟩
end DW
namespace DW
open PySem PySem.Spec L2
open PyProof.Rows hiding St
theorem dotZ_nb {a b : Nat} : ∀ {ns ms : List Int} (j : Nat), ns.length ≤ j → (∀ n, n ∈ ns → NB a n) → (∀ n, n ∈ ms → NB b n) → NB (a + b + j) (dotZ ns ms)
  | [], ms, j, _, _, _ => by
    have : dotZ [] ms = 0 := by unfold dotZ; simp
    rw [this]
    unfold NB
    exact Nat.pow_pos (by decide)
  | _ :: _, [], j, _, _, _ => by
    show NB _ 0
    unfold NB
    exact Nat.pow_pos (by decide)
  | n :: ns, m :: ms, 0, h, _, _ => by simp at h
  | n :: ns, m :: ms, j + 1, h, h1, h2 => by
    have ih := dotZ_nb (ns := ns) (ms := ms) j (by simpa using h) (fun x hx => h1 x (List.Mem.tail _ hx)) fun x hx => h2 x (List.Mem.tail _ hx)
    have p := (h1 n (List.Mem.head _)).mul (h2 m (List.Mem.head _))
    have e : dotZ (n :: ns) (m :: ms) = n * m + dotZ ns ms := by unfold dotZ; simp
    rw [e]
    exact (p.up (show a + b ≤ a + b + j by omega)).add ih
end DW
namespace DW
open PySem PySem.Spec L2
open PyProof.Rows hiding St
def Tm5 (d : PyData) : Prop := TmD 5 40000 d
/-- told things -/
def TB (L : Nat) (T : List PyData) : Prop := T.length ≤ L ∧ ∀ d, d ∈ T → Tm5 d
theorem TB.nil : TB 0 [] := ⟨Nat.le_refl 0, fun _ h => nomatch h⟩
theorem TB.add {L : Nat} {T : List PyData} {d : PyData} (t : TB L T) (h : Tm5 d) : TB (L + 1) (T ++ [d]) := ⟨by rw [List.length_append, List.length_singleton]; exact Nat.succ_le_succ t.1, fun x hx => by
  rcases List.mem_append.mp hx with z | z
  · exact t.2 x z
  · rw [List.mem_singleton.mp z]; exact h⟩
theorem TB.up {L L' : Nat} {T : List PyData} (t : TB L T) (l : L ≤ L') : TB L' T := ⟨Nat.le_trans t.1 l, t.2⟩
theorem TB.list {L : Nat} {T : List PyData} (t : TB L T) : TmD 6 (40002 * L + 3) (.list T) := tm_list t.2 t.1
theorem TB.le {L : Nat} {T T' : List PyData} (t : TB L T) (l : L + T'.length ≤ 1000) : T.length + T'.length ≤ lim := lim_n _ (Nat.le_trans (Nat.add_le_add_right t.1 _) l)
theorem TB.lt {L : Nat} {T : List PyData} (t : TB L T) (l : L < 1000) : T.length < lim := lim_lt _ (Nat.lt_of_le_of_lt t.1 l)
theorem TB.app {L L' : Nat} {T T' : List PyData} (h : TB L T) (t : TB L' T') : TB (L + L') (T ++ T') := ⟨by rw [List.length_append]; exact Nat.add_le_add h.1 t.1, fun d hd => by
  rcases List.mem_append.mp hd with z | z
  · exact h.2 d z
  · exact t.2 d z⟩
theorem TB.cons {L : Nat} {T : List PyData} {d : PyData} (h : Tm5 d) (t : TB L T) : TB (L + 1) (d :: T) := ⟨Nat.succ_le_succ t.1, fun x hx => by
  cases hx with
  | head => exact h
  | tail _ hx => exact t.2 x hx⟩
end DW
namespace DW
open PySem PySem.Spec L2
open PyProof.Rows hiding St
def isTupO (o : Obj) : Bool := match o.cls with | .type n => n == "tuple" | _ => false
/-- the module's tuples have no dict -/
def ktOk (K : PySem.W.Frag) : Bool := K.all fun p => p.2.dict.isNone || !isTupO p.2
theorem mem_lookup {β : Type} {a : Nat} {o : β} (K : List (Nat × β)) (e : K.lookup a = some o) : (a, o) ∈ K := by
  induction K with
  | nil => cases e
  | cons p K ih =>
    obtain ⟨b, u⟩ := p
    rw [List.lookup_cons] at e
    cases h : (a == b) with
    | true =>
      rw [h] at e
      have h1 := eq_of_beq h
      have h2 := Option.some.inj e
      rw [h1, h2]
      exact List.Mem.head _
    | false =>
      rw [h] at e
      exact List.Mem.tail _ (ih e)
theorem ktOk.at {K : PySem.W.Frag} (h : ktOk K = true) {a : Addr} {o : Obj} (e : K.lookup a = some o) (c : o.cls = .type "tuple") : o.dict = none := by
  have hm : (a, o) ∈ K := mem_lookup K e
  have := List.all_eq_true.mp h _ hm
  simp [isTupO, c] at this
  exact this
section
variable {X : Cx} {o e : Expr} {es : List Expr} {to : TE} {t : TA} {name : Str} {apos cpos : Pos} {T id : String} {r : V → List V → Hp → VK → Prop}
/-- the value is of that type, and has no dict -/
def TyS (X : Cx) (T : String) (x : V) (H : Hp) : Prop := ∀ (pins : List (Addr × Obj)) (σ : St) (s : Shared) (v : Value), Inv X pins σ H s → RelV x v → s.TypeIs v T ∧ ∀ a, v = .ref a → ∃ ob, s.heap.get? a = some ob ∧ ob.dict = none
theorem pe_bmS (pa : PlainAttrs T) (slot : Slot T name id) (hty : typeOf (.builtin id) = pure (.type "method_descriptor")) (hm : MtR X id r) (ho : PE X o to) (ha : PA X (e :: es) t)
    (hbase : attributeBase o name X.env (eval o X.env) = eval o X.env)
    (hfew : ((backTo cpos (starEach (e :: es) X.env)).all (fun x => !x.1) && (backToKw cpos (keywordEach [] X.env)).all (fun x => x.1.isSome) && decide ((e :: es).length + ([] : List Keyword).length + (if ([] : List Keyword).isEmpty then 0 else 1) < 30)) = true)
    (hline : (apos.endLine == cpos.line) = true) (hs : starEach (e :: es) X.env = (false, eval e X.env) :: starEach es X.env) (hplain : (backTo cpos (starEach es X.env)).any (·.1) = false) :
    PE X (.Call (.Attribute o name apos) (e :: es) [] cpos) (fun σ H Q => to σ H fun x H1 => TyS X T x H1 ∧ t σ H1 fun xs H2 => r x xs H2 Q) := by
  refine ⟨fun pins s σ H Q I h => wpAny_Call_method_late hbase hfew hline rfl (thn (ho.run pins s σ H _ I h) fun v s1 ⟨x, H1, I1, r1, ty, q1⟩ => ?_)⟩
  obtain ⟨h1, h2⟩ := ty pins σ s1 v I1 r1
  refine ⟨T, id, pa, slot, hty, h1, h2, ?_⟩
  have hA := ha.run cpos pins s1 σ H1 _ I1 q1
  rw [hs] at hA ⊢
  refine Calls.callWith_builtin (by show (false || (backTo cpos (starEach es X.env)).any (·.1)) = false; rw [hplain] <;> rfl) (Calls.evalArgs_plain ?_)
  exact thn hA fun us s2 ⟨vs, H2, I2, r2, q2⟩ => hm pins s2 σ H2 x vs v us Q I2 r1 r2 q2
end
section
variable {G : Gd} {M : Nm} {F : Fx} {Γ : List Bd} {Q : PyData → Prop} {pos p p2 p3 : Pos} {a b c e o : Expr}
/-- x stands in the texts, at j first -/
def TIxD (xs : List Str) (e : PyData) (Q : PyData → Prop) : Prop := ∃ (z : Str) (j : Nat), e = .str z ∧ xs[j]? = some z ∧ (∀ m, m < j → xs[m]? ≠ some z) ∧ Q (.int (j : Int))
theorem txt_strs {xs : List Str} (h : xs ≠ []) : txt (xs.map V.str) = true := by
  unfold txt
  rw [Bool.and_eq_true]
  refine ⟨by cases xs <;> simp_all, ?_⟩
  rw [List.all_map]
  exact List.all_eq_true.mpr fun _ _ => rfl
theorem we_tidx (hk : ktOk G.K = true) (h : WE G M F o Γ fun d => ∃ xs : List Str, d = .tuple (xs.map PyData.str) ∧ xs ≠ [] ∧ WE G M F e Γ fun x => TIxD xs x Q)
    (hbase : ∀ env, attributeBase o "index" env (eval o env) = eval o env := by intro _; rfl)
    (hfew : ∀ env, ((backTo p3 (starEach [e] env)).all (fun x => !x.1) && (backToKw p3 (keywordEach [] env)).all (fun x => x.1.isSome) && decide ([e].length + ([] : List Keyword).length + (if ([] : List Keyword).isEmpty then 0 else 1) < 30)) = true := by intro _; rfl)
    (hline : (p2.endLine == p3.line) = true := by rfl) (hs : ∀ env, starEach [e] env = [(false, eval e env)] := by intro _; rfl) :
    WE G M F (.Call (.Attribute o "index" p2) [e] [] p3) Γ Q := by
  refine ⟨fun X gd σ H S hl g => tW.of (pe_bmS PySem.F.plainAttrs_tuple PySem.F.slot_tuple_index PySem.F.type_tuple_index mt_tup_index (pe_w o) (pa_cons (pe_w e) pa_nil (hs X.env)) (hbase X.env) (hfew X.env) hline (hs X.env) (by rfl)) ?_⟩
  refine (h.run X gd σ H S hl g).mono fun v H1 ⟨S1, d, g1, e1, k1, hd, xs, ed, ne, q⟩ => ?_
  subst ed
  cases hd with
  | tup h1 h2 =>
  have eq := h2.strs
  subst eq
  refine ⟨fun pins σ s v I r => ?_, ?_⟩
  · cases r
    rcases h1 with (w | ⟨ob, w⟩) | ⟨ob, its, n, w, wc, wd, _⟩
    · have t : TOk (.tup (xs.map V.str)) := g1.td _ _ w
      have t : txt (xs.map V.str) = false := t
      rw [txt_strs ne] at t
      cases t
    · obtain ⟨c1, c2⟩ := g1.td _ _ w
      obtain ⟨c3, _⟩ := I.hok _ _ (g1.ex _ _ w)
      refine ⟨⟨ob, c3, c1⟩, fun a z => ?_⟩
      cases z
      exact ⟨ob, c3, c2⟩
    · have c3 := (gd.K ▸ I.kIn : G.K.In s.heap) _ _ w
      refine ⟨⟨ob, c3, wc⟩, fun a z => ?_⟩
      cases z
      exact ⟨ob, c3, ktOk.at hk w wc⟩
  · refine (q.run X gd σ H1 S1 hl g1).mono fun w H2 ⟨S2, d, g2, e2, k2, hd, z, j, ez, q1, q2, q3⟩ => ?_
    subst ez
    cases hd
    rw [gd.K]
    exact ⟨_, xs, z, j, rfl, rfl, same_t (e2.trans g2.ex) h1, q1, q2, (PostE.here g2 (.int _) q3).ahead (e1.trans e2) (k1.trans k2)⟩
end
end DW
namespace DW
open PySem PySem.Spec L2
open PyProof.Rows hiding St
structure Frm where
  cells : List Str
  groups : List (List Str)
  fre : List Str
  way : Str
def Frm.d (f : Frm) : PyData := frD f.cells f.groups f.fre f.way
structure Frm.Ok (m : Nat) (f : Frm) : Prop where
  len : f.cells.length = m
  ok : FrameOk m f.cells f.groups f.fre f.way
def Frm.ix (f : Frm) (c : Str) : Nat := f.cells.idxOf c
def Frm.ps (f : Frm) : List (List Nat) := f.groups.map fun g => g.map f.ix
def Frm.fx (f : Frm) : List Nat := f.fre.map f.ix
def natT (l : List Nat) : PyData := .tuple (l.map fun (n : Nat) => PyData.int (n : Int))
section
variable {m : Nat} {f : Frm}
theorem idx_first {cells : List Str} {c : Str} (h : c ∈ cells) : cells[cells.idxOf c]? = some c ∧ ∀ k, k < cells.idxOf c → cells[k]? ≠ some c := by
  induction cells with
  | nil => cases h
  | cons a l ih =>
    rw [List.idxOf_cons]
    by_cases e : a = c
    · rw [show (a == c) = true by rw [e]; exact beq_self_eq_true c]
      exact ⟨by rw [e]; rfl, fun k hk => absurd hk (Nat.not_lt_zero k)⟩
    · rw [show (a == c) = false from beq_eq_false_iff_ne.mpr e]
      have hm : c ∈ l := (List.mem_cons.mp h).resolve_left fun z => e z.symm
      obtain ⟨h1, h2⟩ := ih hm
      refine ⟨h1, fun k hk => ?_⟩
      cases k with
      | zero => exact fun z => e (Option.some.inj z)
      | succ k =>
        have hk' : k + 1 < l.idxOf c + 1 := hk
        exact h2 k (by omega)
theorem nodup_at {α : Type} {l : List α} (hn : l.Nodup) : ∀ {i j : Nat} {x : α}, l[i]? = some x → l[j]? = some x → i = j := fun {i j x} hi hj => by
  rcases Nat.lt_trichotomy i j with h | h | h
  · obtain ⟨b1, e1⟩ := List.getElem?_eq_some_iff.mp hi
    obtain ⟨b2, e2⟩ := List.getElem?_eq_some_iff.mp hj
    exact absurd (e1.trans e2.symm) (List.pairwise_iff_getElem.mp hn i j b1 b2 h)
  · exact h
  · obtain ⟨b1, e1⟩ := List.getElem?_eq_some_iff.mp hi
    obtain ⟨b2, e2⟩ := List.getElem?_eq_some_iff.mp hj
    exact absurd (e2.trans e1.symm) (List.pairwise_iff_getElem.mp hn j i b2 b1 h)
theorem idx_at {cells : List Str} (hn : cells.Nodup) {j : Nat} {c : Str} (h : cells[j]? = some c) : cells.idxOf c = j := nodup_at hn (idx_first (List.mem_of_getElem? h)).1 h
theorem Frm.Ok.ixAt (o : f.Ok m) {c : Str} (h : c ∈ f.cells) : f.cells[f.ix c]? = some c := (idx_first h).1
theorem Frm.Ok.atIx (o : f.Ok m) {j : Nat} {c : Str} (h : f.cells[j]? = some c) : f.ix c = j := idx_at o.ok.nodup h
theorem Frm.Ok.inj (o : f.Ok m) {c c' : Str} (h : c ∈ f.cells) (h' : c' ∈ f.cells) (e : f.ix c = f.ix c') : c = c' := by
  have a := o.ixAt h
  have b := o.ixAt h'
  rw [e, b] at a
  exact (Option.some.inj a).symm
theorem Frm.Ok.gMem (o : f.Ok m) {g : List Str} (hg : g ∈ f.groups) {c : Str} (h : c ∈ g) : c ∈ f.cells := (o.ok.each g hg).2.subset h
theorem Frm.Ok.fMem (o : f.Ok m) {c : Str} (h : c ∈ f.fre) : c ∈ f.cells := o.ok.frees.subset h
/-- a cell stands in one group, or in none -/
theorem Frm.Ok.flat (o : f.Ok m) : f.groups.flatten.Nodup := o.ok.parts.nodup_iff.mpr (o.ok.nodup.sublist List.filter_sublist)
theorem flat_one {α : Type} : ∀ {gs : List (List α)} {i j : Nat} {g g' : List α} {c : α}, gs.flatten.Nodup → gs[i]? = some g → gs[j]? = some g' → c ∈ g → c ∈ g' → i = j
  | [], _, _, _, _, _, _, h, _, _, _ => by simp at h
  | g0 :: gs, i, j, g, g', c, hn, hi, hj, h, h' => by
    rw [List.flatten_cons, List.nodup_append] at hn
    obtain ⟨n1, n2, n3⟩ := hn
    cases i with
    | zero =>
      cases j with
      | zero => rfl
      | succ j =>
        cases (Option.some.inj hi)
        exact absurd rfl (n3 c h c (List.mem_flatten.mpr ⟨g', List.mem_of_getElem? hj, h'⟩))
    | succ i =>
      cases j with
      | zero =>
        cases (Option.some.inj hj)
        exact absurd rfl (n3 c h' c (List.mem_flatten.mpr ⟨g, List.mem_of_getElem? hi, h⟩))
      | succ j => exact congrArg (· + 1) (flat_one n2 hi hj h h')
theorem Frm.Ok.one (o : f.Ok m) {i j : Nat} {g g' : List Str} {c : Str} (hi : f.groups[i]? = some g) (hj : f.groups[j]? = some g') (h : c ∈ g) (h' : c ∈ g') : i = j := flat_one o.flat hi hj h h'
theorem Frm.Ok.inG (o : f.Ok m) {c : Str} (h : c ∈ f.cells) : c ∈ f.fre ∨ ∃ (i : Nat) (g : List Str), f.groups[i]? = some g ∧ c ∈ g := by
  by_cases hf : c ∈ f.fre
  · exact .inl hf
  · have : c ∈ f.groups.flatten := o.ok.parts.mem_iff.mpr (List.mem_filter.mpr ⟨h, by simpa using hf⟩)
    obtain ⟨g, hg, hc⟩ := List.mem_flatten.mp this
    obtain ⟨i, hi⟩ := List.mem_iff_getElem?.mp hg
    exact .inr ⟨i, g, hi, hc⟩
theorem Frm.Ok.notF (o : f.Ok m) {i : Nat} {g : List Str} {c : Str} (hi : f.groups[i]? = some g) (h : c ∈ g) : c ∉ f.fre := by
  have : c ∈ f.groups.flatten := List.mem_flatten.mpr ⟨g, List.mem_of_getElem? hi, h⟩
  have := (List.mem_filter.mp (o.ok.parts.mem_iff.mp this)).2
  simpa using this
theorem Frm.ps_len : f.ps.length = f.groups.length := List.length_map _
theorem Frm.ps_at {i : Nat} {g : List Str} (h : f.groups[i]? = some g) : f.ps[i]? = some (g.map f.ix) := by unfold Frm.ps; rw [List.getElem?_map, h]; rfl
theorem Frm.ps_get {i : Nat} {P : List Nat} (h : f.ps[i]? = some P) : ∃ g, f.groups[i]? = some g ∧ P = g.map f.ix := by
  unfold Frm.ps at h
  rw [List.getElem?_map] at h
  cases hg : f.groups[i]? with
  | none => rw [hg] at h; cases h
  | some g => rw [hg] at h; exact ⟨g, rfl, (Option.some.inj h).symm⟩
/-- a place stands in one group, or in none -/
theorem Frm.Ok.pOne (o : f.Ok m) {i j p : Nat} {P P' : List Nat} (hi : f.ps[i]? = some P) (hj : f.ps[j]? = some P') (h : p ∈ P) (h' : p ∈ P') : i = j := by
  obtain ⟨g, hg, rfl⟩ := Frm.ps_get hi
  obtain ⟨g', hg', rfl⟩ := Frm.ps_get hj
  obtain ⟨c, hc, e⟩ := List.mem_map.mp h
  obtain ⟨c', hc', e'⟩ := List.mem_map.mp h'
  have := o.inj (o.gMem (List.mem_of_getElem? hg) hc) (o.gMem (List.mem_of_getElem? hg') hc') (e.trans e'.symm)
  subst this
  exact o.one hg hg' hc hc'
theorem Frm.Ok.pAll (o : f.Ok m) {p : Nat} (h : p < m) : p ∈ f.fx ∨ ∃ (i : Nat) (P : List Nat), f.ps[i]? = some P ∧ p ∈ P := by
  have hl : p < f.cells.length := by rw [o.len]; exact h
  have hc : f.cells[p]? = some f.cells[p] := List.getElem?_eq_getElem hl
  have e := o.atIx hc
  rcases o.inG (List.mem_of_getElem? hc) with z | ⟨i, g, hg, z⟩
  · exact .inl (List.mem_map.mpr ⟨_, z, e⟩)
  · exact .inr ⟨i, _, Frm.ps_at hg, List.mem_map.mpr ⟨_, z, e⟩⟩
theorem Frm.Ok.pNotF (o : f.Ok m) {i p : Nat} {P : List Nat} (hi : f.ps[i]? = some P) (h : p ∈ P) : p ∉ f.fx := fun z => by
  obtain ⟨g, hg, rfl⟩ := Frm.ps_get hi
  obtain ⟨c, hc, e⟩ := List.mem_map.mp h
  obtain ⟨c', hc', e'⟩ := List.mem_map.mp z
  have := o.inj (o.gMem (List.mem_of_getElem? hg) hc) (o.fMem hc') (e.trans e'.symm)
  subst this
  exact o.notF hg hc hc'
end
theorem any_str (x : Str) (ns : List Str) : ((ns.map PyData.str).any fun z => PyData.eqv z (.str x)) = decide (x ∈ ns) := by
  induction ns with
  | nil => rfl
  | cons n ns ih =>
    rw [List.map_cons, List.any_cons, ih]
    have e : PyData.eqv (.str n) (.str x) = decide (n = x) := by
      simp only [PyData.eqv]
      by_cases h : n = x
      · rw [h]; simp
      · simp [h]
    rw [e]
    by_cases h : n = x
    · subst h; simp
    · have : ¬ x = n := fun z => h z.symm
      simp [h, this]
theorem flat_map {α : Type} {g : α → PyData} (h : ∀ a, flatD (g a) = true) (l : List α) : (l.map g).all flatD = true := by
  rw [List.all_map]
  exact List.all_eq_true.mpr fun a _ => h a
section
variable {Qb : Bool → Prop}
theorem d_inST {c : Str} {ns : List Str} (q : Qb (decide (c ∈ ns))) : InD (.str c) (tstrs ns) Qb := ⟨.inl ⟨rfl, flat_map (fun _ => rfl) _⟩, by rw [any_str]; exact q⟩
end
end DW
namespace DW
open PySem PySem.Spec L2
open PyProof.Rows hiding St
def Frm.tch (f : Frm) (vs : List Rat) : List Nat := (List.range f.groups.length).filter fun i => (f.ps.getD i []).any fun p => decide (vs.getD p 0 ≠ 0)
def subV (y b : List Rat) : List Rat := List.zipWith (fun p q => p - q) y b
def Frm.clsh (f : Frm) (b y z : List Rat) : List Nat := (f.tch (subV y b)).filter fun i => decide (i ∈ f.tch (subV z b)) && (decide (f.way = "strict") || (f.ps.getD i []).any fun p => decide (y.getD p 0 ≠ z.getD p 0))
section
variable {m : Nat} {f : Frm}
theorem mem_tch {vs : List Rat} {i : Nat} : i ∈ f.tch vs ↔ ∃ P, f.ps[i]? = some P ∧ ∃ p, p ∈ P ∧ vs.getD p 0 ≠ 0 := by
  unfold Frm.tch
  rw [List.mem_filter, List.mem_range, List.any_eq_true]
  constructor
  · rintro ⟨h1, p, h2, h3⟩
    have hl : i < f.ps.length := by rw [Frm.ps_len]; exact h1
    rw [List.getD_eq_getElem?_getD, List.getElem?_eq_getElem hl] at h2
    exact ⟨_, List.getElem?_eq_getElem hl, p, h2, of_decide_eq_true h3⟩
  · rintro ⟨P, h1, p, h2, h3⟩
    have hl := (List.getElem?_eq_some_iff.mp h1).1
    rw [Frm.ps_len] at hl
    exact ⟨hl, p, by rw [List.getD_eq_getElem?_getD, h1]; exact h2, decide_eq_true h3⟩
theorem tch_lt {vs : List Rat} {i : Nat} (h : i ∈ f.tch vs) : i < f.groups.length := List.mem_range.mp (List.mem_filter.mp h).1
theorem mem_clsh {b y z : List Rat} {i : Nat} : i ∈ f.clsh b y z ↔ i ∈ f.tch (subV y b) ∧ i ∈ f.tch (subV z b) ∧ (f.way = "strict" ∨ ∃ P, f.ps[i]? = some P ∧ ∃ p, p ∈ P ∧ y.getD p 0 ≠ z.getD p 0) := by
  unfold Frm.clsh
  rw [List.mem_filter, Bool.and_eq_true, Bool.or_eq_true, decide_eq_true_iff, decide_eq_true_iff, List.any_eq_true]
  refine ⟨fun ⟨h1, h2, h3⟩ => ⟨h1, h2, h3.imp id ?_⟩, fun ⟨h1, h2, h3⟩ => ⟨h1, h2, h3.imp id ?_⟩⟩
  · rintro ⟨p, h4, h5⟩
    have hl : i < f.ps.length := by rw [Frm.ps_len]; exact tch_lt h1
    rw [List.getD_eq_getElem?_getD, List.getElem?_eq_getElem hl] at h4
    exact ⟨_, List.getElem?_eq_getElem hl, p, h4, of_decide_eq_true h5⟩
  · rintro ⟨P, h4, p, h5, h6⟩
    exact ⟨p, by rw [List.getD_eq_getElem?_getD, h4]; exact h5, decide_eq_true h6⟩
theorem clsh_all {b y z : List Rat} : f.clsh b y z = (List.range f.groups.length).filter fun i => decide (i ∈ f.tch (subV y b)) && decide (i ∈ f.tch (subV z b)) && (decide (f.way = "strict") || (f.ps.getD i []).any fun p => decide (y.getD p 0 ≠ z.getD p 0)) := by
  unfold Frm.clsh
  rw [show f.tch (subV y b) = (List.range f.groups.length).filter fun i => (f.ps.getD i []).any fun p => decide ((subV y b).getD p 0 ≠ 0) from rfl, List.filter_filter]
  refine List.filter_congr fun i hi => ?_
  have : (f.ps.getD i []).any (fun p => decide ((subV y b).getD p 0 ≠ 0)) = decide (i ∈ f.tch (subV y b)) := by
    unfold Frm.tch
    rw [Bool.eq_iff_iff, decide_eq_true_iff, List.mem_filter]
    exact ⟨fun h => ⟨hi, h⟩, fun h => h.2⟩
  rw [show (List.filter (fun i => (f.ps.getD i []).any fun p => decide ((subV y b).getD p 0 ≠ 0)) (List.range f.groups.length)) = f.tch (subV y b) from rfl, this]
  cases decide (i ∈ f.tch (subV y b)) <;> simp
def maskV (ns : List Nat) (vs : List Rat) : List Rat := vs.zipIdx.map fun x => if x.2 ∈ ns then x.1 else 0
/-- the places of the groups that both touch -/
def Frm.both (f : Frm) (b y z : List Rat) : List Nat := (f.tch (subV y b)).filter fun i => decide (i ∈ f.tch (subV z b))
def Frm.bothP (f : Frm) (b y z : List Rat) : List Nat := (f.both b y z).flatMap fun i => f.ps.getD i []
def Frm.com (f : Frm) (b y z : List Rat) : List Rat := maskV (f.bothP b y z) (subV y b)
/-- whether y's group stands behind the place -/
def Frm.mineP (f : Frm) (b y : List Rat) : List Nat := (f.tch (subV y b)).flatMap fun i => f.ps.getD i []
def Frm.mrgAt (f : Frm) (b y z : List Rat) (p : Nat) : Rat := if p ∈ f.fx then y.getD p 0 + z.getD p 0 - b.getD p 0 else if p ∈ f.mineP b y then y.getD p 0 else z.getD p 0
def Frm.mrg (f : Frm) (b y z : List Rat) : List Rat := (List.range b.length).map (f.mrgAt b y z)
end
end DW
namespace DW
open PySem PySem.Spec L2
open PyProof.Rows hiding St
theorem zipIdx_range {α : Type} (l : List α) (d : α) : l.zipIdx = (List.range l.length).map fun i => (l.getD i d, i) := by
  refine List.ext_getElem? fun i => ?_
  rw [List.getElem?_zipIdx, List.getElem?_map]
  by_cases h : i < l.length
  · rw [List.getElem?_range h, List.getElem?_eq_getElem h]
    simp [List.getD_eq_getElem?_getD, h]
  · rw [List.getElem?_eq_none (by omega), List.getElem?_eq_none (by rw [List.length_range]; omega)]
    rfl
theorem vb_get {N p : Nat} {vs : List Rat} (h : VB N vs) (hp : p < vs.length) : RB N (vs.getD p 0) := by
  rw [List.getD_eq_getElem?_getD, List.getElem?_eq_getElem hp]
  exact h _ (List.getElem_mem hp)
end DW
namespace DW
open PySem PySem.Spec L2
open PyProof.Rows hiding St
theorem extL (l b : Addr) (u w : Array Value) (n k : Nat) (dd : Option Addr) (sl : Array (Option Value)) (z1 : ¬(!u.isEmpty && Builtin.List.listTooLong (u.size + w.size)) = true) (z2 : u.size ≤ sizeLine) (z3 : (u ++ w).size ≤ sizeLine + 1) :
    Meets (Builtin.«list.extend» ⟨[.ref l, .ref b], []⟩) (fun _ R s => s.heap.get? l = some { cls := .type "list", data := .seq u n } ∧ s.heap.get? b = some { cls := .type "list", dict := dd, data := .seq w k, slots := sl } ∧ R (.ok (.ret Value.none)) { s with heap := s.heap.update l (Obj.mapSeq fun x => x ++ w) }) :=
  .of_wp fun prog wd A R s h => by
    obtain ⟨hp, g, d, tk, os⟩ := s
    obtain ⟨hl, hb, h⟩ := h
    have f1 := AutoSeq1.idx_int
    have f2 := AutoSeq1.sub_tuple_tuple
    have f3 := AutoSeq1.sub_list_list
    have f4 := AutoSeq1.sub_tuple_list
    have f5 := AutoSeq1.sub_list_tuple
    wp_walk using (wpAny_updateSeq hl rfl (hz := z2) (_hz' := z3)), wpAny_loadPart' hl, wpAny_loadPart' hb
    exact ⟨_, rfl, h⟩
theorem extT (l b : Addr) (u w : Array Value) (n k : Nat) (dd : Option Addr) (sl : Array (Option Value)) (z1 : ¬(!u.isEmpty && Builtin.List.listTooLong (u.size + w.size)) = true) (z2 : u.size ≤ sizeLine) (z3 : (u ++ w).size ≤ sizeLine + 1) :
    Meets (Builtin.«list.extend» ⟨[.ref l, .ref b], []⟩) (fun _ R s => s.heap.get? l = some { cls := .type "list", data := .seq u n } ∧ s.heap.get? b = some { cls := .type "tuple", dict := dd, data := .seq w k, slots := sl } ∧ R (.ok (.ret Value.none)) { s with heap := s.heap.update l (Obj.mapSeq fun x => x ++ w) }) :=
  .of_wp fun prog wd A R s h => by
    obtain ⟨hp, g, d, tk, os⟩ := s
    obtain ⟨hl, hb, h⟩ := h
    have f1 := AutoSeq1.idx_int
    have f2 := AutoSeq1.sub_tuple_tuple
    have f3 := AutoSeq1.sub_list_list
    have f4 := AutoSeq1.sub_tuple_list
    have f5 := AutoSeq1.sub_list_tuple
    wp_walk using (wpAny_updateSeq hl rfl (hz := z2) (_hz' := z3)), wpAny_loadPart' hl, wpAny_loadPart' hb
    exact ⟨_, rfl, h⟩
def rExtS (K : PySem.W.Frag) : V → List V → Hp → VK → Prop := fun x vs H Q => ∃ l b xs zs, x = .ref l ∧ vs = [.ref b] ∧ H l = some (.lst xs) ∧ (SqL K H b zs ∨ SqT K H b zs) ∧ xs.length + zs.length ≤ sizeLine ∧ Q .non (upd H l (.lst (xs ++ zs)))
theorem mt_extS {X : Cx} : MtM X "list.extend" (rExtS X.K) := by
  intro pins s σ H x vs v us Q I rx rv ⟨l, b, xs, zs, ex, ev, hH, hB, hz, q⟩
  subst ex ev
  cases rx
  obtain ⟨u, rfl, ru⟩ := rv.one
  cases ru
  obtain ⟨z, its, n, r, hl, e⟩ := I.lstM hH
  have fin : ∀ its2 : List Value, Vals zs its2 → EP X pins σ Q Value.none { s with heap := s.heap.update l (Obj.mapSeq fun x => x ++ its2.toArray) } := fun its2 r2 =>
    ⟨.non, _, I.lset (its' := its ++ its2) hH e (by simp) (r.append r2) (by rw [List.length_append]; omega), rfl, q⟩
  have lng : ∀ its2 : List Value, Vals zs its2 → (¬(!its.toArray.isEmpty && Builtin.List.listTooLong (its.toArray.size + its2.toArray.size)) = true) ∧ its.toArray.size ≤ sizeLine ∧ (its.toArray ++ its2.toArray).size ≤ sizeLine + 1 := fun its2 r2 => by
    have h1 := r.length
    have h2 := r2.length
    have hsz : its.toArray.size + its2.toArray.size ≤ sizeLine := by rw [List.size_toArray, List.size_toArray]; omega
    refine ⟨?_, by rw [List.size_toArray]; omega, by rw [Array.size_append]; omega⟩
    rw [notLongL hsz, Bool.and_false]
    exact Bool.false_ne_true
  rcases hB with hB | hB
  · obtain ⟨its2, r2, pl, _⟩ := I.list hB
    obtain ⟨⟨c2, d2, t2, s2⟩, e2, ec, n2, ed⟩ := pl.isList
    simp only at ec ed
    subst ec ed
    obtain ⟨z1, z2, z3⟩ := lng its2 r2
    exact call_meets F.slot_list_extend ⟨_, e, rfl⟩ F.entry_list_extend (F.args_list_extend_2 _ _) (extL l b its.toArray its2.toArray n n2 d2 s2 z1 z2 z3) ⟨e, e2, fin its2 r2⟩
  · obtain ⟨its2, r2, pl, _⟩ := I.tuple hB
    obtain ⟨⟨c2, d2, t2, s2⟩, e2, ec, n2, ed⟩ := pl
    simp only at ec ed
    subst ec ed
    obtain ⟨z1, z2, z3⟩ := lng its2 r2
    exact call_meets F.slot_list_extend ⟨_, e, rfl⟩ F.entry_list_extend (F.args_list_extend_2 _ _) (extT l b its.toArray its2.toArray n n2 d2 s2 z1 z2 z3) ⟨e, e2, fin its2 r2⟩
section
variable {G : Gd} {M : Nm} {F : Fx} {Γ : List Bd} {D : DE} {pos p p2 p3 : Pos} {a b c e : Expr}
theorem w1_extendE (i : Nat) {x : Str} {ds : List PyData} (hx : Rdb M i x) (hi : Γ[i]? = some (Bd.mu ds)) (h : WE G M F e Γ fun d => SeqD d fun es => ds.length + es.length ≤ lim ∧ D.nx (Γ.set i (Bd.mu (ds ++ es))))
    (hbase : ∀ env, attributeBase (.Name x p) "extend" env (eval (.Name x p) env) = eval (.Name x p) env := by intro _; rfl)
    (hfew : ∀ env, ((backTo p3 (starEach [e] env)).all (fun x => !x.1) && (backToKw p3 (keywordEach [] env)).all (fun x => x.1.isSome) && decide ([e].length + ([] : List Keyword).length + (if ([] : List Keyword).isEmpty then 0 else 1) < 30)) = true := by intro _; rfl)
    (hline : (p2.endLine == p3.line) = true := by rfl) (hs : ∀ env, starEach [e] env = [(false, eval e env)] := by intro _; rfl) :
    W1 G M F (.Expr (.Call (.Attribute (.Name x p) "extend" p2) [e] [] p3) pos) Γ D := by
  refine ⟨fun hΓ X gd σ H S hl g => tWs.of (ps_expr (pe_bm PySem.F.plainAttrs_list PySem.F.slot_list_extend PySem.F.type_list_extend mt_extS (pe_var (gd.at hx.1) (gd.vis hx) hx.2.2.1 hx.2.2.2) (pa_cons (pe_w e) pa_nil (hs X.env)) (hbase X.env) (hfew X.env) hline (hs X.env) (by rfl)) (by rfl)) ?_⟩
  obtain ⟨a, xs, h1, h2, _⟩ := g.own i ds hi
  refine ⟨_, h1, .inl ⟨rfl, xs, SqL.of h2⟩, ?_⟩
  refine (h.run X gd σ H S hl g).mono fun v H1 ⟨S1, d, g1, e1, _, hd, q⟩ => ?_
  obtain ⟨b, ys, k1, k2, k3, k4, k5⟩ := g1.own i ds hi
  rw [h1] at k1
  cases k1
  rw [gd.K]
  cases hd with
  | lst w1 w2 =>
    exact ⟨a, _, ys, _, rfl, rfl, k2, .inl (same_l g1.ex w1), by rw [k5.len, w2.len]; exact q.1, _, S1, hl, by rw [List.length_set]; exact hΓ, g1.change hi h1 (k5.app w2), e1, q.2⟩
  | tup w1 w2 =>
    exact ⟨a, _, ys, _, rfl, rfl, k2, .inr (same_t g1.ex w1), by rw [k5.len, w2.len]; exact q.1, _, S1, hl, by rw [List.length_set]; exact hΓ, g1.change hi h1 (k5.app w2), e1, q.2⟩
  | _ => exact q.elim
end
end DW
namespace DW
open PySem PySem.Spec L2
open PyProof.Rows hiding St
theorem perm_str {ys : List PyData} {l : List Str} (h : ys.Perm (l.map PyData.str)) : ∃ ns : List Str, ns.Perm l ∧ ys = ns.map PyData.str := by
  let g : PyData → Str := fun d => match d with | .str x => x | _ => ""
  refine ⟨ys.map g, ?_, ?_⟩
  · have := h.map g
    rw [List.map_map] at this
    have e : l.map (g ∘ PyData.str) = l := by
      conv => rhs; rw [← List.map_id l]
      exact List.map_congr_left fun _ _ => rfl
    rw [e] at this
    exact this
  · rw [List.map_map]
    conv => lhs; rw [← List.map_id ys]
    refine List.map_congr_left fun y hy => ?_
    obtain ⟨x, _, rfl⟩ := List.mem_map.mp (h.mem_iff.mp hy)
    rfl
end DW
namespace DW
open PySem PySem.Spec L2
open PyProof.Rows hiding St
open LamX (Tabs TabS CodeO ExtN TabB LamS lamCx lamEnv)
end DW
namespace DW
open PySem PySem.Spec L2
open PyProof.Rows hiding St
open LamX (Tabs TabS CodeO ExtN TabB LamS lamCx lamEnv)
end DW
namespace DW
open PySem PySem.Spec L2
open PyProof.Rows hiding St
open LamX (Tabs TabS CodeO ExtN TabB LamS lamCx lamEnv)
/-- the exception in the air: its dict stands at dx -/
def Air (K : PySem.W.Frag) (F : Fx) (Γ : List Bd) (σ : St) (H S : Hp) (X0 : PyData → Prop) (Z : Option Addr → Hp → Prop) : Prop :=
  ∀ (d : PyData) (v : V) (H' S' : Hp) (dx : Addr), X0 d → GRel K F Γ σ H' S' → Same S S' → Kq F H S H' S' → Dp K S' v d → H' dx = some (.xd [("index", v)]) → Z (some dx) H'
theorem Air.ahead {K : PySem.W.Frag} {F : Fx} {Γ : List Bd} {σ : St} {H S H1 S1 : Hp} {X0 : PyData → Prop} {Z : Option Addr → Hp → Prop} (h : Air K F Γ σ H S X0 Z) (e : Same S S1) (k : Kq F H S H1 S1) : Air K F Γ σ H1 S1 X0 Z :=
  fun d v H' S' dx q g e' k' dp ex => h d v H' S' dx q g (e.trans e') (k.trans k') dp ex
end DW
namespace DW
open PySem PySem.Spec L2
open PyProof.Rows hiding St
open LamX (Tabs TabS CodeO ExtN TabB LamS lamCx lamEnv)
/-- what stands behind a call that raises: the field is d -/
def BackX (K : PySem.W.Frag) (H S : Hp) (E : XK) (C : Addr) (d : PyData) : Prop :=
  ∀ v H' S' dx, (∀ a o, H a = some o → H' a = some o) → Same S S' → (Same S' H' ∧ TdS S') → (∀ a o, S' a = some o → (∃ u, S a = some u) ∨ H a = none) → Dp K S' v d → H' dx = some (.xd [("index", v)]) → E (.ref C) (some dx) H'
/-- of data, raising -/
def spX (K : PySem.W.Frag) (n : Nat) (C : Addr) (sp : DS) : Sp := fun vs H _ E => ∃ ds S X0, ds.length = n ∧ (Same S H ∧ TdS S) ∧ DpAll K S vs ds ∧ sp ds X0 ∧ ∀ d, X0 d → BackX K H S E C d
structure FnX (G : Gd) (k : Nat) (x : Str) (ps : List Str) (n : Nat) (C : Addr) (sp : DS) : Prop where
  ex : ∃ f fd, G.mg x = some (.ref f) ∧ PySem.W.keepIn G.K (.ref f) = true ∧ Binds G.K fd ps [] ∧ FnOk G.P G.w G.K G.mg G.base (L2.CX G.P G.w) k f fd ps (spX G.K n C sp)
theorem FnX.at {G : Gd} {k j n : Nat} {x : Str} {ps : List Str} {C : Addr} {sp : DS} (h : FnX G k x ps n C sp) : FnX (G.at j) k x ps n C sp := ⟨h.ex⟩
/-- the exception in the air of a body -/
def AirD (K : PySem.W.Frag) (F : Fx) (S : Hp) (X0 : PyData → Prop) (Z : Option Addr → St → Hp → Prop) : Prop :=
  ∀ (d : PyData) (v : V) (σ' : St) (H' S' : Hp) (dx : Addr), X0 d → GRel K F [] [] H' S' → Same S S' → Dp K S' v d → H' dx = some (.xd [("index", v)]) → Z (some dx) σ' H'
theorem AirD.ahead {K : PySem.W.Frag} {F : Fx} {S S1 : Hp} {X0 : PyData → Prop} {Z : Option Addr → St → Hp → Prop} (h : AirD K F S X0 Z) (e : Same S S1) : AirD K F S1 X0 Z :=
  fun d v σ' H' S' dx q g e' dp ex => h d v σ' H' S' dx q g (e.trans e') dp ex
def never : Ends := ⟨fun _ _ => False, fun _ _ => False, fun _ _ => False, fun _ _ => False⟩
end DW
namespace DW
open PySem PySem.Spec L2
open PyProof.Rows hiding St
end DW
namespace DW
open PySem PySem.Spec L2
open PyProof.Rows hiding St
open LamX (Tabs TabS CodeO ExtN TabB LamS lamCx lamEnv)
end DW
namespace DW
open PySem PySem.Spec L2
open PyProof.Rows hiding St
def tk2 (a b : Bool) : NestedKey := .tup [.num (if a = true then 1 else 0), .num (if b = true then 1 else 0)]
def w4 (a1 a2 a3 a4 : Addr) (v1 v2 v3 v4 : Value) : List (NestedKey × Addr × Value) := [(tk2 true true, a1, v1), (tk2 true false, a2, v2), (tk2 false true, a3, v3), (tk2 false false, a4, v4)]
end DW
namespace DW
open PySem PySem.Spec L2
open PyProof.Rows hiding St
section
variable {m : Nat} {f : Frm}
theorem sub_getD {y b : List Rat} (h : y.length = b.length) (p : Nat) : (subV y b).getD p 0 = y.getD p 0 - b.getD p 0 := by
  unfold subV
  rw [List.getD_eq_getElem?_getD, List.getD_eq_getElem?_getD, List.getD_eq_getElem?_getD, List.getElem?_zipWith]
  by_cases hp : p < b.length
  · rw [List.getElem?_eq_getElem hp, List.getElem?_eq_getElem (by omega)]
    rfl
  · rw [List.getElem?_eq_none (by omega), List.getElem?_eq_none (by omega)]
    show (0 : Rat) = 0 - 0
    rw [Rat.sub_self]
theorem sub_ne {p q : Rat} : (p - q ≠ 0) ↔ (p ≠ q) := by
  refine not_congr ⟨fun h => ?_, fun h => by rw [h, Rat.sub_self]⟩
  have := congrArg (· + q) h
  simp only [Rat.sub_add_cancel, Rat.zero_add] at this
  exact this
theorem mem_lot {lot : List Nat} {p : Nat} (hl : ∀ i, i ∈ lot → i < f.groups.length) : (p ∈ lot.flatMap fun i => f.ps.getD i []) ↔ ∃ i P, i ∈ lot ∧ f.ps[i]? = some P ∧ p ∈ P := by
  rw [List.mem_flatMap]
  constructor
  · rintro ⟨i, h1, h2⟩
    have hi : i < f.ps.length := by rw [Frm.ps_len]; exact hl i h1
    rw [List.getD_eq_getElem?_getD, List.getElem?_eq_getElem hi] at h2
    exact ⟨i, _, h1, List.getElem?_eq_getElem hi, h2⟩
  · rintro ⟨i, P, h1, h2, h3⟩
    exact ⟨i, h1, by rw [List.getD_eq_getElem?_getD, h2]; exact h3⟩
end
end DW
namespace DW
open PySem PySem.Spec L2
open PyProof.Rows hiding St
end DW
namespace DW
open PySem PySem.Spec L2
open PyProof.Rows hiding St
end DW
namespace DW
open PySem PySem.Spec L2
open PyProof.Rows hiding St
open LamX (Tabs TabS CodeO ExtN TabB LamS lamCx lamEnv)
end DW
namespace DW
open PySem PySem.Spec L2
open PyProof.Rows hiding St
open LamX (Tabs TabS CodeO ExtN TabB LamS lamCx lamEnv)
end DW
namespace DW
open PySem PySem.Spec L2
open PyProof.Rows hiding St
section
variable {m : Nat} {f : Frm} {b y z : List Rat}
theorem clsh_comm : f.clsh b z y = f.clsh b y z := by
  rw [clsh_all, clsh_all]
  refine List.filter_congr fun i _ => ?_
  have e : ((f.ps.getD i []).any fun p => decide (z.getD p 0 ≠ y.getD p 0)) = (f.ps.getD i []).any fun p => decide (y.getD p 0 ≠ z.getD p 0) := by
    congr 1
    funext p
    exact decide_eq_decide.mpr ⟨fun h e => h e.symm, fun h e => h e.symm⟩
  rw [e, Bool.and_comm (decide (i ∈ f.tch (subV z b)))]
theorem tch_eq {u : List Rat} (o : f.Ok m) (hu : u.length = b.length) {i p : Nat} {P : List Nat} (h1 : f.ps[i]? = some P) (h2 : p ∈ P) (h3 : i ∉ f.tch (subV u b)) : u.getD p 0 = b.getD p 0 := by
  by_cases e : u.getD p 0 = b.getD p 0
  · exact e
  · exact absurd (mem_tch.mpr ⟨P, h1, p, h2, by rw [sub_getD hu]; exact sub_ne.mpr e⟩) h3
theorem mine_mem (o : f.Ok m) {i p : Nat} {P : List Nat} (hP : f.ps[i]? = some P) (hp : p ∈ P) : p ∈ f.mineP b y ↔ i ∈ f.tch (subV y b) := by
  unfold Frm.mineP
  rw [mem_lot fun i hi => tch_lt hi]
  exact ⟨fun ⟨j, P', h1, h2, h3⟩ => by rw [o.pOne hP h2 hp h3]; exact h1, fun h => ⟨i, P, h, hP, hp⟩⟩
theorem mrgAt_comm (o : f.Ok m) (hb : b.length = m) (hy : y.length = m) (hz : z.length = m) (hc : f.clsh b y z = []) {p : Nat} (hp : p < m) : f.mrgAt b z y p = f.mrgAt b y z p := by
  unfold Frm.mrgAt
  rcases o.pAll hp with hf | ⟨i, P, hP, hpP⟩
  · rw [if_pos hf, if_pos hf, Rat.add_comm]
  · rw [if_neg (o.pNotF hP hpP), if_neg (o.pNotF hP hpP)]
    by_cases h1 : i ∈ f.tch (subV y b)
    · rw [if_pos ((mine_mem o hP hpP).mpr h1)]
      by_cases h2 : i ∈ f.tch (subV z b)
      · rw [if_pos ((mine_mem o hP hpP).mpr h2)]
        by_cases e : y.getD p 0 = z.getD p 0
        · exact e.symm
        · have : i ∈ f.clsh b y z := mem_clsh.mpr ⟨h1, h2, .inr ⟨P, hP, p, hpP, e⟩⟩
          rw [hc] at this
          cases this
      · rw [if_neg fun w => h2 ((mine_mem o hP hpP).mp w)]
    · rw [if_neg fun w => h1 ((mine_mem o hP hpP).mp w)]
      by_cases h2 : i ∈ f.tch (subV z b)
      · rw [if_pos ((mine_mem o hP hpP).mpr h2)]
      · rw [if_neg fun w => h2 ((mine_mem o hP hpP).mp w), tch_eq o (by omega) hP hpP h1, tch_eq o (by omega) hP hpP h2]
theorem mrg_comm (o : f.Ok m) (hb : b.length = m) (hy : y.length = m) (hz : z.length = m) (hc : f.clsh b y z = []) : f.mrg b z y = f.mrg b y z := by
  unfold Frm.mrg
  refine List.map_congr_left fun p hp => ?_
  rw [List.mem_range, hb] at hp
  exact mrgAt_comm o hb hy hz hc hp
end
/-- what is heard of a merge -/
def Frm.hrd (f : Frm) (b y z : List Rat) : PyData := if f.clsh b y z = [] then .tuple [.str "told", vec (f.mrg b y z)] else .tuple [.str "clash", natT (f.clsh b y z)]
theorem hrd_comm {m : Nat} {f : Frm} {b y z : List Rat} (o : f.Ok m) (hb : b.length = m) (hy : y.length = m) (hz : z.length = m) : f.hrd b z y = f.hrd b y z := by
  unfold Frm.hrd
  rw [clsh_comm]
  by_cases hc : f.clsh b y z = []
  · rw [if_pos hc, if_pos hc, mrg_comm o hb hy hz hc]
  · rw [if_neg hc, if_neg hc]
/-- as the base, or small -/
def Nr (m : Nat) (b y : List Rat) : Prop := y.length = m ∧ ∀ (p : Nat) (q : Rat), y[p]? = some q → b[p]? = some q ∨ RB 4 q
theorem Nr.vb {m N : Nat} {b y : List Rat} (h : Nr m b y) (hb : VB N b) (hN : 4 ≤ N) : VB N y := fun q hq => by
  obtain ⟨p, hp⟩ := List.mem_iff_getElem?.mp hq
  rcases h.2 p q hp with z | z
  · exact hb q (List.mem_of_getElem? z)
  · exact z.up hN
theorem Nr.get {m : Nat} {b y : List Rat} (h : Nr m b y) (hb : b.length = m) {p : Nat} (hp : p < m) : y.getD p 0 = b.getD p 0 ∨ RB 4 (y.getD p 0) := by
  have e : y[p]? = some (y.getD p 0) := by rw [List.getD_eq_getElem?_getD, List.getElem?_eq_getElem (by have := h.1; omega)]; rfl
  rcases h.2 p _ e with z | z
  · left
    have e2 : b.getD p 0 = y.getD p 0 := by
      rw [List.getD_eq_getElem?_getD, z]
      rfl
    exact e2.symm
  · exact .inr z
theorem Nr.sub {m N : Nat} {b y : List Rat} (h : Nr m b y) (hb : b.length = m) (vb : VB N b) (h0 : 4 ≤ N) : VB (N + 6) (subV y b) ∧ VB (N + 6) (subV b y) := by
  have one : ∀ p, p < m → RB (N + 6) (y.getD p 0 - b.getD p 0) ∧ RB (N + 6) (b.getD p 0 - y.getD p 0) := fun p hp => by
    have rb := vb_get vb (p := p) (by omega)
    rcases h.get hb hp with e | e
    · rw [e, Rat.sub_self]
      exact ⟨⟨Nat.pow_pos (by decide), Nat.one_lt_two_pow (by omega)⟩, ⟨Nat.pow_pos (by decide), Nat.one_lt_two_pow (by omega)⟩⟩
    · exact ⟨((e.rd).sub rb.rd (N + 4) (by omega) (by omega)).rb (by omega) (by omega), ((rb.rd).sub e.rd (N + 4) (by omega) (by omega)).rb (by omega) (by omega)⟩
  have all : ∀ (u v : List Rat), u.length = m → v.length = m → (∀ p, p < m → RB (N + 6) (u.getD p 0 - v.getD p 0)) → VB (N + 6) (subV u v) := fun u v hu hv hp q hq => by
    obtain ⟨p, e⟩ := List.mem_iff_getElem?.mp hq
    have hl : p < (subV u v).length := (List.getElem?_eq_some_iff.mp e).1
    have e2 : (subV u v).getD p 0 = q := by rw [List.getD_eq_getElem?_getD, e]; rfl
    rw [sub_getD (hu.trans hv.symm)] at e2
    have hlm : (subV u v).length = m := by unfold subV; rw [List.length_zipWith]; omega
    rw [← e2]
    exact hp p (by omega)
  exact ⟨all y b h.1 hb fun p hp => (one p hp).1, all b y hb h.1 fun p hp => (one p hp).2⟩
theorem Nr.mrg {m N : Nat} {f : Frm} {b y z : List Rat} (h : Nr m b y) (h' : Nr m b z) (hb : b.length = m) (vb : VB N b) (h0 : 12 ≤ N) : VB (N + 11) (f.mrg b y z) := fun q hq => by
  unfold Frm.mrg at hq
  obtain ⟨p, hp, rfl⟩ := List.mem_map.mp hq
  rw [List.mem_range, hb] at hp
  have rb := vb_get vb (p := p) (by omega)
  have ry := vb_get (h.vb vb (by omega)) (p := p) (by rw [h.1]; exact hp)
  have rz := vb_get (h'.vb vb (by omega)) (p := p) (by rw [h'.1]; exact hp)
  unfold Frm.mrgAt
  split
  · rcases h.get hb hp with e | e
    · rw [e, show b.getD p 0 + z.getD p 0 - b.getD p 0 = z.getD p 0 by grind]
      exact rz.up (by omega)
    · rcases h'.get hb hp with e' | e'
      · rw [e', show y.getD p 0 + b.getD p 0 - b.getD p 0 = y.getD p 0 by grind]
        exact ry.up (by omega)
      · exact ((e.add e').rd.sub rb.rd (N + 9) (by omega) (by omega)).rb (by omega) (by omega)
  · split
    · exact ry.up (by omega)
    · exact rz.up (by omega)
end DW
namespace DW
open PySem PySem.Spec L2
open PyProof.Rows hiding St
end DW
namespace DW
open PySem PySem.Spec L2
open PyProof.Rows hiding St
theorem tm_vec6 {N : Nat} {ps : List Rat} (h : VB N ps) (hl : ps.length ≤ 6) (h0 : 0 < N) (h1 : N ≤ 1701) : TmD 2 21000 (vec ps) :=
  (tm_vec h hl h0 (by omega)).up (by decide) (by omega)
theorem tm_l4 {k n : Nat} {a b c d : PyData} (ha : TmD k n a) (hb : TmD k n b) (hc : TmD k n c) (hd : TmD k n d) : TmD (k + 1) ((n + 2) * 4 + 3) (.list [a, b, c, d]) :=
  tm_list (fun x hx => by
    simp only [List.mem_cons, List.not_mem_nil, or_false] at hx
    rcases hx with rfl | rfl | rfl | rfl
    · exact ha
    · exact hb
    · exact hc
    · exact hd) (by simp)
/-- all that one draw knows -/
structure Tri (m : Nat) (f : Frm) (b y z : List Rat) : Prop where
  o : f.Ok m
  hm : m ≤ 6
  tf : TmD 3 13000 f.d
  hb : b.length = m
  vb : VB 1690 b
  ny : Nr m b y
  nz : Nr m b z
namespace Tri
variable {m : Nat} {f : Frm} {b y z : List Rat} (t : Tri m f b y z)
include t
theorem vy : VB 1690 y := t.ny.vb t.vb (by decide)
theorem vz : VB 1690 z := t.nz.vb t.vb (by decide)
theorem kept : TmD 4 90000 (.list [f.d, vec b, vec y, vec z]) := by
  have hm := t.hm
  exact (tm_l4 (k := 3) (n := 21000) (t.tf.up (by decide) (by decide)) ((tm_vec6 t.vb (by rw [t.hb]; exact hm) (by decide) (by decide)).up (by decide) (by decide)) ((tm_vec6 t.vy (by rw [t.ny.1]; exact hm) (by decide) (by decide)).up (by decide) (by decide))
    ((tm_vec6 t.vz (by rw [t.nz.1]; exact hm) (by decide) (by decide)).up (by decide) (by decide))).up (by decide) (by decide)
theorem com : f.hrd b z y = f.hrd b y z := hrd_comm t.o t.hb t.ny.1 t.nz.1
end Tri
end DW
namespace DW
open PySem PySem.Spec L2
open PyProof.Rows hiding St
theorem dotZ_cons (a b : Int) (l v : List Int) : dotZ (a :: l) (b :: v) = a * b + dotZ l v := by unfold dotZ; simp
theorem dotZ_nil (v : List Int) : dotZ [] v = 0 := by unfold dotZ; simp
theorem dotZ_nil' (v : List Int) : dotZ v [] = 0 := by unfold dotZ; simp
theorem dotZ_comm : ∀ l v : List Int, dotZ l v = dotZ v l
  | [], v => by rw [dotZ_nil, dotZ_nil']
  | a :: l, [] => by rw [dotZ_nil, dotZ_nil']
  | a :: l, b :: v => by rw [dotZ_cons, dotZ_cons, dotZ_comm l v, Int.mul_comm]
theorem dotZ_zero : ∀ {r v : List Int}, (∀ x, x ∈ r → x = 0) → dotZ r v = 0
  | [], v, _ => dotZ_nil v
  | x :: r, [], _ => dotZ_nil' _
  | x :: r, z :: v, h => by rw [dotZ_cons, h x (List.Mem.head _), dotZ_zero fun y hy => h y (List.Mem.tail _ hy)]; simp
theorem dotZ_getD0 {r v : List Int} (h : ∀ i, i < r.length → r.getD i 0 = 0) : dotZ r v = 0 := dotZ_zero fun x hx => by
  obtain ⟨i, hi⟩ := List.mem_iff_getElem?.mp hx
  have := h i (List.getElem?_eq_some_iff.mp hi).1
  rw [getD_get hi] at this
  exact this
/-- the reduction keeps what it stands for -/
structure SpX (m : Nat) (rows Rs Ls : List (List Int)) (cs : List Nat) : Prop where
  red : ∀ (j j' : Nat) (L : List Int) (c : Nat), j ≠ j' → Ls[j']? = some L → cs[j]? = some c → L.getD c 0 = 0
  perp : ∀ v : List Int, v.length = m → ((∀ R, R ∈ Rs ∨ R ∈ Ls → dotZ R v = 0) ↔ ∀ r, r ∈ rows → dotZ r v = 0)
theorem SpX.start {m : Nat} {rows : List (List Int)} : SpX m rows rows [] [] := ⟨fun j j' L c _ h => by simp at h, fun v _ => ⟨fun h r hr => h r (.inl hr), fun h R hR => h R (hR.resolve_right fun z => nomatch z)⟩⟩
/-- a SPACE, upright on just what its rows are upright on -/
def SpaceO (m n b : Nat) (rows Ls : List (List Int)) : Prop := ∃ cs, Cols m cs ∧ Ls.length = cs.length ∧ Ls.length ≤ n ∧ (∀ (j : Nat) (L : List Int) (c : Nat), Ls[j]? = some L → cs[j]? = some c → (∀ i, i < c → L.getD i 0 = 0) ∧ 0 < L.getD c 0) ∧ (∀ L, L ∈ Ls → RowB m (grow Ls.length b) L) ∧
  (∀ (j j' : Nat) (L : List Int) (c : Nat), j ≠ j' → Ls[j']? = some L → cs[j]? = some c → L.getD c 0 = 0) ∧ ∀ v : List Int, v.length = m → ((∀ L, L ∈ Ls → dotZ L v = 0) ↔ ∀ r, r ∈ rows → dotZ r v = 0)
theorem SpaceO.ok {m n b : Nat} {rows Ls : List (List Int)} (h : SpaceO m n b rows Ls) : SpaceOk m n b Ls := by
  obtain ⟨cs, h1, h2, h3, h4, h5, _⟩ := h
  exact ⟨cs, h1, h2, h3, h4, h5⟩
theorem SpX.fin {m b : Nat} {rows Rs Ls : List (List Int)} {cs : List Nat} (st : SpSt m b m Rs Ls cs) (x : SpX m rows Rs Ls cs) (v : List Int) (hv : v.length = m) : (∀ L, L ∈ Ls → dotZ L v = 0) ↔ ∀ r, r ∈ rows → dotZ r v = 0 := by
  refine Iff.trans ⟨fun h R hR => ?_, fun h L hL => h L (.inr hL)⟩ (x.perp v hv)
  rcases hR with hR | hR
  · exact dotZ_getD0 fun i hi => st.zer R hR i (by rw [(st.rok R hR).1] at hi; exact hi)
  · exact h R hR
theorem dotZ_set : ∀ {L O : List Int} {c : Nat} (w : Int), L.length = O.length → c < O.length → dotZ L (O.set c w) = dotZ L O + L.getD c 0 * (w - O.getD c 0)
  | [], O, c, w, h, hc => by rw [← h] at hc; simp at hc
  | a :: L, [], c, w, h, hc => by simp at h
  | a :: L, o :: O, 0, w, h, hc => by
    rw [List.set_cons_zero, dotZ_cons, dotZ_cons]
    show _ = _ + a * (w - o)
    grind
  | a :: L, o :: O, c + 1, w, h, hc => by
    rw [List.set_cons_succ, dotZ_cons, dotZ_cons, dotZ_set (L := L) (O := O) (c := c) w (by simpa using h) (by simpa using hc)]
    show _ = _ + L.getD c 0 * (w - O.getD c 0)
    grind
theorem dotZ_rep {L : List Int} {m : Nat} : dotZ L (List.replicate m 0) = 0 := by
  rw [dotZ_comm]
  exact dotZ_zero fun x hx => (List.mem_replicate.mp hx).2
theorem getD_set {O : List Int} {c p : Nat} {w : Int} (h : p ≠ c) : (O.set c w).getD p 0 = O.getD p 0 := by
  rw [List.getD_eq_getElem?_getD, List.getD_eq_getElem?_getD, List.getElem?_set_ne (fun z => h z.symm)]
structure UpSt (Ls : List (List Int)) (cs : List Nat) (i : Nat) (k : Int) (O : List Int) (j : Nat) : Prop where
  done : ∀ (j' : Nat) (L : List Int), j' < j → Ls[j']? = some L → dotZ L O = 0
  todo : ∀ (j' : Nat) (L : List Int), j ≤ j' → Ls[j']? = some L → dotZ L O = L.getD i 0 * k
  zero : ∀ (j' c : Nat), j ≤ j' → cs[j']? = some c → O.getD c 0 = 0
section
variable {m b i : Nat} {k : Int} {Ls : List (List Int)} {cs : List Nat}
theorem UpSt.start (hrow : ∀ L, L ∈ Ls → RowB m b L) (hi : i < m) (hic : i ∉ cs) : UpSt Ls cs i k ((List.replicate m (0 : Int)).set i k) 0 := by
  refine ⟨fun j' L h => absurd h (Nat.not_lt_zero j'), fun j' L _ hL => ?_, fun j' c _ hc => ?_⟩
  · have ok := hrow L (List.mem_of_getElem? hL)
    rw [dotZ_set k (by rw [ok.1, List.length_replicate]) (by rw [List.length_replicate]; exact hi), dotZ_rep, List.getD_eq_getElem?_getD (l := List.replicate m (0 : Int)), List.getElem?_replicate_of_lt hi]
    simp
  · have : c ≠ i := fun e => hic (e ▸ List.mem_of_getElem? hc)
    rw [getD_set this]
    by_cases h : c < m
    · rw [List.getD_eq_getElem?_getD, List.getElem?_replicate_of_lt h]; rfl
    · exact getD_none (by rw [List.length_replicate]; omega)
end
end DW
namespace DW
open PySem PySem.Spec L2
open PyProof.Rows hiding St
def ValP (N P : Nat) (ns : List Int) (ps : List Rat) : Prop := ns.length = ps.length ∧ N ≤ 4000 ∧ P ≤ 4390 ∧ (∀ n, n ∈ ns → NB 3 n) ∧ VB N ps ∧ ∀ i, RB P (rval (ns.take i) (ps.take i))
theorem kp_le {r : Rule} {ps : List Rat} (h : r.kp ps = true) (e : r.eq = false) : rval r.rd ps ≤ (r.bd : Rat) := by
  unfold Rule.kp at h
  rw [if_neg (by rw [e]; decide)] at h
  exact of_decide_eq_true h
def stepV (qs : List Rat) (s : Rat) (W : List Int) : List Rat := List.zipWith (fun p q => p + q) qs ((W.map (Int.cast : Int → Rat)).map fun q => s * q)
/-- as far as the rules looked at allow -/
def MostOk (rs : List Rule) (qs : List Rat) (W : List Int) (j : Nat) (mo : Option Rat) : Prop := (∀ q, mo = some q → 0 ≤ q) ∧ ∀ (i : Nat) (r : Rule), i < j → rs[i]? = some r → r.eq = false → 0 < dotZ r.rd W → ∃ q, mo = some q ∧ q * (dotZ r.rd W : Rat) ≤ (r.bd : Rat) - rval r.rd qs
section
variable {rs : List Rule} {qs : List Rat} {W : List Int} {j : Nat} {mo : Option Rat} {r : Rule}
theorem MostOk.start : MostOk rs qs W 0 none := ⟨fun _ h => (nomatch h), fun i r h => absurd h (Nat.not_lt_zero i)⟩
theorem room_mul {v : Rat} {b z : Int} (hz : 0 < z) : ((b : Rat) - v) / (z : Rat) * (z : Rat) = (b : Rat) - v :=
  Rat.div_mul_cancel fun e => by
    have := Rat.intCast_inj.mp (show (z : Rat) = ((0 : Int) : Rat) from e)
    omega
theorem room_nn {v : Rat} {b z : Int} (hz : 0 < z) (h : v ≤ (b : Rat)) : 0 ≤ ((b : Rat) - v) / (z : Rat) := by
  have h1 := room_mul (v := v) (b := b) hz
  have h2 : (0 : Rat) < (z : Rat) := Rat.intCast_pos.mpr hz
  by_cases h3 : 0 ≤ ((b : Rat) - v) / (z : Rat)
  · exact h3
  · have h4 : ((b : Rat) - v) / (z : Rat) < 0 := Rat.not_le.mp h3
    have h5 := Rat.mul_lt_mul_of_pos_right h4 h2
    rw [h1, Rat.zero_mul] at h5
    grind
theorem MostOk.new (h : MostOk rs qs W j mo) (hr : rs[j]? = some r) (he : r.eq = false) (hz : 0 < dotZ r.rd W) (hk : r.kp qs = true) (hlt : mo = none ∨ ∃ q, mo = some q ∧ ((r.bd : Rat) - rval r.rd qs) / (dotZ r.rd W : Rat) < q) :
    MostOk rs qs W (j + 1) (some (((r.bd : Rat) - rval r.rd qs) / (dotZ r.rd W : Rat))) := by
  have hv := kp_le hk he
  refine ⟨fun q e => by cases e; exact room_nn hz hv, fun i r' hi hr' he' hp => ⟨_, rfl, ?_⟩⟩
  by_cases e : i = j
  · subst e
    cases hr.symm.trans hr'
    rw [room_mul hz]
    exact Rat.le_refl
  · obtain ⟨q, eq, hq⟩ := h.2 i r' (by omega) hr' he' hp
    rcases hlt with hlt | ⟨q', eq', hlt⟩
    · rw [hlt] at eq; cases eq
    · rw [eq] at eq'
      cases eq'
      have h2 : (0 : Rat) ≤ (dotZ r'.rd W : Rat) := Rat.le_of_lt (Rat.intCast_pos.mpr hp)
      exact Rat.le_trans (Rat.mul_le_mul_of_nonneg_right (Rat.le_of_lt hlt) h2) hq
theorem MostOk.keep (h : MostOk rs qs W j mo) (hr : rs[j]? = some r) (hz : 0 < dotZ r.rd W) {q : Rat} (e : mo = some q) (hn : ¬ ((r.bd : Rat) - rval r.rd qs) / (dotZ r.rd W : Rat) < q) : MostOk rs qs W (j + 1) mo := ⟨h.1, fun i r' hi hr' he' hp => by
  by_cases ei : i = j
  · subst ei
    cases hr.symm.trans hr'
    refine ⟨q, e, ?_⟩
    have h2 : (0 : Rat) ≤ (dotZ r.rd W : Rat) := Rat.le_of_lt (Rat.intCast_pos.mpr hp)
    have := Rat.mul_le_mul_of_nonneg_right (Rat.not_lt.mp hn) h2
    rw [room_mul hz] at this
    exact this
  · exact h.2 i r' (by omega) hr' he' hp⟩
end
/-- a drawn STAND, or one a step along a way -/
def WayV (m : Nat) (qs : List Rat) : Prop := ∃ (us : List Rat) (W : List Int) (s : Rat), us.length = m ∧ VB 13 us ∧ RowB m 645 W ∧ RD 113 722 s ∧ qs = stepV us s W
theorem step_zero : ∀ us : List Rat, stepV us 0 (List.replicate us.length 0) = us
  | [] => rfl
  | u :: us => by
    have ih := step_zero us
    unfold stepV at ih ⊢
    rw [List.length_cons, List.replicate_succ, List.map_cons, List.map_cons, List.zipWith_cons_cons, ih, Rat.zero_mul, Rat.add_zero]
theorem step_len {m : Nat} {us : List Rat} {s : Rat} {W : List Int} (h : us.length = m) (h' : W.length = m) : (stepV us s W).length = m := by
  unfold stepV
  rw [List.length_zipWith, List.length_map, List.length_map]
  omega
theorem WayV.len {m : Nat} {qs : List Rat} (h : WayV m qs) : qs.length = m := by
  obtain ⟨us, W, s, h1, _, h3, _, rfl⟩ := h
  exact step_len h1 h3.1
theorem step_get {m p : Nat} {us : List Rat} {s : Rat} {W : List Int} (h : us.length = m) (h' : W.length = m) (hp : p < m) : (stepV us s W).getD p 0 = us.getD p 0 + s * ((W.getD p 0 : Int) : Rat) := by
  have e1 : us[p]? = some (us.getD p 0) := by rw [List.getD_eq_getElem?_getD, List.getElem?_eq_getElem (by omega)]; rfl
  have e2 : W[p]? = some (W.getD p 0) := by rw [List.getD_eq_getElem?_getD, List.getElem?_eq_getElem (by omega)]; rfl
  rw [List.getD_eq_getElem?_getD (l := stepV us s W)]
  unfold stepV
  rw [List.getElem?_zipWith, List.getElem?_map, List.getElem?_map, e1, e2]
  rfl
theorem way_rd {W : List Int} {m : Nat} {s : Rat} (hW : RowB m 645 W) (hs : RD 113 722 s) (p : Nat) : RD 758 723 (s * ((W.getD p 0 : Int) : Rat)) := (hs.mul (RD.int (getD_nb hW.2 p))).up (by decide) (by decide)
theorem WayV.get {m p : Nat} {qs : List Rat} (h : WayV m qs) (hp : p < m) : RD 772 736 (qs.getD p 0) := by
  obtain ⟨us, W, s, h1, h2, h3, h4, rfl⟩ := h
  rw [step_get h1 h3.1 hp]
  exact ((vb_get h2 (by omega)).rd.add (way_rd h3 h4 p) 771 (by decide) (by decide)).up (by decide) (by decide)
theorem WayV.vb {m : Nat} {qs : List Rat} (h : WayV m qs) : VB 775 qs := fun q hq => by
  obtain ⟨p, hp⟩ := List.mem_iff_getElem?.mp hq
  have hl := (List.getElem?_eq_some_iff.mp hp).1
  rw [h.len] at hl
  have := h.get hl
  rw [List.getD_eq_getElem?_getD, hp] at this
  exact this.rb (by decide) (by decide)
end DW
namespace DW
open PySem PySem.Spec L2
open PyProof.Rows hiding St
def Frm.own (f : Frm) (b y z : List Rat) : List Rat := subV (subV y b) (f.com b y z)
section
variable {m : Nat} {f : Frm} {b y z : List Rat}
theorem vb_of {N : Nat} {vs : List Rat} (hl : vs.length = m) (h : ∀ p, p < m → RB N (vs.getD p 0)) : VB N vs := fun q hq => by
  obtain ⟨p, hp⟩ := List.mem_iff_getElem?.mp hq
  have h1 := (List.getElem?_eq_some_iff.mp hp).1
  have := h p (by omega)
  rw [List.getD_eq_getElem?_getD, hp] at this
  exact this
theorem ext_of {u v : List Rat} (hu : u.length = m) (hv : v.length = m) (h : ∀ p, p < m → u.getD p 0 = v.getD p 0) : u = v := by
  refine List.ext_getElem? fun p => ?_
  by_cases hp : p < m
  · have := h p hp
    rw [List.getD_eq_getElem?_getD, List.getD_eq_getElem?_getD, List.getElem?_eq_getElem (by omega), List.getElem?_eq_getElem (by omega)] at this
    rw [List.getElem?_eq_getElem (by omega), List.getElem?_eq_getElem (by omega)]
    exact congrArg some this
  · rw [List.getElem?_eq_none (by omega), List.getElem?_eq_none (by omega)]
theorem mrg_ln (hb : b.length = m) : (f.mrg b y z).length = m := by unfold Frm.mrg; rw [List.length_map, List.length_range]; exact hb
theorem mrg_getD (hb : b.length = m) {p : Nat} (hp : p < m) : (f.mrg b y z).getD p 0 = f.mrgAt b y z p := by
  unfold Frm.mrg
  rw [List.getD_eq_getElem?_getD, List.getElem?_map, List.getElem?_range (by omega)]
  rfl
theorem range_getD {α : Type} (g : Nat → α) (d : α) {p : Nat} (hp : p < m) : ((List.range m).map g).getD p d = g p := by
  rw [List.getD_eq_getElem?_getD, List.getElem?_map, List.getElem?_range hp]; rfl
theorem step_take (us : List Rat) (s : Rat) (W : List Int) (i : Nat) : (stepV us s W).take i = stepV (us.take i) s (W.take i) := by
  unfold stepV
  rw [List.take_zipWith, List.map_take, List.map_take]
theorem mrg_valP (hm : m ≤ 5) (hb : b.length = m) (hy : WayV m y) (hz : WayV m z) (vb : VB 4 b) {ns : List Int} (hnl : ns.length = m) (hn : ∀ n, n ∈ ns → NB 3 n) : ValP 1600 1700 ns (f.mrg b y z) ∧ VB 1600 (f.mrg b y z) := by
  have ly := hy.len
  have lz := hz.len
  obtain ⟨u1, W1, s1, a1, a2, a3, a4, ey⟩ := hy
  obtain ⟨u2, W2, s2, c1, c2, c3, c4, ez⟩ := hz
  let us := (List.range m).map fun p => if p ∈ f.fx then u1.getD p 0 + u2.getD p 0 - b.getD p 0 else if p ∈ f.mineP b y then u1.getD p 0 else u2.getD p 0
  let As := (List.range m).map fun p => if p ∈ f.fx then W1.getD p 0 else if p ∈ f.mineP b y then W1.getD p 0 else 0
  let Cs := (List.range m).map fun p => if p ∈ f.fx then W2.getD p 0 else if p ∈ f.mineP b y then 0 else W2.getD p 0
  have lu : us.length = m := by simp [us]
  have lA : As.length = m := by simp [As]
  have lC : Cs.length = m := by simp [Cs]
  have e : f.mrg b y z = stepV (stepV us s1 As) s2 Cs := by
    refine ext_of (mrg_ln hb) (step_len (step_len lu lA) lC) fun p hp => ?_
    rw [step_get (step_len lu lA) lC hp, step_get lu lA hp, mrg_getD hb hp]
    have gy : y.getD p 0 = u1.getD p 0 + s1 * ((W1.getD p 0 : Int) : Rat) := by rw [ey]; exact step_get a1 a3.1 hp
    have gz : z.getD p 0 = u2.getD p 0 + s2 * ((W2.getD p 0 : Int) : Rat) := by rw [ez]; exact step_get c1 c3.1 hp
    show f.mrgAt b y z p = ((List.range m).map _).getD p 0 + s1 * ((((List.range m).map _).getD p 0 : Int) : Rat) + s2 * ((((List.range m).map _).getD p 0 : Int) : Rat)
    rw [range_getD _ _ hp, range_getD _ _ hp, range_getD _ _ hp]
    unfold Frm.mrgAt
    split
    · rw [gy, gz]; grind
    · split
      · rw [gy]
        show _ = _ + s2 * ((0 : Int) : Rat)
        rw [show ((0 : Int) : Rat) = 0 from rfl, Rat.mul_zero, Rat.add_zero]
      · rw [gz]
        show _ = _ + s1 * ((0 : Int) : Rat) + _
        rw [show ((0 : Int) : Rat) = 0 from rfl, Rat.mul_zero, Rat.add_zero]
  have vu : VB 36 us := vb_of lu fun p hp => by
    show RB 36 (((List.range m).map _).getD p 0)
    rw [range_getD _ _ hp]
    have r1 := vb_get a2 (p := p) (by omega)
    have r2 := vb_get c2 (p := p) (by omega)
    have rb := vb_get vb (p := p) (by omega)
    split
    · exact ((r1.add r2).rd.sub rb.rd 31 (by decide) (by decide)).rb (by decide) (by decide)
    · split
      · exact r1.up (by decide)
      · exact r2.up (by decide)
  have z0 : NB 645 0 := by unfold NB; exact Nat.pow_pos (by decide)
  have vA : ∀ x, x ∈ As → NB 645 x := fun x hx => by
    obtain ⟨p, _, rfl⟩ := List.mem_map.mp hx
    show NB 645 (if _ then _ else if _ then _ else _)
    split
    · exact getD_nb a3.2 p
    · split
      · exact getD_nb a3.2 p
      · exact z0
  have vC : ∀ x, x ∈ Cs → NB 645 x := fun x hx => by
    obtain ⟨p, _, rfl⟩ := List.mem_map.mp hx
    show NB 645 (if _ then _ else if _ then _ else _)
    split
    · exact getD_nb c3.2 p
    · split
      · exact z0
      · exact getD_nb c3.2 p
  have vm : VB 1600 (f.mrg b y z) := by
    rw [e]
    refine vb_of (step_len (step_len lu lA) lC) fun p hp => ?_
    rw [step_get (step_len lu lA) lC hp, step_get lu lA hp]
    have q1 := (vb_get vu (p := p) (by omega)).rd
    have q2 := way_rd ⟨lA, vA⟩ a4 p
    have q3 := way_rd ⟨lC, vC⟩ c4 p
    exact ((q1.add q2 794 (by decide) (by decide)).add q3 1518 (by decide) (by decide)).rb (by decide) (by decide)
  refine ⟨⟨hnl.trans (mrg_ln hb).symm, by decide, by decide, hn, vm, fun i => ?_⟩, vm⟩
  rw [e, step_take, step_take]
  have tk : ∀ {α : Type} (l : List α), l.length = m → (l.take i).length = min i m := fun l h => by rw [List.length_take, h]
  have h1 : rval (ns.take i) (stepV (stepV (us.take i) s1 (As.take i)) s2 (Cs.take i)) = rval (ns.take i) (stepV (us.take i) s1 (As.take i)) + s2 * (dotZ (ns.take i) (Cs.take i) : Rat) :=
    rval_step s2 _ _ _ ((tk ns hnl).trans (step_len (tk us lu) (tk As lA)).symm) ((tk Cs lC).trans (step_len (tk us lu) (tk As lA)).symm)
  have h2 : rval (ns.take i) (stepV (us.take i) s1 (As.take i)) = rval (ns.take i) (us.take i) + s1 * (dotZ (ns.take i) (As.take i) : Rat) :=
    rval_step s1 _ _ _ ((tk ns hnl).trans (tk us lu).symm) ((tk As lA).trans (tk us lu).symm)
  rw [h1, h2]
  have hnt : ∀ n, n ∈ ns.take i → NB 3 n := fun n h => hn n (List.mem_of_mem_take h)
  have l5 : (ns.take i).length ≤ 5 := by rw [tk ns hnl]; omega
  have q1 := rval_rd (N := 36) (k := 3) (ns := ns.take i) (ps := us.take i) 5 (by rw [tk us lu]; omega) hnt fun p h => vu p (List.mem_of_mem_take h)
  have q2 := a4.mul (RD.int (dotZ_nb (ns := ns.take i) (ms := As.take i) 5 l5 hnt fun n h => vA n (List.mem_of_mem_take h)))
  have q3 := c4.mul (RD.int (dotZ_nb (ns := ns.take i) (ms := Cs.take i) 5 l5 hnt fun n h => vC n (List.mem_of_mem_take h)))
  exact ((q1.add q2 947 (by decide) (by decide)).add q3 1671 (by decide) (by decide)).rb (by decide) (by decide)
end
end DW
namespace DW
open PySem PySem.Spec L2
open PyProof.Rows hiding St
structure T61 (m : Nat) (f : Frm) (rs : List Rule) (b y z : List Rat) : Prop where
  o : f.Ok m
  hm : m ≤ 5
  hr : ∀ r, r ∈ rs → r.Ok m 3 43
  hrl : rs.length ≤ 16
  hb : b.length = m
  vb : VB 4 b
  wy : WayV m y
  wz : WayV m z
namespace T61
variable {m : Nat} {f : Frm} {rs : List Rule} {b y z : List Rat} (t : T61 m f rs b y z)
include t
theorem mp {r : Rule} (h : r ∈ rs) : ValP 1600 1700 r.rd (f.mrg b y z) := (mrg_valP t.hm t.hb t.wy t.wz t.vb (t.hr r h).len (t.hr r h).rd).1
end T61
end DW
namespace PySem.W
open PySem PySem.Calls PyProof.Rows
section
variable {prog : Program} {w : World} {A : Around} {E : Value → Shared → Prop} {s : Shared} {β : Type} {vs : List Value} {bs : List β} {enc : β → PyData} {R : Value → β → Prop} {κ : PyProof.Rows.KeyKind}
theorem collect_tup2 {l : Addr} {vs : List Value} {Q : List Value → Shared → Prop} (hl : s.heap.IsTuple l vs.toArray)
    (h : Q vs { s with heap := (s.heap.push (seqObj "list" #[] 0)).update s.heap.objs.size (Obj.mapSeq (· ++ vs.toArray)) }) (hsz : vs.length ≤ sizeLine) :
    wpAny (model prog w) A (collect (.ref l)) Q E s := by
  obtain ⟨o, ho, hc, n, hd⟩ := id hl
  unfold collect
  refine wpAny_bind (wpAny_runValue (codeAny_builtin entry_proto_collect' ?_))
  show wpAny _ _ (do again (.builtin "list.__iadd__" ⟨[← newList [], .ref l], []⟩)) _ _ s
  refine wpAny_bind (wpAny_newList (wpAny_pure ⟨Code.quiet_builtin _ (by decide +kernel), codeAny_builtin entry_list_iadd' ?_⟩))
  show wpAny _ _ (Builtin.List.listExtendWith (.ref s.heap.objs.size) (.ref l) (.ref s.heap.objs.size)) _ _ { s with heap := s.heap.push (seqObj "list" #[] 0) }
  unfold Builtin.List.listExtendWith
  have ho' : (s.heap.push (seqObj "list" #[] 0)).get? l = some o := Heap.get?_push_of_some _ ho
  refine wpAny_bind (wpAny_typeOf (T := "tuple") ⟨o, ho', hc⟩ ?_)
  have ht : (Value.type "tuple" == Value.type "tuple") = true := by rfl
  rw [if_pos (by rw [ht]; simp)]
  refine wpAny_bind (listItems_at ho' hd ?_)
  refine wpAny_bind (listItems_at (xs := #[]) (n := 0) (Heap.get?_push_size _ rfl) rfl ?_)
  rw [if_neg (by simp)]
  refine wpAny_bind (listUpdate_at (xs := #[]) (n := 0) (Heap.get?_push_size _ rfl) rfl ?_ (Nat.zero_le _) (by show (#[] ++ vs.toArray).size ≤ sizeLine + 1; simp only [Array.size_append, List.size_toArray, List.length_nil]; omega))
  refine wpAny_pure ?_
  show wpAny (model prog w) A (do
      let o ← load s.heap.objs.size
      match o.data with
      | .seq xs _ => pure xs.toList
      | _ => unsupported "internal:collect") Q E { s with heap := (s.heap.push (seqObj "list" #[] 0)).update s.heap.objs.size (Obj.mapSeq (· ++ vs.toArray)) }
  refine wpAny_bind (wpAny_load (get?_update_seq (Heap.get?_push_size _ rfl) _) ?_)
  show wpAny _ _ (pure ((#[] : Array Value) ++ vs.toArray).toList) Q E _
  rw [show ((#[] : Array Value) ++ vs.toArray).toList = vs by simp]
  exact wpAny_pure h
theorem sorted_of_sortT {l : Addr} {vs : List Value} {kw : List (Str × Value)} {Q : Value → Shared → Prop} (hl : s.heap.IsTuple l vs.toArray) (hL : vs.length ≤ sizeLine) (ha1 : argsOk "sorted" ⟨[.ref l], kw⟩) (ha2 : ∀ x, argsOk "list.sort" ⟨[.ref x], kw⟩)
    (body : ∀ E' : Value → Shared → Prop, wpAny (model prog w) A.in1.in1 (Builtin.«list.sort» ⟨[.ref (s.heap.objs.size + 1)], kw⟩) (fun f s' => f = .done (.ret .none) ∧ Q (.ref (s.heap.objs.size + 1)) s') E' { s with heap := copyHeap s.heap vs }) :
    wpAny (model prog w) A (call (.builtin "sorted") [.ref l] kw) Q E s := by
  refine call_function_entry_kw kind_sorted plain_sorted entry_sorted ha1 ?_
  unfold Builtin.«sorted»
  refine wpAny_bind (m := checkCount "sorted" 1 1 _) (wpAny_pure ?_)
  refine wpAny_bind (collect_tup2 hl ?_ hL)
  refine wpAny_bind (wpAny_newList ?_ hL)
  have hsz : ((s.heap.push (seqObj "list" #[] 0)).update s.heap.objs.size (Obj.mapSeq (· ++ vs.toArray))).objs.size = s.heap.objs.size + 1 := by
    rw [Heap.size_update, size_push']
  show wpAny _ _ _ _ _ { s with heap := copyHeap s.heap vs }
  rw [hsz]
  refine wpAny_bind (wpAny_holding (wpAny_call_entry_kw slot_list_sort ⟨_, copyHeap_at s.heap vs, rfl⟩ entry_list_sort ?body (ha2 _)))
  case body =>
    show wpAny (model prog w) A.in1.in1 (Builtin.«list.sort» ⟨[.ref (s.heap.objs.size + 1)], kw⟩) _ _ _
    refine wpAny_mono (body _) (fun f s' hf => ?_) fun _ _ e => e
    obtain ⟨rfl, hq⟩ := hf
    exact ⟨_, rfl, wpAny_pure ⟨_, rfl, hq⟩⟩
theorem sorted_valsT {l : Addr} {vs : List Value} {Q : Value → Shared → Prop} (hl : s.heap.IsTuple l vs.toArray) (S : SortsAt prog w A.in1.in1 { s with heap := sortingHeap (copyHeap s.heap vs) (s.heap.objs.size + 1) vs } κ vs) (hL : vs.length ≤ sizeLine)
    (h : Q (.ref (s.heap.objs.size + 1)) { s with heap := sortedAll s.heap vs (sortVals κ false vs vs).toArray }) : wpAny (model prog w) A (call (.builtin "sorted") [.ref l]) Q E s :=
  sorted_of_sortT hl hL (args_sorted1 _) (fun _ => args_list_sort _) fun _ => list_sort_vals (s := { s with heap := copyHeap s.heap vs }) (copyHeap_at s.heap vs) S hL ⟨rfl, h⟩
theorem sorted_dataT {l : Addr} {Q : Value → Shared → Prop} (hl : s.heap.IsTuple l vs.toArray) (e : EachIs R vs bs) (er : EachIs (fun v b => ∃ as, Reads s.heap v (enc b) as) vs bs) (hal : AllAlike (bs.map enc)) (hk : Sortable (bs.map enc)) (hL : bs.length ≤ sizeLine)
    (hu : ∀ b, b ∈ bs → A.units + 2 + (enc b).depth < cLine) (h : ∀ out, out.length = bs.length → EachIs R out (bs.mergeSort (dataLe false enc)) → Q (.ref (s.heap.objs.size + 1)) { s with heap := sortedAll s.heap vs (List.toArray out) }) :
    wpAny (model prog w) A (call (.builtin "sorted") [.ref l]) Q E s := by
  have er' : EachIs (fun v b => ∃ as, Reads (sortingHeap (copyHeap s.heap vs) (s.heap.objs.size + 1) vs) v (enc b) as) vs bs := er.mono fun _ _ ⟨as, r⟩ => ⟨as, PyProof.Rows.Reads.keeps (fun _ _ => sorting_copy_old) r⟩
  exact sorted_valsT hl (SortsAt.data (s := { s with heap := sortingHeap (copyHeap s.heap vs) (s.heap.objs.size + 1) vs }) (each_map (R := fun v d => ∃ as, Reads (sortingHeap (copyHeap s.heap vs) (s.heap.objs.size + 1) vs) v d as) enc er') hal hk (bound_map hu)) (by rw [e.length]; exact hL)
    (h _ (by rw [sortVals_length false rfl]; exact e.length) (sortVals_data false e er' hal))
end
end PySem.W
namespace DW
open PySem PySem.Spec L2
open PyProof.Rows hiding St
open PySem.W (EachIs AllAlike Sortable dataLe)
theorem each_rel {X : Cx} {pins : List (Addr × Obj)} {σ : St} {H S : Hp} {s : Shared} (I : Inv X pins σ H s) (sm : Same S H) : ∀ {xs : List V} {ds : List PyData} {us : List Value}, DpAll X.K S xs ds → Vals xs us →
    EachIs (fun (v : Value) (b : V × PyData) => RelV b.1 v ∧ Dp X.K S b.1 b.2) us (xs.zip ds) ∧ EachIs (fun (v : Value) (b : V × PyData) => ∃ as, Reads s.heap v b.2 as) us (xs.zip ds)
  | [], _, _, .nil, .nil => ⟨.nil, .nil⟩
  | x :: xs, d :: ds, u :: us, .cons hd ht, .cons r t => by
    obtain ⟨h1, h2⟩ := each_rel I sm ht t
    exact ⟨.cons ⟨r, hd⟩ h1, .cons (Dp.reads I d x u (dp_mono sm hd) r) h2⟩
theorem each_back {K : PySem.W.Frag} {H : Hp} : ∀ {us : List Value} {bs : List (V × PyData)}, EachIs (fun (v : Value) (b : V × PyData) => RelV b.1 v ∧ Dp K H b.1 b.2) us bs → Vals (bs.map (·.1)) us ∧ DpAll K H (bs.map (·.1)) (bs.map (·.2))
  | _, _, .nil => ⟨.nil, .nil⟩
  | _, _, .cons h t => by
    obtain ⟨h1, h2⟩ := each_back t
    exact ⟨.cons h.1 h1, .cons h.2 h2⟩
theorem zip_snd {α β : Type} : ∀ {xs : List α} {ys : List β}, xs.length = ys.length → (xs.zip ys).map (·.2) = ys
  | [], [], _ => rfl
  | [], _ :: _, h => by simp at h
  | _ :: _, [], h => by simp at h
  | x :: xs, y :: ys, h => by rw [List.zip_cons_cons, List.map_cons, zip_snd (by simpa using h)]
def sortD (ds : List PyData) : List PyData := ds.mergeSort (dataLe false id)
def rSortDt (K : PySem.W.Frag) : List V → Hp → VK → Prop := fun vs H Q => ∃ (a : Addr) (xs : List V) (ds : List PyData) (S : Hp), vs = [V.ref a] ∧ Same S H ∧ (SqL K H a xs ∨ SqT K H a xs) ∧ DpAll K S xs ds ∧ AllAlike ds ∧ Sortable ds ∧ (∀ d, d ∈ ds → d.depth ≤ 50) ∧
  ∀ (ys : List V) (p : Addr), DpAll K S ys (sortD ds) → H p = none → Q (.ref p) (upd H p (.lst ys))
theorem cr_sortDt {X : Cx} (hu : X.A.units + 64 < cLine) : CallR X (.builtin "sorted") (rSortDt X.K) := by
  intro pins s σ H vs us Q I r h
  obtain ⟨a, xs, ds, S, rfl, sm, hs, hd, hal, hk, hdp, q⟩ := h
  rw [Vals.ref1 r]
  have hlen := hd.len
  have fin : ∀ (its : List Value), Vals xs its → xs.length ≤ sizeLine → ∀ out : List Value, out.length = (xs.zip ds).length → EachIs (fun (v : Value) (b : V × PyData) => RelV b.1 v ∧ Dp X.K S b.1 b.2) out ((xs.zip ds).mergeSort (dataLe false Prod.snd)) →
      EP X pins σ Q (.ref (s.heap.objs.size + 1)) { s with heap := sortedAll s.heap its (List.toArray out) } := fun its rv hz out h1 h2 => by
    obtain ⟨v1, v2⟩ := each_back h2
    obtain ⟨ep, he'⟩ := PyProof.Rows.sortedAll_at s.heap its (List.toArray out)
    have e : (((xs.zip ds).mergeSort (dataLe false Prod.snd)).map (·.2)) = sortD ds := by
      unfold sortD
      have h3 := PySem.W.sort_maps (r := dataLe false Prod.snd) (s := dataLe false id) (Prod.snd : V × PyData → PyData) (l := xs.zip ds) fun _ _ _ _ => rfl
      rw [show (xs.zip ds).map Prod.snd = ds from zip_snd hlen] at h3
      exact h3
    rw [e] at v2
    have hl2 : (((xs.zip ds).mergeSort (dataLe false Prod.snd)).map (·.1)).length ≤ sizeLine := by
      rw [List.length_map, List.length_mergeSort, List.length_zip]
      omega
    exact ⟨.ref _, upd H (s.heap.objs.size + 1) (.lst (((xs.zip ds).mergeSort (dataLe false Prod.snd)).map (·.1))), I.laid (t' := s.toks) (fun _ _ => PyProof.Rows.sortedAll_old) (Nat.le_succ _) ⟨hl2, out, ep, v1, he'⟩, rfl, q _ _ v2 (I.hok.fresh (Nat.le_succ _))⟩
  have hal' : AllAlike ((xs.zip ds).map Prod.snd) := by rw [show (xs.zip ds).map Prod.snd = ds from zip_snd hlen]; exact hal
  have hk' : Sortable ((xs.zip ds).map Prod.snd) := by rw [show (xs.zip ds).map Prod.snd = ds from zip_snd hlen]; exact hk
  have hun : ∀ b, b ∈ xs.zip ds → X.A.units + 2 + b.2.depth < cLine := fun b hb => by
    have := hdp b.2 (List.of_mem_zip hb).2
    omega
  rcases hs with hs | hs
  · obtain ⟨its, rv, hl, hz⟩ := I.list hs
    obtain ⟨e1, e2⟩ := each_rel I sm hd rv
    exact PySem.W.sorted_data hl.isList e1 e2 hal' hk' (by rw [List.length_zip]; omega) hun (fin its rv hz)
  · obtain ⟨its, rv, hl, hz⟩ := I.tuple hs
    obtain ⟨e1, e2⟩ := each_rel I sm hd rv
    exact PySem.W.sorted_dataT hl e1 e2 hal' hk' (by rw [List.length_zip]; omega) hun (fin its rv hz)
section
variable {G : Gd} {M : Nm} {F : Fx} {Γ : List Bd} {Q : PyData → Prop} {pos p : Pos} {a : Expr}
def SortAny (d : PyData) (Q : PyData → Prop) : Prop := ∃ ds, (d = .list ds ∨ d = .tuple ds) ∧ AllAlike ds ∧ Sortable ds ∧ (∀ x, x ∈ ds → x.depth ≤ 50) ∧ Q (.list (sortD ds))
theorem we_sortAny (hk : 1 ≤ G.k) (hm : G.mg "sorted" = none) (hg : ("sorted" : Str) ∈ M.gl) (h : WB G M F a Γ fun d => SortAny d Q) (hs : ∀ env, starEach [a] env = [(false, eval a env)] := by intro _; rfl) : WE G M F (.Call (.Name "sorted" p) [a] [] pos) Γ Q := by
  refine we_b1 (r := rSortDt G.K) (fun X gd => by have := @cr_sortDt X (by have := gd.room.un; omega); rw [gd.K] at this; exact this) hg hm (by decide +kernel) h ?_ (hs := hs)
  intro σ H S v d g hd ⟨ds, e, q1, q2, q3, r⟩ Q' k
  rcases e with rfl | rfl
  · obtain ⟨t, us, rfl, s1, d1⟩ := hd.l g.ex
    exact ⟨t, us, ds, S, rfl, g.ex, .inl s1, d1, q1, q2, q3, fun ys l dy hl => k _ _ (PostE.newL g hl dy r)⟩
  · obtain ⟨t, us, rfl, s1, d1⟩ := hd.t g.ex
    exact ⟨t, us, ds, S, rfl, g.ex, .inr s1, d1, q1, q2, q3, fun ys l dy hl => k _ _ (PostE.newL g hl dy r)⟩
end
end DW
namespace HT
open PySem PySem.Spec PyProof.Rows L2
section
variable {prog : Program} {w : World} {A : Around} {E : Value → Shared → Prop} {s : Shared}
theorem adjust_rev (n : Nat) : Builtin.Slice.sliceAdjust none none (-1) (n : Int) = ((n : Int) - 1, -1) := by
  have h1 : ((-1 : Int) < 0) := by omega
  unfold Builtin.Slice.sliceAdjust
  simp only [h1, if_true]
theorem places_rev (n : Nat) : Builtin.Slice.slicePlaces ((n : Int) - 1) (-1) (-1) = n := by
  unfold Builtin.Slice.slicePlaces
  have h1 : ¬ ((-1 : Int) > 0) := by omega
  simp only [h1, if_false]
  by_cases h : n = 0
  · subst h; rfl
  · rw [if_pos (by omega), show (-(-1) : Int) = 1 from rfl, Int.ediv_one]
    omega
theorem pick_rev (xs : Array Value) : ((List.range xs.size).filterMap fun (m : Nat) => xs[(((xs.size : Int) - 1) + (m : Int) * (-1)).toNat]?).toArray = xs.toList.reverse.toArray := by
  congr 1
  refine List.ext_getElem? fun k => ?_
  have key : ∀ (j : Nat) (l : List Nat), (∀ m, m ∈ l → m < xs.size) → (l.filterMap fun (m : Nat) => xs[(((xs.size : Int) - 1) + (m : Int) * (-1)).toNat]?) = l.map fun m => xs.toList.getD (xs.size - 1 - m) Value.none := fun _ l => by
    induction l with
    | nil => intro _; rfl
    | cons m l ih =>
      intro hm
      have h1 := hm m (List.Mem.head _)
      have e : (((xs.size : Int) - 1) + (m : Int) * (-1)).toNat = xs.size - 1 - m := by omega
      have h2 : xs.size - 1 - m < xs.size := by omega
      rw [List.filterMap_cons, e, Array.getElem?_eq_getElem h2, List.map_cons, ih fun y hy => hm y (List.Mem.tail _ hy)]
      congr 1
      rw [List.getD_eq_getElem?_getD, Array.getElem?_toList, Array.getElem?_eq_getElem h2]
      rfl
  rw [key 0 _ fun m hm => List.mem_range.mp hm, List.getElem?_map]
  by_cases hk : k < xs.size
  · rw [List.getElem?_range hk, List.getElem?_reverse (by rw [Array.length_toList]; exact hk), Array.length_toList]
    have h2 : xs.size - 1 - k < xs.toList.length := by rw [Array.length_toList]; omega
    show some (xs.toList.getD (xs.size - 1 - k) Value.none) = _
    rw [List.getD_eq_getElem?_getD, List.getElem?_eq_getElem h2]
    rfl
  · rw [List.getElem?_eq_none (by rw [List.length_range]; omega), List.getElem?_eq_none (by rw [List.length_reverse, Array.length_toList]; omega)]
    rfl
theorem getItem_tuple_rev {t sl : Addr} {items : Array Value} {vl vu vs : Value} {Q : Value → Shared → Prop} (ht : IsTup s.heap t items) (hs : s.heap.IsSliceOf sl vl vu vs) (pl : IsPart vl none) (pu : IsPart vu none) (ps : IsPart vs (some (-1)))
    (h : Q (.ref s.heap.objs.size) { s with heap := s.heap.push { cls := .type "tuple", data := .seq items.toList.reverse.toArray } })
    (hsz : items.size ≤ sizeLine) : wpAny (model prog w) A (getItem (.ref t) (.ref sl)) Q E s := by
  have htake : sizeOk (.seq items.toList.reverse.toArray) := by
    show items.toList.reverse.toArray.size ≤ sizeLine
    rw [List.size_toArray, List.length_reverse, Array.length_toList]
    exact hsz
  obtain ⟨os, hos, hcs, hds⟩ := id hs
  have hTs : s.TypeIs (.ref sl) "slice" := ⟨os, hos, hcs⟩
  unfold getItem
  try with_reducible refine wpAny_holding ?_
  first | refine wpAny_bind (wpAny_pure ?_) | skip
  refine wpAny_bind (wpAny_sequenceKey ht.typeIs (by decide) ?_)
  refine wpAny_bind (wpAny_callSpecial?_slot (name := Str.ofString "__getitem__") ht.typeIs PyProof.Rows.slot_tuple_getitem
    (wpAny_call_entry PyProof.Rows.slot_tuple_getitem ht.typeIs entry_tuple_getitem ?_ (args_tuple_getitem _ _)))
  show wpAny _ _ (Builtin.Tuple.tupleItemsOf (.ref t) >>= _) _ _ s
  refine wpAny_bind (tupleItemsOf_ ht ?_)
  refine wpAny_bind (wpAny_typeOf hTs ?_)
  rw [if_pos (by decide)]
  have ap : ∀ {Q : Int × Int × Nat → Shared → Prop}, Q ((items.size : Int) - 1, -1, items.size) s → wpAny (model prog w) A.in1 (Builtin.Slice.sliceApplied (.ref sl) (pure (items.size : Int))) Q E s := by
    intro Q h
    unfold Builtin.Slice.sliceApplied Builtin.Slice.sliceFields
    refine wpAny_bind (wpAny_bind (wpAny_field hos hds (x := vl) rfl (wpAny_bind (wpAny_field hos hds (x := vu) rfl (wpAny_bind (wpAny_field hos hds (x := vs) rfl (wpAny_pure ?_)))))))
    refine wpAny_bind (slicePart_ ps ?_)
    show wpAny _ _ (if ((-1 : Int) == 0) = true then _ else _) _ _ s
    rw [if_neg (by decide)]
    refine wpAny_bind (slicePart_ pl (wpAny_bind (slicePart_ pu (wpAny_bind (wpAny_pure ?_)))))
    show wpAny _ _ (match Builtin.Slice.sliceAdjust none none (-1) (items.size : Int) with | (lo, hi) => pure (lo, (-1 : Int), Builtin.Slice.slicePlaces lo hi (-1))) _ _ s
    rw [adjust_rev items.size]
    show wpAny _ _ (pure ((items.size : Int) - 1, (-1 : Int), Builtin.Slice.slicePlaces ((items.size : Int) - 1) (-1) (-1))) _ _ s
    rw [places_rev]
    exact wpAny_pure h
  refine wpAny_bind (ap ?_)
  have hno : ¬ ((((items.size : Int) - 1) == 0 && (-1 : Int) == 1 && items.size == items.size) = true) := by
    intro q
    rw [Bool.and_eq_true, Bool.and_eq_true] at q
    exact absurd (eq_of_beq q.1.2) (by decide)
  show wpAny _ _ (if (((items.size : Int) - 1) == 0 && (-1 : Int) == 1 && items.size == items.size) = true then _ else _) _ _ s
  rw [if_neg hno, pick_rev]
  first
    | exact wpAny_bind (m := Builtin.Tuple.tupleExact _) (wpAny_newObj_type (wpAny_pure ⟨_, rfl, wpAny_pure h⟩) htake)
    | exact wpAny_bind (m := Builtin.Tuple.tupleExact _) (wpAny_newObj_type (wpAny_bind (wpAny_pure (wpAny_pure ⟨_, rfl, wpAny_pure h⟩))) htake)
    | exact wpAny_bind (wpAny_bind (m := Builtin.Tuple.tupleExact _) (wpAny_newObj_type (wpAny_pure (wpAny_pure ⟨_, rfl, wpAny_pure h⟩)) htake))
    | exact wpAny_bind (wpAny_bind (m := Builtin.Tuple.tupleExact _) (wpAny_newObj_type (wpAny_pure ⟨_, rfl, wpAny_pure h⟩) htake))
end
end HT
namespace DW
open PySem PySem.Spec L2
open PyProof.Rows hiding St
theorem tyx_l {K : PySem.W.Frag} {H : Hp} {a : Addr} {xs : List V} (h : SqL K H a xs) : TyX K H (.ref a) (.type "list") := by
  rcases h with (h | ⟨o, h⟩) | ⟨o, its, n, hk, hc, _⟩
  · exact .base (.lst h)
  · exact .base (.frz h)
  · exact .kList hk hc
theorem tyx_t {K : PySem.W.Frag} {H : Hp} {a : Addr} {xs : List V} (h : SqT K H a xs) : TyX K H (.ref a) (.type "tuple") := by
  rcases h with (h | ⟨o, h⟩) | ⟨o, its, n, hk, hc, _⟩
  · exact .base (.tup h)
  · exact .fTuple h
  · exact .kTuple hk hc
def kindS : PyData → String
  | .none => "NoneType"
  | .bool _ => "bool"
  | .int _ => "int"
  | .str _ => "str"
  | .list _ => "list"
  | .tuple _ => "tuple"
  | .dict _ => "dict"
def IsiD (T : String) (d : PyData) (Q : Bool → Prop) : Prop := ∃ b, kitB (kindS d) T = some b ∧ Q b
section
variable {G : Gd} {M : Nm} {F : Fx} {Γ : List Bd} {Q : PyData → Prop} {Qb : Bool → Prop} {pos p p2 : Pos} {a b c e iter tg : Expr}
theorem db_ty {σ : St} {H S : Hp} {v : V} {d : PyData} (g : GRel G.K F Γ σ H S) (hd : Db G.K F H S v d) : TyX G.K H v (.type (kindS d)) := by
  cases d with
  | none => rw [hd.non]; exact .base .non
  | bool x => rw [hd.bl]; exact .base (.bl x)
  | int x => rw [hd.int]; exact .base (.int x)
  | str x => rw [hd.str]; exact .base (.str x)
  | list xs =>
    obtain ⟨t, us, rfl, s1, _⟩ := hd.l g.ex
    exact tyx_l s1
  | tuple xs =>
    obtain ⟨t, us, rfl, s1, _⟩ := hd.t g.ex
    exact tyx_t s1
  | dict xs =>
    rcases hd with h | ⟨_, _, _, _, e, _⟩
    · cases h with
      | dic h _ => exact .base (.dK (g.ex _ _ h))
    · cases e
theorem we_isi {y : Str} {T : String} (hm : G.mg "isinstance" = none) (hg : ("isinstance" : Str) ∈ M.gl) (hm2 : G.mg y = none) (hg2 : y ∈ M.gl) (h : WB G M F a Γ fun d => IsiD T d fun c => Q (.bool c)) (hv2 : bootBuiltins y = some (.type T) := by decide +kernel)
    (hs : ∀ env, starEach [a, .Name y p2] env = (false, eval a env) :: starEach [.Name y p2] env := by intro _; rfl) (hs2 : ∀ env, starEach [.Name y p2] env = [(false, eval (.Name y p2) env)] := by intro _; rfl) (hn : y ≠ "__name__" := by decide) (hdb : (y == ("__debug__" : Str)) = false := by decide) :
    WE G M F (.Call (.Name "isinstance" p) [a, .Name y p2] [] pos) Γ Q := by
  refine ⟨fun X gd σ H S hl g => tW.of (pe_callB (r := rIsi G.K) (by have := @call_isi X; rw [gd.K] at this; exact this) (gd.gl hg) (by rw [gd.mg]; exact hm) (by decide +kernel)
    (pa_cons (pe_w a) (pa_cons (pe_bltn (v := .ty T) (gd.gl hg2) (by rw [gd.mg]; exact hm2) hv2 rfl hn hdb) pa_nil (hs2 X.env)) (hs X.env)) (by decide) (by decide) (hs X.env) (by rw [hs2]; rfl)) ?_⟩
  refine (h.run X gd σ H S hl g).mono fun v H1 ⟨S1, d, g1, e1, k1, hd, c, hb, q⟩ => ?_
  exact ⟨v, .ty T, .type (kindS d), .type T, c, rfl, .ty T, db_ty g1 hd, kit_ty hb, (PostE.here g1 (.bl c) q).ahead e1 k1⟩
theorem we_gtext {x t : Str} (hg : x ∈ M.gl) (hm : ∃ tk, G.mg x = some (.str t tk)) (h : Q (.str t)) (hdb : (x == ("__debug__" : Str)) = false := by decide) : WE G M F (.Name x pos) Γ Q := by
  obtain ⟨tk, hm⟩ := hm
  exact ⟨fun X gd σ H S hl g => tW.of (pe_glob (v := .str t) (gd.gl hg) (by rw [gd.mg]; exact hm) ⟨tk, rfl⟩ hdb) (PostE.here g (.str t) h)⟩
def signsD (x : Str) : List PyData := x.cps.toList.map fun c => PyData.str ⟨#[c]⟩
theorem wi_str {R : List PyData → Prop} (h : WE G M F iter Γ fun d => ∃ x : Str, d = .str x ∧ x.cps.size ≤ lim ∧ R (signsD x)) : WI G M F tg iter Γ R := by
  refine ⟨fun X gd σ H S hl g => tWi.of (pi_str (pe_w iter)) ((h.run X gd σ H S hl g).mono fun v H1 ⟨S1, d, g1, e1, k1, hd, x, e, hz, q⟩ => ?_)⟩
  subst e
  cases hd
  refine ⟨x, rfl, S1, signsD x, g1, e1, k1, ⟨fun i d H' S' _ _ hi => ?_, fun i H' S' _ _ hi => ?_⟩, by unfold signsD; rw [List.length_map, Array.length_toList]; exact hz, q⟩
  · unfold signsD at hi
    obtain ⟨c, hc, rfl⟩ := map_get hi
    have hlt := lt_of_get hc
    rw [Array.length_toList] at hlt
    refine ⟨hlt, fun y H'' ⟨e1, c', h1, h2⟩ => .inl ⟨e1, ?_⟩⟩
    rw [Array.getElem?_toList] at hc
    cases hc.symm.trans h1
    rw [h2]
    exact .str _
  · unfold signsD at hi
    rw [List.length_map, Array.length_toList] at hi
    show x.cps.size ≤ i
    omega
def inT (x y : Str) : Bool := !(Builtin.Str.occurrences y x 0 y.length 1).isEmpty
theorem we_inS (h : WB G M F a Γ fun d => WB G M F b Γ fun e => ∃ x y : Str, d = .str x ∧ e = .str y ∧ Q (.bool (inT x y))) (hm : behindInMarks .In b = false := by rfl) : WE G M F (.Compare a [.In] [b] pos) Γ Q :=
  we_cmp (Qb := fun c => Q (.bool c)) (R := fun d e => ∃ x y : Str, d = .str x ∧ e = .str y ∧ Q (.bool (inT x y))) (fun X gd => op_in_str) h (fun g hd he r Q' k => by
    obtain ⟨x, y, rfl, rfl, q⟩ := r
    rw [hd.str, he.str]
    exact ⟨x, y, rfl, rfl, k _ q⟩) hm fun _ q => q
theorem wt_chainLe {j j2 : Nat} {lo hi : Int} {p3 p4 : Pos} (h : WB G M F b Γ fun d => ∃ i : Int, d = .int i ∧ Qb (decide (lo ≤ i) && decide (i ≤ hi)))
    (hm : lastMarks [.LtE, .LtE] [b, .Constant (.int hi) j2 p4] = false := by with_unfolding_all rfl) : WT G M F (.Compare (.Constant (.int lo) j p3) [.LtE, .LtE] [b, .Constant (.int hi) j2 p4] pos) Γ Qb := by
  refine ⟨fun X gd σ H S hl g => tWt.of (pt_chain op_le op_le pe_int (pe_w b) pe_int hm) ?_⟩
  refine (h.run X gd σ H S hl g).mono fun v H1 ⟨S1, d, g1, e1, k1, hd, i, e, q⟩ => ?_
  subst e
  have hv := hd.int
  subst hv
  refine ⟨lo, i, rfl, rfl, decide (lo ≤ i), rfl, ?_⟩
  have fin : ∀ c : Bool, Qb c → ∃ k, V.bl c = .bl k ∧ PostT G.K F Γ σ H S Qb k H1 := fun c qc => ⟨c, rfl, PostT.ahead e1 k1 ⟨S1, g1, Same.refl S1, Kq.refl H1 S1, qc⟩⟩
  by_cases hlo : lo ≤ i
  · rw [decide_eq_true hlo] at q ⊢
    rw [if_pos rfl]
    rw [Bool.true_and] at q
    exact ⟨i, hi, rfl, rfl, fin _ q⟩
  · rw [decide_eq_false hlo] at q ⊢
    rw [if_neg Bool.false_ne_true]
    exact fin _ q
def tRevT (K : PySem.W.Frag) (te : TE) : TE := fun σ H Q => te σ H fun x H1 => ∃ a xs, x = .ref a ∧ SqT K H1 a xs ∧ ∀ p o, H1 p = none → TupAs xs.reverse o → Q (.ref p) (upd H1 p o)
theorem pe_revT {X : Cx} {e : Expr} {te : TE} {k : Nat} {p1 p2 p3 pos : Pos} (he : PE X e te) : PE X (.Subscript e (.Slice none none (some (.UnaryOp .USub (.Constant (.int 1) k p1) p2)) p3) pos) (tRevT X.K te) := by
  refine ⟨fun pins s σ H Q I h => ?_⟩
  refine Subscript_ (thn (he.run pins s σ H _ I h) fun v s1 ⟨x, H1, I1, r1, q1⟩ => ?_)
  obtain ⟨a, xs, ex, hx, q⟩ := q1
  subst ex
  cases r1
  have hst : PO X (some (.UnaryOp .USub (.Constant (.int 1) k p1) p2)) (tPart (tUn (rU fun i => .int (-i)) (tC (.int 1)))) := po_some (pe_un un_neg pe_int)
  refine wpAny_Slice (thn (po_none.run pins s1 σ H1 (fun o H2 => o = none ∧ H2 = H1) I1 ⟨rfl, rfl⟩) fun vl s2 ⟨l, H2, I2, pl, el, e2⟩ => ?_)
  subst el e2
  refine thn (po_none.run pins s2 σ H2 (fun o H3 => o = none ∧ H3 = H2) I2 ⟨rfl, rfl⟩) fun vu s3 ⟨u, H3, I3, pu, eu, e3⟩ => ?_
  subst eu e3
  refine thn (hst.run pins s3 σ H3 (fun o H4 => o = some (-1) ∧ H4 = H3) I3 ⟨1, rfl, -1, rfl, rfl, rfl⟩) fun vs s4 ⟨o, H4, I4, ps, eo, e4⟩ => ?_
  subst eo e4
  have I5 : Inv X pins σ H4 { s4 with heap := s4.heap.push { cls := .type "slice", data := .fields #[vl, vu, vs] } } := I4.kept (t' := s4.toks) fun b ob q => Heap.get?_push_of_some _ q
  obtain ⟨its, r, ht, hz⟩ := I5.tuple hx
  show wpAny (model X.prog X.w) X.A (subscriptTail e (.Slice none none (some (.UnaryOp .USub (.Constant (.int 1) k p1) p2)) p3) (.ref a) (.ref s4.heap.objs.size)) (EP X pins σ Q) X.xe { s4 with heap := s4.heap.push { cls := .type "slice", data := .fields #[vl, vu, vs] } }
  refine tail_any (ops := [.ref a, .ref s4.heap.objs.size]) ht.typeIs (PyProof.Rows.slot_tuple_getitem.lookup) ?_ (by with_unfolding_all rfl)
  refine HT.getItem_tuple_rev ht (Heap.IsSliceOf.new _ vl vu vs) pl pu ps ?_ (by rw [List.size_toArray, ← r.length]; exact hz)
  exact laidZ I5 r.reverse (by rw [List.length_reverse]; exact hz) q
theorem dpa_rev {K : PySem.W.Frag} {S : Hp} : ∀ {xs : List V} {ds : List PyData}, DpAll K S xs ds → DpAll K S xs.reverse ds.reverse
  | _, _, .nil => .nil
  | _, _, .cons h t => by
    rw [List.reverse_cons, List.reverse_cons]
    exact (dpa_rev t).app (.one h)
theorem we_revT {k : Nat} {p1 p2 p3 : Pos} (h : WE G M F a Γ fun d => ∃ ds, d = .tuple ds ∧ Q (.tuple ds.reverse)) : WE G M F (.Subscript a (.Slice none none (some (.UnaryOp .USub (.Constant (.int 1) k p1) p2)) p3) pos) Γ Q := by
  refine ⟨fun X gd σ H S hl g => tW.of (pe_revT (pe_w a)) ((h.run X gd σ H S hl g).mono fun v H1 ⟨S1, d, g1, e1, k1, hd, ds, e, q⟩ => ?_)⟩
  subst e
  cases hd with
  | tup h1 h2 =>
    refine ⟨_, _, rfl, by rw [gd.K]; exact same_t g1.ex h1, fun p o hp to => ?_⟩
    exact (PostE.newT g1 hp to (dpa_rev h2) q).ahead e1 k1
end
end DW
namespace DW
open PySem PySem.Spec L2
open PyProof.Rows hiding St
section
variable {G : Gd} {M : Nm} {F : Fx} {Γ : List Bd} {Q : PyData → Prop} {pos p p2 p3 : Pos} {a : Expr}
theorem dpa_txt {K : PySem.W.Frag} {S : Hp} : ∀ {xs : List Str} {vs : List V}, DpAll K S vs (xs.map PyData.str) → vs = xs.map V.str
  | [], _, h => by cases h; rfl
  | x :: xs, _, h => by
    cases h with
    | cons h t =>
      cases h
      rw [dpa_txt t]
      rfl
end
end DW
namespace PySem
open Sem (wp)
open PySem.W (KdxIt kdx_alive)
end PySem
namespace DW
open PySem PySem.Spec L2
open PyProof.Rows hiding St
end DW
namespace DW
open PySem PySem.Spec L2
open PyProof.Rows hiding St
end DW
namespace DW
open PySem PySem.Spec L2
open PyProof.Rows hiding St
section
variable {α β : Type} {le : α → α → Bool}
theorem sort_uniq (ht : ∀ a b c, le a b = true → le b c = true → le a c = true) (hl : ∀ a b, (le a b || le b a) = true) (ha : ∀ a b, le a b = true → le b a = true → a = b) {l es : List α} (hp : es.Perm l) (hs : es.Pairwise fun a b => le a b = true) : l.mergeSort le = es :=
  List.Perm.eq_of_pairwise (le := fun a b => le a b = true) (fun a b _ _ => ha a b) (List.pairwise_mergeSort ht hl l) hs ((List.mergeSort_perm l le).trans hp.symm)
theorem sort_same (ht : ∀ a b c, le a b = true → le b c = true → le a c = true) (hl : ∀ a b, (le a b || le b a) = true) (ha : ∀ a b, le a b = true → le b a = true → a = b) {l es : List α} (hp : es.Perm l) : l.mergeSort le = es.mergeSort le :=
  sort_uniq ht hl ha ((List.mergeSort_perm es le).trans hp) (List.pairwise_mergeSort ht hl es)
end
theorem sortD_maps {β : Type} (k : β → PyData) (l : List β) : sortD (l.map k) = (l.mergeSort (PySem.W.dataLe false k)).map k := by
  unfold sortD
  exact (PySem.W.sort_maps (r := PySem.W.dataLe false k) (s := PySem.W.dataLe false id) k (l := l) fun _ _ _ _ => rfl).symm
theorem sortD_ints {ns es : List Nat} (hp : es.Perm ns) (hs : es.Pairwise (· ≤ ·)) : sortD (ns.map fun (n : Nat) => PyData.int (n : Int)) = es.map fun (n : Nat) => PyData.int (n : Int) := by
  rw [sortD_maps, PySem.W.dataLe_int]
  congr 1
  refine sort_uniq (fun a b c h1 h2 => ?_) (fun a b => ?_) (fun a b h1 h2 => ?_) hp (hs.imp fun h => ?_)
  · have h1 := of_decide_eq_true h1
    have h2 := of_decide_eq_true h2
    exact decide_eq_true (by omega)
  · by_cases h : (a : Int) ≤ b
    · simp [h]
    · have : (b : Int) ≤ a := by omega
      simp [this]
  · have h1 := of_decide_eq_true h1
    have h2 := of_decide_eq_true h2
    omega
  · exact decide_eq_true (by omega)
theorem str_ext {a b : Str} (h : a.cps.toList = b.cps.toList) : a = b := by
  cases a; cases b
  congr 1
  exact Array.toList_inj.mp h
theorem sortD_strs {l es : List Str} (hp : es.Perm l) : sortD (l.map PyData.str) = sortD (es.map PyData.str) := by
  rw [sortD_maps, sortD_maps, PySem.W.dataLe_str]
  congr 1
  refine sort_same (fun a b c h1 h2 => ?_) (fun a b => ?_) (fun a b h1 h2 => ?_) hp
  · exact decide_eq_true (List.le_trans (of_decide_eq_true h1) (of_decide_eq_true h2))
  · rcases List.le_total a.cps.toList b.cps.toList with h | h
    · simp [h]
    · simp [h]
  · exact str_ext (List.le_antisymm (of_decide_eq_true h1) (of_decide_eq_true h2))
/-- g's cells, in the order of cells -/
def srt (cells g : List Str) : List Str := cells.filter fun c => decide (c ∈ g)
theorem srt_sub (cells g : List Str) : (srt cells g).Sublist cells := List.filter_sublist
theorem srt_mem {cells g : List Str} {c : Str} : c ∈ srt cells g ↔ c ∈ cells ∧ c ∈ g := by
  unfold srt
  rw [List.mem_filter, decide_eq_true_iff]
theorem srt_perm {cells g : List Str} (hc : cells.Nodup) (hg : g.Nodup) (hs : ∀ c, c ∈ g → c ∈ cells) : (srt cells g).Perm g :=
  (List.perm_ext_iff_of_nodup (hc.sublist (srt_sub _ _)) hg).mpr fun c => by rw [srt_mem]; exact ⟨fun h => h.2, fun h => ⟨hs c h, h⟩⟩
def plc (cells g : List Str) : List Nat := g.map cells.idxOf
end DW
namespace DW
open PySem PySem.Spec L2
open PyProof.Rows hiding St
def gAt (groups : List (List Str)) (i : Nat) : List Str := groups.getD i []
theorem gAt_of {groups : List (List Str)} {i : Nat} {g : List Str} (h : groups[i]? = some g) : gAt groups i = g := by unfold gAt; rw [List.getD_eq_getElem?_getD, h]; rfl
theorem gAt_mem {groups : List (List Str)} {i : Nat} (h : i < groups.length) : gAt groups i ∈ groups := by
  rw [gAt_of (List.getElem?_eq_getElem h)]
  exact List.getElem_mem h
theorem range_groups (groups : List (List Str)) : (List.range groups.length).flatMap (gAt groups) = groups.flatten := by
  have : (List.range groups.length).map (gAt groups) = groups := by
    refine List.ext_getElem? fun i => ?_
    rw [List.getElem?_map]
    by_cases h : i < groups.length
    · rw [List.getElem?_range h, Option.map_some, gAt_of (List.getElem?_eq_getElem h), List.getElem?_eq_getElem h]
    · rw [List.getElem?_eq_none (by rw [List.length_range]; omega), List.getElem?_eq_none (by omega)]
      rfl
  rw [List.flatMap_def, this]
def inLots (lots : List (List Nat)) (i : Nat) : Bool := lots.any fun lot => decide (i ∈ lot)
theorem inLots_iff {lots : List (List Nat)} {i : Nat} : inLots lots i = true ↔ i ∈ lots.flatten := by
  unfold inLots
  rw [List.any_eq_true, List.mem_flatten]
  exact ⟨fun ⟨l, h1, h2⟩ => ⟨l, h1, of_decide_eq_true h2⟩, fun ⟨l, h1, h2⟩ => ⟨l, h1, decide_eq_true h2⟩⟩
def restG (groups : List (List Str)) (lots : List (List Nat)) : List (List Str) := (groups.zipIdx.filter fun x => !inLots lots x.2).map (·.1)
theorem restG_range (groups : List (List Str)) (lots : List (List Nat)) : restG groups lots = ((List.range groups.length).filter fun i => !inLots lots i).map (gAt groups) := by
  unfold restG
  rw [zipIdx_range groups [], List.filter_map, List.map_map]
  rfl
theorem restG_mem {groups : List (List Str)} {lots : List (List Nat)} {g : List Str} (h : g ∈ restG groups lots) : g ∈ groups := by
  rw [restG_range] at h
  obtain ⟨i, hi, rfl⟩ := List.mem_map.mp h
  exact gAt_mem (List.mem_range.mp (List.mem_filter.mp hi).1)
structure LotsOk (n : Nat) (lots : List (List Nat)) : Prop where
  nodup : lots.flatten.Nodup
  lt : ∀ lot, lot ∈ lots → ∀ i, i ∈ lot → i < n
  ne : ∀ lot, lot ∈ lots → lot ≠ []
structure GrpOk (cells : List Str) (groups : List (List Str)) : Prop where
  nodup : cells.Nodup
  flat : groups.flatten.Nodup
  each : ∀ g, g ∈ groups → g ≠ [] ∧ g.Sublist cells
theorem LotsOk.nil {n : Nat} : LotsOk n [] := ⟨List.nodup_nil, fun _ h => (nomatch h), fun _ h => (nomatch h)⟩
theorem LotsOk.mem {n : Nat} {lots : List (List Nat)} (o : LotsOk n lots) {i : Nat} (h : i ∈ lots.flatten) : i < n := by
  obtain ⟨l, h1, h2⟩ := List.mem_flatten.mp h
  exact o.lt l h1 i h2
section
variable {cells : List Str} {groups : List (List Str)} {lots : List (List Nat)}
theorem GrpOk.lotIn (o : GrpOk cells groups) (q : LotsOk groups.length lots) {lot : List Nat} (h : lot ∈ lots) : ∀ c, c ∈ lot.flatMap (gAt groups) → c ∈ cells := fun c hc => by
  obtain ⟨i, hi, hc⟩ := List.mem_flatMap.mp hc
  exact (o.each _ (gAt_mem (q.lt lot h i hi))).2.subset hc
theorem GrpOk.lotNe (o : GrpOk cells groups) (q : LotsOk groups.length lots) {lot : List Nat} (h : lot ∈ lots) : lot.flatMap (gAt groups) ≠ [] := fun z => by
  obtain ⟨i, hi⟩ := List.exists_mem_of_ne_nil lot (q.ne lot h)
  obtain ⟨c, hc⟩ := List.exists_mem_of_ne_nil _ (o.each _ (gAt_mem (q.lt lot h i hi))).1
  have : c ∈ lot.flatMap (gAt groups) := List.mem_flatMap.mpr ⟨i, hi, hc⟩
  rw [z] at this
  cases this
/-- the groups as they come: those of LOTS joined, the other ones -/
def rawG (groups : List (List Str)) (lots : List (List Nat)) : List (List Str) := lots.map (fun lot => lot.flatMap (gAt groups)) ++ restG groups lots
theorem rawG_perm (q : LotsOk groups.length lots) : (rawG groups lots).flatten.Perm groups.flatten := by
  have e1 : (lots.map (fun lot => lot.flatMap (gAt groups))).flatten = lots.flatten.flatMap (gAt groups) := by
    rw [List.flatten_eq_flatMap, List.flatMap_map, List.flatten_eq_flatMap, List.flatMap_assoc]
    rfl
  have e2 : (restG groups lots).flatten = ((List.range groups.length).filter fun i => !inLots lots i).flatMap (gAt groups) := by
    rw [restG_range, List.flatMap_def]
  unfold rawG
  rw [List.flatten_append, e1, e2, ← List.flatMap_append, ← range_groups groups]
  refine List.Perm.flatMap_right _ ((List.perm_ext_iff_of_nodup ?_ List.nodup_range).mpr fun i => ?_)
  · rw [List.nodup_append]
    refine ⟨q.nodup, List.nodup_range.sublist List.filter_sublist, fun a ha b hb e => ?_⟩
    have h2 := (List.mem_filter.mp hb).2
    rw [← e, inLots_iff.mpr ha] at h2
    exact nomatch h2
  · rw [List.mem_append, List.mem_filter, List.mem_range]
    constructor
    · rintro (h | h)
      · exact q.mem h
      · exact h.1
    · intro h
      by_cases z : i ∈ lots.flatten
      · exact .inl z
      · exact .inr ⟨h, by rw [Bool.not_eq_true']; exact Bool.eq_false_iff.mpr fun w => z (inLots_iff.mp w)⟩
theorem GrpOk.raw (o : GrpOk cells groups) (q : LotsOk groups.length lots) : (rawG groups lots).flatten.Nodup ∧ (∀ g, g ∈ rawG groups lots → g ≠ []) ∧ ∀ g, g ∈ rawG groups lots → ∀ c, c ∈ g → c ∈ cells := by
  refine ⟨(rawG_perm q).nodup_iff.mpr o.flat, fun g h => ?_, fun g h c hc => ?_⟩
  · rcases List.mem_append.mp h with h | h
    · obtain ⟨lot, hl, rfl⟩ := List.mem_map.mp h
      exact o.lotNe q hl
    · exact (o.each g (restG_mem h)).1
  · rcases List.mem_append.mp h with h | h
    · obtain ⟨lot, hl, rfl⟩ := List.mem_map.mp h
      exact o.lotIn q hl c hc
    · exact (o.each g (restG_mem h)).2.subset hc
end
end DW
namespace DW
open PySem PySem.Spec L2
open PyProof.Rows hiding St
theorem LotsOk.range {groups : List (List Str)} {lots : List (List Nat)} (q : LotsOk groups.length lots) : (lots.flatten ++ (List.range groups.length).filter fun i => !inLots lots i).Perm (List.range groups.length) := by
  refine (List.perm_ext_iff_of_nodup ?_ List.nodup_range).mpr fun i => ?_
  · rw [List.nodup_append]
    refine ⟨q.nodup, List.nodup_range.sublist List.filter_sublist, fun a ha b hb e => ?_⟩
    have h2 := (List.mem_filter.mp hb).2
    rw [← e, inLots_iff.mpr ha] at h2
    exact nomatch h2
  · rw [List.mem_append, List.mem_filter, List.mem_range]
    constructor
    · rintro (h | h)
      · exact q.mem h
      · exact h.1
    · intro h
      by_cases z : i ∈ lots.flatten
      · exact .inl z
      · exact .inr ⟨h, by rw [Bool.not_eq_true']; exact Bool.eq_false_iff.mpr fun w => z (inLots_iff.mp w)⟩
theorem LotsOk.flatLen {groups : List (List Str)} {lots : List (List Nat)} (q : LotsOk groups.length lots) : lots.flatten.length ≤ groups.length := by
  have := q.range.length_eq
  rw [List.length_append, List.length_range] at this
  omega
theorem len_flat : ∀ {lots : List (List Nat)}, (∀ lot, lot ∈ lots → lot ≠ []) → lots.length ≤ lots.flatten.length
  | [], _ => Nat.le_refl _
  | l :: lots, h => by
    rw [List.flatten_cons, List.length_append, List.length_cons]
    have := len_flat fun lot hl => h lot (List.Mem.tail _ hl)
    have := List.length_pos_iff.mpr (h l (List.Mem.head _))
    omega
theorem LotsOk.len {groups : List (List Str)} {lots : List (List Nat)} (q : LotsOk groups.length lots) : lots.length ≤ groups.length := Nat.le_trans (len_flat q.ne) q.flatLen
end DW
namespace DW
open PySem PySem.Spec L2
open PyProof.Rows hiding St
open PySem.W (AllAlike Sortable alike alikeAll)
theorem alike_nats (ns : List Nat) : AllAlike (ns.map fun (n : Nat) => PyData.int (n : Int)) := AllAlike.of fun _ _ => rfl
theorem sortable_nats (ns : List Nat) : Sortable (ns.map fun (n : Nat) => PyData.int (n : Int)) := Sortable.others fun _ => ⟨nofun, nofun⟩
theorem fit_nats (ns : List Nat) : ∀ x, x ∈ (ns.map fun (n : Nat) => PyData.int (n : Int)) → x.depth ≤ 50 := fun x h => by
  obtain ⟨n, _, rfl⟩ := List.mem_map.mp h
  show 0 ≤ 50
  decide
theorem alike_strs (ns : List Str) : AllAlike (ns.map PyData.str) := AllAlike.of fun _ _ => rfl
theorem sortable_strs (ns : List Str) : Sortable (ns.map PyData.str) := Sortable.others fun _ => ⟨nofun, nofun⟩
theorem fit_strs (ns : List Str) : ∀ x, x ∈ (ns.map PyData.str) → x.depth ≤ 50 := fun x h => by
  obtain ⟨n, _, rfl⟩ := List.mem_map.mp h
  show 0 ≤ 50
  decide
section
variable {G : Gd} {M : Nm} {F : Fx} {Γ : List Bd} {Q : PyData → Prop} {pos : Pos} {b : Expr}
theorem we_chainLe {j j2 : Nat} {lo hi : Int} {p3 p4 : Pos} (h : WB G M F b Γ fun d => ∃ i : Int, d = .int i ∧ Q (.bool (decide (lo ≤ i) && decide (i ≤ hi))))
    (hm : lastMarks [.LtE, .LtE] [b, .Constant (.int hi) j2 p4] = false := by with_unfolding_all rfl) : WE G M F (.Compare (.Constant (.int lo) j p3) [.LtE, .LtE] [b, .Constant (.int hi) j2 p4] pos) Γ Q := by
  refine ⟨fun X gd σ H S hl g => tW.of (pe_chain op_le op_le pe_int (pe_w b) pe_int hm) ?_⟩
  refine (h.run X gd σ H S hl g).mono fun v H1 ⟨S1, d, g1, e1, k1, hd, i, e, q⟩ => ?_
  subst e
  have hv := hd.int
  subst hv
  refine ⟨lo, i, rfl, rfl, decide (lo ≤ i), rfl, ?_⟩
  by_cases hlo : lo ≤ i
  · rw [decide_eq_true hlo] at q ⊢
    rw [if_pos rfl]
    rw [Bool.true_and] at q
    exact ⟨i, hi, rfl, rfl, (PostE.here g1 (.bl _) q).ahead e1 k1⟩
  · rw [decide_eq_false hlo] at q ⊢
    rw [if_neg Bool.false_ne_true]
    exact (PostE.here g1 (.bl _) q).ahead e1 k1
end
def sortS (l : List Str) : List Str := l.mergeSort (PySem.W.dataLe false PyData.str)
theorem sortD_S (l : List Str) : sortD (l.map PyData.str) = (sortS l).map PyData.str := sortD_maps _ _
theorem sortS_ok {l : List Str} (h : ∀ c, c ∈ l → PyData.strOk c = true) : ∀ c, c ∈ sortS l → PyData.strOk c = true := fun c hc => h c ((List.mergeSort_perm _ _).mem_iff.mp hc)
theorem GrpOk.flatLen {cells : List Str} {groups : List (List Str)} (o : GrpOk cells groups) : groups.flatten.length ≤ cells.length := by
  have h := srt_perm o.nodup o.flat fun c hc => by
    obtain ⟨g, hg, hc⟩ := List.mem_flatten.mp hc
    exact (o.each g hg).2.subset hc
  rw [← h.length_eq]
  exact (srt_sub _ _).length_le
end DW
namespace DW
open PySem PySem.Spec L2
open PyProof.Rows hiding St
/-- lots drawn so far, what is left -/
structure Drawn (n : Nat) (lots : List (List Nat)) (left : List Nat) : Prop where
  perm : (lots.flatten ++ left).Perm (List.range n)
  ne : ∀ lot, lot ∈ lots → lot ≠ []
theorem Drawn.start {n : Nat} {left : List Nat} (h : left.Perm (List.range n)) : Drawn n [] left := ⟨h, fun _ z => nomatch z⟩
theorem Drawn.lots {n : Nat} {lots : List (List Nat)} {left : List Nat} (h : Drawn n lots left) (k : Nat) : LotsOk n (lots.take k) := by
  have e : lots.flatten = (lots.take k).flatten ++ (lots.drop k).flatten := by rw [← List.flatten_append, List.take_append_drop]
  have hn : (lots.flatten ++ left).Nodup := h.perm.nodup_iff.mpr List.nodup_range
  refine ⟨?_, fun lot hl i hi => ?_, fun lot hl => h.ne lot (List.mem_of_mem_take hl)⟩
  · rw [e, List.append_assoc, List.nodup_append] at hn
    exact hn.1
  · have : i ∈ lots.flatten ++ left := List.mem_append_left _ (List.mem_flatten.mpr ⟨lot, List.mem_of_mem_take hl, hi⟩)
    exact List.mem_range.mp (h.perm.mem_iff.mp this)
theorem Drawn.len {n : Nat} {lots : List (List Nat)} {left : List Nat} (h : Drawn n lots left) : lots.length ≤ n ∧ left.length ≤ n := by
  have h1 := len_flat h.ne
  have h2 := h.perm.length_eq
  rw [List.length_append, List.length_range] at h2
  omega
section
variable {G : Gd} {M : Nm} {F : Fx} {Γ : List Bd} {Q : PyData → Prop} {a : Expr} {p p2 pos pos2 : Pos}
theorem dpa_rg {K : PySem.W.Frag} {S : Hp} (n : Int) : DpAll K S (rgV 0 n) (rngD 0 n.toNat) := by
  rw [rngD_map]
  unfold rgV
  rw [show (n - 0).toNat = n.toNat by rw [Int.sub_zero]]
  have e1 : ((List.range n.toNat).map fun i => V.int (0 + (i : Nat))) = ((List.range n.toNat).map fun (i : Nat) => (i : Int)).map V.int := by
    rw [List.map_map]
    refine List.map_congr_left fun i _ => ?_
    show V.int (0 + (i : Int)) = V.int (i : Int)
    rw [Int.zero_add]
  have e2 : ((List.range n.toNat).map fun (i : Nat) => PyData.int (i : Int)) = ((List.range n.toNat).map fun (i : Nat) => (i : Int)).map PyData.int := by rw [List.map_map]; rfl
  rw [e1, e2]
  exact DpAll.ofInts
theorem we_lstRange (hm : G.mg "list" = none) (hg : ("list" : Str) ∈ M.gl) (hm2 : G.mg "range" = none) (hg2 : ("range" : Str) ∈ M.gl) (h : WE G M F a Γ fun d => ∃ n : Int, d = .int n ∧ (0 ≤ n ∧ n ≤ 16777216) ∧ Q (.list (rngD 0 n.toNat)))
    (hs : ∀ env, starEach [.Call (.Name "range" p2) [a] [] pos2] env = [(false, eval (.Call (.Name "range" p2) [a] [] pos2) env)] := by intro _; rfl) (hs2 : ∀ env, starEach [a] env = [(false, eval a env)] := by intro _; rfl) : WE G M F (.Call (.Name "list" p) [.Call (.Name "range" p2) [a] [] pos2] [] pos) Γ Q := by
  refine ⟨fun X gd σ H S hl g => tW.of (pe_listRg gd.calm (gd.gl hg) (by rw [gd.mg]; exact hm) (prg_1 (gd.gl hg2) (by rw [gd.mg]; exact hm2) (pe_w a) (hs2 X.env)) (hs X.env)) ?_⟩
  refine (h.run X gd σ H S hl g).mono fun v H1 ⟨S1, d, g1, e1, k1, hd, n, en, ⟨z1, z2⟩, q⟩ => ?_
  subst en
  cases hd
  exact ⟨n, rfl, ⟨by omega, by omega, by omega, by omega, by omega⟩, fun q' hq => (PostE.newL g1 hq (dpa_rg n) q).ahead e1 k1⟩
end
def strIs : Value → Str → Bool
  | .str x _, s => x == s
  | _, _ => false
theorem mg_text {K : PySem.W.Frag} {h : Heap} {mg : Str → Option Value} {n : Str} {v : Value} {s : Str} (X : K.In h) (G : h.Ns mainGlobals mg) (e : PySem.W.nsIn K mainGlobals n = some (some v)) (hs : strIs v s = true) : ∃ tk, mg n = some (.str s tk) := by
  have h1 := PySem.W.mg_of X G e
  cases v <;> try exact absurd hs Bool.false_ne_true
  rw [eq_of_beq hs] at h1
  exact ⟨_, h1⟩
end DW
namespace DW
open PySem PySem.Spec L2
open PyProof.Rows hiding St
/-- a drawn STAND, or one a step along a way -/
def WayQ (m : Nat) (qs : List Rat) : Prop := ∃ (us : List Rat) (W : List Int) (s : Rat), us.length = m ∧ VB 13 us ∧ RowB m 192 W ∧ RD 100 254 s ∧ qs = stepV us s W
theorem wayQ_small {m : Nat} {qs : List Rat} (hl : qs.length = m) (h : VB 13 qs) : WayQ m qs :=
  ⟨qs, List.replicate m 0, 0, hl, h, rowB_zero, ⟨Nat.pow_pos (by decide), Nat.one_lt_two_pow (by decide)⟩, by rw [← hl]; exact (step_zero qs).symm⟩
theorem WayQ.len {m : Nat} {qs : List Rat} (h : WayQ m qs) : qs.length = m := by
  obtain ⟨us, W, s, h1, _, h3, _, rfl⟩ := h
  exact step_len h1 h3.1
theorem wayQ_rd {W : List Int} {m : Nat} {s : Rat} (hW : RowB m 192 W) (hs : RD 100 254 s) (p : Nat) : RD 292 255 (s * ((W.getD p 0 : Int) : Rat)) := (hs.mul (RD.int (getD_nb hW.2 p))).up (by decide) (by decide)
theorem WayQ.get {m p : Nat} {qs : List Rat} (h : WayQ m qs) (hp : p < m) : RD 306 268 (qs.getD p 0) := by
  obtain ⟨us, W, s, h1, h2, h3, h4, rfl⟩ := h
  rw [step_get h1 h3.1 hp]
  exact ((vb_get h2 (by omega)).rd.add (wayQ_rd h3 h4 p) 305 (by decide) (by decide)).up (by decide) (by decide)
theorem WayQ.vb {m : Nat} {qs : List Rat} (h : WayQ m qs) : VB 306 qs := fun q hq => by
  obtain ⟨p, hp⟩ := List.mem_iff_getElem?.mp hq
  have hl := (List.getElem?_eq_some_iff.mp hp).1
  rw [h.len] at hl
  have := h.get hl
  rw [List.getD_eq_getElem?_getD, hp] at this
  exact this.rb (by decide) (by decide)
/-- q is a whole number of shares 1 / D, in size at most 2 ^ V -/
def Hv (D V : Nat) (q : Rat) : Prop := ∃ n : Int, q * (D : Rat) = (n : Rat) ∧ n.natAbs ≤ 2 ^ V * D
theorem Hv.add {D V : Nat} {p q : Rat} (h : Hv D V p) (k : Hv D V q) : Hv D (V + 1) (p + q) := by
  obtain ⟨a, ha, ha2⟩ := h
  obtain ⟨b, hb, hb2⟩ := k
  refine ⟨a + b, by rw [Rat.add_mul, ha, hb, Rat.intCast_add], ?_⟩
  have : (a + b).natAbs ≤ a.natAbs + b.natAbs := Int.natAbs_add_le a b
  rw [Nat.pow_succ, Nat.mul_right_comm]
  omega
theorem Hv.neg {D V : Nat} {p : Rat} (h : Hv D V p) : Hv D V (-p) := by
  obtain ⟨a, ha, ha2⟩ := h
  exact ⟨-a, by rw [Rat.neg_mul, ha, Rat.intCast_neg], by rw [Int.natAbs_neg]; exact ha2⟩
theorem Hv.sub {D V : Nat} {p q : Rat} (h : Hv D V p) (k : Hv D V q) : Hv D (V + 1) (p - q) := by
  rw [Rat.sub_eq_add_neg]
  exact h.add k.neg
theorem Hv.up {D V V' : Nat} {p : Rat} (h : Hv D V p) (hV : V ≤ V') : Hv D V' p := by
  obtain ⟨a, ha, ha2⟩ := h
  exact ⟨a, ha, Nat.le_trans ha2 (Nat.mul_le_mul_right _ (Nat.pow_le_pow_right (by decide) hV))⟩
theorem Hv.times {D V k : Nat} {p : Rat} (h : Hv D V p) : Hv (D * k) V p := by
  obtain ⟨a, ha, ha2⟩ := h
  refine ⟨a * k, ?_, ?_⟩
  · rw [Rat.natCast_mul, ← Rat.mul_assoc, ha, Rat.intCast_mul]
    rfl
  · rw [Int.natAbs_mul, Int.natAbs_natCast, ← Nat.mul_assoc]
    exact Nat.mul_le_mul_right _ ha2
theorem Hv.of {a b : Nat} {q : Rat} (h : RD a b q) : Hv q.den a q := by
  have e0 : (q.den : Rat) ≠ 0 := fun e => by
    have e : (q.den : Rat) = ((0 : Nat) : Rat) := e
    have := Rat.natCast_inj.mp e
    exact q.den_nz this
  refine ⟨q.num, ?_, ?_⟩
  · have h2 : q = (q.num : Rat) / (q.den : Rat) := by
      conv => lhs; rw [← Rat.num_divInt_den q]
      rw [Rat.divInt_eq_div]
      rfl
    conv => lhs; lhs; rw [h2]
    rw [Rat.div_mul_cancel e0]
  have h1 : q.num.natAbs < 2 ^ a := h.1
  have := q.den_pos
  exact Nat.le_trans (Nat.le_of_lt h1) (Nat.le_mul_of_pos_right _ this)
theorem Hv.ofK {a b k : Nat} {q : Rat} (h : RD a b q) : Hv (k * q.den) a q := by
  rw [Nat.mul_comm]
  exact (Hv.of h).times
theorem Hv.rb {D V d : Nat} {q : Rat} (h : Hv D V q) (h0 : 0 < D) (hd : D < 2 ^ d) : RB (V + d) q := by
  obtain ⟨n, hn, h2⟩ := h
  have hD : (D : Rat) ≠ 0 := fun e => by
    have : (D : Rat) = ((0 : Nat) : Rat) := e
    have := Rat.natCast_inj.mp this
    omega
  have e : q = Rat.divInt n (D : Int) := by
    rw [Rat.divInt_eq_div]
    show q = (n : Rat) / ((D : Int) : Rat)
    rw [← hn, show ((D : Int) : Rat) = (D : Rat) from rfl, Rat.mul_div_cancel hD]
  rw [e]
  refine (RD.of (a := V + d) (b := d) ?_ ?_ (by omega)).rb (Nat.le_refl _) (Nat.le_add_left _ _)
  · show n.natAbs < _
    rw [Nat.pow_add]
    exact Nat.lt_of_le_of_lt h2 (Nat.mul_lt_mul_of_pos_left hd (Nat.pow_pos (by decide)))
  · show Int.natAbs (D : Int) < _
    rw [Int.natAbs_natCast]
    exact hd
end DW
namespace DW
open PySem PySem.Spec L2
open PyProof.Rows hiding St
mutual
def noL : PyData → Bool
  | .list _ => false
  | .dict _ => false
  | .tuple xs => noLAll xs
  | _ => true
def noLAll : List PyData → Bool
  | [] => true
  | x :: xs => noL x && noLAll xs
end
/-- what may be handed back while the own list ds was frozen -/
def ThawOk (ds : List PyData) (d : PyData) : Prop := noL d = true ∨ ((∃ ns : List Int, d = .list (ns.map PyData.int)) ∧ ∃ (j : Nat) (e : PyData), ds[j]? = some e ∧ ∀ n, e ≠ .int n)
theorem ThawOk.int {ds : List PyData} (i : Int) : ThawOk ds (.int i) := .inl rfl
theorem ThawOk.bool {ds : List PyData} (i : Bool) : ThawOk ds (.bool i) := .inl rfl
theorem ThawOk.none {ds : List PyData} : ThawOk ds .none := .inl rfl
end DW
namespace DW
open PySem PySem.Spec L2
open PyProof.Rows hiding St
end DW
namespace PySem.W
open PySem PySem.Calls PyProof.Rows
end PySem.W
namespace DW
open PySem PySem.Spec L2
open PyProof.Rows hiding St
section
variable {K : PySem.W.Frag} {F F' : Fx} {Γ : List Bd} {σ : St} {H S : Hp}
theorem GRel.unbase2 {Γ' : List Bd} {σ' : St} {H1 S1 : Hp} (g : GRel K F Γ σ H S) (g1 : GRel K (F.re H S) Γ' σ' H1 S1) : GRel K F Γ' σ' H1 S1 := by
  refine ⟨g1.ex, g.s0.trans g1.s0, fun a o h => ?_, g.keep.trans g1.keep, fun b hb => ?_, g1.loc, fun i ds hi => ?_, g1.raw, g1.sep, g1.td, g.dm.trans g1.dm, g1.tab⟩
  · rcases g1.nw a o h with ⟨u, z⟩ | z
    · exact g.nw a u z
    · exact .inr (g.h0 z)
  · obtain ⟨h1, _, h3⟩ := g1.bag b hb
    exact ⟨h1, (g.bag b hb).2.1, h3⟩
  · obtain ⟨a, xs, q1, q2, q3, q4, q5⟩ := g1.own i ds hi
    exact ⟨a, xs, q1, q2, q3, g.h0 q4, q5⟩
/-- F' looks from a later moment -/
def Lay (K : PySem.W.Frag) (F F' : Fx) : Prop := F'.bag = F.bag ∧ F'.tb = F.tb ∧ ∀ (Γ : List Bd) (σ : St) (H S : Hp), GRel K F' Γ σ H S → GRel K F Γ σ H S
theorem Lay.refl : Lay K F F := ⟨rfl, rfl, fun _ _ _ _ g => g⟩
theorem Lay.of (g : GRel K F Γ σ H S) : Lay K F (F.re H S) := ⟨rfl, rfl, fun _ _ _ _ g' => g.unbase2 g'⟩
theorem Lay.trans {F'' : Fx} (a : Lay K F F') (b : Lay K F' F'') : Lay K F F'' := ⟨b.1.trans a.1, b.2.1.trans a.2.1, fun Γ σ H S g => a.2.2 Γ σ H S (b.2.2 Γ σ H S g)⟩
/-- the dict at p, as it stands when F begins -/
structure DK (F0 F : Fx) (p : Addr) (kvs : List (Key × V)) : Prop where
  here : F.H0 p = some (.dK kvs)
  s0 : F.S0 p = none
  bag : F.bag ≠ some p
  new : F0.H0 p = none
theorem DK.at {F0 : Fx} {p : Addr} {kvs : List (Key × V)} (d : DK F0 F p kvs) (g : GRel K F Γ σ H S) : H p = some (.dK kvs) ∧ S p = none := by
  refine ⟨g.keep p _ d.here d.bag (.inr fun ps z => by cases z), ?_⟩
  cases e : S p with
  | none => rfl
  | some o =>
    rcases g.nw p o e with ⟨u, z⟩ | z
    · rw [d.s0] at z; cases z
    · rw [d.here] at z; cases z
end
end DW
namespace DW
open PySem PySem.Spec L2
open PyProof.Rows hiding St
end DW
namespace DW
open PySem PySem.Spec L2
open PyProof.Rows hiding St
/-- the list at p, as it stands when F begins -/
structure LK (K : PySem.W.Frag) (F0 F : Fx) (p : Addr) (es : List PyData) : Prop where
  here : ∃ xs, F.H0 p = some (.lst xs) ∧ DpAll K F.S0 xs es
  s0 : F.S0 p = none
  bag : F.bag = none
  bag0 : F0.bag = none
  new : F0.H0 p = none
section
variable {K : PySem.W.Frag} {F F0 F' : Fx} {Γ : List Bd} {σ : St} {H S : Hp} {p : Addr} {es : List PyData}
theorem LK.at (d : LK K F0 F p es) (g : GRel K F Γ σ H S) : ∃ xs, H p = some (.lst xs) ∧ S p = none ∧ DpAll K S xs es := by
  obtain ⟨xs, h1, h2⟩ := d.here
  refine ⟨xs, g.keep p _ h1 (by rw [d.bag]; simp) (.inr nt_lst), ?_, dpa_mono g.s0 h2⟩
  cases e : S p with
  | none => rfl
  | some o =>
    rcases g.nw p o e with ⟨u, z⟩ | z
    · rw [d.s0] at z; cases z
    · rw [h1] at z; cases z
end
end DW
namespace DW
open PySem PySem.Spec L2
open PyProof.Rows hiding St
end DW
namespace DW
open PySem PySem.Spec L2
open PyProof.Rows hiding St
inductive Deed where
  | first (s : List Rat)
  | edit (a : Nat) (s : List Rat)
  | settle (a b : Nat) (s : List Rat)
  | merge (a b c : Nat)
  | pick (a b c : Nat)
  | revert (a b c : Nat)
namespace Deed
def d : Deed → PyData
  | first s => .tuple [.str "first", vec s]
  | edit a s => .tuple [.str "edit", .int (a : Int), vec s]
  | settle a b s => .tuple [.str "settle", .int (a : Int), .int (b : Int), vec s]
  | merge a b c => .tuple [.str "merge", .int (a : Int), .int (b : Int), .int (c : Int)]
  | pick a b c => .tuple [.str "pick", .int (a : Int), .int (b : Int), .int (c : Int)]
  | revert a b c => .tuple [.str "revert", .int (a : Int), .int (b : Int), .int (c : Int)]
/-- the PARENTS, ascending -/
def pa : Deed → List Nat
  | first _ => []
  | edit a _ => [a]
  | settle a b _ => if a = b then [a] else [min a b, max a b]
  | merge a b _ => if a = b then [a] else [min a b, max a b]
  | pick a _ _ => [a]
  | revert a _ _ => [a]
/-- the PARENTS as they are told -/
def lp : Deed → List Nat
  | first _ => []
  | edit a _ => [a]
  | settle a b _ => [a, b]
  | merge a b _ => [a, b]
  | pick a _ _ => [a]
  | revert a _ _ => [a]
theorem mem_pa (d : Deed) (x : Nat) : x ∈ d.pa ↔ x ∈ d.lp := by
  have two : ∀ a b : Nat, x ∈ (if a = b then [a] else [min a b, max a b]) ↔ x ∈ [a, b] := fun a b => by
    by_cases h : a = b
    · subst h; simp
    · rw [if_neg h]
      simp only [List.mem_cons, List.not_mem_nil, or_false]
      omega
  cases d <;> first | exact Iff.rfl | exact two _ _
abbrev at' (S : List (List Rat)) (i : Nat) : List Rat := S.getD i []
/-- the STAND that a DEED makes -/
def mk (f : Frm) (S : List (List Rat)) : Deed → List Rat
  | first s => s
  | edit _ s => s
  | settle _ _ s => s
  | merge a b c => f.mrg (at' S c) (at' S a) (at' S b)
  | pick a b c => f.mrg (at' S b) (at' S c) (at' S a)
  | revert a b c => f.mrg (at' S c) (at' S b) (at' S a)
/-- the VERSIONS are there, nothing clashes -/
def can (f : Frm) (S : List (List Rat)) (i : Nat) : Deed → Prop
  | first _ => i = 0
  | edit a _ => a < i
  | settle a b _ => a < i ∧ b < i
  | merge a b c => a < i ∧ b < i ∧ c < i ∧ f.clsh (at' S c) (at' S a) (at' S b) = []
  | pick a b c => a < i ∧ b < i ∧ c < i ∧ f.clsh (at' S b) (at' S c) (at' S a) = []
  | revert a b c => a < i ∧ b < i ∧ c < i ∧ f.clsh (at' S c) (at' S b) (at' S a) = []
/-- the STAND that is told -/
def told : Deed → Option (List Rat)
  | first s => some s
  | edit _ s => some s
  | settle _ _ s => some s
  | _ => none
/-- the base is an ELDER of both -/
def eld (E : List (List Nat)) : Deed → Prop
  | merge a b c => c ∈ E.getD a [] ∧ c ∈ E.getD b []
  | _ => True
/-- another STAND -/
def re (φ : List Rat → List Rat) : Deed → Deed
  | first s => first (φ s)
  | edit a s => edit a (φ s)
  | settle a b s => settle a b (φ s)
  | d => d
end Deed
/-- the ELDERS of VERSION n with PARENTS ps -/
def elds (n : Nat) (ps : List Nat) (E : List (List Nat)) : List Nat := (List.range (n + 1)).filter fun x => decide (x = n) || ps.any fun p => decide (x ∈ E.getD p [])
theorem mem_elds {n : Nat} {ps : List Nat} {E : List (List Nat)} {x : Nat} (h : ∀ p, p ∈ ps → ∀ y, y ∈ E.getD p [] → y < n) : x ∈ elds n ps E ↔ x = n ∨ ∃ p, p ∈ ps ∧ x ∈ E.getD p [] := by
  unfold elds
  rw [List.mem_filter, List.mem_range]
  simp only [Bool.or_eq_true, decide_eq_true_eq, List.any_eq_true]
  constructor
  · exact fun z => z.2
  · rintro (rfl | ⟨p, hp, hx⟩)
    · exact ⟨by omega, .inl rfl⟩
    · exact ⟨by have := h p hp x hx; omega, .inr ⟨p, hp, hx⟩⟩
theorem elds_le {n : Nat} {ps : List Nat} {E : List (List Nat)} {x : Nat} (h : x ∈ elds n ps E) : x ≤ n := by
  have := List.mem_range.mp (List.mem_filter.mp h).1
  omega
theorem elds_sorted (n : Nat) (ps : List Nat) (E : List (List Nat)) : (elds n ps E).Pairwise (· < ·) := List.pairwise_lt_range.filter _
/-- how long the numbers are -/
structure SSz (m : Nat) (S : List (List Rat)) : Prop where
  len : ∀ s, s ∈ S → s.length = m
  vb : ∀ s, s ∈ S → VB 4000 s
  sum : ∀ s t, s ∈ S → t ∈ S → ∀ p, p < m → RB 4000 (s.getD p 0 + t.getD p 0)
/-- a HISTORY with its STANDS and ELDERS -/
structure Hist (m : Nat) (f : Frm) (rs : List Rule) (h : List Deed) (S : List (List Rat)) (E : List (List Nat)) : Prop where
  pos : h ≠ []
  lenS : S.length = h.length
  lenE : E.length = h.length
  first : ∀ d : Deed, h[0]? = some d → ∃ s, d = .first s
  can : ∀ (i : Nat) (d : Deed), h[i]? = some d → d.can f S i
  eld : ∀ (i : Nat) (d : Deed), h[i]? = some d → d.eld E
  made : ∀ (i : Nat) (d : Deed), h[i]? = some d → S.getD i [] = d.mk f S
  el : ∀ (i : Nat) (d : Deed), h[i]? = some d → E.getD i [] = elds i d.pa E
  told : ∀ (i : Nat) (d : Deed) (s : List Rat), h[i]? = some d → d.told = some s → ∀ r, r ∈ rs → r.kp s = true
  smal : ∀ (i : Nat) (d : Deed) (s : List Rat), h[i]? = some d → d.told = some s → VB 985 s
end DW
namespace DW
open PySem PySem.Spec L2
open PyProof.Rows hiding St
section
variable {G : Gd} {M : Nm} {F : Fx} {Γ : List Bd} {Q : PyData → Prop} {Qb : Bool → Prop} {pos p : Pos} {a b c e : Expr} {es : List Expr}
theorem wl_star {Ql : List PyData → Prop} (h : WE G M F e Γ fun d => ∃ κ xs, d = seqD κ xs ∧ WL G M F es Γ fun ds => Ql (xs ++ ds)) (hs : ∀ env, starEach (.Starred e p :: es) env = (true, eval e env) :: starEach es env := by intro _; rfl) : WL G M F (.Starred e p :: es) Γ Ql := by
  refine ⟨fun X gd σ H S hl g => tWa.of (StX.pa_star (pe_w e) (pa_w es) (hs X.env)) ?_⟩
  refine (h.run X gd σ H S hl g).mono fun v H1 ⟨S1, d, g1, e1, k1, hd, κ, xs, ed, q⟩ => ?_
  subst ed
  obtain ⟨a, us, rfl, hsq, hda⟩ := dp_seqB hd
  have hx : SqT X.K H1 a us ∨ SqL X.K H1 a us := by
    rw [gd.K]
    cases κ with
    | true => exact .inr (same_l g1.ex hsq)
    | false => exact .inl (same_t g1.ex hsq)
  refine ⟨a, us, rfl, hx, ?_⟩
  refine (q.run X gd σ H1 S1 hl g1).mono fun vs H2 ⟨S2, ds, g2, e2, k2, hds, q2⟩ => ?_
  exact ⟨S2, xs ++ ds, g2, e1.trans e2, k1.trans k2, (dpa_mono e2 hda).app hds, q2⟩
end
theorem d_inS2 {c x y : Str} {Qb : Bool → Prop} (q : Qb (decide (c ∈ [x, y]))) : InD (.str c) (.tuple [.str x, .str y]) Qb := d_inST (ns := [x, y]) q
end DW
namespace DW
open PySem PySem.Spec L2
open PyProof.Rows hiding St
theorem flat_nil {k : Nat} : ∀ x, x ∈ ([] : List PyData) → FlatTo k x := fun _ h => nomatch h
theorem br1 {b : Bool} {A B : Prop} (hb : b = false) (h : A) : (b = false → A) ∧ (b = true → B) := ⟨fun _ => h, fun z => by rw [hb] at z; cases z⟩
theorem br2 {b : Bool} {A B : Prop} (hb : b = true) (h : B) : (b = false → A) ∧ (b = true → B) := ⟨fun z => by rw [hb] at z; (cases z), fun _ => h⟩
theorem br3 {b : Bool} {A B : Prop} (hb : b = true) (h : A) : (b = true → A) ∧ (b = false → B) := ⟨fun _ => h, fun z => by rw [hb] at z; cases z⟩
theorem br4 {b : Bool} {A B : Prop} (hb : b = false) (h : B) : (b = true → A) ∧ (b = false → B) := ⟨fun z => by rw [hb] at z; (cases z), fun _ => h⟩
end DW
namespace DW
open PySem PySem.Spec L2
open PyProof.Rows hiding St
theorem take_getD {α : Type} {S : List α} {a i : Nat} {z : α} (h : a < i) : (S.take i).getD a z = S.getD a z := by
  rw [List.getD_eq_getElem?_getD, List.getD_eq_getElem?_getD, List.getElem?_take, if_pos h]
theorem SSz.take {m : Nat} {S : List (List Rat)} (z : SSz m S) (i : Nat) : SSz m (S.take i) :=
  ⟨fun s h => z.len s (List.mem_of_mem_take h), fun s h => z.vb s (List.mem_of_mem_take h), fun s t h k => z.sum s t (List.mem_of_mem_take h) (List.mem_of_mem_take k)⟩
theorem pa_lt {f : Frm} {S : List (List Rat)} {i : Nat} {d : Deed} (h : d.can f S i) : ∀ p, p ∈ d.pa → p < i := fun p hp => by
  rw [Deed.mem_pa] at hp
  cases d with
  | first s => cases hp
  | edit a s => exact List.mem_singleton.mp hp ▸ h
  | settle a b s =>
    rcases List.mem_cons.mp hp with rfl | hp
    · exact h.1
    · exact List.mem_singleton.mp hp ▸ h.2
  | merge a b c =>
    rcases List.mem_cons.mp hp with rfl | hp
    · exact h.1
    · exact List.mem_singleton.mp hp ▸ h.2.1
  | pick a b c => exact List.mem_singleton.mp hp ▸ h.1
  | revert a b c => exact List.mem_singleton.mp hp ▸ h.1
/-- all of a HISTORY's VERSIONS have ELDERS up to themselves -/
theorem Hist.el_le {m : Nat} {f : Frm} {rs : List Rule} {h : List Deed} {S : List (List Rat)} {E : List (List Nat)} (k : Hist m f rs h S E) {i x : Nat} (hx : x ∈ E.getD i []) : x ≤ i := by
  by_cases hi : i < h.length
  · rw [k.el i _ (List.getElem?_eq_getElem hi)] at hx
    exact elds_le hx
  · rw [List.getD_eq_getElem?_getD, List.getElem?_eq_none (by rw [k.lenE]; omega)] at hx
    cases hx
def KS (n : Nat) (L : List Nat) (ks : List Int) : Prop := ks.Nodup ∧ ks.length ≤ L.length + 1 ∧ ∀ x : Int, x ∈ ks ↔ ∃ y : Nat, x = (y : Int) ∧ (y = n ∨ y ∈ L)
theorem KS.one (n : Nat) : KS n [] [(n : Int)] := by
  refine ⟨by simp, by simp, fun x => ?_⟩
  simp only [List.mem_singleton, List.not_mem_nil, or_false]
  exact ⟨fun h => ⟨n, h, rfl⟩, fun ⟨y, h, e⟩ => by rw [h, e]⟩
theorem KS.put {n v : Nat} {L : List Nat} {ks : List Int} (h : KS n L ks) : KS n (L ++ [v]) (if (v : Int) ∈ ks then ks else ks ++ [(v : Int)]) := by
  obtain ⟨h1, h2, h3⟩ := h
  by_cases hv : (v : Int) ∈ ks
  · rw [if_pos hv]
    refine ⟨h1, by rw [List.length_append, List.length_singleton]; omega, fun x => ?_⟩
    rw [h3]
    constructor
    · rintro ⟨y, e, h⟩
      exact ⟨y, e, h.imp id fun h => List.mem_append_left _ h⟩
    · rintro ⟨y, e, h⟩
      rcases h with h | h
      · exact ⟨y, e, .inl h⟩
      · rcases List.mem_append.mp h with h | h
        · exact ⟨y, e, .inr h⟩
        · have := List.mem_singleton.mp h
          subst this
          obtain ⟨y', e', h'⟩ := (h3 _).mp hv
          have : y = y' := by omega
          subst this
          exact ⟨y, e, h'⟩
  · rw [if_neg hv]
    refine ⟨?_, by rw [List.length_append, List.length_append, List.length_singleton, List.length_singleton]; omega, fun x => ?_⟩
    · rw [List.nodup_append]
      refine ⟨h1, by simp, fun a ha b hb => ?_⟩
      have := List.mem_singleton.mp hb
      subst this
      exact fun e => hv (e ▸ ha)
    · rw [List.mem_append, h3, List.mem_singleton]
      constructor
      · rintro (⟨y, e, h⟩ | e)
        · exact ⟨y, e, h.imp id fun h => List.mem_append_left _ h⟩
        · exact ⟨v, e, .inr (List.mem_append_right _ (List.mem_singleton.mpr rfl))⟩
      · rintro ⟨y, e, h⟩
        rcases h with h | h
        · exact .inl ⟨y, e, .inl h⟩
        · rcases List.mem_append.mp h with h | h
          · exact .inl ⟨y, e, .inr h⟩
          · exact .inr (by rw [e, List.mem_singleton.mp h])
end DW
namespace DW
open PySem PySem.Spec L2
open PyProof.Rows hiding St
end DW
namespace DW
open PySem PySem.Spec L2
open PyProof.Rows hiding St
structure EldOf (P E : List (List Nat)) : Prop where
  lt : ∀ i, i < P.length → ∀ p, p ∈ P.getD i [] → p < i
  mem : ∀ i, i < P.length → ∀ x, x ∈ E.getD i [] ↔ x = i ∨ ∃ p, p ∈ P.getD i [] ∧ x ∈ E.getD p []
  asc : ∀ i, i < P.length → (E.getD i []).Pairwise (· < ·)
section
variable {P E : List (List Nat)}
theorem EldOf.le (e : EldOf P E) : ∀ (v : Nat), v < P.length → ∀ x, x ∈ E.getD v [] → x ≤ v := fun v => by
  induction v using Nat.strongRecOn with
  | _ v ih =>
    intro hv x hx
    rcases (e.mem v hv x).mp hx with rfl | ⟨p, hp, hx⟩
    · exact Nat.le_refl _
    · have h1 := e.lt v hv p hp
      have := ih p h1 (by omega) x hx
      omega
theorem EldOf.trans (e : EldOf P E) : ∀ (v : Nat), v < P.length → ∀ k p, k ∈ E.getD v [] → p ∈ P.getD k [] → p ∈ E.getD v [] := fun v => by
  induction v using Nat.strongRecOn with
  | _ v ih =>
    intro hv k p hk hp
    rcases (e.mem v hv k).mp hk with rfl | ⟨q, hq, hk⟩
    · refine (e.mem k hv p).mpr (.inr ⟨p, hp, ?_⟩)
      have h1 := e.lt k hv p hp
      exact (e.mem p (by omega) p).mpr (.inl rfl)
    · have h1 := e.lt v hv q hq
      exact (e.mem v hv p).mpr (.inr ⟨q, hq, ih q h1 (by omega) k p hk hp⟩)
theorem EldOf.self (e : EldOf P E) {v : Nat} (hv : v < P.length) : v ∈ E.getD v [] := (e.mem v hv v).mpr (.inl rfl)
/-- the going's state -/
structure LInv (P E : List (List Nat)) (v : Nat) (fs ls : List Nat) : Prop where
  hv : v ∈ fs
  nd : fs.Nodup
  sub : ∀ x, x ∈ fs → x ∈ E.getD v []
  left : ∀ x, x ∈ ls → x ∈ fs
  clo : ∀ y, y ∈ fs → y ∉ ls → ∀ p, p ∈ P.getD y [] → p ∈ fs
structure LJ (P E : List (List Nat)) (v k j : Nat) (fs ls : List Nat) : Prop where
  hv : v ∈ fs
  nd : fs.Nodup
  sub : ∀ x, x ∈ fs → x ∈ E.getD v []
  left : ∀ x, x ∈ ls → x ∈ fs
  hk : k ∈ fs
  part : ∀ p, p ∈ (P.getD k []).take j → p ∈ fs
  clo : ∀ y, y ∈ fs → y ∉ ls → y ≠ k → ∀ p, p ∈ P.getD y [] → p ∈ fs
theorem LInv.start (e : EldOf P E) {v : Nat} (hv : v < P.length) : LInv P E v [v] [v] :=
  ⟨List.mem_singleton.mpr rfl, by simp, fun x hx => by rw [List.mem_singleton.mp hx]; exact e.self hv, fun x hx => hx, fun y hy hn => absurd hy hn⟩
theorem LJ.skip {v k j p : Nat} {fs ls : List Nat} (h : LJ P E v k j fs ls) (hp : (P.getD k [])[j]? = some p) (hm : p ∈ fs) : LJ P E v k (j + 1) fs ls :=
  ⟨h.hv, h.nd, h.sub, h.left, h.hk, fun q hq => by
    rw [take_succ hp] at hq
    rcases List.mem_append.mp hq with hq | hq
    · exact h.part q hq
    · rw [List.mem_singleton.mp hq]; exact hm, h.clo⟩
theorem LJ.add (e : EldOf P E) {v k j p : Nat} {fs ls : List Nat} (hv : v < P.length) (h : LJ P E v k j fs ls) (hp : (P.getD k [])[j]? = some p) (hm : p ∉ fs) : LJ P E v k (j + 1) (fs ++ [p]) (ls ++ [p]) := by
  have inl : ∀ {x}, x ∈ fs → x ∈ fs ++ [p] := fun h => List.mem_append_left _ h
  have inr : p ∈ fs ++ [p] := List.mem_append_right _ (List.mem_singleton.mpr rfl)
  refine ⟨inl h.hv, ?_, fun x hx => ?_, fun x hx => ?_, inl h.hk, fun q hq => ?_, fun y hy hn hk q hq => ?_⟩
  · rw [List.nodup_append]
    refine ⟨h.nd, by simp, fun a ha b hb => ?_⟩
    rw [List.mem_singleton.mp hb]
    exact fun e => hm (e ▸ ha)
  · rcases List.mem_append.mp hx with hx | hx
    · exact h.sub x hx
    · rw [List.mem_singleton.mp hx]
      exact e.trans v hv k p (h.sub k h.hk) (List.mem_of_getElem? hp)
  · rcases List.mem_append.mp hx with hx | hx
    · exact inl (h.left x hx)
    · rw [List.mem_singleton.mp hx]; exact inr
  · rw [take_succ hp] at hq
    rcases List.mem_append.mp hq with hq | hq
    · exact inl (h.part q hq)
    · rw [List.mem_singleton.mp hq]; exact inr
  · rcases List.mem_append.mp hy with hy | hy
    · exact inl (h.clo y hy (fun z => hn (List.mem_append_left _ z)) hk q hq)
    · exact absurd (List.mem_append_right _ hy) hn
theorem LJ.done {v k : Nat} {fs ls : List Nat} (h : LJ P E v k (P.getD k []).length fs ls) : LInv P E v fs ls :=
  ⟨h.hv, h.nd, h.sub, h.left, fun y hy hn p hp => by
    by_cases hk : y = k
    · subst hk
      exact h.part p (by rw [List.take_length]; exact hp)
    · exact h.clo y hy hn hk p hp⟩
theorem nodup_le {n : Nat} {fs : List Nat} (h : fs.Nodup) (hl : ∀ x, x ∈ fs → x < n) : fs.length ≤ n := by
  have := List.Nodup.length_le_of_subset (l₂ := List.range n) h fun x hx => List.mem_range.mpr (hl x hx)
  rw [List.length_range] at this
  exact this
theorem LJ.len (e : EldOf P E) {v k j : Nat} {fs ls : List Nat} (hv : v < P.length) (h : LJ P E v k j fs ls) : fs.length ≤ P.length :=
  nodup_le h.nd fun x hx => by have := e.le v hv x (h.sub x hx); omega
theorem LInv.len (e : EldOf P E) {v : Nat} {fs ls : List Nat} (hv : v < P.length) (h : LInv P E v fs ls) : fs.length ≤ P.length :=
  nodup_le h.nd fun x hx => by have := e.le v hv x (h.sub x hx); omega
theorem LInv.fin (e : EldOf P E) {v : Nat} {fs : List Nat} (hv : v < P.length) (h : LInv P E v fs []) (x : Nat) : x ∈ fs ↔ x ∈ E.getD v [] := by
  refine ⟨h.sub x, ?_⟩
  have key : ∀ y, y < P.length → y ∈ fs → ∀ x, x ∈ E.getD y [] → x ∈ fs := fun y => by
    induction y using Nat.strongRecOn with
    | _ y ih =>
      intro hy hm x hx
      rcases (e.mem y hy x).mp hx with rfl | ⟨p, hp, hx⟩
      · exact hm
      · have h1 := e.lt y hy p hp
        exact ih p h1 (by omega) (h.clo y hm (fun z => nomatch z) p hp) x hx
  exact key v hv h.hv x
end
end DW
namespace DW
open PySem PySem.Spec L2
open PyProof.Rows hiding St
section
variable {m : Nat} {f : Frm} {rs : List Rule} {h : List Deed} {S : List (List Rat)} {E : List (List Nat)}
theorem Hist.one {s : List Rat} (hk : ∀ r, r ∈ rs → r.kp s = true) (vb : VB 985 s) : Hist m f rs [.first s] [s] [[0]] := by
  have only : ∀ {i : Nat} {d : Deed}, [Deed.first s][i]? = some d → i = 0 ∧ d = .first s := fun {i d} e => by
    cases i with
    | zero => exact ⟨rfl, (Option.some.inj e).symm⟩
    | succ i => simp at e
  refine ⟨by simp, rfl, rfl, fun d e => ⟨s, (only e).2⟩, fun i d e => ?_, fun i d e => ?_, fun i d e => ?_, fun i d e => ?_, fun i d s' e ht => ?_, fun i d s' e ht => ?_⟩
  · obtain ⟨rfl, rfl⟩ := only e; rfl
  · obtain ⟨rfl, rfl⟩ := only e; trivial
  · obtain ⟨rfl, rfl⟩ := only e; rfl
  · obtain ⟨rfl, rfl⟩ := only e; rfl
  · obtain ⟨rfl, rfl⟩ := only e; cases ht; exact hk
  · obtain ⟨rfl, rfl⟩ := only e; cases ht; exact vb
/-- VERSION 0 is an ELDER of all -/
theorem Hist.zero (k : Hist m f rs h S E) : ∀ i, i < h.length → 0 ∈ E.getD i [] := fun i => by
  induction i using Nat.strongRecOn with
  | _ i ih =>
    intro hi
    have hd := List.getElem?_eq_getElem hi
    rw [k.el i _ hd, mem_elds fun p hp y hy => by have := pa_lt (k.can i _ hd) p hp; have := k.el_le hy; omega]
    by_cases h0 : i = 0
    · exact .inl h0.symm
    refine .inr ?_
    have hc := k.can i _ hd
    have lp : ∃ p, p ∈ h[i].pa := by
      have : ∃ p, p ∈ h[i].lp := by
        cases e : h[i] with
        | first s => rw [e] at hc; exact absurd hc h0
        | edit a s => exact ⟨a, by simp [Deed.lp]⟩
        | settle a b s => exact ⟨a, by simp [Deed.lp]⟩
        | merge a b c => exact ⟨a, by simp [Deed.lp]⟩
        | pick a b c => exact ⟨a, by simp [Deed.lp]⟩
        | revert a b c => exact ⟨a, by simp [Deed.lp]⟩
      obtain ⟨p, hp⟩ := this
      exact ⟨p, (Deed.mem_pa _ p).mpr hp⟩
    obtain ⟨p, hp⟩ := lp
    have h1 := pa_lt hc p hp
    exact ⟨p, hp, ih p h1 (by omega)⟩
end
end DW
namespace DW
open PySem PySem.Spec L2
open PyProof.Rows hiding St
def HSz (m g V : Nat) (S : List (List Rat)) : Prop := ∃ D : Nat → Nat, (∀ p, 0 < D p ∧ D p < 2 ^ (268 * g)) ∧ ∀ s, s ∈ S → s.length = m ∧ ∀ p, p < m → Hv (D p) V (s.getD p 0)
theorem HSz.one {m : Nat} {q : List Rat} (h : WayQ m q) : HSz m 1 306 [q] := by
  refine ⟨fun p => if p < m then (q.getD p 0).den else 1, fun p => ?_, fun s hs => ?_⟩
  · by_cases hp : p < m
    · simp only [if_pos hp]
      exact ⟨(q.getD p 0).den_pos, by have := (h.get hp).2; unfold NB at this; rw [Int.natAbs_natCast] at this; exact this⟩
    · simp only [if_neg hp]
      exact ⟨Nat.one_pos, Nat.one_lt_two_pow (by decide)⟩
  · have := List.mem_singleton.mp hs
    subst this
    refine ⟨h.len, fun p hp => ?_⟩
    simp only [if_pos hp]
    exact Hv.of (h.get hp)
theorem HSz.up {m g V V' : Nat} {S : List (List Rat)} (h : HSz m g V S) (l : V ≤ V') : HSz m g V' S := by
  obtain ⟨D, h1, h2⟩ := h
  exact ⟨D, h1, fun s hs => ⟨(h2 s hs).1, fun p hp => ((h2 s hs).2 p hp).up l⟩⟩
theorem HSz.upG {m g g' V : Nat} {S : List (List Rat)} (h : HSz m g V S) (l : g ≤ g') : HSz m g' V S := by
  obtain ⟨D, h1, h2⟩ := h
  exact ⟨D, fun p => ⟨(h1 p).1, Nat.lt_of_lt_of_le (h1 p).2 (Nat.pow_le_pow_right (by decide) (by omega))⟩, h2⟩
theorem HSz.good {m g V : Nat} {S : List (List Rat)} {q : List Rat} (h : HSz m g V S) (hV : 306 ≤ V) (hq : WayQ m q) : HSz m (g + 1) V (S ++ [q]) := by
  obtain ⟨D, h1, h2⟩ := h
  refine ⟨fun p => if p < m then D p * (q.getD p 0).den else D p, fun p => ?_, fun s hs => ?_⟩
  · obtain ⟨a, b⟩ := h1 p
    by_cases hp : p < m
    · simp only [if_pos hp]
      have c := (hq.get hp).2
      unfold NB at c
      rw [Int.natAbs_natCast] at c
      refine ⟨Nat.mul_pos a (q.getD p 0).den_pos, ?_⟩
      rw [show 268 * (g + 1) = 268 * g + 268 by omega, Nat.pow_add]
      exact Nat.mul_lt_mul'' b c
    · simp only [if_neg hp]
      exact ⟨a, Nat.lt_of_lt_of_le b (Nat.pow_le_pow_right (by decide) (by omega))⟩
  · rcases List.mem_append.mp hs with hs | hs
    · refine ⟨(h2 s hs).1, fun p hp => ?_⟩
      simp only [if_pos hp]
      exact ((h2 s hs).2 p hp).times
    · rw [List.mem_singleton.mp hs]
      refine ⟨hq.len, fun p hp => ?_⟩
      simp only [if_pos hp]
      exact (Hv.ofK (hq.get hp)).up hV
theorem mrg_len (f : Frm) (b y z : List Rat) : (f.mrg b y z).length = b.length := by
  unfold Frm.mrg
  rw [List.length_map, List.length_range]
theorem mrg_get (f : Frm) {b y z : List Rat} {p : Nat} (hp : p < b.length) : (f.mrg b y z).getD p 0 = f.mrgAt b y z p := by
  unfold Frm.mrg
  rw [List.getD_eq_getElem?_getD, List.getElem?_map, List.getElem?_range hp]
  rfl
theorem HSz.mrg {m g V : Nat} {S : List (List Rat)} {f : Frm} {b y z : List Rat} (h : HSz m g V S) (hb : b ∈ S) (hy : y ∈ S) (hz : z ∈ S) : HSz m g (V + 2) (S ++ [f.mrg b y z]) := by
  obtain ⟨D, h1, h2⟩ := h
  refine ⟨D, h1, fun s hs => ?_⟩
  rcases List.mem_append.mp hs with hs | hs
  · exact ⟨(h2 s hs).1, fun p hp => ((h2 s hs).2 p hp).up (by omega)⟩
  · rw [List.mem_singleton.mp hs]
    obtain ⟨lb, eb⟩ := h2 b hb
    obtain ⟨ly, ey⟩ := h2 y hy
    obtain ⟨lz, ez⟩ := h2 z hz
    refine ⟨by rw [mrg_len]; exact lb, fun p hp => ?_⟩
    rw [mrg_get f (by omega)]
    unfold Frm.mrgAt
    by_cases hf : p ∈ f.fx
    · rw [if_pos hf]
      exact ((ey p hp).add (ez p hp)).sub ((eb p hp).up (by omega))
    · rw [if_neg hf]
      by_cases hm : p ∈ f.mineP b y
      · rw [if_pos hm]; exact (ey p hp).up (by omega)
      · rw [if_neg hm]; exact (ez p hp).up (by omega)
theorem vb_of_get {N m : Nat} {s : List Rat} (hl : s.length = m) (h : ∀ p, p < m → RB N (s.getD p 0)) : VB N s := fun q hq => by
  obtain ⟨p, hp⟩ := List.mem_iff_getElem?.mp hq
  have := h p (by rw [← hl]; exact lt_of_get hp)
  rw [List.getD_eq_getElem?_getD, hp] at this
  exact this
end DW
namespace DW
open PySem PySem.Spec L2
open PyProof.Rows hiding St
def NoAl (Γ : List Bd) (σ : St) (q : Addr) : Prop := ∀ (m : Nat) (fs : List PyData), Γ[m]? = some (Bd.mu fs) → σ[m]? = some (some (V.ref q)) → False
theorem NoAl.mu {Γ : List Bd} {σ : St} {p q : Addr} {j : Nat} {ds : List PyData} (h : NoAl Γ σ q) (ne : p ≠ q) (hl : Γ.length = σ.length) : NoAl (Γ.set j (Bd.mu ds)) (σ.set j (some (.ref p))) q := fun m fs hm z => by
  rcases get_set hm with ⟨rfl, _, _⟩ | ⟨nm, q'⟩
  · have hi : m < σ.length := by
      have := (List.getElem?_eq_some_iff.mp hm).1
      rw [List.length_set] at this
      omega
    rw [List.getElem?_set_self hi] at z
    exact ne (V.ref.inj (Option.some.inj (Option.some.inj z)))
  · rw [List.getElem?_set_ne (Ne.symm nm)] at z
    exact h m fs q' z
theorem NoAl.im {Γ : List Bd} {σ : St} {q : Addr} {j : Nat} {d : PyData} {v : Option V} (h : NoAl Γ σ q) : NoAl (Γ.set j (Bd.im d)) (σ.set j v) q := fun m fs hm z => by
  rcases get_set hm with ⟨rfl, e, _⟩ | ⟨nm, q'⟩
  · cases e
  · rw [List.getElem?_set_ne (Ne.symm nm)] at z
    exact h m fs q' z
end DW
namespace DW
open PySem PySem.Spec L2
open PyProof.Rows hiding St
/-- the HISTORY after some turns -/
structure HTurn (m : Nat) (f : Frm) (rs : List Rule) (i : Nat) (h : List Deed) (S : List (List Rat)) (gs : List (List Rat)) : Prop where
  hist : ∃ E, Hist m f rs h S E
  size : HSz m (i + 1) (306 + 2 * i) S
  len : h.length ≤ i + 1
  g0 : gs ≠ []
  glen : gs.length ≤ i + 1
  good : ∀ q, q ∈ gs → WayQ m q ∧ ∀ r, r ∈ rs → r.kp q = true
  told : ∀ d s, d ∈ h → Deed.told d = some s → WayQ m s
section
variable {m i : Nat} {f : Frm} {rs : List Rule} {h : List Deed} {S gs : List (List Rat)}
theorem HTurn.one {s : List Rat} (hk : ∀ r, r ∈ rs → r.kp s = true) (hw : WayQ m s) : HTurn m f rs 0 [.first s] [s] [s] :=
  ⟨⟨_, Hist.one hk fun q hq => (hw.vb q hq).up (by decide)⟩, HSz.one hw, Nat.le_refl _, by simp, Nat.le_refl _, fun q hq => by rw [List.mem_singleton.mp hq]; exact ⟨hw, hk⟩, fun d s' hd ht => by
    rw [List.mem_singleton.mp hd] at ht
    cases ht
    exact hw⟩
theorem HTurn.pos (t : HTurn m f rs i h S gs) : 0 < h.length := by
  obtain ⟨E, k⟩ := t.hist
  exact List.length_pos_iff.mpr k.pos
theorem HTurn.stay (t : HTurn m f rs i h S gs) : HTurn m f rs (i + 1) h S gs :=
  ⟨t.hist, (t.size.upG (by omega)).up (by omega), by have := t.len; omega, t.g0, by have := t.glen; omega, t.good, t.told⟩
end
end DW
namespace DW
open PySem PySem.Spec L2
open PyProof.Rows hiding St
end DW
namespace DW
open PySem PySem.Spec L2
open PyProof.Rows hiding St
end DW
namespace DW
open PySem PySem.Spec L2
open PyProof.Rows hiding St
theorem HSz.sub {m g V : Nat} {S : List (List Rat)} {q s : List Rat} (h : HSz m g V S) (hV : 306 ≤ V) (hq : WayQ m q) (hs : s ∈ S) (hb : V + 1 + 268 * (g + 1) ≤ 3990) : VB 3990 (List.zipWith (fun p q => p - q) s q) := by
  obtain ⟨D, h1, h2⟩ := h
  obtain ⟨ls, es⟩ := h2 s hs
  refine vb_of_get (m := m) (by rw [List.length_zipWith, ls, hq.len, Nat.min_self]) fun p hp => ?_
  have e : (List.zipWith (fun p q => p - q) s q).getD p 0 = s.getD p 0 - q.getD p 0 := sub_getD (y := s) (b := q) (by rw [ls, hq.len]) p
  rw [e]
  obtain ⟨a, b⟩ := h1 p
  have c := (hq.get hp).2
  unfold NB at c
  rw [Int.natAbs_natCast] at c
  have x1 : Hv (D p * (q.getD p 0).den) V (s.getD p 0) := (es p hp).times
  have x2 : Hv (D p * (q.getD p 0).den) V (q.getD p 0) := (Hv.ofK (hq.get hp)).up hV
  refine ((x1.sub x2).rb (d := 268 * (g + 1)) (Nat.mul_pos a (q.getD p 0).den_pos) ?_).up (by omega)
  rw [show 268 * (g + 1) = 268 * g + 268 by omega, Nat.pow_add]
  exact Nat.mul_lt_mul'' b c
end DW
namespace DW
open PySem PySem.Spec L2
open PyProof.Rows hiding St
end DW
namespace DW
open PySem PySem.Spec L2
open PyProof.Rows hiding St
end DW
namespace DW
open PySem PySem.Spec L2
open PyProof.Rows hiding St
end DW
namespace DW
open PySem PySem.Spec L2
open PyProof.Rows hiding St
open LamX (Tabs TabS CodeO ExtN TabB LamS lamCx lamEnv)
end DW
namespace DW
open PySem PySem.Spec L2
open PyProof.Rows hiding St
section
variable {m : Nat} {f : Frm} {rs : List Rule} {h1 h2 : List Deed} {S1 S2 : List (List Rat)} {E1 E2 : List (List Nat)} {v : Nat}
theorem Hist.hd (k : Hist m f rs h1 S1 E1) : ∃ s t, h1 = .first s :: t := by
  cases h1 with
  | nil => exact absurd rfl k.pos
  | cons d t =>
    obtain ⟨s, rfl⟩ := k.first d rfl
    exact ⟨s, t, rfl⟩
theorem Hist.asc (k : Hist m f rs h1 S1 E1) {i : Nat} (hi : i < h1.length) : (E1.getD i []).Pairwise (· < ·) := by
  rw [k.el i _ (List.getElem?_eq_getElem hi)]
  exact elds_sorted _ _ _
theorem Hist.mem (k : Hist m f rs h1 S1 E1) {i x : Nat} {d : Deed} (hd : h1[i]? = some d) : x ∈ E1.getD i [] ↔ x = i ∨ ∃ p, p ∈ d.pa ∧ x ∈ E1.getD p [] := by
  rw [k.el i d hd, mem_elds fun p hp y hy => by have := pa_lt (k.can i d hd) p hp; have := k.el_le hy; omega]
end
end DW
namespace DW
open PySem PySem.Spec L2
open PyProof.Rows hiding St
section
variable {m : Nat} {f : Frm} {rs : List Rule} {h h1 h2 : List Deed} {S S1 S2 : List (List Rat)} {E E1 E2 : List (List Nat)} {v i : Nat} {d : Deed}
def com (E : List (List Nat)) (a b : Nat) : List Nat := (E.getD a []).filter fun x => decide (x ∈ E.getD b [])
end
end DW
namespace DW
open PySem PySem.Spec L2
open PyProof.Rows hiding St
section
variable {K : PySem.W.Frag} {F F0 : Fx} {Γ : List Bd} {σ : St} {H S : Hp} {p q : Addr} {es : List PyData} {kvs : List (Key × V)} {o : HO}
theorem LK.re (lk : LK K F0 F p es) (g : GRel K F Γ σ H S) (ne : p ≠ q) : LK K F0 (F0.re (upd H q o) S) p es := by
  obtain ⟨xs, a1, a2, a3⟩ := lk.at g
  exact ⟨⟨xs, by show upd H q o p = _; rw [upd_ne ne]; exact a1, a3⟩, a2, lk.bag0, lk.bag0, lk.new⟩
theorem DK.re (dk : DK F0 F p kvs) (lay : Lay K F0 F) (g : GRel K F Γ σ H S) (ne : p ≠ q) : DK F0 (F0.re (upd H q o) S) p kvs := by
  obtain ⟨a1, a2⟩ := dk.at g
  exact ⟨by show upd H q o p = _; rw [upd_ne ne]; exact a1, a2, by show F0.bag ≠ some p; rw [← lay.1]; exact dk.bag, dk.new⟩
end
end DW
namespace DW
open PySem PySem.Spec L2
open PyProof.Rows hiding St
end DW
namespace DW
open PySem PySem.Spec L2
open PyProof.Rows hiding St
end DW
namespace DW
open PySem PySem.Spec L2
open PyProof.Rows hiding St
def Pl (t : Str) : Prop := ∀ c, c ∈ t.cps.toList → c < 1114112
theorem Pl.app {a b : Str} (h : Pl a) (k : Pl b) : Pl (a ++ b) := fun c hc => (mem_cps_append.mp hc).elim (h c) (k c)
theorem Pl.join {sep : Str} {ts : List Str} (h : Pl sep) (k : ∀ t, t ∈ ts → Pl t) : Pl (Str.join sep ts) := fun c hc => by
  rcases (mem_join sep c ts).mp hc with ⟨t, ht, hc⟩ | ⟨_, hc⟩
  · exact k t ht c hc
  · exact h c hc
theorem pl_int (i : Int) : Pl (PyData.int i).shown := fun c hc => by
  rw [PyData.shown_int] at hc
  have hc : c ∈ (Str.ofString (toString i)).cps.toList := hc
  rw [signs_ofString] at hc
  obtain ⟨ch, h, rfl⟩ := List.mem_map.mp hc
  rcases int_sign i ch h with hd | hd
  · have := digit_range hd; omega
  · rw [hd]; decide
end DW
namespace DW
open PySem PySem.Spec L2
open PyProof.Rows hiding St
section
variable {G : Gd} {M : Nm} {F : Fx} {Γ : List Bd} {Q : PyData → Prop} {e i : Expr} {p p2 q pos : Pos}
theorem kq_more {H S : Hp} {a : Addr} {o : HO} (ha : H a = none) : Kq F H S (upd H a o) S :=
  ⟨fun b u e _ _ => by rw [upd_ne (ne_of_none e ha)]; exact e, Dom.upd H a o, fun b u e => .inl ⟨u, e⟩⟩
end
end DW
namespace DW
open PySem PySem.Spec L2
open PyProof.Rows hiding St
theorem Hv.smul {D V b : Nat} {q : Rat} {n : Int} (h : Hv D V q) (hn : NB b n) : Hv D (V + b) ((n : Rat) * q) := by
  obtain ⟨a, ha, h2⟩ := h
  refine ⟨n * a, by rw [Rat.mul_assoc, ha, Rat.intCast_mul], ?_⟩
  rw [Int.natAbs_mul, Nat.pow_add, Nat.mul_comm (2 ^ V), Nat.mul_assoc]
  exact Nat.mul_le_mul (Nat.le_of_lt hn) h2
theorem Hv.zero {D V : Nat} : Hv D V 0 := ⟨0, by rw [Rat.zero_mul]; rfl, by simp⟩
theorem Hv.timesL {D V k : Nat} {p : Rat} (h : Hv D V p) : Hv (k * D) V p := by rw [Nat.mul_comm]; exact h.times
/-- a share for a list of numbers -/
theorem joint : ∀ {us : List Rat} {b : Nat}, VB b us → ∃ e : Nat, 0 < e ∧ e ≤ 2 ^ (b * us.length) ∧ ∀ u, u ∈ us → Hv e b u
  | [], b, _ => ⟨1, Nat.one_pos, by simp, fun u hu => nomatch hu⟩
  | u :: us, b, h => by
    obtain ⟨e, h0, h1, h2⟩ := joint (us := us) (b := b) fun q hq => h q (List.mem_cons_of_mem _ hq)
    have hu := h u List.mem_cons_self
    have hd : u.den < 2 ^ b := by
      have := hu.2
      unfold NB at this
      rwa [Int.natAbs_natCast] at this
    refine ⟨u.den * e, Nat.mul_pos u.den_pos h0, ?_, fun q hq => ?_⟩
    · rw [List.length_cons, Nat.mul_succ, Nat.add_comm, Nat.pow_add]
      exact Nat.mul_le_mul (Nat.le_of_lt hd) h1
    · rcases List.mem_cons.mp hq with rfl | hq
      · exact (Hv.of (RB.rd hu)).times
      · exact (h2 q hq).timesL
theorem rat_den {s : Rat} : s * (s.den : Rat) = (s.num : Rat) := by
  have e0 : (s.den : Rat) ≠ 0 := fun e => by
    have e : (s.den : Rat) = ((0 : Nat) : Rat) := e
    have := Rat.natCast_inj.mp e
    exact s.den_nz this
  have h2 : s = (s.num : Rat) / (s.den : Rat) := by
    conv => lhs; rw [← Rat.num_divInt_den s]
    rw [Rat.divInt_eq_div]
    rfl
  conv => lhs; lhs; rw [h2]
  rw [Rat.div_mul_cancel e0]
/-- a GOOD STAND has one share for all cells -/
theorem WayQ.share {m : Nat} {qs : List Rat} (h : WayQ m qs) (hm : m ≤ 4) : ∃ e : Nat, 0 < e ∧ e < 2 ^ 306 ∧ ∀ p, p < m → Hv e 306 (qs.getD p 0) := by
  obtain ⟨us, W, s, h1, h2, h3, h4, rfl⟩ := h
  obtain ⟨e, e0, e1, e2⟩ := joint h2
  have hs : s.den < 2 ^ 254 := by
    have := h4.2
    unfold NB at this
    rwa [Int.natAbs_natCast] at this
  refine ⟨s.den * e, Nat.mul_pos s.den_pos e0, ?_, fun p hp => ?_⟩
  · have : e ≤ 2 ^ 52 := Nat.le_trans e1 (Nat.pow_le_pow_right (by decide) (by rw [h1]; omega))
    rw [show 306 = 254 + 52 from rfl, Nat.pow_add]
    exact Nat.lt_of_lt_of_le (Nat.mul_lt_mul_of_pos_right hs e0) (Nat.mul_le_mul_left _ this)
  · rw [step_get h1 h3.1 hp]
    have hu : Hv (s.den * e) 305 (us.getD p 0) := by
      refine ((e2 _ ?_).up (by decide)).timesL
      rw [List.getD_eq_getElem?_getD, List.getElem?_eq_getElem (by omega)]
      exact List.getElem_mem _
    have hw : Hv (s.den * e) 305 (s * ((W.getD p 0 : Int) : Rat)) := by
      refine Hv.times ⟨W.getD p 0 * s.num, ?_, ?_⟩
      · rw [Rat.mul_comm s, Rat.mul_assoc, rat_den, Rat.intCast_mul]
      · have a := (getD_nb h3.2 p).mul h4.1
        have a : (W.getD p 0 * s.num).natAbs < 2 ^ (192 + 100) := a
        have := s.den_pos
        exact Nat.le_trans (Nat.le_trans (Nat.le_of_lt a) (Nat.pow_le_pow_right (by decide) (by decide))) (Nat.le_mul_of_pos_right _ this)
    exact hu.add hw
def HSj (m c d V : Nat) (S : List (List Rat)) : Prop := ∃ (D : Nat → Nat) (J : Nat), (∀ p, 0 < D p ∧ D p < 2 ^ c) ∧ 0 < J ∧ J < 2 ^ d ∧ ∀ s, s ∈ S → s.length = m ∧ ∀ p, p < m → Hv (D p) V (s.getD p 0) ∧ Hv J V (s.getD p 0)
section
variable {m c d V : Nat} {S : List (List Rat)}
theorem HSj.one {q : List Rat} (hl : q.length = m) (hm : m ≤ 4) (h : VB 4 q) : HSj m 4 17 306 [q] := by
  obtain ⟨e, e0, e1, e2⟩ := joint h
  refine ⟨fun p => if p < m then (q.getD p 0).den else 1, e, fun p => ?_, e0, ?_, fun s hs => ?_⟩
  · by_cases hp : p < m
    · simp only [if_pos hp]
      exact ⟨(q.getD p 0).den_pos, by have := (vb_get h (show p < q.length by omega)).2; unfold NB at this; rwa [Int.natAbs_natCast] at this⟩
    · simp only [if_neg hp]
      exact ⟨Nat.one_pos, Nat.one_lt_two_pow (by decide)⟩
  · exact Nat.lt_of_le_of_lt e1 (Nat.pow_lt_pow_right (by decide) (by rw [hl]; omega))
  · have := List.mem_singleton.mp hs
    subst this
    refine ⟨hl, fun p hp => ?_⟩
    simp only [if_pos hp]
    refine ⟨(Hv.of (RB.rd (vb_get h (by omega)))).up (by decide), (e2 _ ?_).up (by decide)⟩
    rw [List.getD_eq_getElem?_getD, List.getElem?_eq_getElem (by omega)]
    exact List.getElem_mem _
theorem HSj.up {V' : Nat} (h : HSj m c d V S) (l : V ≤ V') : HSj m c d V' S := by
  obtain ⟨D, J, h1, h2, h3, h4⟩ := h
  exact ⟨D, J, h1, h2, h3, fun s hs => ⟨(h4 s hs).1, fun p hp => ⟨((h4 s hs).2 p hp).1.up l, ((h4 s hs).2 p hp).2.up l⟩⟩⟩
theorem HSj.upC {c' d' : Nat} (h : HSj m c d V S) (l : c ≤ c') (k : d ≤ d') : HSj m c' d' V S := by
  obtain ⟨D, J, h1, h2, h3, h4⟩ := h
  exact ⟨D, J, fun p => ⟨(h1 p).1, Nat.lt_of_lt_of_le (h1 p).2 (Nat.pow_le_pow_right (by decide) l)⟩, h2, Nat.lt_of_lt_of_le h3 (Nat.pow_le_pow_right (by decide) k), h4⟩
theorem HSj.good {q : List Rat} (h : HSj m c d V S) (hV : 306 ≤ V) (hm : m ≤ 4) (hq : WayQ m q) : HSj m (c + 268) (d + 306) V (S ++ [q]) := by
  obtain ⟨D, J, h1, h2, h3, h4⟩ := h
  obtain ⟨e, e0, e1, e2⟩ := hq.share hm
  refine ⟨fun p => if p < m then D p * (q.getD p 0).den else D p, J * e, fun p => ?_, Nat.mul_pos h2 e0, ?_, fun s hs => ?_⟩
  · obtain ⟨a, b⟩ := h1 p
    by_cases hp : p < m
    · simp only [if_pos hp]
      have c := (hq.get hp).2
      unfold NB at c
      rw [Int.natAbs_natCast] at c
      refine ⟨Nat.mul_pos a (q.getD p 0).den_pos, ?_⟩
      rw [Nat.pow_add]
      exact Nat.mul_lt_mul'' b c
    · simp only [if_neg hp]
      exact ⟨a, Nat.lt_of_lt_of_le b (Nat.pow_le_pow_right (by decide) (by omega))⟩
  · rw [Nat.pow_add]
    exact Nat.mul_lt_mul'' h3 e1
  · rcases List.mem_append.mp hs with hs | hs
    · refine ⟨(h4 s hs).1, fun p hp => ?_⟩
      simp only [if_pos hp]
      exact ⟨((h4 s hs).2 p hp).1.times, ((h4 s hs).2 p hp).2.times⟩
    · rw [List.mem_singleton.mp hs]
      refine ⟨hq.len, fun p hp => ?_⟩
      simp only [if_pos hp]
      exact ⟨(Hv.ofK (hq.get hp)).up hV, ((e2 p hp).up hV).timesL⟩
theorem HSj.mrg {f : Frm} {b y z : List Rat} (h : HSj m c d V S) (hb : b ∈ S) (hy : y ∈ S) (hz : z ∈ S) : HSj m c d (V + 2) (S ++ [f.mrg b y z]) := by
  obtain ⟨D, J, h1, h2, h3, h4⟩ := h
  refine ⟨D, J, h1, h2, h3, fun s hs => ?_⟩
  rcases List.mem_append.mp hs with hs | hs
  · exact ⟨(h4 s hs).1, fun p hp => ⟨((h4 s hs).2 p hp).1.up (by omega), ((h4 s hs).2 p hp).2.up (by omega)⟩⟩
  · rw [List.mem_singleton.mp hs]
    obtain ⟨lb, eb⟩ := h4 b hb
    obtain ⟨ly, ey⟩ := h4 y hy
    obtain ⟨lz, ez⟩ := h4 z hz
    refine ⟨by rw [mrg_len]; exact lb, fun p hp => ?_⟩
    rw [mrg_get f (by omega)]
    unfold Frm.mrgAt
    by_cases hf : p ∈ f.fx
    · rw [if_pos hf]
      exact ⟨((ey p hp).1.add (ez p hp).1).sub ((eb p hp).1.up (by omega)), ((ey p hp).2.add (ez p hp).2).sub ((eb p hp).2.up (by omega))⟩
    · rw [if_neg hf]
      by_cases hm : p ∈ f.mineP b y
      · rw [if_pos hm]; exact ⟨(ey p hp).1.up (by omega), (ey p hp).2.up (by omega)⟩
      · rw [if_neg hm]; exact ⟨(ez p hp).1.up (by omega), (ez p hp).2.up (by omega)⟩
/-- VALUES at all STANDS, and on the way to them -/
theorem HSj.val (h : HSj m c d V S) (hm : m ≤ 4) {s : List Rat} (hs : s ∈ S) {ns : List Int} (hl : ns.length = m) (hn : ∀ n, n ∈ ns → NB 3 n) (i : Nat) : RB (V + 7 + d) (rval (ns.take i) (s.take i)) := by
  obtain ⟨D, J, _, h2, h3, h4⟩ := h
  obtain ⟨ls, es⟩ := h4 s hs
  have key : ∀ i, i ≤ m → Hv J (V + 3 + i) (rval (ns.take i) (s.take i)) := fun i => by
    induction i with
    | zero => intro _; exact Hv.zero
    | succ i ih =>
      intro hi
      have g1 : ns[i]? = some ns[i] := List.getElem?_eq_getElem (by omega)
      have g2 : s[i]? = some s[i] := List.getElem?_eq_getElem (by omega)
      rw [rval_take g1 g2]
      have a := (es i (by omega)).2
      rw [List.getD_eq_getElem?_getD, g2] at a
      exact (ih (by omega)).add ((Hv.smul a (hn _ (List.getElem_mem (by omega)))).up (by omega))
  by_cases hi : i ≤ m
  · exact ((key i hi).up (V' := V + 7) (by omega)).rb h2 h3
  · rw [List.take_of_length_le (by omega), List.take_of_length_le (by omega)]
    have := key m (Nat.le_refl _)
    rw [List.take_of_length_le (by omega), List.take_of_length_le (by omega)] at this
    exact (this.up (V' := V + 7) (by omega)).rb h2 h3
end
/-- a drawn HISTORY after some turns, its sizes by both shares -/
structure HTurnJ (m : Nat) (f : Frm) (rs : List Rule) (i : Nat) (h : List Deed) (S : List (List Rat)) (gs : List (List Rat)) : Prop where
  hm : m ≤ 4
  hist : ∃ E, Hist m f rs h S E
  size : HSj m (4 + 268 * i) (17 + 306 * i) (306 + 2 * i) S
  len : h.length ≤ i + 1
  g0 : gs ≠ []
  glen : gs.length ≤ i + 1
  good : ∀ q, q ∈ gs → WayQ m q ∧ ∀ r, r ∈ rs → r.kp q = true
  told : ∀ d s, d ∈ h → Deed.told d = some s → WayQ m s
section
variable {m i : Nat} {f : Frm} {rs : List Rule} {h : List Deed} {S gs : List (List Rat)}
theorem HTurnJ.one {s : List Rat} (hm : m ≤ 4) (hk : ∀ r, r ∈ rs → r.kp s = true) (hl : s.length = m) (hvb : VB 4 s) : HTurnJ m f rs 0 [.first s] [s] [s] := by
  have hw : WayQ m s := wayQ_small hl fun q hq => (hvb q hq).up (by decide)
  exact ⟨hm, ⟨_, Hist.one hk fun q hq => (hw.vb q hq).up (by decide)⟩, HSj.one hl hm hvb, Nat.le_refl _, by simp, Nat.le_refl _, fun q hq => by rw [List.mem_singleton.mp hq]; exact ⟨hw, hk⟩, fun d s' hd ht => by
    rw [List.mem_singleton.mp hd] at ht
    cases ht
    exact hw⟩
theorem HTurnJ.pos (t : HTurnJ m f rs i h S gs) : 0 < h.length := by
  obtain ⟨E, k⟩ := t.hist
  exact List.length_pos_iff.mpr k.pos
theorem HTurnJ.stay (t : HTurnJ m f rs i h S gs) : HTurnJ m f rs (i + 1) h S gs :=
  ⟨t.hm, t.hist, (t.size.upC (by omega) (by omega)).up (by omega), by have := t.len; omega, t.g0, by have := t.glen; omega, t.good, t.told⟩
end
end DW
namespace DW
open PySem PySem.Spec L2
open PyProof.Rows hiding St
def FrOk (n d : Int) : Prop := DivOk d ∨ (d ≠ 0 ∧ RB 4400 (Rat.divInt n d))
theorem FrOk.of {n d : Int} (h : DivOk d) : FrOk n d := .inl h
/-- the VERSIONS at which a RULE is broken -/
def brk (rs : List Rule) (S : List (List Rat)) : List Nat := (S.zipIdx.filter fun x => rs.any fun r => !r.kp x.1).map (·.2)
end DW
namespace DW
open PySem PySem.Spec L2
end DW
namespace DW
open PySem PySem.Spec L2
open PyProof.Rows hiding St
theorem d_eqNilF {k : Nat} {xs : List PyData} {Qb : Bool → Prop} (h : ∀ x, x ∈ xs → FlatTo k x) (l : k + 1 ≤ 64) (q : Qb xs.isEmpty) : EqD (.list xs) (.list []) Qb := by
  refine d_eqFlat (k := k + 1) (.list h) (.list flat_nil) l rfl ?_
  rw [eqv_nilL]
  exact q
theorem EldOf.take {P E : List (List Nat)} (e : EldOf P E) (i : Nat) : EldOf (P.take i) E := by
  have hl : ∀ j, j < (P.take i).length → j < P.length ∧ (P.take i).getD j [] = P.getD j [] := fun j hj => by
    rw [List.length_take] at hj
    exact ⟨by omega, take_getD (by omega)⟩
  refine ⟨fun j hj p hp => ?_, fun j hj x => ?_, fun j hj => e.asc j (hl j hj).1⟩
  · rw [(hl j hj).2] at hp
    exact e.lt j (hl j hj).1 p hp
  · rw [(hl j hj).2]
    exact e.mem j (hl j hj).1 x
end DW
namespace DW
open PySem PySem.Spec L2
open PyProof.Rows hiding St
end DW
namespace DW
open PySem PySem.Spec L2
open PyProof.Rows hiding St
def smallI : PyData → Bool
  | .int i => decide (i.natAbs.log2 < 1920)
  | _ => true
def ReprA (d : PyData) (Q : PyData → Prop) : Prop := smallI d = true ∧ showB d = true ∧ d.depth ≤ 60 ∧ d.shown.length ≤ lim ∧ Q (.str d.shown)
def rReprA (K : PySem.W.Frag) : List V → Hp → VK → Prop := fun xs H Q => ∃ v d, xs = [v] ∧ Dp K H v d ∧ smallI d = true ∧ showB d = true ∧ d.depth ≤ 60 ∧ d.shown.length ≤ lim ∧ Q (.str d.shown) H
theorem cr_reprA {X : Cx} (hdg : dgOk X.K = true) (hg : X.A.guards = some []) (hu : X.A.units + 64 < cLine) : CallR X (.builtin "repr") (rReprA X.K) := by
  intro pins s σ H vs us Q I r h
  obtain ⟨v, d, rfl, hd, h0, hs, hdp, hz, q⟩ := h
  obtain ⟨u, rfl, ru⟩ := vals1 r
  cases hd with
  | non =>
    cases ru
    exact P.repr_of_none ⟨.str "None", H, I.tok _, ⟨_, rfl⟩, by simpa only [PyData.shown] using q⟩
  | bl b =>
    cases ru
    exact P.repr_of_bool ⟨.str (if b then "True" else "False"), H, I.tok _, ⟨_, rfl⟩, by simpa only [PyData.shown] using q⟩
  | int i =>
    obtain ⟨t, rfl⟩ := ru
    exact P.repr_of_int (by simpa [smallI] using h0) ⟨.str (toString i), H, I.tok _, ⟨_, rfl⟩, by simpa only [PyData.shown] using q⟩
  | str x =>
    obtain ⟨t, rfl⟩ := ru
    exact P.repr_of_str ⟨.str (reprText x), H, I.tok _, ⟨_, rfl⟩, by simpa only [PyData.shown] using q⟩ (by have z := hz; simp only [PyData.shown] at z; exact z)
  | lst h1 h2 =>
    obtain ⟨as, rd⟩ := Dp.rd I _ _ u (.lst h1 h2) ru
    cases ru
    exact repr_of_readsB (I.mod.kin.keeps I.bk) hdg rd hs hg (by omega) (fun h' u' tk kp => ⟨.str _, H, I.kept kp, ⟨_, rfl⟩, q⟩) hz
  | tup h1 h2 =>
    obtain ⟨as, rd⟩ := Dp.rd I _ _ u (.tup h1 h2) ru
    cases ru
    exact repr_of_readsB (I.mod.kin.keeps I.bk) hdg rd hs hg (by omega) (fun h' u' tk kp => ⟨.str _, H, I.kept kp, ⟨_, rfl⟩, q⟩) hz
  | dic h1 h2 =>
    obtain ⟨as, rd⟩ := Dp.rd I _ _ u (.dic h1 h2) ru
    cases ru
    exact repr_of_readsB (I.mod.kin.keeps I.bk) hdg rd hs hg (by omega) (fun h' u' tk kp => ⟨.str _, H, I.kept kp, ⟨_, rfl⟩, q⟩) hz
section
variable {G : Gd} {M : Nm} {F : Fx} {Γ : List Bd} {Q : PyData → Prop} {pos p : Pos} {a b c e : Expr}
theorem we_reprA (hG : G.grd = true) (hdg : dgOk G.K = true) (hm : G.mg "repr" = none) (hg : ("repr" : Str) ∈ M.gl) (h : WB G M F a Γ fun d => ReprA d Q) (hs : ∀ env, starEach [a] env = [(false, eval a env)] := by intro _; rfl) : WE G M F (.Call (.Name "repr" p) [a] [] pos) Γ Q := by
  refine we_b1 (fun X gd => by have := @cr_reprA X (by rw [gd.K]; exact hdg) (gd.grd hG) gd.room.units; rw [gd.K] at this; exact this) hg hm (by decide +kernel) h ?_ (hs := hs)
  intro σ H S v d g hd ⟨r0, r1, r2, r3, r4⟩ Q' k
  exact ⟨v, d, rfl, hd.dp g.ex, r0, r1, r2, r3, k _ _ (PostE.here g (.str _) r4)⟩
theorem PostE.newD {K : PySem.W.Frag} {σ : St} {H S : Hp} {p : Addr} {kvs : List (Key × V)} {ds : List (PyData × PyData)} (g : GRel K F Γ σ H S) (hp : H p = none) (h : DpKv K S kvs ds) (q : Q (.dict ds)) : PostE K F Γ σ H S Q (.ref p) (upd H p (.dK kvs)) :=
  ⟨_, _, g.new _ hp trivial, same_new (g.sNone hp), Kq.new hp, .dic upd_same (dpk_mono (same_new (g.sNone hp)) h), q⟩
theorem we_dict0 (q : Q (.dict [])) : WE G M F (.Dict [] [] pos) Γ Q := ⟨fun X gd σ H S hl g => tW.of pe_dnewK fun p hp => PostE.newD g hp .nil q⟩
theorem we_dictC {i j : Int} {n m : Nat} {p1 p2 : Pos} (q : Q (.dict [(.int i, .int j)])) : WE G M F (.Dict [some (.Constant (.int i) n p1)] [.Constant (.int j) m p2] pos) Γ Q := by
  refine ⟨fun X gd σ H S hl g => ?_⟩
  refine tW.of (pe_disp (pps_cons pe_int pe_int pps_nil) rfl rfl (by simp) (by simp)) fun p hp => ?_
  refine ⟨upd_same, [(.inl i, .int j)], rfl, by simp, ?_⟩
  rw [upd_upd]
  exact PostE.newD g hp (.cons (k := .inl i) (.int j) .nil) q
theorem we_dictS {x : Str} {j : Int} {n m : Nat} {p1 p2 : Pos} (q : Q (.dict [(.str x, .int j)])) : WE G M F (.Dict [some (.Constant (.str x) n p1)] [.Constant (.int j) m p2] pos) Γ Q := by
  refine ⟨fun X gd σ H S hl g => ?_⟩
  refine tW.of (pe_disp (pps_cons pe_str pe_int pps_nil) rfl rfl (by simp) (by simp)) fun p hp => ?_
  refine ⟨upd_same, [(.inr x, .int j)], rfl, by simp, ?_⟩
  rw [upd_upd]
  exact PostE.newD g hp (.cons (k := .inr x) (.int j) .nil) q
end
end DW
namespace DW
open PySem PySem.Spec L2
open PyProof.Rows hiding St
def riseI (ns : List Int) : Bool := (ns.zip (ns.drop 1)).all fun x => decide (x.1 < x.2)
def isIntD : PyData → Bool
  | .int _ => true
  | _ => false
abbrev sp_isint68 : DS := fun ds Q => ∃ d, ds = [d] ∧ Q (.bool (isIntD d))
/-- all of a list's truths -/
theorem d_allB {α : Type} {l : List α} {p : α → Bool} {Qb : Bool → Prop} (q : Qb (l.all p)) : AllD (.list (l.map fun x => .bool (p x))) Qb := ⟨l.map p, by rw [List.map_map]; rfl, by rw [List.all_map]; exact q⟩
theorem d_eqLI {ns ms : List Int} {Qb : Bool → Prop} (q : Qb (decide (ns = ms))) : EqD (.list (ns.map PyData.int)) (.list (ms.map PyData.int)) Qb := by
  have f : ∀ ks : List Int, FlatTo 1 (.list (ks.map PyData.int)) := fun ks => .list fun d hd => by
    obtain ⟨k, _, rfl⟩ := List.mem_map.mp hd
    exact .int k
  refine d_eqFlat (f ns) (f ms) (by decide) rfl ?_
  have := eqv_lstI ns ms
  unfold lstI at this
  rw [this]
  exact q
def isTup : PyData → Bool
  | .tuple _ => true
  | _ => false
theorem rise_pw : ∀ {ns : List Int}, riseI ns = true ↔ ns.Pairwise (· < ·)
  | [] => by simp [riseI]
  | [a] => by simp [riseI]
  | a :: b :: t => by
    have ih := rise_pw (ns := b :: t)
    have e : riseI (a :: b :: t) = (decide (a < b) && riseI (b :: t)) := by simp [riseI]
    rw [e, Bool.and_eq_true, decide_eq_true_eq, ih, List.pairwise_cons (a := a)]
    refine and_congr_left fun hp => ⟨fun h x hx => ?_, fun h => h b List.mem_cons_self⟩
    rcases List.mem_cons.mp hx with rfl | hx
    · exact h
    · exact Int.lt_trans h ((List.pairwise_cons.mp hp).1 x hx)
theorem asc_uniq {ns ms : List Int} (hm : ms.Pairwise (· < ·)) (h : ∀ k, k ∈ ms ↔ k ∈ ns) : decide (ns = ms) = riseI ns := by
  rw [Bool.eq_iff_iff, decide_eq_true_eq, rise_pw]
  refine ⟨fun e => by rw [e]; exact hm, fun hn => ?_⟩
  exact List.Perm.eq_of_pairwise (le := fun a b : Int => a < b) (fun a b _ _ h1 h2 => by omega) hn hm ((List.perm_ext_iff_of_nodup (hn.imp fun h => Int.ne_of_lt h) (hm.imp fun h => Int.ne_of_lt h)).mpr fun k => (h k).symm)
theorem all_take {α : Type} {p : α → Bool} {xs : List α} {i : Nat} {x : α} (h : (xs.take i).all p = true) (hx : xs[i]? = some x) (hp : p x = true) : (xs.take (i + 1)).all p = true := by
  rw [List.take_add_one, hx, List.all_append, h]
  simp [hp]
theorem all_at {α : Type} {p : α → Bool} {xs : List α} {i : Nat} {x : α} (hx : xs[i]? = some x) (hp : p x = false) : xs.all p = false := by
  rw [Bool.eq_false_iff]
  intro z
  rw [List.all_eq_true.mp z x (List.mem_of_getElem? hx)] at hp
  cases hp
theorem d_onesNil {α : Type} {l : List α} {p : α → Bool} {Qb : Bool → Prop} (q : Qb (!l.any p)) : EqD (.list ((l.filter p).map fun _ => PyData.int 1)) (.list []) Qb := by
  refine d_eqNilF (k := 0) (fun x hx => ?_) (by decide) ?_
  · obtain ⟨_, _, rfl⟩ := List.mem_map.mp hx
    exact .int 1
  · rw [List.isEmpty_map]
    rw [show (l.filter p).isEmpty = !l.any p from ?_]
    · exact q
    · rw [Bool.eq_iff_iff, List.isEmpty_iff, List.filter_eq_nil_iff]
      simp
end DW
namespace DW
open PySem PySem.Spec L2
open PyProof.Rows hiding St
end DW
namespace DW
open PySem PySem.W Sem Builtin
end DW
namespace DW
open PySem PySem.W Sem Builtin
end DW
namespace DW
open PySem PySem.Spec L2
open PyProof.Rows hiding St
section
variable {prog : Program} {w : World} {A : Around} {E : Value → Shared → Prop} {s : Shared} {z TI TO i1 i2 : Addr} {fp1 fp2 : List Addr} {n1 n2 i : Nat} {P1 P2 : Nat → Value → Prop} {St1 St2 : Nat → Heap → Prop}
/-- a zip at rest, whatever became of the tuple that it laid last -/
structure ZAt (z TI TO i1 i2 : Addr) (St1 St2 : Nat → Heap → Prop) (i : Nat) (h : Heap) : Prop where
  z : IsZip h z TI TO .none ∨ ∃ T f, IsZipHeld h z TI TO T f
  ti : IsTupOf2 h TI (.ref i1) (.ref i2)
  to : ∃ x y, IsTupOf2 h TO x y
  s1 : St1 i h
  s2 : St2 i h
theorem ZAt.cls {h : Heap} (q : ZAt z TI TO i1 i2 St1 St2 i h) : ∃ o, h.get? z = some o ∧ o.cls = .type "zip" ∧ ∀ v, o.data ≠ .cell v := by
  rcases q.z with q | ⟨T, f, q⟩
  · exact ⟨_, q, rfl, fun _ z => nomatch z⟩
  · exact ⟨_, q, rfl, fun _ z => nomatch z⟩
end
end DW
namespace DW
open PySem PySem.Spec L2
end DW
namespace DW
open PySem PySem.Spec L2
open PyProof.Rows hiding St
section
variable {K : PySem.W.Frag}
def rEqE (K : PySem.W.Frag) : R2 := fun x y H Q => ∃ xs, Dp K H x (.tuple xs) ∧ Dp K H y (.tuple []) ∧ Q (.bl xs.isEmpty) H
def rNeE (K : PySem.W.Frag) : R2 := fun x y H Q => ∃ xs, Dp K H x (.tuple xs) ∧ Dp K H y (.tuple []) ∧ Q (.bl (!xs.isEmpty)) H
theorem op_eqE {X : Cx} (hu : X.A.units + 64 < cLine) : OpR X (compareOp .Eq) (rEqE X.K) := fun pins s σ H x y v u Q I rx ry ⟨xs, hd, he, q⟩ => by
  obtain ⟨as, r1⟩ := Dp.reads I _ x v hd rx
  obtain ⟨bs, r2⟩ := Dp.reads I _ y u he ry
  cases r1 with
  | @tuple l o vs n _ as₁ h1 h2 h3 h4 =>
  cases r2 with
  | @tuple l' o' vs' n' _ bs₁ k1 k2 k3 k4 =>
  have n1 : vs.size = xs.length := by simpa using SeqAt.ReadsAll.length _ _ _ h4
  have n2 : vs'.size = 0 := by simpa using SeqAt.ReadsAll.length _ _ _ k4
  have hr := SeqAt.RcAt.tuples (A := X.A) (e := fun _ => true) ⟨_, h1, h2, _, h3⟩ ⟨_, k1, k2, _, k3⟩ (by omega) fun j _ j2 => absurd j2 (by omega)
  refine hr X.prog X.w _ _ ⟨.bl _, H, I, rfl, ?_⟩
  rw [n1, n2, Nat.min_zero]
  have : ((List.range 0).all (fun _ => true) && xs.length == 0) = xs.isEmpty := by cases xs <;> rfl
  rw [this]
  exact q
theorem op_neE {X : Cx} (hu : X.A.units + 64 < cLine) : OpR X (compareOp .NotEq) (rNeE X.K) := fun pins s σ H x y v u Q I rx ry ⟨xs, hd, he, q⟩ => by
  obtain ⟨as, r1⟩ := Dp.reads I _ x v hd rx
  obtain ⟨bs, r2⟩ := Dp.reads I _ y u he ry
  cases r1 with
  | @tuple l o vs n _ as₁ h1 h2 h3 h4 =>
  cases r2 with
  | @tuple l' o' vs' n' _ bs₁ k1 k2 k3 k4 =>
  have n1 : vs.size = xs.length := by simpa using SeqAt.ReadsAll.length _ _ _ h4
  have n2 : vs'.size = 0 := by simpa using SeqAt.ReadsAll.length _ _ _ k4
  have hr := SeqAt.RcNeAt.tuples (A := X.A) (e := fun _ => true) ⟨_, h1, h2, _, h3⟩ ⟨_, k1, k2, _, k3⟩ (by omega) fun j _ j2 => absurd j2 (by omega)
  refine hr X.prog X.w _ _ ⟨.bl _, H, I, rfl, ?_⟩
  rw [n1, n2, Nat.min_zero]
  have : (!((List.range 0).all (fun _ => true) && xs.length == 0)) = !xs.isEmpty := by cases xs <;> rfl
  rw [this]
  exact q
end
section
variable {G : Gd} {M : Nm} {F : Fx} {Γ : List Bd} {Q : PyData → Prop} {Qb : Bool → Prop} {pos p p2 : Pos} {a b : Expr}
/-- an empty tuple on the right -/
def EmpD (d e : PyData) (Qb : Bool → Prop) : Prop := ∃ xs, d = .tuple xs ∧ e = .tuple [] ∧ Qb xs.isEmpty
theorem we_eqE (h : WB G M F a Γ fun d => WB G M F b Γ fun e => EmpD d e fun c => Q (.bool c)) : WE G M F (.Compare a [.Eq] [b] pos) Γ Q :=
  we_cmp (Qb := fun c => Q (.bool c)) (r := rEqE G.K) (fun X gd => by rw [← gd.K]; exact op_eqE gd.room.units) h (fun g hd he r Q' k => by
    obtain ⟨xs, rfl, rfl, q⟩ := r
    exact ⟨xs, hd.dp g.ex, he.dp g.ex, k _ q⟩) (nomark _) fun _ q => q
theorem wt_eqE (h : WB G M F a Γ fun d => WB G M F b Γ fun e => EmpD d e Qb) : WT G M F (.Compare a [.Eq] [b] pos) Γ Qb :=
  wt_cmp (r := rEqE G.K) (fun X gd => by rw [← gd.K]; exact op_eqE gd.room.units) h (fun g hd he r Q' k => by
    obtain ⟨xs, rfl, rfl, q⟩ := r
    exact ⟨xs, hd.dp g.ex, he.dp g.ex, k _ q⟩) (nomark _)
theorem we_neE (h : WB G M F a Γ fun d => WB G M F b Γ fun e => EmpD d e fun c => Q (.bool (!c))) : WE G M F (.Compare a [.NotEq] [b] pos) Γ Q :=
  we_cmp (Qb := fun c => Q (.bool c)) (r := rNeE G.K) (fun X gd => by rw [← gd.K]; exact op_neE gd.room.units) h (fun g hd he r Q' k => by
    obtain ⟨xs, rfl, rfl, q⟩ := r
    exact ⟨xs, hd.dp g.ex, he.dp g.ex, k _ q⟩) (nomark _) fun _ q => q
theorem wt_neE (h : WB G M F a Γ fun d => WB G M F b Γ fun e => EmpD d e fun c => Qb (!c)) : WT G M F (.Compare a [.NotEq] [b] pos) Γ Qb :=
  wt_cmp (r := rNeE G.K) (fun X gd => by rw [← gd.K]; exact op_neE gd.room.units) h (fun g hd he r Q' k => by
    obtain ⟨xs, rfl, rfl, q⟩ := r
    exact ⟨xs, hd.dp g.ex, he.dp g.ex, k _ q⟩) (nomark _)
theorem d_emp {xs : List PyData} (q : Qb xs.isEmpty) : EmpD (.tuple xs) (.tuple []) Qb := ⟨xs, rfl, rfl, q⟩
end
mutual
def smN (e : Nat) : PyData → Bool
  | .none | .bool _ => true
  | .str s => decide (s.length ≤ 60) && PyData.strOk s
  | .int i => decide (i.natAbs < 10 ^ e)
  | .list xs | .tuple xs => smNs e xs
  | .dict kvs => smNKv e kvs
def smNs (e : Nat) : List PyData → Bool
  | [] => true
  | x :: xs => smN e x && smNs e xs
def smNKv (e : Nat) : List (PyData × PyData) → Bool
  | [] => true
  | (k, v) :: r => smN e k && smN e v && smNKv e r
end
abbrev smB := smN 60
abbrev smBs := smNs 60
abbrev smBKv := smNKv 60
mutual
theorem smN_up {e f : Nat} (h : e ≤ f) : ∀ d : PyData, smN e d = true → smN f d = true
  | .none, _ => by simp only [smN]
  | .bool _, _ => by simp only [smN]
  | .str s, q => by simp only [smN] at q ⊢; exact q
  | .int i, q => by
    simp only [smN, decide_eq_true_eq] at q ⊢
    exact Nat.lt_of_lt_of_le q (Nat.pow_le_pow_right (by decide) h)
  | .list xs, q => by simp only [smN] at q ⊢; exact smNs_up h xs q
  | .tuple xs, q => by simp only [smN] at q ⊢; exact smNs_up h xs q
  | .dict kvs, q => by simp only [smN] at q ⊢; exact smNKv_up h kvs q
theorem smNs_up {e f : Nat} (h : e ≤ f) : ∀ xs : List PyData, smNs e xs = true → smNs f xs = true
  | [], _ => by simp only [smNs]
  | x :: xs, q => by
    simp only [smNs, Bool.and_eq_true] at q ⊢
    exact ⟨smN_up h x q.1, smNs_up h xs q.2⟩
theorem smNKv_up {e f : Nat} (h : e ≤ f) : ∀ xs : List (PyData × PyData), smNKv e xs = true → smNKv f xs = true
  | [], _ => by simp only [smNKv]
  | (k, v) :: xs, q => by
    simp only [smNKv, Bool.and_eq_true] at q ⊢
    exact ⟨⟨smN_up h k q.1.1, smN_up h v q.1.2⟩, smNKv_up h xs q.2⟩
end
mutual
def wt : PyData → Nat
  | .none | .bool _ | .int _ => 70
  | .str s => (reprText s).length
  | .list xs | .tuple xs => wts xs + 3
  | .dict kvs => wtKv kvs + 3
def wts : List PyData → Nat
  | [] => 0
  | x :: xs => wt x + 2 + wts xs
def wtKv : List (PyData × PyData) → Nat
  | [] => 0
  | (k, v) :: r => wt k + wt v + 4 + wtKv r
end
theorem smBs_iff {e : Nat} {xs : List PyData} : smNs e xs = true ↔ ∀ x, x ∈ xs → smN e x = true := by
  induction xs with
  | nil => simp [smNs]
  | cons x t ih => simp [smNs, ih]
theorem wts_app (xs ys : List PyData) : wts (xs ++ ys) = wts xs + wts ys := by
  induction xs with
  | nil => simp [wts]
  | cons x t ih => simp only [List.cons_append, wts, ih]; omega
theorem wts_mem {xs : List PyData} {x : PyData} (h : x ∈ xs) : wt x + 2 ≤ wts xs := by
  induction xs with
  | nil => cases h
  | cons y t ih =>
    simp only [wts]
    rcases List.mem_cons.mp h with rfl | h
    · omega
    · have := ih h; omega
theorem wts_sub {xs ys : List PyData} (h : xs.Sublist ys) : wts xs ≤ wts ys := by
  induction h with
  | slnil => exact Nat.le_refl _
  | cons a _ ih => simp only [wts]; omega
  | cons_cons a _ ih => simp only [wts]; omega
theorem wts_le {n : Nat} {xs : List PyData} (h : ∀ x, x ∈ xs → wt x ≤ n) : wts xs ≤ (n + 2) * xs.length := by
  induction xs with
  | nil => simp [wts]
  | cons y t ih =>
    have h1 := h y List.mem_cons_self
    have h2 := ih fun x hx => h x (List.mem_cons_of_mem _ hx)
    simp only [wts, List.length_cons, Nat.mul_succ]
    omega
theorem wts_rev (xs : List PyData) : wts xs.reverse = wts xs := by
  induction xs with
  | nil => rfl
  | cons y t ih => rw [List.reverse_cons, wts_app, ih]; simp only [wts]; omega
theorem log2_le200 {n : Nat} (h : n < 10 ^ 60) : n.log2 < 200 := by
  by_cases h0 : n = 0
  · subst h0; decide
  · exact (Nat.log2_lt h0).mpr (Nat.lt_trans h (by decide))
theorem from_sum : ∀ (ts : List Str) (k : Nat) (acc : Str), (textFrom k acc ts).length ≤ acc.length + piled ts
  | [], k, acc => by show acc.length ≤ _; omega
  | t :: r, k, acc => by
    have ih := from_sum r (k + 1) (acc ++ (if k > 0 then ", " else "" : String) ++ t)
    show (textFrom (k + 1) (acc ++ (if k > 0 then ", " else "" : String) ++ t) r).length ≤ _
    rw [str_app, str_app] at ih
    have h2 : (((if k > 0 then ", " else "" : String)) : Str).length ≤ 2 := by split <;> decide +kernel
    rw [piled_cons]
    omega
theorem join_sum (ts : List Str) : (Str.join ", " ts).length ≤ piled ts := by
  by_cases e : ts = []
  · rw [e]
    have : (Str.join ", " []).length = 0 := by decide +kernel
    omega
  · have := join_length_add _ e
    omega
mutual
theorem sm_shown : ∀ d : PyData, smB d = true → d.shown.length ≤ wt d ∧ showB d = true
  | .none, _ => by refine ⟨?_, rfl⟩; simp only [PyData.shown, wt]; decide +kernel
  | .bool b, _ => by refine ⟨?_, rfl⟩; simp only [PyData.shown, wt]; cases b <;> decide +kernel
  | .str s, h => ⟨by simp only [PyData.shown, wt]; exact Nat.le_refl _, rfl⟩
  | .int i, h => by
    simp only [smN, decide_eq_true_eq] at h
    have hl : i.natAbs.log2 < 200 := log2_le200 h
    refine ⟨?_, by simp only [showB]; exact decide_eq_true (by omega)⟩
    simp only [PyData.shown, wt]
    have e := int_text_length_le10 (by decide : 0 < 60) h
    have : (Str.ofString (toString i)).length = (toString i).length := PySem.ofString_length _
    show (Str.ofString (toString i)).length ≤ 70
    omega
  | .list xs, h => by
    obtain ⟨h1, h2⟩ := sms_shown xs (by simpa only [smN] using h)
    refine ⟨?_, by simp only [showB]; exact h2⟩
    simp only [PyData.shown, listText, wt]
    rw [str_app]
    have := from_sum (PyData.shownAll xs) 0 "["
    have h3 : (("[" : Str)).length = 1 := by decide +kernel
    have h4 : (("]" : Str)).length = 1 := by decide +kernel
    omega
  | .tuple xs, h => by
    obtain ⟨h1, h2⟩ := sms_shown xs (by simpa only [smN] using h)
    refine ⟨?_, by simp only [showB]; exact h2⟩
    simp only [PyData.shown, tupleText, wt]
    rw [str_app, str_app]
    have := join_sum (PyData.shownAll xs)
    have h3 : (("(" : Str)).length = 1 := by decide +kernel
    have h4 : (((if (PyData.shownAll xs).length == 1 then ",)" else ")" : String)) : Str).length ≤ 2 := by split <;> decide +kernel
    omega
  | .dict kvs, h => by
    obtain ⟨h1, h2⟩ := smkv_shown kvs (by simpa only [smN] using h)
    refine ⟨?_, by simp only [showB]; exact h2⟩
    simp only [PyData.shown, dictText, wt]
    rw [str_app, str_app]
    have := join_sum (PyData.shownKv kvs)
    have h3 : (("{" : Str)).length = 1 := by decide +kernel
    have h4 : (("}" : Str)).length = 1 := by decide +kernel
    omega
theorem sms_shown : ∀ xs : List PyData, smBs xs = true → piled (PyData.shownAll xs) ≤ wts xs ∧ showBAll xs = true
  | [], _ => ⟨by simp [PyData.shownAll, piled, wts], by simp [showBAll]⟩
  | x :: xs, h => by
    simp only [smNs, Bool.and_eq_true] at h
    obtain ⟨h1, h2⟩ := sm_shown x h.1
    obtain ⟨h3, h4⟩ := sms_shown xs h.2
    refine ⟨?_, by simp only [showBAll, h2, h4, Bool.and_self]⟩
    simp only [PyData.shownAll, wts]
    rw [piled_cons]
    omega
theorem smkv_shown : ∀ xs : List (PyData × PyData), smBKv xs = true → piled (PyData.shownKv xs) ≤ wtKv xs ∧ showBKv xs = true
  | [], _ => ⟨by simp [PyData.shownKv, piled, wtKv], by simp [showBKv]⟩
  | (k, v) :: xs, h => by
    simp only [smNKv, Bool.and_eq_true] at h
    obtain ⟨h1, h2⟩ := sm_shown k h.1.1
    obtain ⟨h5, h6⟩ := sm_shown v h.1.2
    obtain ⟨h3, h4⟩ := smkv_shown xs h.2
    refine ⟨?_, by simp only [showBKv, h2, h6, h4, Bool.and_self]⟩
    simp only [PyData.shownKv, wtKv]
    rw [piled_cons, str_app, str_app]
    have h7 : ((": " : Str)).length = 2 := by decide +kernel
    omega
end
mutual
def wid : PyData → Nat
  | .none | .bool _ | .str _ | .int _ => 0
  | .list xs | .tuple xs => max xs.length (wids xs)
  | .dict kvs => widKv kvs
def wids : List PyData → Nat
  | [] => 0
  | x :: xs => max (wid x) (wids xs)
def widKv : List (PyData × PyData) → Nat
  | [] => 0
  | (k, v) :: r => max (max (wid k) (wid v)) (widKv r)
end
theorem wids_le {w : Nat} {xs : List PyData} : wids xs ≤ w ↔ ∀ x, x ∈ xs → wid x ≤ w := by
  induction xs with
  | nil => simp [wids]
  | cons x t ih =>
    simp only [wids, List.mem_cons, forall_eq_or_imp, ← ih]
    omega
theorem depthAll_le {k : Nat} {xs : List PyData} : PyData.depthAll xs ≤ k ↔ ∀ x, x ∈ xs → x.depth ≤ k := by
  induction xs with
  | nil => simp [PyData.depthAll]
  | cons x t ih =>
    simp only [PyData.depthAll, List.mem_cons, forall_eq_or_imp, ← ih]
    omega
/-- a value of any kind: its numbers, its depth, its length, its tuples' lengths -/
structure Whl (e k n w : Nat) (d : PyData) : Prop where
  sm : smN e d = true
  dep : d.depth ≤ k
  wt : wt d ≤ n
  wid : wid d ≤ w
theorem Whl.up {e k n w k' n' w' : Nat} {d : PyData} (h : Whl e k n w d) (hk : k ≤ k') (hn : n ≤ n') (hw : w ≤ w') : Whl e k' n' w' d := ⟨h.sm, Nat.le_trans h.dep hk, Nat.le_trans h.wt hn, Nat.le_trans h.wid hw⟩
theorem any_tuple {e k n w : Nat} {xs : List PyData} (h : ∀ x, x ∈ xs → smN e x = true ∧ x.depth ≤ k ∧ wid x ≤ w) (hw : wts xs + 3 ≤ n) (hl : xs.length ≤ w) : Whl e (k + 1) n w (.tuple xs) :=
  ⟨by simp only [smN]; exact smBs_iff.mpr fun x hx => (h x hx).1, by simp only [PyData.depth]; have := depthAll_le.mpr fun x hx => (h x hx).2.1; omega, by simp only [DW.wt]; exact hw, by simp only [DW.wid]; have := wids_le.mpr fun x hx => (h x hx).2.2; omega⟩
theorem Whl.items {e k n w : Nat} {xs : List PyData} (h : Whl e k n w (.tuple xs)) : (∀ x, x ∈ xs → smN e x = true ∧ x.depth + 1 ≤ k ∧ DW.wid x ≤ w) ∧ wts xs + 3 ≤ n ∧ xs.length ≤ w := by
  obtain ⟨h1, h2, h3, h4⟩ := h
  simp only [smN] at h1
  simp only [PyData.depth] at h2
  simp only [DW.wt] at h3
  simp only [DW.wid] at h4
  refine ⟨fun x hx => ⟨smBs_iff.mp h1 x hx, ?_, wids_le.mp (by omega) x hx⟩, h3, by omega⟩
  have := depthAll_le.mp (Nat.le_refl _) x hx
  omega
theorem Whl.mem {e k n w : Nat} {xs : List PyData} (h : Whl e k n w (.tuple xs)) {x : PyData} (hx : x ∈ xs) : Whl e k n w x := by
  obtain ⟨h1, h2, _⟩ := h.items
  have h3 := wts_mem hx
  exact ⟨(h1 x hx).1, by have := (h1 x hx).2.1; omega, by omega, (h1 x hx).2.2⟩
theorem Whl.lift {e f k n w : Nat} {d : PyData} (h : Whl e k n w d) (hf : e ≤ f) : Whl f k n w d := ⟨smN_up hf d h.sm, h.dep, h.wt, h.wid⟩
theorem Whl.len {e k n w : Nat} {xs : List PyData} (h : Whl e k n w (.tuple xs)) : xs.length ≤ w := h.items.2.2
theorem any_reprA {k n w : Nat} {d : PyData} {Q : PyData → Prop} (h : Whl 60 k n w d) (hk : k ≤ 60) (hn : n ≤ lim) (q : Q (.str d.shown)) : ReprA d Q := by
  obtain ⟨h1, h2⟩ := sm_shown d h.sm
  refine ⟨?_, h2, Nat.le_trans h.dep hk, Nat.le_trans h1 (Nat.le_trans h.wt hn), q⟩
  cases d with
  | int i =>
    have h3 := h.sm
    simp only [smN, decide_eq_true_eq] at h3
    have := log2_le200 h3
    exact decide_eq_true (by omega)
  | _ => rfl
def isNmB : PyData → Bool
  | .str s => decide (1 ≤ s.length ∧ s.length ≤ 12) && s.cps.toList.all fun c => inT ⟨#[c]⟩ "abcdefghijklmnopqrstuvwxyz"
  | _ => false
def isFrB : PyData → Bool
  | .tuple [.int a, .int b] => decide (0 < b) && decide (Int.gcd a b = 1)
  | _ => false
def numsB (n : Nat) : PyData → Bool
  | .tuple xs => decide (xs.length = n) && xs.all isIntD
  | _ => false
def rowB (n : Nat) : PyData → Bool
  | .tuple xs => decide (xs.length = n) && xs.all isFrB
  | _ => false
def tabB (h r : Nat) : PyData → Bool
  | .tuple [x, .tuple ys] => rowB h x && ys.all (rowB r)
  | _ => false
def headB (h : Nat) (z : PyData) : List PyData → Bool
  | [y] => numsB h z && isIntD y
  | _ => false
def rowRB (r : Nat) (z : PyData) : List PyData → Bool
  | [] => numsB r z
  | _ => false
def sumB (h r : Nat) (z : PyData) : List PyData → Bool
  | [y, u] => numsB h z && numsB r y && isIntD u
  | _ => false
def ruleB (h r : Nat) : PyData → Bool
  | .tuple (.str a :: .str b :: z :: t) => decide (b ∈ (["=", "<="] : List Str)) && (if a = "head" then headB h z t else if a = "row" then rowRB r z t else if a = "sum" then sumB h r z t else false)
  | _ => false
abbrev sp_isname64 : DS := fun ds Q => ∃ d, ds = [d] ∧ smB d = true ∧ Q (.bool (isNmB d))
abbrev sp_isfrac64 : DS := fun ds Q => ∃ d, ds = [d] ∧ smB d = true ∧ Q (.bool (isFrB d))
abbrev sp_nums64 : DS := fun ds Q => ∃ (d : PyData) (n : Nat), ds = [d, .int (n : Int)] ∧ Q (.bool (numsB n d))
abbrev sp_row64 : DS := fun ds Q => ∃ (d : PyData) (n : Nat), ds = [d, .int (n : Int)] ∧ smB d = true ∧ Q (.bool (rowB n d))
abbrev sp_lvec64 : DS := fun ds Q => ∃ (d : PyData) (n : Nat), ds = [.int (n : Int), d] ∧ smB d = true ∧ Q (.bool (rowB n d))
abbrev sp_srule64 : DS := fun ds Q => ∃ (hs rs t1 t2 : List PyData) (d : PyData), ds = [.tuple (.tuple hs :: t1), .tuple (.tuple rs :: t2), d] ∧ smB d = true ∧ Q (.bool (ruleB hs.length rs.length d))
abbrev sp_lrule64 : DS := fun ds Q => ∃ (h r : Nat) (d : PyData), ds = [d, .int (h : Int), .int (r : Int)] ∧ smB d = true ∧ Q (.bool (ruleB h r d))
abbrev sp_table64 : DS := fun ds Q => ∃ (w : PyData) (hs rs t1 t2 t3 : List PyData) (d : PyData), ds = [.tuple (w :: .tuple (.tuple hs :: t1) :: .tuple (.tuple rs :: t2) :: t3), d] ∧ smB d = true ∧ Q (.bool (tabB hs.length rs.length d))
theorem nums_len {n : Nat} {xs : List PyData} (h : xs.length = n) : numsB n (.tuple xs) = xs.all isIntD := by
  show (decide (xs.length = n) && _) = _
  rw [decide_eq_true h, Bool.true_and]
theorem nums_no {n : Nat} {xs : List PyData} (h : ¬ xs.length = n) : numsB n (.tuple xs) = false := by
  show (decide (xs.length = n) && _) = _
  rw [decide_eq_false h, Bool.false_and]
theorem row_len {n : Nat} {xs : List PyData} (h : xs.length = n) : rowB n (.tuple xs) = xs.all isFrB := by
  show (decide (xs.length = n) && _) = _
  rw [decide_eq_true h, Bool.true_and]
theorem row_no {n : Nat} {xs : List PyData} (h : ¬ xs.length = n) : rowB n (.tuple xs) = false := by
  show (decide (xs.length = n) && _) = _
  rw [decide_eq_false h, Bool.false_and]
theorem sm_len {s : Str} (h : smB (.str s) = true) : s.length ≤ 60 := by
  simp only [smN, Bool.and_eq_true, decide_eq_true_eq] at h
  exact h.1
theorem nm_len {s : Str} (h : (decide ((1 : Int) ≤ (s.length : Int)) && decide ((s.length : Int) ≤ 12)) = true) : isNmB (.str s) = s.cps.toList.all fun c => inT ⟨#[c]⟩ "abcdefghijklmnopqrstuvwxyz" := by
  show (decide (1 ≤ s.length ∧ s.length ≤ 12) && _) = _
  simp only [Bool.and_eq_true, decide_eq_true_eq] at h
  rw [decide_eq_true ⟨by omega, by omega⟩, Bool.true_and]
theorem nm_bad {s : Str} (h : (decide ((1 : Int) ≤ (s.length : Int)) && decide ((s.length : Int) ≤ 12)) = false) : isNmB (.str s) = false := by
  show (decide (1 ≤ s.length ∧ s.length ≤ 12) && _) = _
  rw [decide_eq_false, Bool.false_and]
  rintro ⟨h1, h2⟩
  rw [decide_eq_true (show (1 : Int) ≤ (s.length : Int) by omega), decide_eq_true (show (s.length : Int) ≤ 12 by omega)] at h
  cases h
theorem two_of {xs : List PyData} (h : xs.length = 2) : ∃ x y, xs = [x, y] := by
  match xs, h with
  | [x, y], _ => exact ⟨x, y, rfl⟩
theorem fr_len {xs : List PyData} (h : ¬ xs.length = 2) : isFrB (.tuple xs) = false := by
  unfold isFrB
  split
  · rename_i e
    cases e
    exact absurd rfl h
  · rfl
theorem fr_int {x y : PyData} (h : [x, y].all isIntD = false) : isFrB (.tuple [x, y]) = false := by
  unfold isFrB
  split
  · rename_i e
    cases e
    cases h
  · rfl
theorem ints_of {x y : PyData} (h : [x, y].all isIntD = true) : ∃ a b : Int, x = .int a ∧ y = .int b := by
  simp only [List.all_cons, List.all_nil, Bool.and_true, Bool.and_eq_true] at h
  cases x <;> cases y <;> first | exact ⟨_, _, rfl, rfl⟩ | (cases h.1; done) | (cases h.2; done)
section
variable {G : Gd} {M : Nm} {F : Fx} {Γ : List Bd} {Q : PyData → Prop} {Qb : Bool → Prop} {pos p p2 : Pos} {a b : Expr}
theorem wt_notinS (h : WB G M F a Γ fun d => WB G M F b Γ fun e => ∃ x y : Str, d = .str x ∧ e = .str y ∧ Qb (!inT x y)) (hm : behindInMarks .NotIn b = false := by rfl) : WT G M F (.Compare a [.NotIn] [b] pos) Γ Qb :=
  wt_cmp (R := fun d e => ∃ x y : Str, d = .str x ∧ e = .str y ∧ Qb (!inT x y)) (fun X gd => op_notin_str) h (fun g hd he r Q' k => by
    obtain ⟨x, y, rfl, rfl, q⟩ := r
    rw [hd.str, he.str]
    exact ⟨x, y, rfl, rfl, k _ q⟩) hm
end
theorem d_filtNil {α : Type} {l : List α} {p : α → Bool} {g : α → PyData} {Qb : Bool → Prop} (hf : ∀ x, x ∈ l → FlatTo 20 (g x)) (q : Qb (l.all fun x => !p x)) : EqD (.list ((l.filter p).map g)) (.list []) Qb := by
  refine d_eqNilF (k := 20) (fun x hx => ?_) (by decide) ?_
  · obtain ⟨y, hy, rfl⟩ := List.mem_map.mp hx
    exact hf y (List.mem_filter.mp hy).1
  · rw [List.isEmpty_map]
    rw [show (l.filter p).isEmpty = l.all fun x => !p x from ?_]
    · exact q
    · rw [Bool.eq_iff_iff, List.isEmpty_iff, List.filter_eq_nil_iff]
      simp
theorem fr_two (a b : Int) : isFrB (.tuple [.int a, .int b]) = (decide (0 < b) && decide (Int.gcd a b = 1)) := rfl
theorem sm_two {x y : PyData} (h : smB (.tuple [x, y]) = true) : smB x = true ∧ smB y = true := by
  simp only [smN, smNs, Bool.and_eq_true, Bool.and_true] at h
  exact h
theorem sm_all {xs : List PyData} (h : smB (.tuple xs) = true) : ∀ x, x ∈ xs → smB x = true := by
  simp only [smN] at h
  exact smBs_iff.mp h
theorem flat_char {s : Str} (h : smB (.str s) = true) {x : Nat} (hx : x ∈ s.cps.toList) : FlatTo 20 (.str ⟨#[x]⟩) := by
  simp only [smN, Bool.and_eq_true, decide_eq_true_eq] at h
  have h2 := h.2
  unfold PyData.strOk at h2
  rw [Array.all_eq_true'] at h2
  have h3 := h2 x (by simpa using hx)
  refine (FlatTo.str ?_).up (by decide)
  unfold PyData.strOk
  simpa using h3
def rowsB (r : Nat) : PyData → Bool
  | .tuple ys => ys.all (rowB r)
  | _ => false
theorem tab_two (h r : Nat) (x y : PyData) : tabB h r (.tuple [x, y]) = (rowB h x && rowsB r y) := by
  cases y <;> first | rfl | (show false = _; rw [show ∀ d, rowsB r d = rowsB r d from fun _ => rfl]; simp [rowsB])
theorem tab_len {h r : Nat} {xs : List PyData} (e : ¬ xs.length = 2) : tabB h r (.tuple xs) = false := by
  unfold tabB
  split
  · rename_i z
    cases z
    exact absurd rfl e
  · rfl
theorem len_cases {xs : List PyData} (h : ¬ xs.length < 3) : ∃ x y z t, xs = x :: y :: z :: t := by
  match xs, h with
  | x :: y :: z :: t, _ => exact ⟨x, y, z, t, rfl⟩
  | [], h => exact absurd (by simp) h
  | [_], h => exact absurd (by simp) h
  | [_, _], h => exact absurd (by simp) h
theorem rule_short {h r : Nat} {xs : List PyData} (e : xs.length < 3) : ruleB h r (.tuple xs) = false := by
  unfold ruleB
  split
  · rename_i z
    cases z
    simp at e
    omega
  · rfl
theorem rule_s0 {h r : Nat} {x y z : PyData} {t : List PyData} (e : ∀ s, x ≠ .str s) : ruleB h r (.tuple (x :: y :: z :: t)) = false := by
  unfold ruleB
  split
  · rename_i w
    cases w
    exact absurd rfl (e _)
  · rfl
theorem rule_s1 {h r : Nat} {x y z : PyData} {t : List PyData} (e : ∀ s, y ≠ .str s) : ruleB h r (.tuple (x :: y :: z :: t)) = false := by
  unfold ruleB
  split
  · rename_i w
    cases w
    exact absurd rfl (e _)
  · rfl
theorem rule_at (h r : Nat) (a b : Str) (z : PyData) (t : List PyData) : ruleB h r (.tuple (.str a :: .str b :: z :: t)) = (decide (b ∈ (["=", "<="] : List Str)) && (if a = "head" then headB h z t else if a = "row" then rowRB r z t else if a = "sum" then sumB h r z t else false)) := rfl
theorem head_no {h : Nat} {z : PyData} {t : List PyData} (e : ¬ t.length = 1) : headB h z t = false := by
  unfold headB
  split
  · exact absurd rfl e
  · rfl
theorem row_no' {r : Nat} {z : PyData} {t : List PyData} (e : ¬ t.length = 0) : rowRB r z t = false := by
  unfold rowRB
  split
  · exact absurd rfl e
  · rfl
theorem sum_no {h r : Nat} {z : PyData} {t : List PyData} (e : ¬ t.length = 2) : sumB h r z t = false := by
  unfold sumB
  split
  · exact absurd rfl e
  · rfl
theorem tl0 {a b z : PyData} {t : List PyData} (h : (((a :: b :: z :: t).length : Nat) : Int) = 3) : t = [] := by
  have : t.length = 0 := by simp only [List.length_cons] at h; omega
  exact List.length_eq_zero_iff.mp this
theorem tl1 {a b z : PyData} {t : List PyData} (h : (((a :: b :: z :: t).length : Nat) : Int) = 4) : ∃ y, t = [y] := by
  have : t.length = 1 := by simp only [List.length_cons] at h; omega
  exact List.length_eq_one_iff.mp this
theorem tl2 {a b z : PyData} {t : List PyData} (h : (((a :: b :: z :: t).length : Nat) : Int) = 5) : ∃ y u, t = [y, u] := two_of (by simp only [List.length_cons] at h; omega)
theorem tn {a b z : PyData} {t : List PyData} {n : Nat} (h : ¬ (((a :: b :: z :: t).length : Nat) : Int) = ((n + 3 : Nat) : Int)) : ¬ t.length = n := by
  simp only [List.length_cons] at h
  omega
theorem d_ix4 {a b c d e : PyData} {Q : PyData → Prop} (q : Q e) : IxD (.tuple [a, b, c, d, e]) (.int 4) Q := ⟨e, atI_nat' (n := 4) rfl, q⟩
end DW
namespace SS2
open PySem PySem.Spec PyProof.Rows
def dn (xs : List Str) : Nat → Nat
  | 0 => 0
  | i + 1 => if (xs.take i).any (· == xs.getD i Str.empty) then dn xs i else dn xs i + 1
theorem dn_le (xs : List Str) : ∀ i, dn xs i ≤ i
  | 0 => Nat.le_refl _
  | i + 1 => by have := dn_le xs i; unfold dn; split <;> omega
section
variable {prog : Program} {w : World} {A : Around} {R : Result → Shared → Prop} {I : Addr} {fp wr : List Addr} {G : Array GenState → Array GenState → Prop} {n : Nat} {P : Nat → Value → Prop} {St : Nat → Shared → Prop}
theorem loopTxt (W : WalksS prog w A.in1 I fp wr G n P St) (S : Addr) (hSf : S ∉ fp) (xs : List Str) (hsz : xs.length = n) (hn1 : n ≤ 1000)
    (hval : ∀ i v, P i v → ∃ t, v = .str (xs.getD i Str.empty) t) :
    ∀ (k i : Nat) (s : Shared), n - i = k → i ≤ n → St i s →
      s.heap.SetOf (PySem.strKind prog w) S (fun k' => (xs.take i).any (· == k')) (dn xs i) →
      (∀ s', Moved (S :: wr) G s s' → s'.heap.SetOf (PySem.strKind prog w) S (fun k' => (xs.take n).any (· == k')) (dn xs n) → R (.ok (.ret .none)) s') →
      codeAny (model prog w) A (.builtin "set.update.loop" ⟨[.ref S, .ref I], []⟩) R s := by
  have hSw : S ∉ wr := fun h => hSf (W.sub _ h)
  have hsub : ∀ b ∈ wr, b ∈ S :: wr := fun b hb => List.mem_cons_of_mem _ hb
  intro k
  induction k with
  | zero =>
    intro i s hk hi hst hS hR
    have hin : i = n := by omega
    subst hin
    refine codeAny_builtin PyProof.Rows.F.entry_set_update_loop ?_
    rw [Around.under_plainId PyProof.Rows.F.plain_set_update_loop _]
    show wpAny _ A.in1 (pyNext (.ref I) >>= _) _ _ s
    refine wpAny_bind (W.done s _ _ hst fun s' hm => ?_)
    show wpAny _ A.in1 (ret Value.none) _ _ s'
    exact wpAny_pure (hR s' (hm.mono hsub) (by
      obtain ⟨o, es, ep, t, ho, rest⟩ := hS
      exact ⟨o, es, ep, t, hm.heap S _ hSw ho, rest⟩))
  | succ k ih =>
    intro i s hk hi hst hS hR
    have hlt : i < n := by omega
    refine codeAny_builtin PyProof.Rows.F.entry_set_update_loop ?_
    rw [Around.under_plainId PyProof.Rows.F.plain_set_update_loop _]
    show wpAny _ A.in1 (pyNext (.ref I) >>= _) _ _ s
    refine wpAny_bind (W.item i s _ _ hlt hst fun v s' hP hst' hm => ?_)
    obtain ⟨t, rfl⟩ := hval i v hP
    have hS' : s'.heap.SetOf (PySem.strKind prog w) S (fun k' => (xs.take i).any (· == k')) (dn xs i) := by
      obtain ⟨o, es, ep, tb, ho, rest⟩ := hS
      exact ⟨o, es, ep, tb, hm.heap S _ hSw ho, rest⟩
    show wpAny _ A.in1 (holding [Value.str (xs.getD i Str.empty) t] (setAdd S (.str (xs.getD i Str.empty) t)) >>= _) _ _ s'
    refine wpAny_bind (wpAny_holding ?_)
    unfold setAdd
    refine wpAny_holding ?_
    refine wpAny_bind ((PySem.strKind prog w).pyHash (k := xs.getD i Str.empty) (strKind_is _ _ _ _) ?_)
    refine wpAny_setAddHashed_of (knd := PySem.strKind prog w) (s := { s' with toks := s'.toks + 1 }) (strKind_is _ _ _ _) rfl hS' (by have := dn_le xs i; unfold scanBound; omega) fun h' hsb hS2 => ?_
    have hSi : h'.SetOf (PySem.strKind prog w) S (fun k' => (xs.take (i + 1)).any (· == k')) (dn xs (i + 1)) := by
      have hil : i < xs.length := by omega
      have hx : xs[i]? = some (xs.getD i Str.empty) := by rw [List.getD_eq_getElem?_getD, List.getElem?_eq_getElem hil]; rfl
      refine SetOf_congr hS2 (fun k' => ?_) rfl
      have e2 : xs.take (i + 1) = xs.take i ++ [xs.getD i Str.empty] := DW.take_succ hx
      rw [e2, List.any_append]
      by_cases e : k' = xs.getD i Str.empty
      · subst e; simp
      · have hb : (xs.getD i Str.empty == k') = false := by simpa [beq_iff_eq] using (fun h' : xs.getD i Str.empty = k' => e h'.symm)
        simp only [List.any_cons, List.any_nil, Bool.or_false]
        rw [hb, decide_eq_false e]
    refine wpAny_pure ⟨plainId_quiet PyProof.Rows.F.plain_set_update_loop _, ih (i + 1) _ (by omega) hlt (W.frame _ s' _ _ hst' (Nat.le_succ _) fun b hb o e => ?_) hSi fun s'' hm'' hS'' => ?_⟩
    · rw [hsb.2 b (fun h : b = S => hSf (by rw [← h]; exact hb))]; exact e
    · refine hR s'' (Moved.trans W.gtrans ((hm.mono hsub).then_heap (Nat.le_succ _) fun b o hb e => ?_) hm'') hS''
      rw [hsb.2 b (fun h : b = S => hb (by rw [h]; exact List.mem_cons_self))]; exact e
end
section
variable {prog : Program} {w : World} {A : Around} {E : Value → Shared → Prop} {s : Shared}
theorem call_set_txt {l : Addr} {items : Array Value} {xs : List Str} {Q : Value → Shared → Prop}
    (hh : A.handled = none) (hl : s.heap.IsTuple l items) (hi : PyProof.Rows.StrsAre items.toList xs) (hn1 : xs.length ≤ 1000)
    (h : ∀ (h' : Heap) (tk : Nat), h'.SetOf (PySem.strKind prog w) s.heap.objs.size (fun k' => (xs.take items.size).any (· == k')) (dn xs items.size) →
      (∀ b o, b < s.heap.objs.size → s.heap.get? b = some o → h'.get? b = some o) → Q (.ref s.heap.objs.size) { s with heap := h', toks := tk }) :
    wpAny (model prog w) A (call (.type "set") [.ref l]) Q E s := by
  obtain ⟨c, tl, hmro⟩ := PySem.F.called_set.mro
  have hmade := PySem.F.called_set.made
  have hsub := PySem.F.called_set.sub
  refine wpAny_call (codeAny_of_tree ?_)
  show wpAny _ _ (callAny (.type "set") _) _ _ _
  refine wpAny_pure ⟨Code.quiet_builtin _ (by decide +kernel), codeAny_builtin PySem.F.entry_type_call ?_⟩
  rw [Around.under_plain (weight_type_call_type "set" [.ref l] []) rfl]
  have h1 := PySem.F.called_set.notType
  have h2 := PySem.F.called_set.canCreate
  have hct := PySem.F.typeCall_set_1 (.ref l)
  repeat (any_goals (first | assumption | wp_step))

  refine codeAny_mono (code_set_new_1 (.ref l) (E := E) (Q₁ := fun obj s₁ => ∃ led : Bool, obj = .ref s.heap.objs.size ∧ s₁ = { s with heap := s.heap.push { cls := .type "set", dict := none, data := .set #[] 0 (.fresh 0 0 led) } }) fun led => ⟨led, rfl, rfl⟩) fun r s₁ hr => ?_
  cases r with
  | error e => exact hr
  | ok fl =>
    cases fl with
    | ret obj =>
      obtain ⟨led, rfl, rfl⟩ := hr
      have hS : (s.heap.push { cls := .type "set", dict := none, data := .set #[] 0 (.fresh 0 0 led) }).get? s.heap.objs.size = some { cls := .type "set", dict := none, data := .set #[] 0 (.fresh 0 0 led) } := Heap.get?_push_size _ rfl
      have hT : Shared.TypeIs { s with heap := s.heap.push { cls := .type "set", dict := none, data := .set #[] 0 (.fresh 0 0 led) } } (.ref s.heap.objs.size) "set" := ⟨_, hS, rfl⟩
      have hli := PySem.F.called_set.init.lookup
      have hbi := PySem.F.called_set.init.bind (.ref s.heap.objs.size)
      repeat (any_goals (first | assumption | wp_step))

      refine codeAny_mono (codeAny_call_builtin (R := wants (fun r s₂ => r = .none ∧ ∃ h' tk, s₂ = { s with heap := h', toks := tk } ∧
          h'.SetOf (PySem.strKind prog w) s.heap.objs.size (fun k' => (xs.take items.size).any (· == k')) (dn xs items.size) ∧
          (∀ b o, b < s.heap.objs.size → s.heap.get? b = some o → h'.get? b = some o)) E) PySem.F.called_set.init.plain PySem.F.entry_set_init (check_set_init_1 hT ?_)) fun r₂ s₂ hr₂ => ?_
      · obtain ⟨ol, hol, hcl, nl, hdl⟩ := hl
        obtain ⟨ocls, odict, odata, oslots⟩ := ol
        simp only at hcl hdl
        subst hcl; subst hdl
        have hol' : (s.heap.push { cls := .type "set", dict := none, data := .set #[] 0 (.fresh 0 0 led) }).get? l = some { cls := .type "tuple", dict := odict, data := .seq items nl, slots := oslots } := Heap.get?_push_of_some _ hol
        have hsls := PySem.F.sub_tuple_set
        have hslf := PySem.F.sub_tuple_frozenset
        have hne : (Value.type "tuple" == Value.type "dict") = false := by decide
        have hl1 : (s.heap.push { cls := .type "set", dict := none, data := .set #[] 0 (.fresh 0 0 led) }).IsTuple l items := ⟨_, hol', rfl, nl, rfl⟩
        unfold Builtin.«set.__init__» noKeywords Builtin.Frozenset.updateFrom
        generalize hPI : pyIter = PI
        wp_walk
        subst hPI

        refine wpAny_pyIter_tuple hl1 ?_
        refine wpAny_bind (wpAny_runValue ?_)
        have hlS : l < s.heap.objs.size := Heap.lt_size hol
        have hh3 : A.in1.in1.in1.handled = none := by simp [hh]
        have hneI : l ≠ (s.heap.push { cls := .type "set", dict := none, data := .set #[] 0 (.fresh 0 0 led) }).objs.size := by
          rw [Heap.size_push]; exact Nat.ne_of_lt (Nat.lt_succ_of_lt hlS)
        have hSf : s.heap.objs.size ∉ [(s.heap.push { cls := .type "set", dict := none, data := .set #[] 0 (.fresh 0 0 led) }).objs.size, l] := by
          rw [Heap.size_push]; simp only [List.mem_cons, List.mem_singleton, List.not_mem_nil, or_false, not_or]
          exact ⟨Nat.ne_of_lt (Nat.lt_succ_self _), Nat.ne_of_gt hlS⟩
        have hsz : xs.length = items.size := by rw [← StrsAre.len_eq hi, Array.length_toList]
        have hval : ∀ (i : Nat) (v : Value), items[i]? = some v → ∃ t, v = .str (xs.getD i Str.empty) t := fun i v hv => SS.strs_at hi i v (by rw [Array.getElem?_toList]; exact hv)
        refine loopTxt ((Walks.tuple hh3 _ l hneI items).toS) s.heap.objs.size
          hSf xs hsz (by rw [← hsz]; exact hn1) hval (items.size - 0) 0 _ (by omega) (Nat.zero_le _)
          ⟨⟨_, Heap.get?_push_size _ rfl, rfl, rfl⟩, (hl1.push _)⟩ ?hS0 ?hR
        case hS0 =>
          have hget : ((s.heap.push { cls := .type "set", dict := none, data := .set #[] 0 (.fresh 0 0 led) }).push { cls := .type "tuple_iterator", data := .fields #[.ref l, .int 0 0] }).get? s.heap.objs.size
              = some { cls := .type "set", dict := none, data := .set #[] 0 (.fresh 0 0 led) } := Heap.get?_push_of_some _ hS
          exact PyProof.Rows.SetOf_congr ((PyProof.Rows.setObjOf_fresh (knd := PySem.strKind prog w) led).setOf hget (by unfold scanBound; omega)) (fun _ => rfl) rfl
        case hR =>
          intro s' hm hS'
          obtain ⟨h', g', d', tk', os'⟩ := s'
          have eg : g' = s.gens := hm.gens
          have ed : d' = s.drawn := hm.drawn
          have eo : os' = s.os := hm.os
          subst eg; subst ed; subst eo
          show wpAny _ _ _ _ _ _
          refine wpAny_pure ?_
          show wpAny _ _ (ret Value.none) _ _ _
          refine wpAny_pure ⟨rfl, h', tk', rfl, hS', fun b o hb e => ?_⟩
          have hb1 : b ≠ s.heap.objs.size := Nat.ne_of_lt hb
          have hb2 : b ≠ (s.heap.push { cls := .type "set", dict := none, data := .set #[] 0 (.fresh 0 0 led) }).objs.size := by
            rw [Heap.size_push]; exact Nat.ne_of_lt (Nat.lt_succ_of_lt hb)
          exact hm.heap b o (by simp only [List.mem_cons, List.mem_singleton, List.not_mem_nil, or_false, not_or]; exact ⟨hb1, hb2⟩) (Heap.get?_push_of_some _ (Heap.get?_push_of_some _ e))

      · cases r₂ with
        | error e => exact hr₂
        | ok fl₂ =>
          cases fl₂ with
          | ret r =>
            obtain ⟨rfl, h', tk, rfl, hS', hk'⟩ := hr₂
            repeat (any_goals (first | assumption | wp_step))
            exact h _ _ hS' hk'
          | _ => exact hr₂.elim
    | _ => exact hr.elim
end
end SS2
namespace DW
open PySem PySem.Spec L2
open PyProof.Rows hiding St
section
variable {X : Cx} {a : Expr} {ta : TE}
def tLenTxtG (K : PySem.W.Frag) (ta : TE) : TE := fun σ H Q => ta σ H fun x H1 => ∃ l, ∃ xs : List Str, x = .ref l ∧ SqT K H1 l (xs.map V.str) ∧ xs.length ≤ 1000 ∧ Q (.int (SS2.dn xs xs.length : Nat)) H1
theorem pe_lenTxtG {p p2 q pos : Pos} (hc : X.calm = true) (hg : Gl X "len") (hm : X.mg "len" = none) (hg2 : Gl X "set") (hm2 : X.mg "set" = none) (ha : PE X a ta)
    (na : starEach [a] X.env = (false, eval a X.env) :: starEach [] X.env) : PE X (.Call (.Name "len" p) [.Call (.Name "set" p2) [a] [] q] [] pos) (tLenTxtG X.K ta) := by
  refine ⟨fun pins s σ H Q I h => ?_⟩
  refine Call_ (ld_blt I hg hm boot_len ?_)
  refine PyProof.Rows.callWith_builtin1 (PyProof.Rows.args_cons ?_ rfl) rfl rfl
  refine Call_ (ld_blt I hg2 hm2 boot_set ?_)
  refine PyProof.Rows.callWith_type1 (PyProof.Rows.args_cons (thn (ha.run pins s σ H _ I h) fun v s1 ⟨x, H1, I1, r1, q1⟩ => PyProof.Rows.args_nil ?_) na) na rfl
  obtain ⟨l, xs, rfl, hq, h1, q1⟩ := q1
  cases r1
  obtain ⟨its, r, pl, hz⟩ := I1.tuple hq
  have hl : its.toArray.size = xs.length := by rw [List.size_toArray, ← r.length, List.length_map]
  refine SS2.call_set_txt (I1.ok.hd hc) pl (by simpa using strsAre_of r) h1 fun h' tk hS hk => ?_
  refine PyProof.Rows.args_nil ?_
  rw [hl] at hS
  obtain ⟨o, es, ep, t, ho, hex, hd, _, _, _, hf, hn⟩ := hS
  have I2 : Inv X pins σ H1 { s1 with heap := h', toks := tk } := I1.kept fun b o e => hk b o (Heap.lt_size e) e
  exact call_len_set ho hex hd hf (by have := SS2.dn_le xs xs.length; rw [hn] <;> omega) ⟨.int (SS2.dn xs xs.length : Nat), H1, I2.tok _, ⟨_, by rw [hn]⟩, q1⟩
end
section
variable {G : Gd} {M : Nm} {F : Fx} {Γ : List Bd} {Q : PyData → Prop} {pos p p2 p3 : Pos} {a : Expr}
theorem we_lenTxtG (hm : G.mg "len" = none) (hg : ("len" : Str) ∈ M.gl) (hm2 : G.mg "set" = none) (hg2 : ("set" : Str) ∈ M.gl) (h : WE G M F a Γ fun d => ∃ xs : List Str, d = .tuple (xs.map PyData.str) ∧ xs.length ≤ 1000 ∧ Q (.int (SS2.dn xs xs.length : Nat)))
    (hs : ∀ env, starEach [a] env = (false, eval a env) :: starEach [] env := by intro _; rfl) : WE G M F (.Call (.Name "len" p) [.Call (.Name "set" p2) [a] [] p3] [] pos) Γ Q := by
  refine ⟨fun X gd σ H S hl g => tW.of (pe_lenTxtG gd.calm (gd.gl hg) (by rw [gd.mg]; exact hm) (gd.gl hg2) (by rw [gd.mg]; exact hm2) (pe_w a) (hs X.env)) ?_⟩
  refine (h.run X gd σ H S hl g).mono fun v H1 ⟨S1, d, g1, e1, k1, hd, xs, e, q2, q⟩ => ?_
  subst e
  cases hd with
  | tup h1 h2 =>
    have e := dpa_txt h2
    subst e
    exact ⟨_, xs, rfl, by rw [gd.K]; exact same_t g1.ex h1, q2, (PostE.here g1 (.int _) q).ahead e1 k1⟩
end
theorem dn_eq (xs : List Str) : ∀ i, i ≤ xs.length → (SS2.dn xs i = i ↔ (xs.take i).Nodup)
  | 0, _ => by simp [SS2.dn]
  | i + 1, h => by
    have ih := dn_eq xs i (by omega)
    have hl : i < xs.length := by omega
    have hx : xs[i]? = some (xs.getD i Str.empty) := by rw [List.getD_eq_getElem?_getD, List.getElem?_eq_getElem hl]; rfl
    have e2 : xs.take (i + 1) = xs.take i ++ [xs.getD i Str.empty] := take_succ hx
    have le := SS2.dn_le xs i
    rw [e2, List.nodup_append]
    have hb : ((xs.take i).any (· == xs.getD i Str.empty) = true) ↔ xs.getD i Str.empty ∈ xs.take i := by
      rw [List.any_eq_true]
      constructor
      · rintro ⟨y, hy, e⟩; rw [← eq_of_beq e]; exact hy
      · intro hy; exact ⟨_, hy, by simp⟩
    unfold SS2.dn
    by_cases hin : xs.getD i Str.empty ∈ xs.take i
    · rw [if_pos (hb.mpr hin)]
      constructor
      · intro e; omega
      · rintro ⟨_, _, h3⟩; exact absurd rfl (h3 _ hin _ List.mem_cons_self)
    · rw [if_neg (fun z => hin (hb.mp z))]
      constructor
      · intro e
        refine ⟨ih.mp (by omega), by simp, fun a ha b hb' e3 => ?_⟩
        rw [List.mem_singleton.mp hb'] at e3
        subst e3
        exact hin ha
      · rintro ⟨h1, _, _⟩
        rw [ih.mpr h1]
theorem dn_nodup (xs : List Str) : SS2.dn xs xs.length = xs.length ↔ xs.Nodup := by
  have := dn_eq xs xs.length (Nat.le_refl _)
  rwa [List.take_length] at this
end DW
namespace DW
open PySem PySem.Spec L2
open PyProof.Rows hiding St
abbrev newSt (w : World) : Obj := { cls := .type "set", dict := none, data := .set #[] 0 (.fresh 0 0 (!w.params.followText "set-order")) }
section
variable {P : Program} {w : World} {A : Around} {E : Value → Shared → Prop} {s : Shared}
theorem call_set_lstI {l : Addr} {items : Array Value} (ns : List Int) {Q : Value → Shared → Prop} (hh : A.handled = none) (hl : s.heap.IsList l items) (hit : IntsAre items.toList ns) (hb : ns.length + 1 < scanBound)
    (h : ∀ (h' : Heap) (tk c : Nat), SetR w h' s.heap.objs.size (fun j => decide (j ∈ ns)) c → c ≤ ns.length → (∀ b o, s.heap.get? b = some o → h'.get? b = some o) → Q (.ref s.heap.objs.size) { s with heap := h', toks := tk }) :
    wpAny (model P w) A (call (.type "set") [.ref l]) Q E s := by
  have hisz : items.size = ns.length := by
    have q := IntsAre.length hit
    rw [Array.length_toList] at q
    exact q
  obtain ⟨c, tl, hmro⟩ := F.called_set.mro
  have hmade := F.called_set.made
  have hsub := F.called_set.sub
  refine wpAny_call (codeAny_of_tree ?_)
  show wpAny _ _ (callAny (.type "set") _) _ _ _
  refine wpAny_pure ⟨Code.quiet_builtin _ (by decide +kernel), codeAny_builtin F.entry_type_call ?_⟩
  rw [Around.under_plain (weight_type_call_type "set" [.ref l] []) rfl]
  have h1 := F.called_set.notType
  have h2 := F.called_set.canCreate
  have hct := F.typeCall_set_1 (.ref l)
  repeat (any_goals (first | assumption | wp_step))

  refine codeAny_mono (code_set_led1 (.ref l) (E := E) (Q₁ := fun obj s₁ => obj = .ref s.heap.objs.size ∧ s₁ = { s with heap := s.heap.push (newSt w) }) ⟨rfl, rfl⟩) fun r s₁ hr => ?_
  cases r with
  | error e => exact hr
  | ok fl =>
    cases fl with
    | ret obj =>
      obtain ⟨rfl, rfl⟩ := hr
      have hS : (s.heap.push (newSt w)).get? s.heap.objs.size = some (newSt w) := Heap.get?_push_size _ rfl
      have hT : Shared.TypeIs { s with heap := s.heap.push (newSt w) } (.ref s.heap.objs.size) "set" := ⟨_, hS, rfl⟩
      have hli := F.called_set.init.lookup
      have hbi := F.called_set.init.bind (.ref s.heap.objs.size)
      repeat (any_goals (first | assumption | wp_step))

      refine codeAny_mono (codeAny_call_builtin (R := wants (fun r s₂ => r = .none ∧ ∃ h' tk c, s₂ = { s with heap := h', toks := tk } ∧ SetR w h' s.heap.objs.size (fun j => decide (j ∈ ns)) c ∧ c ≤ ns.length ∧
          (∀ b o, s.heap.get? b = some o → h'.get? b = some o)) E) F.called_set.init.plain F.entry_set_init (check_set_init_1 hT ?_)) fun r₂ s₂ hr₂ => ?_
      · obtain ⟨ol, hol, hcl, nl, hdl⟩ := hl
        obtain ⟨ocls, odict, odata, oslots⟩ := ol
        simp only at hcl hdl
        subst hcl; subst hdl
        have hol' : (s.heap.push (newSt w)).get? l = some { cls := .type "list", dict := odict, data := .seq items nl, slots := oslots } := Heap.get?_push_of_some _ hol
        have hsls := F.sub_list_set
        have hslf := F.sub_list_frozenset
        have hne : (Value.type "list" == Value.type "dict") = false := by decide
        have hl1 : (s.heap.push (newSt w)).IsList l items := ⟨_, hol', rfl, nl, rfl⟩
        unfold Builtin.«set.__init__» noKeywords Builtin.Frozenset.updateFrom
        generalize hPI : pyIter = PI
        wp_walk
        subst hPI

        refine wpAny_pyIter_list hl1 ?_
        refine wpAny_bind (wpAny_runValue ?_)
        have hlS : l < s.heap.objs.size := Heap.lt_size hol
        have hh3 : A.in1.in1.in1.handled = none := by simp [hh]
        have hz1 : (s.heap.push (newSt w)).objs.size = s.heap.objs.size + 1 := Heap.size_push ..
        have hneI : l ≠ (s.heap.push (newSt w)).objs.size := by
          rw [Heap.size_push]; exact Nat.ne_of_lt (Nat.lt_succ_of_lt hlS)
        have hSf : s.heap.objs.size ∉ [(s.heap.push (newSt w)).objs.size, l] := by
          rw [Heap.size_push]; simp only [List.mem_cons, List.mem_singleton, List.not_mem_nil, or_false, not_or]
          exact ⟨Nat.ne_of_lt (Nat.lt_succ_self _), Nat.ne_of_gt hlS⟩
        have hval : ∀ (i : Nat) (v : Value), items[i]? = some v → ∃ k t, ns[i]? = some k ∧ v = .int k t := fun i v hv => by
          have hi : i < ns.length := by rw [← hisz]; exact (Array.getElem?_eq_some_iff.mp hv).1
          obtain ⟨t, e⟩ := PyProof.Rows.IntsAre.int_at hit i v (by rw [Array.getElem?_toList]; exact hv)
          refine ⟨ns[i], t, List.getElem?_eq_getElem hi, ?_⟩
          rw [e, List.getD_eq_getElem?_getD, List.getElem?_eq_getElem hi] <;> rfl
        refine set_update_ints ((Walks.list hh3 _ l hneI items).toS) s.heap.objs.size
          hSf ns hisz hb hval (items.size - 0) 0 _ (by omega) (Nat.zero_le _)
          ⟨⟨_, Heap.get?_push_size _ rfl, rfl, rfl⟩, (hl1.push _)⟩ ?hS0 ?hR
        case hS0 =>
          have hget : ((s.heap.push (newSt w)).push { cls := .type "list_iterator", data := .fields #[.ref l, .int 0 0] }).get? s.heap.objs.size
              = some (newSt w) := Heap.get?_push_of_some _ hS
          exact ⟨0, Nat.le_refl 0, setR_new_at hget⟩
        case hR =>
          intro s' c' hm hc' hS'
          obtain ⟨h', g2, d', tk', os'⟩ := s'
          have eg : g2 = s.gens := hm.gens
          have ed : d' = s.drawn := hm.drawn
          have eo : os' = s.os := hm.os
          subst eg; subst ed; subst eo
          show wpAny _ _ _ _ _ _
          refine wpAny_pure ?_
          show wpAny _ _ (ret Value.none) _ _ _
          rw [hisz] at hc'
          refine wpAny_pure ⟨rfl, h', tk', c', rfl, hS', hc', fun b o e => ?_⟩
          have hb0 : b < s.heap.objs.size := Heap.lt_size e
          have hb1 : b ≠ s.heap.objs.size := Nat.ne_of_lt hb0
          have hb2 : b ≠ (s.heap.push (newSt w)).objs.size := by
            rw [Heap.size_push]; exact Nat.ne_of_lt (Nat.lt_succ_of_lt hb0)
          exact hm.heap b o (by simp only [List.mem_cons, List.mem_singleton, List.not_mem_nil, or_false, not_or]; exact ⟨hb1, hb2⟩) (Heap.get?_push_of_some _ (Heap.get?_push_of_some _ e))

      · cases r₂ with
        | error e => exact hr₂
        | ok fl₂ =>
          cases fl₂ with
          | ret r =>
            obtain ⟨rfl, h', tk, c', rfl, hS', hc', hk'⟩ := hr₂
            repeat (any_goals (first | assumption | wp_step))
            exact h _ _ _ hS' hc' hk'
          | _ => exact hr₂.elim
    | _ => exact hr.elim
end
theorem cr_setL {X : Cx} (hc : X.calm = true) : CallR X (.type "set") (fun xs H Q => ∃ (p : Addr) (ns : List Int), xs = [V.ref p] ∧ SqL X.K H p (ns.map V.int) ∧ ns.length ≤ 50 ∧ ∀ a c, H a = none → c ≤ ns.length → Q (.ref a) (upd H a (SetO X.w a (fun j => decide (j ∈ ns)) c))) := by
  intro pins s σ H vs us Q I r h
  obtain ⟨p, ns, rfl, hq, hl, q⟩ := h
  rw [Vals.ref1 r]
  obtain ⟨its, rv, pt, hz⟩ := I.list hq
  refine call_set_lstI ns (I.ok.hd hc) (show s.heap.IsList p its.toArray from pt.isList) (ints_of_vals rv) (by unfold scanBound; omega) fun h' tk c R1 hcn k => ?_
  have hn := I.hok.fresh (Nat.le_refl s.heap.objs.size)
  exact ⟨.ref _, _, I.laid (t' := tk) k (Nat.le_refl _) (setO_new R1), rfl, q _ _ hn hcn⟩
section
variable {G : Gd} {M : Nm} {F : Fx} {Γ : List Bd} {Q : PyData → Prop} {e i : Expr} {p p2 q pos : Pos}
theorem we_sortSetL (hm : G.mg "sorted" = none) (hg : ("sorted" : Str) ∈ M.gl) (hm2 : G.mg "set" = none) (hg2 : ("set" : Str) ∈ M.gl)
    (h : WE G M F e Γ fun d => ∃ ns : List Int, d = .list (ns.map PyData.int) ∧ ns.length ≤ 50 ∧ ∀ ms : List Int, ms.Pairwise (· < ·) → (∀ k, k ∈ ms ↔ k ∈ ns) → Q (.list (ms.map PyData.int)))
    (hs : ∀ env, starEach [.Call (.Name "set" p2) [e] [] q] env = [(false, eval (.Call (.Name "set" p2) [e] [] q) env)] := by intro _; rfl) (hs2 : ∀ env, starEach [e] env = [(false, eval e env)] := by intro _; rfl) :
    WE G M F (.Call (.Name "sorted" p) [.Call (.Name "set" p2) [e] [] q] [] pos) Γ Q := by
  refine ⟨fun X gd σ H S hl g => ?_⟩
  refine tW.of (pe_callB (cr_sortedSet gd.calm) (gd.gl hg) (by rw [gd.mg]; exact hm) (by decide +kernel) (pa_cons (pe_callTy (cr_setL gd.calm) (gd.gl hg2) (by rw [gd.mg]; exact hm2) (by decide +kernel) (pa_cons (pe_w e) pa_nil (hs2 X.env)) (he := hs2 X.env) (hpl := rfl)) pa_nil (hs X.env)) (by decide) (by decide) (hs X.env) rfl) ?_
  refine (h.run X gd σ H S hl g).mono fun v H1 ⟨S1, d, g1, e1, k1, hd, ns, ed, hl, q⟩ => ?_
  subst ed
  cases hd with
  | lst h1 h2 =>
    have hx := DpAll.ints h2
    subst hx
    refine ⟨_, ns, rfl, by rw [gd.K]; exact same_l g1.ex h1, hl, fun a c ha hc => ?_⟩
    refine ⟨a, _, c, rfl, upd_same, by omega, fun ms p hs hm hl2 hp => ?_⟩
    have g2 := g1.more (SetO X.w a (fun j => decide (j ∈ ns)) c) ha
    exact ((PostE.newL g2 hp DpAll.ofInts (q ms hs fun k => by rw [hm, decide_eq_true_eq])).ahead (Same.refl S1) (kq_more ha)).ahead e1 k1
end
end DW
namespace DW
open PySem PySem.Spec L2
open PyProof.Rows hiding St
structure Side (least : Nat) (d : PyData) (ts fr : List Str) (gs : List (List Str)) : Prop where
  eq : d = .tuple [tstrs ts, .tuple (gs.map tstrs), tstrs fr]
  many : least ≤ ts.length
  names : ∀ t, t ∈ ts → isNmB (.str t) = true
  nd : ts.Nodup
  ne : ∀ g, g ∈ gs → g ≠ []
  perm : (fr ++ gs.flatten).Perm ts
  asc : ∀ l, l ∈ gs ++ [fr] → (plc ts l).Pairwise (· < ·)
  firsts : (gs.map fun g => ts.idxOf (g.headD Str.empty)).Pairwise (· ≤ ·)
def SideOk (least : Nat) (d : PyData) : Prop := ∃ ts fr gs, Side least d ts fr gs
noncomputable def sideB (least : Nat) (d : PyData) : Bool := @decide (SideOk least d) (Classical.propDecidable _)
theorem side_t {least : Nat} {d : PyData} (h : SideOk least d) : sideB least d = true := @decide_eq_true _ (Classical.propDecidable _) h
theorem side_f {least : Nat} {d : PyData} (h : ¬ SideOk least d) : sideB least d = false := @decide_eq_false _ (Classical.propDecidable _) h
theorem side_b {least : Nat} {d : PyData} {b : Bool} (h : SideOk least d ↔ b = true) : sideB least d = b := by
  cases b
  · exact side_f fun z => nomatch h.mp z
  · exact side_t (h.mpr rfl)
def isStrD : PyData → Bool
  | .str _ => true
  | _ => false
def neT : PyData → Bool
  | .tuple ys => !ys.isEmpty
  | _ => false
theorem strs_all {xs : List PyData} (h : xs.all isStrD = true) : ∃ ts : List Str, xs = ts.map PyData.str := by
  induction xs with
  | nil => exact ⟨[], rfl⟩
  | cons x t ih =>
    rw [List.all_cons, Bool.and_eq_true] at h
    obtain ⟨ts, rfl⟩ := ih h.2
    cases x with
    | str s => exact ⟨s :: ts, rfl⟩
    | _ => exact nomatch h.1
theorem nm_str {x : PyData} (h : isNmB x = true) : ∃ s, x = .str s := by
  cases x with
  | str s => exact ⟨s, rfl⟩
  | _ => exact nomatch h
theorem nms_all {xs : List PyData} (h : xs.all isNmB = true) : ∃ ts : List Str, xs = ts.map PyData.str ∧ ∀ t, t ∈ ts → isNmB (.str t) = true := by
  obtain ⟨ts, rfl⟩ := strs_all (List.all_eq_true.mpr fun x hx => by
    obtain ⟨s, rfl⟩ := nm_str (List.all_eq_true.mp h x hx)
    rfl)
  exact ⟨ts, rfl, fun t ht => List.all_eq_true.mp h _ (List.mem_map.mpr ⟨t, ht, rfl⟩)⟩
theorem tups_all {xs : List PyData} (h : xs.all neT = true) : ∃ gs : List (List PyData), xs = gs.map PyData.tuple ∧ ∀ g, g ∈ gs → g ≠ [] := by
  induction xs with
  | nil => exact ⟨[], rfl, fun _ z => nomatch z⟩
  | cons x t ih =>
    rw [List.all_cons, Bool.and_eq_true] at h
    obtain ⟨gs, rfl, hn⟩ := ih h.2
    cases x with
    | tuple s =>
      refine ⟨s :: gs, rfl, fun g hg => ?_⟩
      rcases List.mem_cons.mp hg with rfl | hg
      · intro e
        subst e
        exact nomatch h.1
      · exact hn g hg
    | _ => exact nomatch h.1
theorem map_str_inj {a b : List Str} (h : a.map PyData.str = b.map PyData.str) : a = b := List.map_inj_right (f := PyData.str) (fun _ _ e => by cases e; rfl) |>.mp h
theorem map_tstrs_inj {a b : List (List Str)} (h : a.map tstrs = b.map tstrs) : a = b := List.map_inj_right (f := tstrs) (fun x y e => map_str_inj (by unfold tstrs at e; injection e)) |>.mp h
theorem side_no {least : Nat} {d : PyData} (h : ∀ ts fr gs, ¬ Side least d ts fr gs) : sideB least d = false := side_f fun ⟨ts, fr, gs, z⟩ => h ts fr gs z
theorem side_tup {least : Nat} {d : PyData} (h : ∀ xs, d ≠ .tuple xs) : sideB least d = false := side_no fun _ _ _ z => h _ z.eq
theorem side_len {least : Nat} {xs : List PyData} (h : ¬ xs.length = 3) : sideB least (.tuple xs) = false := side_no fun _ _ _ z => by
  have e := z.eq
  injection e with e
  rw [e] at h
  exact h rfl
theorem side_parts {least : Nat} {a b c : PyData} (h : [a, b, c].all isTup = false) : sideB least (.tuple [a, b, c]) = false := side_no fun ts fr gs z => by
  have e := z.eq
  injection e with e
  rw [e] at h
  exact nomatch h
section
variable {least : Nat} {cs gs0 fr0 : List PyData}
theorem side_few (h : cs.length < least) : sideB least (.tuple [.tuple cs, .tuple gs0, .tuple fr0]) = false := side_no fun ts fr gs z => by
  have e := z.eq
  simp only [tstrs, PyData.tuple.injEq, List.cons.injEq] at e
  have := z.many
  rw [e.1, List.length_map] at h
  omega
theorem side_names (h : cs.all isNmB = false) : sideB least (.tuple [.tuple cs, .tuple gs0, .tuple fr0]) = false := side_no fun ts fr gs z => by
  have e := z.eq
  simp only [tstrs, PyData.tuple.injEq, List.cons.injEq] at e
  rw [e.1, List.all_map] at h
  rw [show ts.all (isNmB ∘ PyData.str) = true from List.all_eq_true.mpr fun t ht => z.names t ht] at h
  cases h
theorem side_nodup {ts : List Str} (h : ¬ ts.Nodup) : sideB least (.tuple [tstrs ts, .tuple gs0, .tuple fr0]) = false := side_no fun ts' fr gs z => by
  have e := z.eq
  simp only [tstrs, PyData.tuple.injEq, List.cons.injEq] at e
  rw [map_str_inj e.1] at h
  exact h z.nd
theorem side_groups {c : PyData} (h : gs0.all neT = false) : sideB least (.tuple [c, .tuple gs0, .tuple fr0]) = false := side_no fun ts fr gs z => by
  have e := z.eq
  simp only [tstrs, PyData.tuple.injEq, List.cons.injEq] at e
  rw [e.2.1, List.all_map] at h
  rw [List.all_eq_true.mpr fun g hg => by
    have := z.ne g hg
    show (!(g.map PyData.str).isEmpty) = true
    cases g with
    | nil => exact absurd rfl this
    | cons => rfl] at h
  cases h
theorem side_free {c g : PyData} (h : fr0.all isStrD = false) : sideB least (.tuple [c, g, .tuple fr0]) = false := side_no fun ts fr gs z => by
  have e := z.eq
  simp only [tstrs, PyData.tuple.injEq, List.cons.injEq] at e
  rw [e.2.2.1, List.all_map] at h
  rw [show fr.all (isStrD ∘ PyData.str) = true from List.all_eq_true.mpr fun g hg => rfl] at h
  cases h
theorem side_group {c f : PyData} {ys : List PyData} (hg : PyData.tuple ys ∈ gs0) (h : ys.all isStrD = false) : sideB least (.tuple [c, .tuple gs0, f]) = false := side_no fun ts fr gs z => by
  have e := z.eq
  simp only [tstrs, PyData.tuple.injEq, List.cons.injEq] at e
  rw [e.2.1] at hg
  obtain ⟨g, _, eg⟩ := List.mem_map.mp hg
  simp only [tstrs, PyData.tuple.injEq] at eg
  rw [← eg, List.all_map, show g.all (isStrD ∘ PyData.str) = true from List.all_eq_true.mpr fun g hg => rfl] at h
  cases h
end
theorem side_typed {least : Nat} {ts fr : List Str} {gs : List (List Str)} : SideOk least (.tuple [tstrs ts, .tuple (gs.map tstrs), tstrs fr]) ↔ Side least (.tuple [tstrs ts, .tuple (gs.map tstrs), tstrs fr]) ts fr gs := by
  refine ⟨fun ⟨ts', fr', gs', z⟩ => ?_, fun h => ⟨_, _, _, h⟩⟩
  have e := z.eq
  simp only [PyData.tuple.injEq, List.cons.injEq] at e
  have e1 : ts = ts' := map_str_inj (by have := e.1; simp only [tstrs, PyData.tuple.injEq] at this; exact this)
  have e3 : fr = fr' := map_str_inj (by have := e.2.2.1; simp only [tstrs, PyData.tuple.injEq] at this; exact this)
  have e2 : gs = gs' := map_tstrs_inj e.2.1
  subst e1 e2 e3
  exact z
def natD (n : Nat) : PyData := .int (n : Int)
def sortN (ns : List Nat) : List Nat := ns.mergeSort (PySem.W.dataLe false natD)
theorem sortD_N (ns : List Nat) : sortD (ns.map fun (n : Nat) => PyData.int (n : Int)) = (sortN ns).map fun (n : Nat) => PyData.int (n : Int) := sortD_maps natD ns
theorem sortN_perm (ns : List Nat) : (sortN ns).Perm ns := List.mergeSort_perm _ _
theorem natI_inj {a b : List Nat} (h : (a.map fun (n : Nat) => PyData.int (n : Int)) = b.map fun (n : Nat) => PyData.int (n : Int)) : a = b := List.map_inj_right (f := fun (n : Nat) => PyData.int (n : Int)) (fun _ _ e => by cases e; rfl) |>.mp h
theorem sortN_of {ns es : List Nat} (hp : es.Perm ns) (hs : es.Pairwise (· ≤ ·)) : sortN ns = es := natI_inj ((sortD_N ns).symm.trans (sortD_ints hp hs))
theorem sortN_up (ns : List Nat) : (sortN ns).Pairwise (· ≤ ·) := by
  have h := List.pairwise_mergeSort (le := fun a b : Nat => decide (a ≤ b)) (by simp only [decide_eq_true_eq]; intro a b c; exact Nat.le_trans) (fun a b => by simp only [Bool.or_eq_true, decide_eq_true_eq]; exact Nat.le_total a b) ns
  have e := sortN_of (List.mergeSort_perm ns (fun a b : Nat => decide (a ≤ b))) (h.imp fun z => of_decide_eq_true z)
  rw [e]
  exact h.imp fun z => of_decide_eq_true z
theorem sortN_self {ns : List Nat} : ns = sortN ns ↔ ns.Pairwise (· ≤ ·) := ⟨fun e => by rw [e]; exact sortN_up ns, fun h => (sortN_of (List.Perm.refl _) h).symm⟩
theorem sortS_eq {a b : List Str} : sortS a = sortS b ↔ a.Perm b := by
  constructor
  · intro e
    have h1 : (sortS a).Perm a := List.mergeSort_perm _ _
    have h2 : (sortS b).Perm b := List.mergeSort_perm _ _
    exact h1.symm.trans (e ▸ h2)
  · intro h
    have := sortD_strs h.symm
    rw [sortD_S, sortD_S] at this
    exact map_str_inj this
section
variable {ts : List Str} (nd : ts.Nodup)
include nd
theorem plc_self : plc ts ts = List.range ts.length := by
  unfold plc
  refine List.ext_getElem (by simp) fun i h1 h2 => ?_
  rw [List.getElem_map, List.getElem_range]
  exact nd.idxOf_getElem i (by simpa using h1)
theorem plc_inj {a b : Str} (ha : a ∈ ts) (h : ts.idxOf a = ts.idxOf b) : a = b := by
  have h1 := List.idxOf_lt_length_iff.mpr ha
  have h2 : ts[ts.idxOf a]'h1 = a := List.getElem_idxOf h1
  have h3 : ts.idxOf b < ts.length := h ▸ h1
  have h4 : ts[ts.idxOf b]'h3 = b := List.getElem_idxOf h3
  rw [← h2, ← h4]
  congr 1
theorem plc_nodup {l : List Str} (hl : ∀ c, c ∈ l → c ∈ ts) : (plc ts l).Nodup ↔ l.Nodup := by
  unfold plc
  constructor
  · exact fun h => List.Pairwise.of_map (S := (· ≠ ·)) _ (fun a b ne e => ne (congrArg _ e)) h
  · intro h
    rw [List.nodup_iff_pairwise_ne] at h ⊢
    rw [List.pairwise_map]
    exact h.imp_of_mem fun {a b} ha hb ne e => ne (plc_inj nd (hl a ha) e)
theorem plc_perm {l : List Str} (hl : ∀ c, c ∈ l → c ∈ ts) : (plc ts l).Perm (List.range ts.length) ↔ l.Perm ts := by
  constructor
  · intro h
    have hn : l.Nodup := (plc_nodup nd hl).mp (h.nodup_iff.mpr List.nodup_range)
    refine (List.perm_ext_iff_of_nodup hn nd).mpr fun c => ⟨hl c, fun hc => ?_⟩
    have h1 := List.idxOf_lt_length_iff.mpr hc
    have h2 := h.mem_iff.mpr (List.mem_range.mpr h1)
    obtain ⟨c', hc', e⟩ := List.mem_map.mp h2
    rw [← plc_inj nd (hl c' hc') e]
    exact hc'
  · intro h
    rw [← plc_self nd]
    exact h.map _
end
end DW
namespace DW
open PySem PySem.Spec L2
open PyProof.Rows hiding St
abbrev sp_side64 : DS := fun ds Q => ∃ (d : PyData) (least : Nat), ds = [d, .int (least : Int)] ∧ Whl 60 30 20000 30 d ∧ Q (.bool (sideB least d))
theorem three_at {xs : List PyData} (h : xs.length = 3) : ∃ x y z, xs = [x, y, z] := by
  match xs, h with
  | [x, y, z], _ => exact ⟨x, y, z, rfl⟩
theorem tups3 {a b c : PyData} (h : [a, b, c].all isTup = true) : ∃ cs gs fs, a = .tuple cs ∧ b = .tuple gs ∧ c = .tuple fs := by
  simp only [List.all_cons, List.all_nil, Bool.and_true, Bool.and_eq_true] at h
  cases a <;> first | (cases h.1; done) | skip
  cases b <;> first | (cases h.2.1; done) | skip
  cases c <;> first | (cases h.2.2; done) | skip
  exact ⟨_, _, _, rfl, rfl, rfl⟩
theorem natD_eq {a b : List Nat} {Qb : Bool → Prop} (q : Qb (decide (a = b))) : EqD (.list (a.map fun (n : Nat) => PyData.int (n : Int))) (.list (b.map fun (n : Nat) => PyData.int (n : Int))) Qb := by
  have h := d_eqLI (ns := a.map fun (n : Nat) => (n : Int)) (ms := b.map fun (n : Nat) => (n : Int)) (Qb := Qb)
  rw [List.map_map, List.map_map] at h
  refine h ?_
  rw [show decide ((a.map fun (n : Nat) => (n : Int)) = b.map fun (n : Nat) => (n : Int)) = decide (a = b) from decide_eq_decide.mpr (List.map_inj_right fun _ _ e => Int.ofNat.inj e)]
  exact q
theorem eqv_strs : ∀ (a b : List Str), PyData.eqv (.list (a.map PyData.str)) (.list (b.map PyData.str)) = decide (a = b)
  | [], [] => rfl
  | [], _ :: _ => rfl
  | _ :: _, [] => rfl
  | x :: a, y :: b => by
    have ih := eqv_strs a b
    simp only [PyData.eqv] at ih ⊢
    simp only [List.map_cons, PyData.eqvAll, PyData.eqv, ih]
    by_cases e : x = y
    · subst e; simp
    · simp [e]
theorem strD_eq {a b : List Str} {Qb : Bool → Prop} (ha : ∀ c, c ∈ a → PyData.strOk c = true) (hb : ∀ c, c ∈ b → PyData.strOk c = true) (q : Qb (decide (a = b))) : EqD (.list (a.map PyData.str)) (.list (b.map PyData.str)) Qb := by
  have hf : ∀ l : List Str, (∀ c, c ∈ l → PyData.strOk c = true) → FlatTo 1 (.list (l.map PyData.str)) := fun l ok => .list fun d h => by
    obtain ⟨n, hn, rfl⟩ := List.mem_map.mp h
    exact .str (ok n hn)
  refine d_eqFlat (k := 1) (hf a ha) (hf b hb) (by decide) rfl ?_
  rw [eqv_strs]
  exact q
theorem sm_strOk {s : Str} (h : smB (.str s) = true) : PyData.strOk s = true := by
  simp only [smN, Bool.and_eq_true, decide_eq_true_eq] at h
  exact h.2
theorem d_tixP {ts : List Str} {c : Str} {Q : PyData → Prop} (h : c ∈ ts) (q : Q (.int ((ts.idxOf c : Nat) : Int))) : TIxD ts (.str c) Q := by
  have h1 := List.idxOf_lt_length_iff.mpr h
  refine ⟨c, ts.idxOf c, rfl, ?_, fun m hm e => ?_, q⟩
  · rw [List.getElem?_eq_getElem h1, List.getElem_idxOf h1]
  · have hl : m < ts.length := by omega
    rw [List.getElem?_eq_getElem hl] at e
    have z := List.not_of_lt_findIdx (p := (· == c)) hm
    rw [Option.some.inj e] at z
    simp at z
theorem side_end {least : Nat} {ts fr : List Str} {gs : List (List Str)} (hm : least ≤ ts.length) (hn : ∀ t, t ∈ ts → isNmB (.str t) = true) (nd : ts.Nodup) (ne : ∀ g, g ∈ gs → g ≠ []) (hp : (fr ++ gs.flatten).Perm ts)
    (ha : ∀ l, l ∈ gs ++ [fr] → plc ts l = sortN (plc ts l)) :
    sideB least (.tuple [tstrs ts, .tuple (gs.map tstrs), tstrs fr]) = decide ((gs.map fun g => ts.idxOf (g.headD Str.empty)) = sortN (gs.map fun g => ts.idxOf (g.headD Str.empty))) := by
  refine side_b (side_typed.trans ?_)
  rw [decide_eq_true_eq, sortN_self]
  refine ⟨fun z => z.firsts, fun z => ⟨rfl, hm, hn, nd, ne, hp, fun l hl => ?_, z⟩⟩
  have h1 := sortN_self.mp (ha l hl)
  have hs : l.Sublist (gs ++ [fr]).flatten := List.sublist_flatten_of_mem hl
  have hq : (gs ++ [fr]).flatten.Perm ts := by
    rw [List.flatten_append, List.flatten_singleton]
    exact List.perm_append_comm.trans hp
  have hln : l.Nodup := (hq.nodup_iff.mpr nd).sublist hs
  have h2 := (plc_nodup nd fun c hc => hq.mem_iff.mp (hs.subset hc)).mpr hln
  rw [List.nodup_iff_pairwise_ne] at h2
  exact h1.imp₂ (fun a b h3 h4 => by omega) h2
theorem side_asc {least : Nat} {ts fr : List Str} {gs : List (List Str)} (h : ((gs ++ [fr]).all fun l => decide (plc ts l = sortN (plc ts l))) = false) : sideB least (.tuple [tstrs ts, .tuple (gs.map tstrs), tstrs fr]) = false := side_f fun z => by
  have z := side_typed.mp z
  rw [List.all_eq_true.mpr fun l hl => decide_eq_true (sortN_self.mpr ((z.asc l hl).imp fun e => Nat.le_of_lt e))] at h
  cases h
def inB (ts : List Str) : PyData → Bool
  | .str s => isNmB (.str s) && decide (s ∈ ts)
  | _ => false
theorem in_all {ts : List Str} {xs : List PyData} (h : xs.all (inB ts) = true) : ∃ l : List Str, xs = l.map PyData.str ∧ ∀ c, c ∈ l → c ∈ ts := by
  obtain ⟨l, rfl⟩ := strs_all (xs := xs) (List.all_eq_true.mpr fun x hx => by
    have := List.all_eq_true.mp h x hx
    cases x <;> first | rfl | cases this)
  refine ⟨l, rfl, fun c hc => ?_⟩
  have := List.all_eq_true.mp h _ (List.mem_map.mpr ⟨c, hc, rfl⟩)
  unfold inB at this
  rw [Bool.and_eq_true, decide_eq_true_eq] at this
  exact this.2
theorem side_item {least : Nat} {ts : List Str} {gs0 fr0 ys : List PyData} (hy : PyData.tuple ys ∈ gs0 ++ [.tuple fr0]) (h : ys.all (inB ts) = false) : sideB least (.tuple [tstrs ts, .tuple gs0, .tuple fr0]) = false := side_no fun ts' fr gs z => by
  have e := z.eq
  simp only [tstrs, PyData.tuple.injEq, List.cons.injEq] at e
  obtain ⟨e1, e2, e3, _⟩ := e
  have e1 := map_str_inj e1
  subst e1
  have hl : ∃ l, l ∈ gs ++ [fr] ∧ ys = l.map PyData.str := by
    rcases List.mem_append.mp hy with h1 | h1
    · rw [e2] at h1
      obtain ⟨g, hg, eg⟩ := List.mem_map.mp h1
      simp only [tstrs, PyData.tuple.injEq] at eg
      exact ⟨g, List.mem_append_left _ hg, eg.symm⟩
    · have := List.mem_singleton.mp h1
      injection this with this
      exact ⟨fr, List.mem_append_right _ List.mem_cons_self, this.trans e3⟩
  obtain ⟨l, hl, rfl⟩ := hl
  rw [List.all_eq_true.mpr] at h
  · cases h
  · intro x hx
    obtain ⟨c, hc, rfl⟩ := List.mem_map.mp hx
    have hct : c ∈ ts := z.perm.mem_iff.mp (by
      rcases List.mem_append.mp hl with h1 | h1
      · exact List.mem_append_right _ (List.mem_flatten.mpr ⟨l, h1, hc⟩)
      · rw [List.mem_singleton.mp h1] at hc
        exact List.mem_append_left _ hc)
    show (isNmB (.str c) && decide (c ∈ ts)) = true
    rw [z.names c hct, decide_eq_true hct]
    rfl
def plcI (ts l : List Str) : List Int := (plc ts l).map fun (n : Nat) => (n : Int)
theorem plcI_d (ts l : List Str) : (l.map fun c => PyData.int ((ts.idxOf c : Nat) : Int)) = (plcI ts l).map PyData.int := by
  unfold plcI plc
  rw [List.map_map, List.map_map]
  rfl
theorem plcI_rise {ts l : List Str} : riseI (plcI ts l) = true ↔ (plc ts l).Pairwise (· < ·) := by
  rw [rise_pw]
  unfold plcI
  rw [List.pairwise_map]
  exact ⟨fun h => h.imp fun h => by omega, fun h => h.imp fun h => by omega⟩
theorem side_lot {least : Nat} {ts l : List Str} {gs0 fr0 : List PyData} (hy : PyData.tuple (l.map PyData.str) ∈ gs0 ++ [.tuple fr0]) (h : riseI (plcI ts l) = false) : sideB least (.tuple [tstrs ts, .tuple gs0, .tuple fr0]) = false := side_no fun ts' fr gs z => by
  have e := z.eq
  simp only [tstrs, PyData.tuple.injEq, List.cons.injEq] at e
  obtain ⟨e1, e2, e3, _⟩ := e
  have e1 := map_str_inj e1
  subst e1
  have hl : l ∈ gs ++ [fr] := by
    rcases List.mem_append.mp hy with h1 | h1
    · rw [e2] at h1
      obtain ⟨g, hg, eg⟩ := List.mem_map.mp h1
      simp only [tstrs, PyData.tuple.injEq] at eg
      rw [← map_str_inj eg]
      exact List.mem_append_left _ hg
    · have := List.mem_singleton.mp h1
      injection this with this
      rw [map_str_inj (this.trans e3)]
      exact List.mem_append_right _ List.mem_cons_self
  rw [plcI_rise.mpr (z.asc l hl)] at h
  cases h
theorem side_end2 {least : Nat} {ts fr : List Str} {gs : List (List Str)} (hm : least ≤ ts.length) (hn : ∀ t, t ∈ ts → isNmB (.str t) = true) (nd : ts.Nodup) (ne : ∀ g, g ∈ gs → g ≠ []) (hi : ∀ l, l ∈ gs ++ [fr] → (∀ c, c ∈ l → c ∈ ts) ∧ (plc ts l).Pairwise (· < ·)) :
    sideB least (.tuple [tstrs ts, .tuple (gs.map tstrs), tstrs fr]) = (decide ((gs.map fun g => ts.idxOf (g.headD Str.empty)) = sortN (gs.map fun g => ts.idxOf (g.headD Str.empty))) && decide (sortN ((gs ++ [fr]).flatMap (plc ts)) = List.range ts.length)) := by
  refine side_b (side_typed.trans ?_)
  rw [Bool.and_eq_true, decide_eq_true_eq, decide_eq_true_eq, sortN_self]
  have ef : (gs ++ [fr]).flatMap (plc ts) = plc ts (gs ++ [fr]).flatten := by
    unfold plc
    rw [List.map_flatten, List.flatMap_def]
  have hin : ∀ c, c ∈ (gs ++ [fr]).flatten → c ∈ ts := fun c hc => by
    obtain ⟨l, hl, hc⟩ := List.mem_flatten.mp hc
    exact (hi l hl).1 c hc
  have hiff : sortN ((gs ++ [fr]).flatMap (plc ts)) = List.range ts.length ↔ (fr ++ gs.flatten).Perm ts := by
    have e3 : (gs ++ [fr]).flatten = gs.flatten ++ fr := by rw [List.flatten_append, List.flatten_singleton]
    constructor
    · intro e
      have h1 : (plc ts (gs ++ [fr]).flatten).Perm (List.range ts.length) := by
        rw [← ef, ← e]
        exact (sortN_perm _).symm
      have h2 := (plc_perm nd hin).mp h1
      rw [e3] at h2
      exact List.perm_append_comm.trans h2
    · intro h
      refine sortN_of ?_ (List.pairwise_lt_range.imp fun h => Nat.le_of_lt h)
      rw [ef]
      refine ((plc_perm nd hin).mpr ?_).symm
      rw [e3]
      exact List.perm_append_comm.trans h
  rw [hiff]
  exact ⟨fun z => ⟨z.firsts, z.perm⟩, fun ⟨z1, z2⟩ => ⟨rfl, hm, hn, nd, ne, z2, fun l hl => (hi l hl).2, z1⟩⟩
theorem in_no {ts : List Str} {x : PyData} (h : isNmB x = false) : inB ts x = false := by
  cases x with
  | str s => show (isNmB (.str s) && _) = false; rw [h]; rfl
  | _ => rfl
theorem snoc_map {gss : List (List PyData)} {fr0 : List PyData} {ls : List (List Str)} (h : gss ++ [fr0] = ls.map (fun g => g.map PyData.str)) : ∃ gs fr, ls = gs ++ [fr] ∧ gss = gs.map (fun g => g.map PyData.str) ∧ fr0 = fr.map PyData.str := by
  rcases List.eq_nil_or_concat ls with rfl | ⟨gs, fr, rfl⟩
  · simp at h
  · rw [List.concat_eq_append, List.map_append, List.map_singleton] at h
    obtain ⟨h1, h2⟩ := List.append_inj' h rfl
    injection h2 with h2
    exact ⟨gs, fr, by rw [List.concat_eq_append], h1, h2⟩
theorem lotsLen {ts l : List Str} {ls : List (List Str)} : ((ls ++ [l]).flatMap (plc ts)).length = (ls.flatMap (plc ts)).length + (plc ts l).length := by
  rw [List.flatMap_append, List.length_append]
  simp
end DW
namespace DW
open PySem PySem.Spec L2
open PyProof.Rows hiding St
def cellsN : PyData → Nat
  | .tuple (.tuple cs :: _) => cs.length
  | _ => 0
def rulesB (h r : Nat) : PyData → Bool
  | .tuple rs => rs.all (ruleB h r)
  | _ => false
noncomputable def schB : PyData → Bool
  | .tuple [.str w, h, r, rs] => decide (w ∈ (["usual", "strict"] : List Str)) && (sideB 0 h && (sideB 1 r && rulesB (cellsN h) (cellsN r) rs))
  | _ => false
abbrev sp_scheme64 : DS := fun ds Q => ∃ d : PyData, ds = [d] ∧ Whl 60 30 20000 30 d ∧ Q (.bool (schB d))
theorem four_at {xs : List PyData} (h : xs.length = 4) : ∃ x y z u, xs = [x, y, z, u] := by
  match xs, h with
  | [x, y, z, u], _ => exact ⟨x, y, z, u, rfl⟩
theorem sch_len {xs : List PyData} (h : ¬ xs.length = 4) : schB (.tuple xs) = false := by
  unfold schB
  split
  · rename_i e
    cases e
    exact absurd rfl h
  · rfl
theorem sch_way {x y z u : PyData} (h : ∀ s, x ≠ .str s) : schB (.tuple [x, y, z, u]) = false := by
  unfold schB
  split
  · rename_i e
    cases e
    exact absurd rfl (h _)
  · rfl
theorem sch_at (w : Str) (h r rs : PyData) : schB (.tuple [.str w, h, r, rs]) = (decide (w ∈ (["usual", "strict"] : List Str)) && (sideB 0 h && (sideB 1 r && rulesB (cellsN h) (cellsN r) rs))) := rfl
theorem side_shape {least : Nat} {d : PyData} (h : sideB least d = true) : ∃ hs t, d = .tuple (.tuple hs :: t) := by
  have : SideOk least d := @of_decide_eq_true _ (Classical.propDecidable _) h
  obtain ⟨ts, fr, gs, z⟩ := this
  exact ⟨_, _, z.eq⟩
end DW
namespace DW
open PySem PySem.Spec L2
open PyProof.Rows hiding St
abbrev sp_some64 : DS := fun ds Q => ∃ xs : List PyData, (ds = [.list xs] ∨ ds = [.tuple xs]) ∧ xs ≠ [] ∧ xs.length ≤ 1000 ∧ ∀ x, x ∈ xs → Q x
def odd64 : List PyData := [.none, .bool true, .int 0, .int (-1), .int (10 ^ 39), .str "", .str "a", .str "x", .str "usual", .str "row", .str "<=", .tuple [], .list [], .dict [], .tuple [.int 0], .tuple [.int 0, .int 1], .tuple [.str "x"],
  .tuple [.tuple [.str "x"]], .tuple [.tuple [.int 0, .int 1]], .tuple [.tuple [], .tuple []], .tuple [.tuple [], .tuple [], .tuple []], .tuple [.int 1, .int 1], .tuple [.int 2, .int 2], .tuple [.int 0, .int (-1)], .tuple [.str "row", .str "=", .tuple [.int 1]],
  .dict [(.str "a", .int 0)], .tuple [.bool true], .str "A"]
def whlB (k n w : Nat) (d : PyData) : Bool := smN 50 d && (decide (d.depth ≤ k) && (decide (wt d ≤ n) && decide (wid d ≤ w)))
theorem whl_of {k n w : Nat} {d : PyData} (h : whlB k n w d = true) : Whl 50 k n w d := by
  unfold whlB at h
  simp only [Bool.and_eq_true, decide_eq_true_eq] at h
  exact ⟨h.1, h.2.1, h.2.2.1, h.2.2.2⟩
theorem odd64_ok : odd64.all (whlB 2 300 3) = true := by decide +kernel
theorem odd64_whl {d : PyData} (h : d ∈ odd64) : Whl 50 2 300 3 d := whl_of (List.all_eq_true.mp odd64_ok d h)
abbrev sp_odd64 : DS := fun ds Q => ds = [] ∧ ∀ d, d ∈ odd64 → Q d
abbrev sp_numbers64 : DS := fun ds Q => ∃ m : Nat, ds = [.int (m : Int)] ∧ m ≤ 3 ∧ ∀ ns : List Int, ns.length = m → (∀ n, n ∈ ns → -1 ≤ n ∧ n ≤ 2) → Q (tupI ns)
abbrev sp_tcells64 : DS := fun ds Q => ∃ m : Nat, ds = [.int (m : Int)] ∧ m ≤ 3 ∧ ∀ ps : List Rat, ps.length = m → VB 4 ps → Q (vec ps)
theorem ints_in {a b : Int} : ∀ {ys : List PyData}, (∀ y, y ∈ ys → ∃ n : Int, (a ≤ n ∧ n ≤ b) ∧ y = .int n) → ∃ ns : List Int, ys = ns.map PyData.int ∧ ∀ n, n ∈ ns → a ≤ n ∧ n ≤ b
  | [], _ => ⟨[], rfl, fun _ h => nomatch h⟩
  | y :: ys, h => by
    obtain ⟨n, hn, rfl⟩ := h y List.mem_cons_self
    obtain ⟨ns, rfl, hns⟩ := ints_in fun z hz => h z (List.mem_cons_of_mem _ hz)
    refine ⟨n :: ns, rfl, fun m hm => ?_⟩
    rcases List.mem_cons.mp hm with rfl | hm
    · exact hn
    · exact hns m hm
end DW
namespace DW
open PySem PySem.Spec L2
open PyProof.Rows hiding St
def shNames : List Str := ["cap", "due", "top", "x", "y"]
structure ShpOk (c : Nat) (ts fr : List Str) (gs : List (List Str)) : Prop where
  len : ts.length = c
  c3 : c ≤ 3
  tin : ∀ t, t ∈ ts → t ∈ shNames
  gl : gs.length ≤ 3
  gin : ∀ g, g ∈ gs → g.length ≤ 3 ∧ ∀ t, t ∈ g → t ∈ ts
  fl : fr.length ≤ 3
  fin : ∀ t, t ∈ fr → t ∈ ts
abbrev shD (ts fr : List Str) (gs : List (List Str)) : PyData := .tuple [tstrs ts, .tuple (gs.map tstrs), tstrs fr]
def strB (t : Str) : Bool := smB (.str t) && decide ((reprText t).length ≤ 70)
theorem shNames_ok : shNames.all strB = true := by decide +kernel
theorem sh_sm {t : Str} (h : t ∈ shNames) : strB t = true := List.all_eq_true.mp shNames_ok t h
theorem wts_all {n : Nat} {xs : List PyData} (h : ∀ x, x ∈ xs → wt x ≤ n) {L : Nat} (hl : xs.length ≤ L) : wts xs ≤ (n + 2) * L := Nat.le_trans (wts_le h) (Nat.mul_le_mul_left _ hl)
theorem whl_tuple {k n w L : Nat} {xs : List PyData} (h : ∀ x, x ∈ xs → Whl 50 k n w x) (hl : xs.length ≤ L) (hw : L ≤ w) : Whl 50 (k + 1) ((n + 2) * L + 3) w (.tuple xs) :=
  any_tuple (fun x hx => ⟨(h x hx).sm, (h x hx).dep, (h x hx).wid⟩) (by have := wts_all (fun x hx => (h x hx).wt) hl; omega) (Nat.le_trans hl hw)
theorem whl_str {t : Str} (h : strB t = true) {w : Nat} : Whl 50 0 70 w (.str t) := by
  unfold strB at h
  rw [Bool.and_eq_true, decide_eq_true_eq] at h
  exact ⟨by have := h.1; simp only [smN] at this ⊢; exact this, by simp [PyData.depth], by simp only [wt]; exact h.2, by simp [wid]⟩
theorem whl_int {i : Int} (h : i.natAbs < 10 ^ 50) {w : Nat} : Whl 50 0 70 w (.int i) := ⟨by simp only [smN]; exact decide_eq_true h, by simp [PyData.depth], by simp [wt], by simp [wid]⟩
theorem whl_strs {ts : List Str} {L w : Nat} (h : ∀ t, t ∈ ts → strB t = true) (hl : ts.length ≤ L) (hw : L ≤ w) : Whl 50 1 (72 * L + 3) w (tstrs ts) :=
  whl_tuple (fun x hx => by
    obtain ⟨t, ht, rfl⟩ := List.mem_map.mp hx
    exact whl_str (h t ht)) (by rw [List.length_map]; exact hl) hw
theorem ShpOk.whl {c : Nat} {ts fr : List Str} {gs : List (List Str)} (o : ShpOk c ts fr gs) : Whl 50 3 2007 3 (shD ts fr gs) := by
  have h1 : Whl 50 1 219 3 (tstrs ts) := whl_strs (L := 3) (fun t ht => sh_sm (o.tin t ht)) (by rw [o.len]; exact o.c3) (by decide)
  have h2 : Whl 50 1 219 3 (tstrs fr) := whl_strs (L := 3) (fun t ht => sh_sm (o.tin t (o.fin t ht))) o.fl (by decide)
  have h3 : Whl 50 2 666 3 (.tuple (gs.map tstrs)) := whl_tuple (n := 219) (L := 3) (fun x hx => by
    obtain ⟨g, hg, rfl⟩ := List.mem_map.mp hx
    exact whl_strs (L := 3) (fun t ht => sh_sm (o.tin t ((o.gin g hg).2 t ht))) (o.gin g hg).1 (by decide)) (by rw [List.length_map]; exact o.gl) (by decide)
  refine whl_tuple (n := 666) (L := 3) (fun x hx => ?_) (by simp) (by decide)
  simp only [List.mem_cons, List.not_mem_nil, or_false] at hx
  rcases hx with rfl | rfl | rfl
  · exact h1.up (by decide) (by decide) (by decide)
  · exact h3
  · exact h2.up (by decide) (by decide) (by decide)
theorem whl_tupI {ns : List Int} {L w : Nat} (h : ∀ n, n ∈ ns → n.natAbs < 10 ^ 50) (hl : ns.length ≤ L) (hw : L ≤ w) : Whl 50 1 (72 * L + 3) w (tupI ns) :=
  whl_tuple (fun x hx => by
    obtain ⟨t, ht, rfl⟩ := List.mem_map.mp hx
    exact whl_int (h t ht)) (by rw [List.length_map]; exact hl) hw
theorem whl_fr {q : Rat} (h : RB 4 q) {w : Nat} (hw : 2 ≤ w) : Whl 50 1 147 w (fr q) := by
  refine whl_tuple (n := 70) (L := 2) (fun x hx => ?_) (by simp) hw
  simp only [List.mem_cons, List.not_mem_nil, or_false] at hx
  have h1 : q.num.natAbs < 2 ^ 4 := h.1
  have h2 : ((q.den : Int)).natAbs < 2 ^ 4 := h.2
  rcases hx with rfl | rfl
  · exact whl_int (Nat.lt_trans h1 (by decide))
  · exact whl_int (Nat.lt_trans h2 (by decide))
theorem whl_vec {ps : List Rat} (h : VB 4 ps) (hl : ps.length ≤ 3) {w : Nat} (hw : 3 ≤ w) : Whl 50 2 450 w (vec ps) :=
  whl_tuple (n := 147) (L := 3) (fun x hx => by
    obtain ⟨t, ht, rfl⟩ := List.mem_map.mp hx
    exact whl_fr (h t ht) (by omega)) (by rw [List.length_map]; exact hl) hw
abbrev sp_shape64 : DS := fun ds Q => ∃ (ns : List Str) (c m : Nat), ds = [.list (ns.map PyData.str), .int (c : Int), .int (m : Int)] ∧ ns.length = 3 ∧ (∀ n, n ∈ ns → n ∈ shNames) ∧ c ≤ 3 ∧ 1 ≤ m ∧ m ≤ 3 ∧ ∀ ts fr gs, ShpOk c ts fr gs → Q (shD ts fr gs)
abbrev sp_lscheme64 : DS := fun ds Q => ds = [.int 3, .int 3, .int 3] ∧ ∀ (w : Str) (c : Nat) (ts fr : List Str) (gs : List (List Str)) (c' : Nat) (ts' fr' : List Str) (gs' : List (List Str)) (rs : List PyData), w ∈ (["usual", "strict"] : List Str) → ShpOk c ts fr gs → ShpOk c' ts' fr' gs' → (∀ x, x ∈ rs → Whl 50 2 1118 5 x) → rs.length ≤ 4 → Q (.tuple [.str w, shD ts fr gs, shD ts' fr' gs', .tuple rs])
abbrev sp_anytable64 : DS := fun ds Q => ∃ (w r : PyData) (ts fr : List Str) (gs : List (List Str)) (ts' fr' : List Str) (gs' : List (List Str)) (m : Nat), ds = [.tuple [w, shD ts fr gs, shD ts' fr' gs', r], .int (m : Int)] ∧ ts.length ≤ 3 ∧ ts'.length ≤ 3 ∧ m ≤ 4 ∧ ∀ d, Whl 50 4 4000 5 d → Q d
abbrev sp_reworded64 : DS := fun ds Q => ∃ (c : Nat) (ts fr : List Str) (gs : List (List Str)), ds = [shD ts fr gs] ∧ ShpOk c ts fr gs ∧ ∀ d, Whl 50 4 4000 6 d → Q d
theorem vecs_in {m : Nat} : ∀ {ys : List PyData}, (∀ y, y ∈ ys → ∃ ps : List Rat, (ps.length = m ∧ VB 4 ps) ∧ y = vec ps) → ∃ pss : List (List Rat), ys = pss.map vec ∧ ∀ p, p ∈ pss → p.length = m ∧ VB 4 p
  | [], _ => ⟨[], rfl, fun _ h => nomatch h⟩
  | y :: ys, h => by
    obtain ⟨n, hn, rfl⟩ := h y List.mem_cons_self
    obtain ⟨ns, rfl, hns⟩ := vecs_in fun z hz => h z (List.mem_cons_of_mem _ hz)
    refine ⟨n :: ns, rfl, fun m hm => ?_⟩
    rcases List.mem_cons.mp hm with rfl | hm
    · exact hn
    · exact hns m hm
theorem whl_table {ps : List Rat} {pss : List (List Rat)} {n : Nat} (h1 : ps.length ≤ 3) (h2 : VB 4 ps) (h3 : ∀ p, p ∈ pss → p.length = n ∧ VB 4 p) (h4 : n ≤ 3) (h5 : pss.length ≤ 4) : Whl 50 4 4000 5 (.tuple [vec ps, .tuple (pss.map vec)]) := by
  have hr : Whl 50 3 1811 5 (.tuple (pss.map vec)) := whl_tuple (n := 450) (L := 4) (fun x hx => by
    obtain ⟨t, ht, rfl⟩ := List.mem_map.mp hx
    exact whl_vec (h3 t ht).2 (by rw [(h3 t ht).1]; exact h4) (by decide)) (by rw [List.length_map]; exact h5) (by decide)
  refine (whl_tuple (k := 3) (n := 1811) (L := 2) (w := 5) (fun x hx => ?_) (by simp) (by decide)).up (by decide) (by decide) (by decide)
  simp only [List.mem_cons, List.not_mem_nil, or_false] at hx
  rcases hx with rfl | rfl
  · exact (whl_vec (w := 5) h2 h1 (by decide)).up (by decide) (by decide) (by decide)
  · exact hr
theorem whl_rule {xs : List PyData} (h : ∀ x, x ∈ xs → Whl 50 1 221 5 x) (hl : xs.length ≤ 5) : Whl 50 2 1118 5 (.tuple xs) := whl_tuple (n := 221) (L := 5) h hl (by decide)
theorem whl_w {t : Str} (h : strB t = true) : Whl 50 1 221 5 (.str t) := (whl_str h).up (by decide) (by decide) (Nat.le_refl 5)
theorem whl_i {i : Int} (h : i.natAbs < 10 ^ 50) : Whl 50 1 221 5 (.int i) := (whl_int h).up (by decide) (by decide) (Nat.le_refl 5)
theorem whl_n {ns : List Int} {m : Nat} (h : ∀ n, n ∈ ns → -1 ≤ n ∧ n ≤ 2) (hl : ns.length = m) (hm : m ≤ 3) : Whl 50 1 221 5 (tupI ns) := (whl_tupI (L := 3) (w := 5) (fun n hn => by have := h n hn; omega) (by omega) (by decide)).up (by decide) (by decide) (by decide)
theorem whl_r4 {a b : Str} {x y : PyData} (ha : strB a = true) (hb : strB b = true) (hx : Whl 50 1 221 5 x) (hy : Whl 50 1 221 5 y) : Whl 50 2 1118 5 (.tuple [.str a, .str b, x, y]) := whl_rule (fun z hz => by
  simp only [List.mem_cons, List.not_mem_nil, or_false] at hz
  rcases hz with rfl | rfl | rfl | rfl
  · exact whl_w ha
  · exact whl_w hb
  · exact hx
  · exact hy) (by simp)
theorem whl_r3 {a b : Str} {x : PyData} (ha : strB a = true) (hb : strB b = true) (hx : Whl 50 1 221 5 x) : Whl 50 2 1118 5 (.tuple [.str a, .str b, x]) := whl_rule (fun z hz => by
  simp only [List.mem_cons, List.not_mem_nil, or_false] at hz
  rcases hz with rfl | rfl | rfl
  · exact whl_w ha
  · exact whl_w hb
  · exact hx) (by simp)
theorem whl_r5 {a b : Str} {x y z : PyData} (ha : strB a = true) (hb : strB b = true) (hx : Whl 50 1 221 5 x) (hy : Whl 50 1 221 5 y) (hz : Whl 50 1 221 5 z) : Whl 50 2 1118 5 (.tuple [.str a, .str b, x, y, z]) := whl_rule (fun u hu => by
  simp only [List.mem_cons, List.not_mem_nil, or_false] at hu
  rcases hu with rfl | rfl | rfl | rfl | rfl
  · exact whl_w ha
  · exact whl_w hb
  · exact hx
  · exact hy
  · exact hz) (by simp)
end DW
namespace DW
open PySem PySem.Spec L2
open PyProof.Rows hiding St
section
variable {G : Gd} {M : Nm} {F : Fx} {Γ : List Bd} {D : DE} {pos : Pos} {a b c : Expr}
theorem w1_par3IIO (i j l : Nat) {x y z : Str} {px py pz pt pt2 : Pos} {kt k2} (hx : Lcl M i x) (hy : Lcl M j y) (hz : Lcl M l z) (hij : i ≠ j) (hil : i ≠ l) (hjl : j ≠ l) (h : WE G M F a Γ fun d => WE G M F b Γ fun d' => WF G M F c Γ fun es => D.nx (((Γ.set i (Bd.im d)).set j (Bd.im d')).set l (Bd.mu es)))
    (hs1 : noStar [a, b, c] = true := by rfl) (hf : [a, b, c].all (foldedForSure 8) = false := by rfl) (hc : [a, b, c].all (constantsAlone 8) = false := by rfl) (hln : (py.line == px.line && pz.line == px.line) = true := by rfl) (hxy : x ≠ y := by decide) (hxz : x ≠ z := by decide) (hyz : y ≠ z := by decide)
    (hs : ∀ env, swapsWithSole [.Tuple [.Name x px, .Name y py, .Name z pz] kt pt] (.Tuple [a, b, c] k2 pt2) pos.line env = pure false := by intro _; rfl)
    (ht1 : ∀ env, starEach [a, b, c] env = (false, eval a env) :: starEach [b, c] env := by intro _; rfl) (ht2 : ∀ env, starEach [b, c] env = (false, eval b env) :: starEach [c] env := by intro _; rfl) (ht3 : ∀ env, starEach [c] env = [(false, eval c env)] := by intro _; rfl) :
    W1 G M F (.Assign [.Tuple [.Name x px, .Name y py, .Name z pz] kt pt] (.Tuple [a, b, c] k2 pt2) pos) Γ D := by
  refine ⟨fun hΓ X gd σ H S hl' g pins s I => ?_⟩
  refine (tWs.of (ps_par3 gd.calm gd.nd (gd.at hx.1) (gd.at hy.1) (gd.at hz.1) hij hil hjl (gd.lcl hx) (gd.lcl hy) (gd.lcl hz) (pa_cons (pe_w a) (pa_cons (pe_w b) (pa_cons (pe_w c) pa_nil (ht3 X.env)) (ht2 X.env)) (ht1 X.env)) (swap3 I.ok.kind (gd.lcl hx) (gd.lcl hy) (gd.lcl hz) hs1 hf hc hln hxy hxz hyz) (hs X.env)) ?_) pins s I
  refine (h.run X gd σ H S hl' g).mono fun v1 H1 ⟨S1, d, g1, e1, k1, hd, q⟩ => ?_
  refine (q.run X gd σ H1 S1 hl' g1).mono fun v2 H2 ⟨S2, d', g2, e2, k2, hd', q⟩ => ?_
  refine (q.run X gd σ H2 S2 hl' g2).mono fun v3 H3 ⟨S3, t, xs, es, e0, hp, r1, r2, r3, r5, g3, e3, k3, he, q⟩ => ?_
  subst e0
  have g4 := g3.store (hΓ.trans hl'.symm) (i := i) (dp_mono (e2.trans e3) hd)
  have g5 := g4.store (by simp [hΓ, hl']) (i := j) (dp_mono e3 hd')
  have g6 := g5.storeMu (by simp [hΓ, hl']) (i := l) r1 r2 r3 he fun m fs hm' w => by
    rcases get_set hm' with ⟨_, w', _⟩ | ⟨nm, q'⟩
    · cases w'
    · rw [List.getElem?_set_ne (Ne.symm nm)] at w
      rcases get_set q' with ⟨_, w', _⟩ | ⟨nm', q''⟩
      · cases w'
      · rw [List.getElem?_set_ne (Ne.symm nm')] at w
        exact r5 m fs q'' w
  exact ⟨_, _, _, rfl, _, S3, by simp [hl'], by simp [hΓ], g6, e1.trans (e2.trans e3), q⟩
theorem w1_par3IOO (i j l : Nat) {x y z : Str} {px py pz pt pt2 : Pos} {kt k2} (hx : Lcl M i x) (hy : Lcl M j y) (hz : Lcl M l z) (hij : i ≠ j) (hil : i ≠ l) (hjl : j ≠ l) (h : WE G M F a Γ fun d => WF G M F b Γ fun es => WF G M F c Γ fun fs => D.nx (((Γ.set i (Bd.im d)).set j (Bd.mu es)).set l (Bd.mu fs)))
    (hs1 : noStar [a, b, c] = true := by rfl) (hf : [a, b, c].all (foldedForSure 8) = false := by rfl) (hc : [a, b, c].all (constantsAlone 8) = false := by rfl) (hln : (py.line == px.line && pz.line == px.line) = true := by rfl) (hxy : x ≠ y := by decide) (hxz : x ≠ z := by decide) (hyz : y ≠ z := by decide)
    (hs : ∀ env, swapsWithSole [.Tuple [.Name x px, .Name y py, .Name z pz] kt pt] (.Tuple [a, b, c] k2 pt2) pos.line env = pure false := by intro _; rfl)
    (ht1 : ∀ env, starEach [a, b, c] env = (false, eval a env) :: starEach [b, c] env := by intro _; rfl) (ht2 : ∀ env, starEach [b, c] env = (false, eval b env) :: starEach [c] env := by intro _; rfl) (ht3 : ∀ env, starEach [c] env = [(false, eval c env)] := by intro _; rfl) :
    W1 G M F (.Assign [.Tuple [.Name x px, .Name y py, .Name z pz] kt pt] (.Tuple [a, b, c] k2 pt2) pos) Γ D := by
  refine ⟨fun hΓ X gd σ H S hl' g pins s I => ?_⟩
  refine (tWs.of (ps_par3 gd.calm gd.nd (gd.at hx.1) (gd.at hy.1) (gd.at hz.1) hij hil hjl (gd.lcl hx) (gd.lcl hy) (gd.lcl hz) (pa_cons (pe_w a) (pa_cons (pe_w b) (pa_cons (pe_w c) pa_nil (ht3 X.env)) (ht2 X.env)) (ht1 X.env)) (swap3 I.ok.kind (gd.lcl hx) (gd.lcl hy) (gd.lcl hz) hs1 hf hc hln hxy hxz hyz) (hs X.env)) ?_) pins s I
  refine (h.run X gd σ H S hl' g).mono fun v1 H1 ⟨S1, d, g1, e1, k1, hd, q⟩ => ?_
  refine (q.run X gd σ H1 S1 hl' g1).mono fun v2 H2 ⟨S2, t, xs, es, e0, hp, r1, r2, r3, r5, g2, e2, k2, he, q⟩ => ?_
  subst e0
  refine (q.run X gd σ H2 S2 hl' g2).mono fun v3 H3 ⟨S3, t', ys, fs, e0, hp', r1', r2', r3', r5', g3, e3, k3, he', q⟩ => ?_
  subst e0
  have keep : H3 t = some (.lst xs) := k3.kp _ _ r1 (g1.nb hp) (.inr nt_lst)
  have ne : t ≠ t' := fun z => by rw [z, hp'] at r1; cases r1
  have none3 : S3 t = none := by
    cases z : S3 t with
    | none => rfl
    | some o =>
      rcases k3.nw t o z with ⟨u, w⟩ | w
      · rw [r2] at w; cases w
      · rw [r1] at w; cases w
  have g4 := g3.store (hΓ.trans hl'.symm) (i := i) (dp_mono (e2.trans e3) hd)
  have g5 := g4.storeMu (by simp [hΓ, hl']) (i := j) keep none3 r3 (dpa_mono e3 he) fun m fs hm' w => by
    rcases get_set hm' with ⟨_, w', _⟩ | ⟨nm, q'⟩
    · cases w'
    · rw [List.getElem?_set_ne (Ne.symm nm)] at w
      exact r5 m fs q' w
  have g6 := g5.storeMu (by simp [hΓ, hl']) (i := l) r1' r2' r3' he' fun m fs hm' w => by
    rcases get_set hm' with ⟨e, _, _⟩ | ⟨nm, q'⟩
    · subst e
      have hi : m < (σ.set i (some v1)).length := by
        have := (List.getElem?_eq_some_iff.mp hm').1
        simp only [List.length_set] at this ⊢
        omega
      rw [List.getElem?_set_self hi] at w
      exact ne (V.ref.inj (Option.some.inj (Option.some.inj w)))
    · rw [List.getElem?_set_ne (Ne.symm nm)] at w
      rcases get_set q' with ⟨_, w', _⟩ | ⟨nm', q''⟩
      · cases w'
      · rw [List.getElem?_set_ne (Ne.symm nm')] at w
        exact r5' m fs q'' w
  exact ⟨_, _, _, rfl, _, S3, by simp [hl'], by simp [hΓ], g6, e1.trans (e2.trans e3), q⟩
end
end DW
namespace DW
open PySem PySem.Spec L2
open PyProof.Rows hiding St
theorem ShpOk.w1 {c : Nat} {ts fr : List Str} {gs : List (List Str)} (o : ShpOk c ts fr gs) {w : Nat} (hw : 3 ≤ w) : Whl 50 1 219 w (tstrs ts) := whl_strs (L := 3) (fun t ht => sh_sm (o.tin t ht)) (by rw [o.len]; exact o.c3) hw
theorem ShpOk.w2 {c : Nat} {ts fr : List Str} {gs : List (List Str)} (o : ShpOk c ts fr gs) {w : Nat} (hw : 3 ≤ w) : Whl 50 1 219 w (tstrs fr) := whl_strs (L := 3) (fun t ht => sh_sm (o.tin t (o.fin t ht))) o.fl hw
theorem ShpOk.wg {c : Nat} {ts fr : List Str} {gs : List (List Str)} (o : ShpOk c ts fr gs) {g : List Str} (hg : g ∈ gs) {w : Nat} (hw : 3 ≤ w) : Whl 50 1 219 w (tstrs g) := whl_strs (L := 3) (fun t ht => sh_sm (o.tin t ((o.gin g hg).2 t ht))) (o.gin g hg).1 hw
theorem whl_3 {k n w : Nat} {a b c : PyData} (ha : Whl 50 k n w a) (hb : Whl 50 k n w b) (hc : Whl 50 k n w c) (hw : 3 ≤ w) : Whl 50 (k + 1) ((n + 2) * 3 + 3) w (.tuple [a, b, c]) := whl_tuple (L := 3) (fun x hx => by
  simp only [List.mem_cons, List.not_mem_nil, or_false] at hx
  rcases hx with rfl | rfl | rfl
  · exact ha
  · exact hb
  · exact hc) (by simp) hw
theorem whl_nil {k n w : Nat} (hk : 1 ≤ k) (hn : 3 ≤ n) : Whl 50 k n w (.tuple []) := ⟨by simp [smN, smNs], by simp [PyData.depth, PyData.depthAll]; omega, by simp [wt, wts]; omega, by simp [wid, wids]⟩
def rwd (one : Str) (word : PyData) (l : List Str) : PyData := .tuple (l.map fun c => if c = one then word else .str c)
theorem whl_rwd {one : Str} {word : PyData} {l : List Str} (hw : Whl 50 0 70 6 word) (hs : ∀ t, t ∈ l → strB t = true) (hl : l.length ≤ 3) : Whl 50 1 219 6 (rwd one word l) := whl_tuple (n := 70) (L := 3) (fun x hx => by
  obtain ⟨c, hc, rfl⟩ := List.mem_map.mp hx
  split
  · exact hw
  · exact whl_str (hs c hc)) (by rw [List.length_map]; exact hl) (by decide)
def words64 : List PyData := [.str "x1", .str "A", .str "a_b", .none, .str "abcdefghijklm", .str "", .str "abcdefghijkl", .str "zz", .int 5, .str "a ", .bool true, .str "sum"]
theorem words64_ok : words64.all (whlB 0 70 6) = true := by decide +kernel
theorem cut1 (xs : List PyData) : cutD xs none (some 1) = xs.take 1 := cutD_to xs 1
theorem rw_menu {c : Nat} {ts fr : List Str} {gs : List (List Str)} (o : ShpOk c ts fr gs) : ∀ d, d ∈ [PyData.tuple [.tuple [], .tuple [], .tuple []], .tuple [tstrs ts, .tuple (gs.map tstrs ++ [.tuple []]), tstrs fr], .tuple [tstrs ts, .tuple (gs.map tstrs), .tuple (fr.map PyData.str ++ cutD (ts.map PyData.str) none (some 1))]] → Whl 50 4 4000 6 d := fun d hd => by
  have gw : ∀ x, x ∈ gs.map tstrs → Whl 50 1 219 6 x := fun x hx => by
    obtain ⟨g, hg, rfl⟩ := List.mem_map.mp hx
    exact o.wg hg (by decide)
  simp only [List.mem_cons, List.not_mem_nil, or_false] at hd
  rcases hd with rfl | rfl | rfl
  · exact (whl_3 (w := 6) (whl_nil (k := 1) (n := 3) (by decide) (by decide)) (whl_nil (by decide) (by decide)) (whl_nil (by decide) (by decide)) (by decide)).up (by decide) (by decide) (by decide)
  · have h : Whl 50 2 887 6 (.tuple (gs.map tstrs ++ [.tuple []])) := whl_tuple (n := 219) (L := 4) (fun x hx => by
      rcases List.mem_append.mp hx with hx | hx
      · exact gw x hx
      · rw [List.mem_singleton.mp hx]; exact whl_nil (by decide) (by decide)) (by rw [List.length_append, List.length_map]; have := o.gl; simp; omega) (by decide)
    exact (whl_3 (w := 6) ((o.w1 (by decide)).up (by decide) (by decide) (Nat.le_refl 6)) h ((o.w2 (by decide)).up (by decide) (by decide) (Nat.le_refl 6)) (by decide)).up (by decide) (by decide) (by decide)
  · have h : Whl 50 2 887 6 (.tuple (gs.map tstrs)) := (whl_tuple (n := 219) (L := 4) gw (by rw [List.length_map]; have := o.gl; omega) (by decide))
    have h2 : Whl 50 1 291 6 (.tuple (fr.map PyData.str ++ cutD (ts.map PyData.str) none (some 1))) := whl_tuple (n := 70) (L := 4) (fun x hx => by
      rcases List.mem_append.mp hx with hx | hx
      · obtain ⟨t, ht, rfl⟩ := List.mem_map.mp hx
        exact whl_str (sh_sm (o.tin t (o.fin t ht)))
      · rw [cut1] at hx
        obtain ⟨t, ht, rfl⟩ := List.mem_map.mp (List.mem_of_mem_take hx)
        exact whl_str (sh_sm (o.tin t ht))) (by rw [List.length_append, List.length_map, cut1, List.length_take]; have := o.fl; omega) (by decide)
    exact (whl_3 (w := 6) ((o.w1 (by decide)).up (by decide) (by decide) (Nat.le_refl 6)) h (h2.up (by decide) (by decide) (Nat.le_refl 6)) (by decide)).up (by decide) (by decide) (by decide)
theorem rwd_whl {c : Nat} {ts fr : List Str} {gs : List (List Str)} (o : ShpOk c ts fr gs) {one : Str} {word : PyData} (hw : Whl 50 0 70 6 word) : Whl 50 4 4000 6 (.tuple [rwd one word ts, .tuple (gs.map (rwd one word)), rwd one word fr]) := by
  have h1 : Whl 50 1 219 6 (rwd one word ts) := whl_rwd hw (fun t ht => sh_sm (o.tin t ht)) (by rw [o.len]; exact o.c3)
  have h2 : Whl 50 1 219 6 (rwd one word fr) := whl_rwd hw (fun t ht => sh_sm (o.tin t (o.fin t ht))) o.fl
  have h3 : Whl 50 2 666 6 (.tuple (gs.map (rwd one word))) := whl_tuple (n := 219) (L := 3) (fun x hx => by
    obtain ⟨g, hg, rfl⟩ := List.mem_map.mp hx
    exact whl_rwd hw (fun t ht => sh_sm (o.tin t ((o.gin g hg).2 t ht))) (o.gin g hg).1) (by rw [List.length_map]; exact o.gl) (by decide)
  exact (whl_3 (w := 6) (h1.up (by decide) (by decide) (Nat.le_refl 6)) h3 (h2.up (by decide) (by decide) (Nat.le_refl 6)) (by decide)).up (by decide) (by decide) (by decide)
end DW
namespace DW
open PySem PySem.Spec L2
open PyProof.Rows hiding St
structure Bent (d e : PyData) : Prop where
  sm : smN 60 e = true
  dep : e.depth ≤ d.depth + 4
  wt : wt e ≤ 2 * wt d + 1000
  wid : wid e ≤ wid d + 4
def bentS : Nat → DS
  | 0 => fun _ _ => False
  | n + 1 => fun ds Q => ∃ (d : PyData) (m : Nat), ds = [d, .int (m : Int)] ∧ m ≤ n ∧ smN 50 d = true ∧ wt d ≤ 9000 ∧ wid d ≤ 20 ∧ ∀ e, Bent d e → Q e
theorem bent_small {d e : PyData} (h : Whl 60 4 1000 4 e) : Bent d e := ⟨h.sm, by have := h.dep; omega, by have := h.wt; omega, by have := h.wid; omega⟩
theorem bent_odd {d e : PyData} (h : e ∈ odd64) : Bent d e := bent_small (((odd64_whl h).lift (by decide)).up (by decide) (by decide) (by decide))
theorem bent_int {d : PyData} {i : Int} (h : i.natAbs < 10 ^ 60) : Bent d (.int i) := bent_small ⟨by simp only [smN]; exact decide_eq_true h, by simp [PyData.depth], by simp [DW.wt], by simp [DW.wid]⟩
theorem bent_word {d : PyData} {s : Str} (h : strB s = true) : Bent d (.str s) := bent_small (((whl_str h (w := 4)).lift (by decide)).up (by decide) (by decide) (by decide))
theorem bent_text {d : PyData} {i : Int} (h : i.natAbs < 10 ^ 50) : Bent d (.str (Str.ofString (toString i))) := by
  have hp := pl_int i
  rw [PyData.shown_int] at hp
  have hp : Pl (Str.ofString (toString i)) := hp
  have hl : (Str.ofString (toString i)).length ≤ 51 := by
    rw [PySem.ofString_length]
    exact int_text_length_le10 (by decide) h
  have hr := StrLaws.reprText_len (Str.ofString (toString i)) fun c hc => by have := hp c hc; omega
  refine ⟨?_, by simp [PyData.depth], by simp only [DW.wt]; omega, by simp [DW.wid]⟩
  simp only [smN]
  rw [Bool.and_eq_true, decide_eq_true_eq]
  refine ⟨by omega, ?_⟩
  unfold PyData.strOk
  rw [Array.all_eq_true_iff_forall_mem]
  exact fun c hc => decide_eq_true (hp c (Array.mem_toList_iff.mpr hc))
theorem bent_seq {xs ys : List PyData} (h : smN 50 (.tuple xs) = true) (hy : ∀ y, y ∈ ys → y ∈ xs ∨ (smN 60 y = true ∧ y.depth ≤ PyData.depthAll xs + 4 ∧ wid y ≤ wid (.tuple xs) + 4)) (hw : wts ys ≤ 2 * wts xs + 1000) (hl : ys.length ≤ xs.length + 4) : Bent (.tuple xs) (.tuple ys) := by
  simp only [smN] at h
  have e1 : ∀ y, y ∈ ys → smN 60 y = true := fun y hm => by
    rcases hy y hm with q | q
    · exact smN_up (by decide) y (smBs_iff.mp h y q)
    · exact q.1
  have e2 : PyData.depthAll ys ≤ PyData.depthAll xs + 4 := depthAll_le.mpr fun y hm => by
    rcases hy y hm with q | q
    · have := depthAll_le.mp (Nat.le_refl _) y q
      omega
    · exact q.2.1
  have e3 : wids ys ≤ wid (.tuple xs) + 4 := wids_le.mpr fun y hm => by
    rcases hy y hm with q | q
    · have := wids_le.mp (Nat.le_refl (wids xs)) y q
      simp only [wid]
      omega
    · exact q.2.2
  refine ⟨by simp only [smN]; exact smBs_iff.mpr e1, by simp only [PyData.depth]; omega, by simp only [DW.wt]; omega, ?_⟩
  have e4 : wid (.tuple xs) = max xs.length (wids xs) := by simp only [wid]
  have e5 : wid (.tuple ys) = max ys.length (wids ys) := by simp only [wid]
  rw [e5]
  omega
theorem at_split {xs : List PyData} {a : Nat} {x : PyData} (h : xs[a]? = some x) : wts xs = wts (xs.take a) + (wt x + 2) + wts (xs.drop (a + 1)) := by
  have hl := (List.getElem?_eq_some_iff.mp h).1
  have e : xs = xs.take a ++ x :: xs.drop (a + 1) := by
    rw [← (List.getElem?_eq_some_iff.mp h).2, List.getElem_cons_drop, List.take_append_drop]
  conv => lhs; rw [e]
  rw [wts_app]
  simp only [wts]
  omega
theorem bent_cut {xs : List PyData} {a : Nat} (h : smN 50 (.tuple xs) = true) : Bent (.tuple xs) (.tuple (xs.take a ++ xs.drop (a + 1))) := by
  refine bent_seq h (fun y hy => .inl ?_) ?_ ?_
  · rcases List.mem_append.mp hy with q | q
    · exact List.mem_of_mem_take q
    · exact List.mem_of_mem_drop q
  · rw [wts_app]
    have h1 := wts_sub (List.take_sublist a xs)
    have h2 := wts_sub (List.drop_sublist (a + 1) xs)
    omega
  · rw [List.length_append, List.length_take, List.length_drop]
    omega
theorem bent_dup {xs : List PyData} {a : Nat} (h : smN 50 (.tuple xs) = true) : Bent (.tuple xs) (.tuple (xs.take (a + 1) ++ xs.drop a)) := by
  refine bent_seq h (fun y hy => .inl ?_) ?_ ?_
  · rcases List.mem_append.mp hy with q | q
    · exact List.mem_of_mem_take q
    · exact List.mem_of_mem_drop q
  · rw [wts_app]
    have h1 := wts_sub (List.take_sublist (a + 1) xs)
    have h2 := wts_sub (List.drop_sublist a xs)
    omega
  · rw [List.length_append, List.length_take, List.length_drop]
    omega
theorem bent_put {xs : List PyData} {a : Nat} {x y : PyData} (h : smN 50 (.tuple xs) = true) (hx : xs[a]? = some x) (b : Bent x y) : Bent (.tuple xs) (.tuple ((xs.take a ++ [y]) ++ xs.drop (a + 1))) := by
  have hl := (List.getElem?_eq_some_iff.mp hx).1
  have hm := List.mem_of_getElem? hx
  have hd := depthAll_le.mp (Nat.le_refl (PyData.depthAll xs)) x hm
  have hwi := wids_le.mp (Nat.le_refl (wids xs)) x hm
  refine bent_seq h (fun z hz => ?_) ?_ ?_
  · rcases List.mem_append.mp hz with q | q
    · rcases List.mem_append.mp q with q | q
      · exact .inl (List.mem_of_mem_take q)
      · rw [List.mem_singleton.mp q]
        refine .inr ⟨b.sm, by have := b.dep; omega, ?_⟩
        have := b.wid
        have e4 : wid (.tuple xs) = max xs.length (wids xs) := by simp only [wid]
        omega
    · exact .inl (List.mem_of_mem_drop q)
  · have e := at_split hx
    have := b.wt
    rw [wts_app, wts_app]
    simp only [wts]
    omega
  · rw [List.length_append, List.length_append, List.length_take, List.length_drop]
    simp only [List.length_singleton]
    omega
theorem bent_rev {xs : List PyData} (h : smN 50 (.tuple xs) = true) : Bent (.tuple xs) (.tuple xs.reverse) := bent_seq h (fun y hy => .inl (List.mem_reverse.mp hy)) (by rw [wts_rev]; omega) (by rw [List.length_reverse]; omega)
theorem bent_list {xs : List PyData} (h : smN 50 (.tuple xs) = true) : Bent (.tuple xs) (.list xs) := by
  simp only [smN] at h
  exact ⟨by simp only [smN]; exact smBs_iff.mpr fun y hy => smN_up (by decide) y (smBs_iff.mp h y hy), by simp only [PyData.depth]; omega, by simp only [DW.wt]; omega, by simp only [DW.wid]; omega⟩
theorem bent_add {xs : List PyData} {o : PyData} (h : smN 50 (.tuple xs) = true) (ho : o ∈ odd64) : Bent (.tuple xs) (.tuple (xs ++ [o])) := by
  have w := odd64_whl ho
  refine bent_seq h (fun y hy => ?_) ?_ ?_
  · rcases List.mem_append.mp hy with q | q
    · exact .inl q
    · rw [List.mem_singleton.mp q]
      exact .inr ⟨smN_up (by decide) _ w.sm, by have := w.dep; omega, by have := w.wid; omega⟩
  · rw [wts_app]
    have := w.wt
    simp only [wts]
    omega
  · rw [List.length_append]
    simp
section
variable {G : Gd} {M : Nm} {F : Fx} {Γ : List Bd} {Q : PyData → Prop} {pos p : Pos} {a : Expr}
theorem we_strI (hm : G.mg "str" = none) (hg : ("str" : Str) ∈ M.gl) (h : WB G M F a Γ fun d => ∃ i : Int, d = .int i ∧ i.natAbs.log2 < 1920 ∧ Q (.str (Str.ofString (toString i)))) (hs : ∀ env, starEach [a] env = [(false, eval a env)] := by intro _; rfl) : WE G M F (.Call (.Name "str" p) [a] [] pos) Γ Q :=
  we_t1 (T := "str") (fun X gd => call_str_int) hg hm (by decide +kernel) h (fun g hd ⟨i, e, hi, q⟩ Q' k => by
    subst e
    rw [hd.int]
    exact ⟨i, rfl, hi, k _ _ (PostE.here g (.str _) q)⟩) (hs := hs)
end
end DW
namespace DW
open PySem PySem.Spec L2
open PyProof.Rows hiding St
abbrev schD (w : Str) (h r : PyData) (rs : List PyData) : PyData := .tuple [.str w, h, r, .tuple rs]
abbrev W64 (d : PyData) : Prop := Whl 60 30 20000 30 d
theorem w64_of {k n w : Nat} {d : PyData} (h : Whl 50 k n w d) (hk : k ≤ 30) (hn : n ≤ 20000) (hw : w ≤ 30) : W64 d := (h.lift (by decide)).up hk hn hw
theorem w64_bent {k n w : Nat} {d e : PyData} (h : Whl 50 k n w d) (b : Bent d e) (hk : k ≤ 20) (hn : n ≤ 9000) (hw : w ≤ 20) : W64 e := ⟨b.sm, by have := b.dep; have := h.dep; omega, by have := b.wt; have := h.wt; omega, by have := b.wid; have := h.wid; omega⟩
theorem w64_tuple {xs : List PyData} (h : ∀ x, x ∈ xs → Whl 50 4 4483 6 x) (hl : xs.length ≤ 4) : W64 (.tuple xs) := w64_of (whl_tuple (n := 4483) (L := 4) h hl (by decide)) (by decide) (by decide) (by decide)
section
variable {w : Str} {c c' : Nat} {ts fr ts' fr' : List Str} {gs gs' : List (List Str)} {rs : List PyData} (hw : w ∈ (["usual", "strict"] : List Str)) (o : ShpOk c ts fr gs) (o' : ShpOk c' ts' fr' gs') (hr : ∀ x, x ∈ rs → Whl 50 2 1118 5 x) (hl : rs.length ≤ 4)
include hw in
theorem way_whl : Whl 50 0 70 6 (.str w) := whl_str (by
  simp only [List.mem_cons, List.not_mem_nil, or_false] at hw
  rcases hw with rfl | rfl <;> decide +kernel)
include hr hl in
theorem rules_whl : Whl 50 3 4483 5 (.tuple rs) := whl_tuple (n := 1118) (L := 4) hr hl (by decide)
include hw o o' hr hl in
theorem sch_items : ∀ x, x ∈ [PyData.str w, shD ts fr gs, shD ts' fr' gs', .tuple rs] → Whl 50 4 4483 6 x := fun x hx => by
  simp only [List.mem_cons, List.not_mem_nil, or_false] at hx
  rcases hx with rfl | rfl | rfl | rfl
  · exact (way_whl hw).up (by decide) (by decide) (by decide)
  · exact o.whl.up (by decide) (by decide) (by decide)
  · exact o'.whl.up (by decide) (by decide) (by decide)
  · exact (rules_whl hr hl).up (by decide) (by decide) (by decide)
include hw o o' hr hl in
theorem sch_whl : Whl 50 5 8600 6 (schD w (shD ts fr gs) (shD ts' fr' gs') rs) := by
  have hi := sch_items hw o o' hr hl
  refine any_tuple (k := 4) (fun x hx => ⟨(hi x hx).sm, (hi x hx).dep, (hi x hx).wid⟩) ?_ (by simp)
  have h1 := (way_whl hw).wt
  have h2 := o.whl.wt
  have h3 := o'.whl.wt
  have h4 := (rules_whl hr hl).wt
  simp only [wts]
  omega
end
section
variable {G : Gd} {M : Nm} {F : Fx} {Γ : List Bd} {pos p : Pos} {a b : Expr}
/-- l + m, a list of one's own -/
theorem wf_add {Q : List PyData → Prop} (h : WB G M F a Γ fun d => WB G M F b Γ fun e => ∃ xs ys, d = .list xs ∧ e = .list ys ∧ xs.length + ys.length ≤ lim ∧ Q (xs ++ ys)) : WF G M F (.BinOp a .Add b pos) Γ Q := by
  refine ⟨fun X gd σ H S hl g => tW.of (pe_op op_catS (pe_w a) (pe_w b)) ?_⟩
  refine two h gd hl g fun x y H2 S2 d e g2 e2 k2 hd he r' => ?_
  obtain ⟨xs, ys, rfl, rfl, hz, q⟩ := r'
  obtain ⟨p, us, rfl, s1, d1⟩ := hd.l g2.ex
  obtain ⟨p', ws, rfl, s2, d2⟩ := he.l g2.ex
  rw [gd.K]
  exact ⟨p, p', us, ws, rfl, rfl, s1, s2, by rw [d1.len, d2.len]; exact hz, fun t ht => (PostF.new g2 ht (d1.app d2) q).ahead e2 k2⟩
end
end DW
namespace DW
open PySem PySem.Spec L2
open PyProof.Rows hiding St
def OwnAt (Γ : List Bd) (σ : St) (x : Addr) : Prop := ∃ (j : Nat) (es : List PyData), Γ[j]? = some (Bd.mu es) ∧ σ[j]? = some (some (.ref x))
open Classical in
noncomputable def Fx.rm (F : Fx) (H S : Hp) (O : Addr → Prop) : Fx := ⟨fun x => if O x then none else H x, S, F.bag, F.tb⟩
section
variable {K : PySem.W.Frag} {F : Fx} {Γ Γ' : List Bd} {σ σ' : St} {H S H1 S1 : Hp} {a : Addr} {ps : List Addr} {dss : List (List PyData)} {O : Addr → Prop}
theorem rmO_out {x : Addr} (h : ¬ O x) : (F.rm H S O).H0 x = H x := if_neg h
theorem rmO_in {x : Addr} (h : O x) : (F.rm H S O).H0 x = none := if_pos h
theorem rmO_some {x : Addr} {o : HO} (e : (F.rm H S O).H0 x = some o) : H x = some o ∧ ¬ O x := by
  by_cases h : O x
  · rw [rmO_in h] at e; cases e
  · rw [rmO_out h] at e; exact ⟨e, h⟩
theorem rmO_none {x : Addr} (e : (F.rm H S O).H0 x = none) : O x ∨ H x = none := by
  by_cases h : O x
  · exact .inl h
  · rw [rmO_out h] at e; exact .inr e
theorem GRel.ownNo (g : GRel K F Γ σ H S) {x : Addr} (h : OwnAt Γ σ x) : F.H0 x = none ∧ S x = none ∧ ∃ xs, H x = some (.lst xs) := by
  obtain ⟨j, es, h1, h2⟩ := h
  obtain ⟨b, xs, q1, q2, q3, q4, _⟩ := g.own j es h1
  rw [h2] at q1
  cases q1
  exact ⟨q4, q3, _, q2⟩
theorem GRel.rebaseM (g : GRel K F Γ σ H S) : GRel K (F.rm H S (OwnAt Γ σ)) Γ σ H S := by
  refine ⟨g.ex, Same.refl S, fun a o h => .inl ⟨o, h⟩, fun x o e _ _ => (rmO_some e).1, fun b hb => ?_, g.loc, fun i ds hi => ?_, g.raw, g.sep, g.td, fun x o e => ⟨o, (rmO_some e).1⟩, g.tab⟩
  · obtain ⟨h1, ⟨u, h2⟩, h3⟩ := g.bag b hb
    obtain ⟨_, _, _, _, _, q, _⟩ := id h3
    exact ⟨h1, ⟨_, (rmO_out fun z => by rw [(g.ownNo z).1] at h2; cases h2).trans q⟩, h3⟩
  · obtain ⟨b, xs, q1, q2, q3, q4, q5⟩ := g.own i ds hi
    exact ⟨b, xs, q1, q2, q3, rmO_in ⟨i, ds, hi, q1⟩, q5⟩
theorem GRel.unbaseM (g : GRel K F Γ σ H S) (g1 : GRel K (F.rm H S (OwnAt Γ σ)) Γ' σ' H1 S1) : GRel K F Γ' σ' H1 S1 := by
  have none' : ∀ {x : Addr}, (F.rm H S (OwnAt Γ σ)).H0 x = none → F.H0 x = none := fun {x} e => by
    rcases rmO_none e with z | z
    · exact (g.ownNo z).1
    · exact g.h0 z
  have out : ∀ {x : Addr} {o : HO}, F.H0 x = some o → ¬ OwnAt Γ σ x := fun {x o} e z => by rw [(g.ownNo z).1] at e; cases e
  refine ⟨g1.ex, g.s0.trans g1.s0, fun x o h => ?_, fun x o e n t => ?_, fun b hb => ?_, g1.loc, fun i ds hi => ?_, g1.raw, g1.sep, g1.td, fun x o e => ?_, g1.tab⟩
  · rcases g1.nw x o h with ⟨u, z⟩ | z
    · exact g.nw x u z
    · exact .inr (none' z)
  · exact g1.keep x o ((rmO_out (out e)).trans (g.keep x o e n t)) n t
  · obtain ⟨h1, _, h3⟩ := g1.bag b hb
    exact ⟨h1, (g.bag b hb).2.1, h3⟩
  · obtain ⟨b, xs, q1, q2, q3, q4, q5⟩ := g1.own i ds hi
    exact ⟨b, xs, q1, q2, q3, none' q4, q5⟩
  · obtain ⟨u, z⟩ := g.dm x o e
    exact g1.dm x u ((rmO_out (out e)).trans z)
/-- what is walked beside leaves it as it is -/
theorem Nest.besideM (n : Nest K F H S a ps dss) (g : GRel K F Γ σ H S) (hO : ∀ p, p = a ∨ p ∈ ps → ¬ OwnAt Γ σ p) (g1 : GRel K (F.rm H S (OwnAt Γ σ)) Γ' σ' H1 S1) : Nest K F H1 S1 a ps dss ∧ ∀ p, p = a ∨ p ∈ ps → ¬ OwnAt Γ' σ' p := by
  have keep : ∀ {p : Addr}, (p = a ∨ p ∈ ps) → (∀ o, H p = some o → H1 p = some o) ∧ S1 p = none := fun {p} hp => by
    obtain ⟨h1, h2, h3, o, h4⟩ := n.nb g hp
    refine ⟨fun u e => g1.keep p u ((rmO_out (hO p hp)).trans e) h1 (.inr (by rw [h4] at e; cases e; exact nt_lst)), ?_⟩
    cases q : S1 p with
    | none => rfl
    | some u =>
      rcases g1.nw p u q with ⟨u', z⟩ | z
      · rw [show (F.rm H S (OwnAt Γ σ)).S0 p = S p from rfl, h2] at z; cases z
      · rw [rmO_out (hO p hp), h4] at z; cases z
  refine ⟨⟨(keep (.inl rfl)).1 _ n.top, (keep (.inl rfl)).2, n.aF, n.nd, n.an, n.len, fun k p ds hk hd => ?_⟩, fun p hp z => ?_⟩
  · obtain ⟨us, h1, h2, h3, h4⟩ := n.at_ k p ds hk hd
    have hp : p = a ∨ p ∈ ps := .inr (List.mem_of_getElem? hk)
    exact ⟨us, (keep hp).1 _ h1, (keep hp).2, h3, dpa_mono g1.s0 h4⟩
  · obtain ⟨_, _, _, o, h4⟩ := n.nb g hp
    have := (g1.ownNo z).1
    rw [rmO_out (hO p hp), h4] at this
    cases this
theorem Nest.dpM (n : Nest K F H S a ps dss) (g : GRel K F Γ σ H S) (hO : ∀ p, p = a ∨ p ∈ ps → ¬ OwnAt Γ σ p) : Dp K (F.rm H S (OwnAt Γ σ)).kept (.ref a) (.list (dss.map PyData.list)) := by
  have kp : ∀ {x : Addr} {o : HO}, H x = some o → NT o → F.bag ≠ some x → ¬ OwnAt Γ σ x → (F.rm H S (OwnAt Γ σ)).kept x = H x := fun {x o} e nt hx ho => (if_neg fun h => h.elim hx fun ⟨ps, z⟩ => by
    rw [rmO_out ho] at z
    rw [e] at z
    exact nt ps (Option.some.inj z)).trans (rmO_out ho)
  have sk : Same S (F.rm H S (OwnAt Γ σ)).kept := fun x o e => by
    rw [kp (g.ex x o e) (fun ps z => by have := g.td x o e; rw [z] at this; exact this) (fun z => by rw [(g.bag x z).1] at e; cases e) fun z => by rw [(g.ownNo z).2.1] at e; cases e]
    exact g.ex x o e
  refine .lst (.inl (.inl ((kp n.top nt_lst (n.nb g (.inl rfl)).1 (hO a (.inl rfl))).trans n.top))) (dpa_refs n.len fun k p ds h1 h2 => ?_)
  obtain ⟨us, q1, q2, q3, q4⟩ := n.at_ k p ds h1 h2
  have hp : p ∈ ps := List.mem_of_getElem? h1
  exact .lst (.inl (.inl ((kp q1 nt_lst (n.nb g (.inr hp)).1 (hO p (.inr hp))).trans q1))) (dpa_mono sk q4)
theorem Nest.freezeM (n : Nest K F H S a ps dss) (g : GRel K F Γ σ H S) (hO : ∀ p, p = a ∨ p ∈ ps → ¬ OwnAt Γ σ p) {i : Nat} (hi : Γ[i]? = some (Bd.rw (.ref a))) : ∃ S', GRel K F (Γ.set i (Bd.im (.list (dss.map PyData.list)))) σ H S' ∧ Same S S' := by
  classical
  let S' : Hp := fun x => if x = a ∨ x ∈ ps then H x else S x
  have inn : ∀ {x : Addr}, (x = a ∨ x ∈ ps) → S' x = H x := fun h => if_pos h
  have out : ∀ {x : Addr}, ¬ (x = a ∨ x ∈ ps) → S' x = S x := fun h => if_neg h
  have sm : Same S S' := fun x o e => by
    rw [out fun z => by rw [(n.nb g z).2.1] at e; cases e]
    exact e
  have mus : ∀ (j : Nat) (es : List PyData), (Γ.set i (Bd.im (.list (dss.map PyData.list))))[j]? = some (Bd.mu es) → Γ[j]? = some (Bd.mu es) := fun j es z => by
    rcases get_set z with ⟨_, q, _⟩ | ⟨_, q⟩
    · cases q
    · exact q
  refine ⟨S', ⟨fun x o e => ?_, g.s0.trans sm, fun x o e => ?_, g.keep, fun b hb => ?_, fun j d hj => ?_, fun j ds hj => ?_, fun j v hj => ?_, fun j k x ds es hj hk => g.sep j k x ds es (mus j ds hj) (mus k es hk), fun x o e => ?_, g.dm, g.tab⟩, sm⟩
  · by_cases h : x = a ∨ x ∈ ps
    · rw [inn h] at e; exact e
    · rw [out h] at e; exact g.ex x o e
  · by_cases h : x = a ∨ x ∈ ps
    · exact .inr (n.nb g h).2.2.1
    · rw [out h] at e; exact g.nw x o e
  · obtain ⟨h1, h2, h3⟩ := g.bag b hb
    exact ⟨by rw [out fun z => (n.nb g z).1 hb]; exact h1, h2, h3.mono sm rfl⟩
  · rcases get_set hj with ⟨rfl, q, _⟩ | ⟨_, q⟩
    · cases q
      refine ⟨_, g.raw _ _ hi, .lst (.inl (.inl ((inn (.inl rfl)).trans n.top))) (dpa_refs n.len fun k p ds h1 h2 => ?_)⟩
      obtain ⟨us, q1, q2, q3, q4⟩ := n.at_ k p ds h1 h2
      exact .lst (.inl (.inl ((inn (.inr (List.mem_of_getElem? h1))).trans q1))) (dpa_mono sm q4)
    · obtain ⟨v, h1, h2⟩ := g.loc j d q
      exact ⟨v, h1, dp_mono sm h2⟩
  · have hm := mus j ds hj
    obtain ⟨b, xs, q1, q2, q3, q4, q5⟩ := g.own j ds hm
    exact ⟨b, xs, q1, q2, by rw [out fun z => hO b z ⟨j, ds, hm, q1⟩]; exact q3, q4, dpa_mono sm q5⟩
  · rcases get_set hj with ⟨rfl, q, _⟩ | ⟨_, q⟩
    · cases q
    · exact g.raw j v q
  · by_cases h : x = a ∨ x ∈ ps
    · rw [inn h] at e
      rcases h with rfl | h
      · rw [n.top] at e; cases e; trivial
      · obtain ⟨k, hk, w⟩ := List.getElem_of_mem h
        obtain ⟨us, q1, _⟩ := n.at_ k x _ (by rw [List.getElem?_eq_getElem hk, w]) (List.getElem?_eq_getElem (n.len ▸ hk))
        rw [q1] at e; cases e; trivial
    · rw [out h] at e; exact g.td x o e
end
section
variable {G : Gd} {M : Nm} {F : Fx} {Γ : List Bd} {Q : PyData → Prop} {Qb : Bool → Prop} {p pos : Pos} {ix : Expr}
/-- groups[ix].append(c) -/
theorem put_runM {p1 p2 p3 pg pc : Pos} (ig ic : Nat) {xg xc : Str} {X : Cx} {a : Addr} {ps : List Addr} {dss : List (List PyData)} {d : PyData} {σ : St} {H S : Hp} (hg : Rdb M ig xg) (hc : Rdb M ic xc) (gd : Good G M X) (hl : σ.length = M.N.length)
    (g : GRel G.K F Γ σ H S) (n : Nest G.K F H S a ps dss) (hO : ∀ p, p = a ∨ p ∈ ps → ¬ OwnAt Γ σ p) (hb : Γ[ig]? = some (Bd.rw (.ref a))) (hd : Γ[ic]? = some (Bd.im d)) (small : ∀ es, es ∈ dss → es.length < lim)
    (h : WE G M (F.rm H S (OwnAt Γ σ)) ix Γ fun k => ∃ j : Nat, k = .int (j : Int) ∧ j < ps.length) (hs : PlainIx ix := by intro _; rfl)
    (hbase : ∀ env, attributeBase (.Subscript (.Name xg pg) ix p1) "append" env (eval (.Subscript (.Name xg pg) ix p1) env) = eval (.Subscript (.Name xg pg) ix p1) env := by intro _; rfl)
    (hfew : ∀ env, ((backTo p3 (starEach [.Name xc pc] env)).all (fun x => !x.1) && (backToKw p3 (keywordEach [] env)).all (fun x => x.1.isSome) && decide ([Expr.Name xc pc].length + ([] : List Keyword).length + (if ([] : List Keyword).isEmpty then 0 else 1) < 30)) = true := by intro _; rfl)
    (hline : (p2.endLine == p3.line) = true := by rfl) (hst : ∀ env, starEach [.Name xc pc] env = [(false, eval (.Name xc pc) env)] := by intro _; rfl) :
    tWs X (.Expr (.Call (.Attribute (.Subscript (.Name xg pg) ix p1) "append" p2) [.Name xc pc] [] p3) pos) ⟨fun σ' H' => σ' = σ ∧ ∃ S' k es, GRel G.K F Γ σ H' S' ∧ Same S S' ∧ dss[k]? = some es ∧ Nest G.K F H' S' a ps (dss.set k (es ++ [d])), fun _ _ => False, fun _ _ => False, fun _ _ => False⟩ σ H := by
  refine tWs.of (ps_expr (pe_bm PySem.F.plainAttrs_list PySem.F.slot_list_append PySem.F.type_list_append mt_append (pe_ix ix_list (pe_var (gd.at hg.1) (gd.vis hg) hg.2.2.1 hg.2.2.2) (pe_w ix) hs) (pa_cons (pe_var (gd.at hc.1) (gd.vis hc) hc.2.2.1 hc.2.2.2) pa_nil (hst X.env)) (hbase X.env) (hfew X.env) hline (hst X.env) (by rfl)) (by rfl)) ?_
  refine ⟨_, g.raw ig _ hb, (h.run X gd σ H S hl g.rebaseM).mono fun kv H1 ⟨S1, dk, g1, e1, k1, hdk, j, ej, hj⟩ => ?_⟩
  subst ej
  cases hdk
  have n1 := (n.besideM g hO g1).1
  have g1' := g.unbaseM g1
  have hpj : ps[j]? = some ps[j] := List.getElem?_eq_getElem hj
  have hjd : j < dss.length := by rw [← n.len]; exact hj
  obtain ⟨us, q1, q2, q3, q4⟩ := n1.at_ j _ _ hpj (List.getElem?_eq_getElem hjd)
  obtain ⟨v, w1, w2⟩ := g1'.loc ic d hd
  refine ⟨a, _, (j : Int), .ref ps[j], rfl, rfl, SqL.of n1.top, atI_nat' (by rw [List.getElem?_map, hpj]; rfl), .inl ⟨rfl, us, SqL.of q1⟩, v, w1, ?_⟩
  refine ⟨ps[j], us, v, rfl, rfl, q1, by rw [q4.len]; exact small _ (List.getElem_mem hjd), rfl, S1, j, dss[j], g1'.poke q2 q3 (.inr ⟨_, q1⟩) (fun m es hm z => hO _ (.inr (List.getElem_mem hj)) ⟨m, es, hm, z⟩), e1, List.getElem?_eq_getElem hjd, n1.grow hpj (q4.app (.one w2))⟩
/-- groups.append([c]) -/
theorem add_runM {p2 p3 p4 pg pc : Pos} (ig ic : Nat) {xg xc : Str} {X : Cx} {a : Addr} {ps : List Addr} {dss : List (List PyData)} {d : PyData} {σ : St} {H S : Hp} (hg : Rdb M ig xg) (hc : Rdb M ic xc) (gd : Good G M X) (hl : σ.length = M.N.length)
    (g : GRel G.K F Γ σ H S) (n : Nest G.K F H S a ps dss) (hO : ∀ p, p = a ∨ p ∈ ps → ¬ OwnAt Γ σ p) (hb : Γ[ig]? = some (Bd.rw (.ref a))) (hd : Γ[ic]? = some (Bd.im d)) (small : dss.length < lim)
    (hbase : ∀ env, attributeBase (.Name xg pg) "append" env (eval (.Name xg pg) env) = eval (.Name xg pg) env := by intro _; rfl)
    (hfew : ∀ env, ((backTo p3 (starEach [.List [.Name xc pc] p4] env)).all (fun x => !x.1) && (backToKw p3 (keywordEach [] env)).all (fun x => x.1.isSome) && decide ([Expr.List [.Name xc pc] p4].length + ([] : List Keyword).length + (if ([] : List Keyword).isEmpty then 0 else 1) < 30)) = true := by intro _; rfl)
    (hline : (p2.endLine == p3.line) = true := by rfl) (hst : ∀ env, starEach [.List [.Name xc pc] p4] env = [(false, eval (.List [.Name xc pc] p4) env)] := by intro _; rfl) :
    tWs X (.Expr (.Call (.Attribute (.Name xg pg) "append" p2) [.List [.Name xc pc] p4] [] p3) pos) ⟨fun σ' H' => σ' = σ ∧ ∃ S' ps', GRel G.K F Γ σ H' S' ∧ Same S S' ∧ Nest G.K F H' S' a ps' (dss ++ [[d]]) ∧ (∀ p, p = a ∨ p ∈ ps' → ¬ OwnAt Γ σ p), fun _ _ => False, fun _ _ => False, fun _ _ => False⟩ σ H := by
  refine tWs.of (ps_expr (pe_bm PySem.F.plainAttrs_list PySem.F.slot_list_append PySem.F.type_list_append mt_append (pe_var (gd.at hg.1) (gd.vis hg) hg.2.2.1 hg.2.2.2) (pa_cons (pe_w (.List [.Name xc pc] p4)) pa_nil (hst X.env)) (hbase X.env) (hfew X.env) hline (hst X.env) (by rfl)) (by rfl)) ?_
  refine ⟨_, g.raw ig _ hb, .inl ⟨rfl, _, SqL.of n.top⟩, ?_⟩
  refine ((wf_list (Q := fun es => es = [d]) (wl_cons (we_var ic hc hd (wl_nil ⟨lim_n 1 (by decide), rfl⟩))) : WF G M (F.rm H S (OwnAt Γ σ)) (.List [.Name xc pc] p4) Γ fun es => es = [d]).run X gd σ H S hl g.rebaseM).mono fun v H1 ⟨S1, q, zs, es, e0, hq0, w1, w2, w3, w5, g1, e1, _, hdd, ee⟩ => ?_
  subst e0 ee
  have n1 := (n.besideM g hO g1).1
  have g1' := g.unbaseM g1
  have hqF : F.H0 q = none := g.h0 hq0
  have hqn : q ≠ a ∧ q ∉ ps := by
    have : ¬ (q = a ∨ q ∈ ps) := fun z => by
      obtain ⟨_, _, _, o, z⟩ := n.nb g z
      rw [hq0] at z; cases z
    exact ⟨fun z => this (.inl z), fun z => this (.inr z)⟩
  refine ⟨a, _, .ref q, rfl, rfl, n1.top, by rw [List.length_map, n.len]; exact small, rfl, S1, ps ++ [q], g1'.poke n1.aS n1.aF (.inr ⟨_, n1.top⟩) (fun m es hm z => hO _ (.inl rfl) ⟨m, es, hm, z⟩), e1, n1.add w1 w2 hqF hdd hqn, fun p hp z => ?_⟩
  rcases hp with rfl | hp
  · exact hO _ (.inl rfl) z
  · rcases List.mem_append.mp hp with hp | hp
    · exact hO _ (.inr hp) z
    · rw [List.mem_singleton.mp hp] at z
      obtain ⟨_, _, xs, hx⟩ := g.ownNo z
      rw [hq0] at hx
      cases hx
end
end DW
namespace DW
open PySem PySem.Spec L2
open PyProof.Rows hiding St
/-- dealt out: what stays apart, and lists of the others -/
inductive Parts3 : List PyData → List (List PyData) → List PyData → Prop
  | nil : Parts3 [] [] []
  | off {xs : List PyData} {dss : List (List PyData)} {as : List PyData} {d : PyData} : Parts3 xs dss as → Parts3 (xs ++ [d]) dss (as ++ [d])
  | new {xs : List PyData} {dss : List (List PyData)} {as : List PyData} {d : PyData} : Parts3 xs dss as → Parts3 (xs ++ [d]) (dss ++ [[d]]) as
  | put {xs : List PyData} {dss : List (List PyData)} {as : List PyData} {d : PyData} {k : Nat} {es : List PyData} : Parts3 xs dss as → dss[k]? = some es → Parts3 (xs ++ [d]) (dss.set k (es ++ [d])) as
theorem Parts3.mem {xs : List PyData} {dss : List (List PyData)} {as : List PyData} (h : Parts3 xs dss as) : (∀ es, es ∈ dss → es ≠ [] ∧ es.length ≤ xs.length ∧ ∀ e, e ∈ es → e ∈ xs) ∧ dss.length ≤ xs.length ∧ as.length ≤ xs.length ∧ ∀ e, e ∈ as → e ∈ xs := by
  induction h with
  | nil => exact ⟨fun _ h => (nomatch h), Nat.le_refl _, Nat.le_refl _, fun _ h => (nomatch h)⟩
  | off _ ih =>
    obtain ⟨i1, i2, i3, i4⟩ := ih
    refine ⟨fun es he => ?_, by simp; omega, by simp; exact i3, fun e he => ?_⟩
    · obtain ⟨h1, h2, h3⟩ := i1 es he
      exact ⟨h1, by simp; omega, fun e he => List.mem_append_left _ (h3 e he)⟩
    · rcases List.mem_append.mp he with m | m
      · exact List.mem_append_left _ (i4 e m)
      · exact List.mem_append_right _ m
  | new _ ih =>
    obtain ⟨i1, i2, i3, i4⟩ := ih
    refine ⟨fun es he => ?_, by simp; exact i2, by simp; omega, fun e he => List.mem_append_left _ (i4 e he)⟩
    rcases List.mem_append.mp he with m | m
    · obtain ⟨h1, h2, h3⟩ := i1 es m
      exact ⟨h1, by simp; omega, fun e he => List.mem_append_left _ (h3 e he)⟩
    · rw [List.mem_singleton] at m
      subst m
      refine ⟨List.cons_ne_nil _ _, by simp, fun e he => List.mem_append_right _ he⟩
  | put _ hk ih =>
    obtain ⟨i1, i2, i3, i4⟩ := ih
    refine ⟨fun es he => ?_, by simp; omega, by simp; omega, fun e he => List.mem_append_left _ (i4 e he)⟩
    rcases List.mem_or_eq_of_mem_set he with m | m
    · obtain ⟨h1, h2, h3⟩ := i1 es m
      exact ⟨h1, by simp; omega, fun e he => List.mem_append_left _ (h3 e he)⟩
    · subst m
      obtain ⟨h1, h2, h3⟩ := i1 _ (List.mem_of_getElem? hk)
      refine ⟨by simp, by simp; omega, fun e he => ?_⟩
      rcases List.mem_append.mp he with m | m
      · exact List.mem_append_left _ (h3 e m)
      · exact List.mem_append_right _ m
section
variable {G : Gd} {M : Nm} {F : Fx} {Γ : List Bd} {D : DE} {iter c0 c1 ix : Expr}
/-- for c in xs: if ..: added.append(c) elif ..: groups.append([c]) else: groups[ix].append(c) -/
theorem w1_nest3 (ig ja ic : Nat) {xg xa xc : Str} {pf p1 p2 p3 p4 p5 p6 q1 q2 q3 q4 q5 q6 q7 q8 r1 r2 r3 r4 r5 r7 : Pos} (hg : Rdb M ig xg) (ha : Rdb M ja xa) (hcS : Sto M ic xc) (hc : Rdb M ic xc) (hgj : ig ≠ ja) (hne : ig ≠ ic) (hnj : ja ≠ ic) (hmu : Γ[ig]? = some (Bd.mu [])) (hma : Γ[ja]? = some (Bd.mu [])) (nm : ∀ (j : Nat) (es : List PyData), Γ[j]? = some (Bd.mu es) → j = ig ∨ j = ja) (hic : ic < Γ.length)
    (h : WI G M F (.Name xc pf) iter Γ fun ds => ds.length ≤ 1000 ∧
      (∀ (F' : Fx) (a : Addr) (vs : List V) (dss : List (List PyData)) (as : List PyData) (d : PyData) (xs : List PyData), F'.bag = F.bag → F'.bag ≠ some a → F'.H0 a = some (.lst vs) → vs.length = dss.length → Dp G.K F'.kept (.ref a) (.list (dss.map PyData.list)) → Parts3 xs dss as → (∃ i : Nat, xs = ds.take i) → d ∈ ds → dss.length ≤ 1000 →
        WT G M F' c0 (((Γ.set ig (Bd.rw (.ref a))).set ja (Bd.mu as)).set ic (Bd.im d)) (fun _ => True) ∧ WT G M F' c1 (((Γ.set ig (Bd.rw (.ref a))).set ja (Bd.mu as)).set ic (Bd.im d)) (fun x => x = false → dss ≠ []) ∧ (dss ≠ [] → WE G M F' ix (((Γ.set ig (Bd.rw (.ref a))).set ja (Bd.mu as)).set ic (Bd.im d)) fun k => ∃ j : Nat, k = .int (j : Int) ∧ j < dss.length)) ∧
      (∀ (dss : List (List PyData)) (as : List PyData) (t : Bd), Parts3 ds dss as → D.nx (((Γ.set ig (Bd.im (.list (dss.map PyData.list)))).set ja (Bd.mu as)).set ic t)))
    (hs0 : ∀ env x, foldedSetIterable iter env x = pure x := by intro _ _; rfl) (hsx : PlainIx ix := by intro _ _; rfl)
    (hb1 : ∀ env, attributeBase (.Subscript (.Name xg p1) ix p2) "append" env (eval (.Subscript (.Name xg p1) ix p2) env) = eval (.Subscript (.Name xg p1) ix p2) env := by intro _; rfl)
    (hf1 : ∀ env, ((backTo p4 (starEach [.Name xc p3] env)).all (fun x => !x.1) && (backToKw p4 (keywordEach [] env)).all (fun x => x.1.isSome) && decide ([Expr.Name xc p3].length + ([] : List Keyword).length + (if ([] : List Keyword).isEmpty then 0 else 1) < 30)) = true := by intro _; rfl)
    (hl1 : (p5.endLine == p4.line) = true := by rfl) (hst1 : ∀ env, starEach [.Name xc p3] env = [(false, eval (.Name xc p3) env)] := by intro _; rfl)
    (hb2 : ∀ env, attributeBase (.Name xg q1) "append" env (eval (.Name xg q1) env) = eval (.Name xg q1) env := by intro _; rfl)
    (hf2 : ∀ env, ((backTo q4 (starEach [.List [.Name xc q2] q3] env)).all (fun x => !x.1) && (backToKw q4 (keywordEach [] env)).all (fun x => x.1.isSome) && decide ([Expr.List [.Name xc q2] q3].length + ([] : List Keyword).length + (if ([] : List Keyword).isEmpty then 0 else 1) < 30)) = true := by intro _; rfl)
    (hl2 : (q5.endLine == q4.line) = true := by rfl) (hst2 : ∀ env, starEach [.List [.Name xc q2] q3] env = [(false, eval (.List [.Name xc q2] q3) env)] := by intro _; rfl)
    (hW : ∀ (F' : Fx) (Γ' : List Bd) (as : List PyData) (d : PyData) (D' : DE), Γ'[ja]? = some (Bd.mu as) → Γ'[ic]? = some (Bd.im d) → as.length < lim → D'.nx (Γ'.set ja (Bd.mu (as ++ [d]))) → W1 G M F' (.Expr (.Call (.Attribute (.Name xa r1) "append" r2) [.Name xc r3] [] r4) r5) Γ' D' := by intro F' Γ' as d D' h1 h2 h3 h4; exact w1_append _ ‹_› h1 (we_var _ ‹_› h2 ⟨h3, h4⟩)) :
    W1 G M F (.For (.Name xc pf) iter [.If c0 [.Expr (.Call (.Attribute (.Name xa r1) "append" r2) [.Name xc r3] [] r4) r5] [.If c1 [.Expr (.Call (.Attribute (.Name xg q1) "append" q5) [.List [.Name xc q2] q3] [] q4) q6] [.Expr (.Call (.Attribute (.Subscript (.Name xg p1) ix p2) "append" p5) [.Name xc p3] [] p4) p6] r7] q7] [] q8) Γ D := by
  refine ⟨fun hΓ X gd σ H S hl g => tWs.of (ps_for (by rw [gd.xe]; exact PassesOwn.never) gd.calm (pi_w _ iter) (pg_w _) (pss_w _) (hs0 X.env)) ?_⟩
  refine fun pins s I => thn (h.run X gd σ H S hl g pins s I) fun v s1 h1 => thn h1 fun itv s2 ⟨it, fp, tn, It, H1, e0, I2, T, st2, f2, S1, ds, g1, e1, _, io, _, hsz, hstep, hend⟩ => ?_
  refine ⟨it, fp, tn, It, H1, e0, I2, T, st2, f2, ?_⟩
  obtain ⟨a, us, o1, o2, o3, o4, o5⟩ := g1.own ig [] hmu
  cases o5
  have hig : ig < Γ.length := (List.getElem?_eq_some_iff.mp hmu).1
  have hja : ja < Γ.length := (List.getElem?_eq_some_iff.mp hma).1
  let Γs : List PyData → Bd → List Bd := fun as t => ((Γ.set ig (Bd.rw (.ref a))).set ja (Bd.mu as)).set ic t
  have hΓic : ∀ es, Γ[ic] ≠ Bd.mu es := fun es z => by
    rcases nm ic es (by rw [List.getElem?_eq_getElem hic, z]) with q | q
    · exact hne q.symm
    · exact hnj q.symm
  have mus : ∀ (as : List PyData) (t : Bd), (∀ es, t ≠ Bd.mu es) → ∀ (j : Nat) (es : List PyData), (Γs as t)[j]? = some (Bd.mu es) → j = ja := fun as t ht j es z => by
    rcases get_set z with ⟨_, q, _⟩ | ⟨_, q⟩
    · exact absurd q.symm (ht es)
    · rcases get_set q with ⟨q, _, _⟩ | ⟨nj, q⟩
      · exact q
      · rcases get_set q with ⟨_, q, _⟩ | ⟨ng, q⟩
        · cases q
        · rcases nm j es q with w | w
          · exact absurd w ng
          · exact absurd w nj
  have gr : GRel G.K F (Γs [] Γ[ic]) σ H1 S1 := by
    refine g1.re (fun j d hj => ?_) (fun j es hj => ?_) fun j v hj => ?_
    · rcases get_set hj with ⟨rfl, q, _⟩ | ⟨_, q⟩
      · exact g1.loc _ d (by rw [List.getElem?_eq_getElem hic, q])
      · rcases get_set q with ⟨_, q, _⟩ | ⟨_, q⟩
        · cases q
        · rcases get_set q with ⟨_, q, _⟩ | ⟨_, q⟩
          · cases q
          · exact g1.loc j d q
    · rcases get_set hj with ⟨_, q, _⟩ | ⟨_, q⟩
      · exact absurd q.symm (hΓic es)
      · rcases get_set q with ⟨rfl, q, _⟩ | ⟨_, q⟩
        · cases q; exact ⟨hma, rfl⟩
        · rcases get_set q with ⟨_, q, _⟩ | ⟨_, q⟩
          · cases q
          · exact ⟨q, rfl⟩
    · rcases get_set hj with ⟨rfl, q, _⟩ | ⟨_, q⟩
      · exact g1.raw _ v (by rw [List.getElem?_eq_getElem hic, q])
      · rcases get_set q with ⟨_, q, _⟩ | ⟨_, q⟩
        · cases q
        · rcases get_set q with ⟨rfl, q, _⟩ | ⟨_, q⟩
          · cases q; exact o1
          · exact g1.raw j v q
  have hlen : ∀ as t, (Γs as t).length = M.N.length := fun as t => by
    show (((Γ.set ig _).set ja _).set ic _).length = _
    rw [List.length_set, List.length_set, List.length_set]; exact hΓ
  have hbig : ∀ as t, (Γs as t)[ig]? = some (Bd.rw (.ref a)) := fun as t => by
    show (((Γ.set ig _).set ja _).set ic _)[ig]? = _
    rw [List.getElem?_set_ne (Ne.symm hne), List.getElem?_set_ne (Ne.symm hgj), List.getElem?_set_self hig]
  have hbja : ∀ as t, (Γs as t)[ja]? = some (Bd.mu as) := fun as t => by
    show (((Γ.set ig _).set ja _).set ic _)[ja]? = _
    rw [List.getElem?_set_ne (Ne.symm hnj), List.getElem?_set_self (by rw [List.length_set]; exact hja)]
  have hbic : ∀ as t, (Γs as t)[ic]? = some t := fun as t => List.getElem?_set_self (by rw [List.length_set, List.length_set]; exact hic)
  have hset : ∀ as t u, (Γs as t).set ic u = Γs as u := fun as t u => List.set_set ..
  have hsetj : ∀ as t bs, (Γs as t).set ja (Bd.mu bs) = Γs bs t := fun as t bs => by
    show (((Γ.set ig _).set ja _).set ic _).set ja _ = ((Γ.set ig _).set ja _).set ic _
    rw [List.set_comm _ _ (Ne.symm hnj), List.set_set]
  have hO0 : ∀ p, p = a ∨ p ∈ ([] : List Addr) → ¬ OwnAt (Γs [] Γ[ic]) σ p := fun p hp ⟨j, es, z1, z2⟩ => by
    rcases hp with rfl | hp
    · have ej := mus [] _ hΓic j es z1
      subst ej
      exact hgj (g1.sep ig j p [] [] hmu hma o1 z2)
    · cases hp
  refine ⟨fun i m σ' H' => m = ds.length - i ∧ i ≤ ds.length ∧ ∃ t S' ps dss as, (∀ es, t ≠ Bd.mu es) ∧ σ'.length = M.N.length ∧ GRel G.K F (Γs as t) σ' H' S' ∧ Same S1 S' ∧ Parts3 (ds.take i) dss as ∧ Nest G.K F H' S' a ps dss ∧ ∀ p, p = a ∨ p ∈ ps → ¬ OwnAt (Γs as t) σ' p,
    ⟨ds.length, rfl, Nat.zero_le _, Γ[ic], S1, [], [], [], hΓic, hl, gr, Same.refl S1, .nil, ⟨o2, o3, o4, List.nodup_nil, by simp, rfl, fun k p es h => by simp at h⟩, hO0⟩, ?_⟩
  rintro i m σ' H' ⟨rfl, hi, t, S', ps, dss, as, ht, r1, r2, r3, r4, r5, r6⟩
  by_cases hlt : i < ds.length
  · have hdi : ds[i]? = some ds[i] := List.getElem?_eq_getElem hlt
    obtain ⟨go, yl⟩ := io.go i ds[i] H' S' r3 r2.ex hdi
    refine .inr ⟨go, fun σ2 H2 => ∃ t S' ps dss as, (∀ es, t ≠ Bd.mu es) ∧ σ2.length = M.N.length ∧ GRel G.K F (Γs as t) σ2 H2 S' ∧ Same S1 S' ∧ Parts3 (ds.take (i + 1)) dss as ∧ Nest G.K F H2 S' a ps dss ∧ ∀ p, p = a ∨ p ∈ ps → ¬ OwnAt (Γs as t) σ2 p, fun σ2 H2 w => ⟨ds.length - (i + 1), by omega, rfl, by omega, w⟩, fun x H'' y => ?_⟩
    obtain ⟨S3, g3, e3, _, d3⟩ := r2.rebaseM.yield (yl x H'' y)
    obtain ⟨n3, h3⟩ := r5.besideM r2 r6 g3
    have g3' := r2.unbaseM g3
    refine ((wg_name (G := G) (F := F.rm H'' S3 (OwnAt (Γs as t) σ')) ic hcS (N := fun Γ2 => Γ2 = (Γs as t).set ic (Bd.im ds[i])) rfl : WG G M (F.rm H'' S3 (OwnAt (Γs as t) σ')) (.Name xc pf) ds[i] _ _).run (hlen as t) X gd σ' H'' S3 x r1 g3'.rebaseM d3).mono fun σ4 H4 ⟨Γ4, S4, w1, w1', w2, w3, w4⟩ => ?_
    rw [hset] at w4
    subst w4
    have im0 : ∀ es, Bd.im ds[i] ≠ Bd.mu es := fun es z => nomatch z
    obtain ⟨n4, h4⟩ := n3.besideM g3' h3 w2
    have g4 := g3'.unbaseM w2
    have hP := r4.mem
    have hzi : (ds.take i).length ≤ 1000 := by rw [List.length_take]; omega
    have hz : dss.length ≤ 1000 := Nat.le_trans hP.2.1 hzi
    have ask : ∀ {σ5 : St} {H5 S5 : Hp}, GRel G.K F (Γs as (Bd.im ds[i])) σ5 H5 S5 → Nest G.K F H5 S5 a ps dss → (∀ p, p = a ∨ p ∈ ps → ¬ OwnAt (Γs as (Bd.im ds[i])) σ5 p) → _ := fun {σ5 H5 S5} g5 n5 h5 =>
      hstep (F.rm H5 S5 (OwnAt (Γs as (Bd.im ds[i])) σ5)) a (ps.map V.ref) dss as ds[i] _ rfl (n5.nb g5 (.inl rfl)).1 ((rmO_out (h5 a (.inl rfl))).trans n5.top) (by rw [List.length_map]; exact n5.len) (n5.dpM g5 h5) r4 ⟨i, rfl⟩ (List.getElem_mem hlt) hz
    obtain ⟨hcond, _, _⟩ := ask g4 n4 h4
    refine tWb.of (pss_one (ps_if (pt_w c0) (pss_w _) (pss_w _))) ?_
    refine (hcond.run X gd σ4 H4 S4 w1 g4.rebaseM).mono fun b H5 ⟨S5, g5, e5, _, _⟩ => ?_
    obtain ⟨n5, h5⟩ := n4.besideM g4 h4 g5
    have g5' := g4.unbaseM g5
    have sm5 : Same S1 S5 := r3.trans (e3.trans (w3.trans e5))
    cases b with
    | true =>
      refine tWb.of (pss_one (ps_w _)) (((hW (F.rm H5 S5 (OwnAt (Γs as (Bd.im ds[i])) σ4)) (Γs as (Bd.im ds[i])) as ds[i] ⟨fun Γ' => Γ' = Γs (as ++ [ds[i]]) (Bd.im ds[i]), fun _ => False, fun _ => False, fun _ => False⟩ (hbja _ _) (hbic _ _) (Nat.lt_of_le_of_lt (Nat.le_trans hP.2.2.1 hzi) (by rw [lim_eq]; decide)) (hsetj _ _ _)).run (hlen _ _) X gd σ4 H5 S5 w1 g5'.rebaseM).mono ?_ ?_ ?_ ?_)
      · rintro σ6 H6 ⟨Γ6, S6, y1, y1', y2, y3, y4⟩
        have y4 : Γ6 = Γs (as ++ [ds[i]]) (Bd.im ds[i]) := y4
        subst y4
        obtain ⟨n6, h6⟩ := n5.besideM g5' h5 y2
        exact ⟨Bd.im ds[i], S6, ps, dss, _, im0, y1, g5'.unbaseM y2, sm5.trans y3, by rw [take_succ hdi]; exact r4.off, n6, h6⟩
      · rintro v H6 ⟨_, _, _, _, _, z⟩
        exact z.elim
      · rintro σ6 H6 ⟨_, _, _, _, _, _, z⟩
        exact z.elim
      · rintro σ6 H6 ⟨_, _, _, _, _, _, z⟩
        exact z.elim
    | false =>
      obtain ⟨_, hcond1, _⟩ := ask g5' n5 h5
      refine tWb.of (pss_one (ps_if (pt_w c1) (pss_w _) (pss_w _))) ?_
      refine (hcond1.run X gd σ4 H5 S5 w1 g5'.rebaseM).mono fun b2 H6 ⟨S6, g6, e6, _, hb2'⟩ => ?_
      obtain ⟨n6, h6⟩ := n5.besideM g5' h5 g6
      have g6' := g5'.unbaseM g6
      have sm6 : Same S1 S6 := sm5.trans e6
      cases b2 with
      | true =>
        refine tWb.of (pss_one (ps_w _)) ((add_runM ig ic hg hc gd w1 g6' n6 h6 (hbig _ _) (hbic _ _) (Nat.lt_of_le_of_lt hz (by rw [lim_eq]; decide)) hb2 hf2 hl2 hst2).mono ?_ (fun _ _ z => z.elim) (fun _ _ z => z.elim) (fun _ _ z => z.elim))
        rintro σ7 H7 ⟨rfl, S7, ps', z1, z2, z4, z5⟩
        exact ⟨Bd.im ds[i], S7, ps', _, as, im0, w1, z1, sm6.trans z2, by rw [take_succ hdi]; exact r4.new, z4, z5⟩
      | false =>
        have hne0 := hb2' rfl
        obtain ⟨_, _, hidx⟩ := ask g6' n6 h6
        refine tWb.of (pss_one (ps_w _)) ((put_runM ig ic hg hc gd w1 g6' n6 h6 (hbig _ _) (hbic _ _) (fun es he => ?_) (we_mono (hidx hne0) fun k ⟨j, ej, hj⟩ => ⟨j, ej, by rw [n6.len]; exact hj⟩) hsx hb1 hf1 hl1 hst1).mono ?_ (fun _ _ z => z.elim) (fun _ _ z => z.elim) (fun _ _ z => z.elim))
        · exact Nat.lt_of_le_of_lt (Nat.le_trans (hP.1 es he).2.1 hzi) (by rw [lim_eq]; decide)
        · rintro σ7 H7 ⟨rfl, S7, k, es, z1, z2, z3, z4⟩
          exact ⟨Bd.im ds[i], S7, ps, _, as, im0, w1, z1, sm6.trans z2, by rw [take_succ hdi]; exact r4.put z3, z4, h6⟩
  · have e : i = ds.length := by omega
    subst e
    obtain ⟨S6, g6, e6⟩ := r5.freezeM r2 r6 (hbig as t)
    rw [List.take_length] at r4
    refine .inl ⟨io.stop ds.length H' S' r3 r2.ex rfl, _, S6, r1, by rw [List.length_set]; exact hlen as t, g6, e1.trans (r3.trans e6), ?_⟩
    have := hend dss as t r4
    show D.nx ((((Γ.set ig _).set ja _).set ic _).set ig _)
    rw [List.set_comm _ _ (Ne.symm hne), List.set_comm _ _ (Ne.symm hgj), List.set_set]
    exact this
end
end DW
namespace DW
open PySem PySem.Spec L2
open PyProof.Rows hiding St
section
variable {G : Gd} {M : Nm} {F : Fx} {Γ : List Bd} {Qb : Bool → Prop} {p pos : Pos}
theorem wt_eqKept {p2 : Pos} (i : Nat) {x : Str} {a : Addr} {es : List PyData} (hn : Rdb M i x) (hb : Γ[i]? = some (Bd.rw (.ref a))) (hd : Dp G.K F.kept (.ref a) (.list es)) (hs : SeqAt.shaped (.list es) = true) (h : Qb es.isEmpty) : WT G M F (.Compare (.Name x p) [.Eq] [.List [] p2] pos) Γ Qb := by
  refine ⟨fun X gd σ H S hl g => tWt.of (pt_cmpR (op_eqA gd) (pe_var (gd.at hn.1) (gd.vis hn) hn.2.2.1 hn.2.2.2) (pe_w (.List [] p2)) (nomark _)) ?_⟩
  refine ⟨_, g.raw i _ hb, ((we_fresh (Q := fun d => d = .list []) (wf_list (wl_nil ⟨Nat.zero_le _, rfl⟩)) : WE G M F (.List [] p2) Γ fun d => d = .list []).run X gd σ H S hl g).mono fun y H2 ⟨S2, d, g2, e2, k2, hdd, ed⟩ => ?_⟩
  subst ed
  have e : PyData.eqv (.list es) (.list []) = es.isEmpty := by cases es <;> simp [PyData.eqv, PyData.eqvAll]
  exact .inr ⟨.list es, .list [], dp_mono g2.kept hd, dp_mono g2.ex hdd, hs, by decide +kernel, _, rfl, S2, g2, e2, k2, by rw [e]; exact h⟩
end
theorem sh_lay : shNames.all (fun t => PyData.strOk t) = true := by decide +kernel
theorem sh_shaped {ts : List Str} (hts : ∀ t, t ∈ ts → t ∈ shNames) {dss : List (List PyData)} (h : ∀ es, es ∈ dss → ∀ e, e ∈ es → e ∈ ts.map PyData.str) : SeqAt.shaped (.list (dss.map PyData.list)) = true := by
  have f : FlatTo 2 (.list (dss.map PyData.list)) := .list fun d hd => by
    obtain ⟨es, hes, rfl⟩ := List.mem_map.mp hd
    refine .list fun e he => ?_
    obtain ⟨t, ht, rfl⟩ := List.mem_map.mp (h es hes e he)
    exact .str (List.all_eq_true.mp sh_lay t (hts t ht))
  exact f.shaped (by decide)
theorem strs_in {ts : List Str} : ∀ {es : List PyData}, (∀ e, e ∈ es → e ∈ ts.map PyData.str) → ∃ g : List Str, es = g.map PyData.str ∧ ∀ t, t ∈ g → t ∈ ts
  | [], _ => ⟨[], rfl, fun _ h => nomatch h⟩
  | e :: es, h => by
    obtain ⟨t, ht, rfl⟩ := List.mem_map.mp (h e List.mem_cons_self)
    obtain ⟨g, rfl, hg⟩ := strs_in fun z hz => h z (List.mem_cons_of_mem _ hz)
    refine ⟨t :: g, rfl, fun u hu => ?_⟩
    rcases List.mem_cons.mp hu with rfl | hu
    · exact ht
    · exact hg u hu
theorem strss_in {ts : List Str} {n : Nat} : ∀ {dss : List (List PyData)}, (∀ es, es ∈ dss → es.length ≤ n ∧ ∀ e, e ∈ es → e ∈ ts.map PyData.str) → ∃ gs : List (List Str), dss = gs.map (fun g => g.map PyData.str) ∧ ∀ g, g ∈ gs → g.length ≤ n ∧ ∀ t, t ∈ g → t ∈ ts
  | [], _ => ⟨[], rfl, fun _ h => nomatch h⟩
  | es :: dss, h => by
    obtain ⟨g, rfl, hg⟩ := strs_in (h es List.mem_cons_self).2
    have hl := (h _ List.mem_cons_self).1
    obtain ⟨gs, rfl, hgs⟩ := strss_in fun z hz => h z (List.mem_cons_of_mem _ hz)
    refine ⟨g :: gs, rfl, fun u hu => ?_⟩
    rcases List.mem_cons.mp hu with rfl | hu
    · exact ⟨by rw [List.length_map] at hl; exact hl, hg⟩
    · exact hgs u hu
end DW
namespace K64
open PySem PySem.Spec L2 DW
open PyProof.Rows hiding St
def topS (i : Nat) : Stmt := PySem.Challenge.pw_heldthrough_k64_schemes_and_tables_of_an.main.body.getD i (.Pass ⟨0, 0, 0, 0⟩)
structure Blt (G : Gd) : Prop where
  len : G.mg "len" = none
  tuple : G.mg "tuple" = none
  list : G.mg "list" = none
  int : G.mg "int" = none
  bool : G.mg "bool" = none
  abs : G.mg "abs" = none
  all : G.mg "all" = none
  sorted : G.mg "sorted" = none
  range : G.mg "range" = none
  repr : G.mg "repr" = none
  isinstance : G.mg "isinstance" = none
  set : G.mg "set" = none
  str : G.mg "str" = none
  LETTERS : ∃ tk, G.mg "LETTERS" = some (.str "abcdefghijklmnopqrstuvwxyz" tk)
  gcd : G.mg "gcd" = some (.builtin "math.gcd")
  kt : ktOk G.K = true
  dg : dgOk G.K = true
abbrev s_is_integer : Stmt := topS 3
abbrev N_is_integer : List Str := "thing" :: []
abbrev M_is_integer : Nm := ⟨N_is_integer, [.lo], ("isinstance" :: "int" :: "bool" :: [] : List Str), defScope s_is_integer⟩
theorem sc_is_integer : FnScope M_is_integer.N ["thing"] (defScope s_is_integer) := ⟨rfl, rfl, rfl, by decide +kernel, rfl, by decide +kernel, by decide +kernel⟩
theorem ok_is_integer : nmOk M_is_integer = true := by decide +kernel
theorem r_is_integer_thing : Rdb M_is_integer 0 "thing" := ⟨rfl, ⟨_, rfl, by simp⟩, by decide +kernel, by decide +kernel⟩
theorem g_is_integer_isinstance : ("isinstance" : Str) ∈ M_is_integer.gl := List.Mem.head _
theorem g_is_integer_int : ("int" : Str) ∈ M_is_integer.gl := List.Mem.tail _ (List.Mem.head _)
theorem g_is_integer_bool : ("bool" : Str) ∈ M_is_integer.gl := List.Mem.tail _ (List.Mem.tail _ (List.Mem.head _))
abbrev s_is_name : Stmt := topS 4
abbrev N_is_name : List Str := "thing" :: "sign" :: []
abbrev M_is_name : Nm := ⟨N_is_name, [.lo, .no], ("isinstance" :: "str" :: "len" :: "all" :: [] : List Str), defScope s_is_name⟩
theorem sc_is_name : FnScope M_is_name.N ["thing"] (defScope s_is_name) := ⟨rfl, rfl, rfl, by decide +kernel, rfl, by decide +kernel, by decide +kernel⟩
theorem ok_is_name : nmOk M_is_name = true := by decide +kernel
theorem r_is_name_thing : Rdb M_is_name 0 "thing" := ⟨rfl, ⟨_, rfl, by simp⟩, by decide +kernel, by decide +kernel⟩
theorem g_is_name_isinstance : ("isinstance" : Str) ∈ M_is_name.gl := List.Mem.head _
theorem g_is_name_str : ("str" : Str) ∈ M_is_name.gl := List.Mem.tail _ (List.Mem.head _)
theorem g_is_name_len : ("len" : Str) ∈ M_is_name.gl := List.Mem.tail _ (List.Mem.tail _ (List.Mem.head _))
theorem g_is_name_all : ("all" : Str) ∈ M_is_name.gl := List.Mem.tail _ (List.Mem.tail _ (List.Mem.tail _ (List.Mem.head _)))
abbrev kd_is_name_0 : List Kd := [.no, .lo]
abbrev gl_is_name_0 : List Str := "LETTERS" :: []
abbrev own_is_name_0 : List (Str × Nat) := [("sign", 1)]
theorem r_is_name_0_sign (s0 : Scope) : Rdb (blkNm M_is_name s0 kd_is_name_0 gl_is_name_0) 1 "sign" := ⟨rfl, ⟨_, rfl, by simp⟩, by decide +kernel, by decide +kernel⟩
theorem t_is_name_0_sign (s0 : Scope) : Sto (blkNm M_is_name s0 kd_is_name_0 gl_is_name_0) 1 "sign" := ⟨rfl, .inl rfl⟩
theorem g_is_name_0_LETTERS (s0 : Scope) : ("LETTERS" : Str) ∈ (blkNm M_is_name s0 kd_is_name_0 gl_is_name_0).gl := List.Mem.head _
abbrev s_is_fraction : Stmt := topS 5
abbrev N_is_fraction : List Str := "thing" :: "part" :: []
abbrev M_is_fraction : Nm := ⟨N_is_fraction, [.lo, .no], ("isinstance" :: "tuple" :: "len" :: "all" :: "gcd" :: [] : List Str), defScope s_is_fraction⟩
theorem sc_is_fraction : FnScope M_is_fraction.N ["thing"] (defScope s_is_fraction) := ⟨rfl, rfl, rfl, by decide +kernel, rfl, by decide +kernel, by decide +kernel⟩
theorem ok_is_fraction : nmOk M_is_fraction = true := by decide +kernel
theorem r_is_fraction_thing : Rdb M_is_fraction 0 "thing" := ⟨rfl, ⟨_, rfl, by simp⟩, by decide +kernel, by decide +kernel⟩
theorem g_is_fraction_isinstance : ("isinstance" : Str) ∈ M_is_fraction.gl := List.Mem.head _
theorem g_is_fraction_tuple : ("tuple" : Str) ∈ M_is_fraction.gl := List.Mem.tail _ (List.Mem.head _)
theorem g_is_fraction_len : ("len" : Str) ∈ M_is_fraction.gl := List.Mem.tail _ (List.Mem.tail _ (List.Mem.head _))
theorem g_is_fraction_all : ("all" : Str) ∈ M_is_fraction.gl := List.Mem.tail _ (List.Mem.tail _ (List.Mem.tail _ (List.Mem.head _)))
theorem g_is_fraction_gcd : ("gcd" : Str) ∈ M_is_fraction.gl := List.Mem.tail _ (List.Mem.tail _ (List.Mem.tail _ (List.Mem.tail _ (List.Mem.head _))))
abbrev kd_is_fraction_0 : List Kd := [.no, .lo]
abbrev gl_is_fraction_0 : List Str := "is_integer" :: []
abbrev own_is_fraction_0 : List (Str × Nat) := [("part", 1)]
theorem r_is_fraction_0_part (s0 : Scope) : Rdb (blkNm M_is_fraction s0 kd_is_fraction_0 gl_is_fraction_0) 1 "part" := ⟨rfl, ⟨_, rfl, by simp⟩, by decide +kernel, by decide +kernel⟩
theorem t_is_fraction_0_part (s0 : Scope) : Sto (blkNm M_is_fraction s0 kd_is_fraction_0 gl_is_fraction_0) 1 "part" := ⟨rfl, .inl rfl⟩
theorem g_is_fraction_0_is_integer (s0 : Scope) : ("is_integer" : Str) ∈ (blkNm M_is_fraction s0 kd_is_fraction_0 gl_is_fraction_0).gl := List.Mem.head _
abbrev s_is_side : Stmt := topS 7
abbrev N_is_side : List Str := "thing" :: "least" :: "cells" :: "groups" :: "free" :: "group" :: "stood" :: "lots" :: "part" :: "cell" :: "lot" :: []
abbrev M_is_side : Nm := ⟨N_is_side, [.lo, .lo, .ce, .lo, .lo, .lo, .lo, .lo, .no, .no, .no], ("isinstance" :: "tuple" :: "len" :: "all" :: "set" :: "list" :: "sorted" :: [] : List Str), defScope s_is_side⟩
theorem sc_is_side : FnScope M_is_side.N ["thing", "least"] (defScope s_is_side) := ⟨rfl, rfl, rfl, by decide +kernel, rfl, by decide +kernel, by decide +kernel⟩
theorem ok_is_side : nmOk M_is_side = true := by decide +kernel
theorem r_is_side_thing : Rdb M_is_side 0 "thing" := ⟨rfl, ⟨_, rfl, by simp⟩, by decide +kernel, by decide +kernel⟩
theorem r_is_side_least : Rdb M_is_side 1 "least" := ⟨rfl, ⟨_, rfl, by simp⟩, by decide +kernel, by decide +kernel⟩
theorem r_is_side_cells : Rdb M_is_side 2 "cells" := ⟨rfl, ⟨_, rfl, by simp⟩, by decide +kernel, by decide +kernel⟩
theorem t_is_side_cells : Sto M_is_side 2 "cells" := ⟨rfl, .inr rfl⟩
theorem r_is_side_groups : Rdb M_is_side 3 "groups" := ⟨rfl, ⟨_, rfl, by simp⟩, by decide +kernel, by decide +kernel⟩
theorem t_is_side_groups : Sto M_is_side 3 "groups" := ⟨rfl, .inl rfl⟩
theorem r_is_side_free : Rdb M_is_side 4 "free" := ⟨rfl, ⟨_, rfl, by simp⟩, by decide +kernel, by decide +kernel⟩
theorem t_is_side_free : Sto M_is_side 4 "free" := ⟨rfl, .inl rfl⟩
theorem r_is_side_group : Rdb M_is_side 5 "group" := ⟨rfl, ⟨_, rfl, by simp⟩, by decide +kernel, by decide +kernel⟩
theorem t_is_side_group : Sto M_is_side 5 "group" := ⟨rfl, .inl rfl⟩
theorem r_is_side_stood : Rdb M_is_side 6 "stood" := ⟨rfl, ⟨_, rfl, by simp⟩, by decide +kernel, by decide +kernel⟩
theorem t_is_side_stood : Sto M_is_side 6 "stood" := ⟨rfl, .inl rfl⟩
theorem r_is_side_lots : Rdb M_is_side 7 "lots" := ⟨rfl, ⟨_, rfl, by simp⟩, by decide +kernel, by decide +kernel⟩
theorem t_is_side_lots : Sto M_is_side 7 "lots" := ⟨rfl, .inl rfl⟩
theorem g_is_side_isinstance : ("isinstance" : Str) ∈ M_is_side.gl := List.Mem.head _
theorem g_is_side_tuple : ("tuple" : Str) ∈ M_is_side.gl := List.Mem.tail _ (List.Mem.head _)
theorem g_is_side_len : ("len" : Str) ∈ M_is_side.gl := List.Mem.tail _ (List.Mem.tail _ (List.Mem.head _))
theorem g_is_side_all : ("all" : Str) ∈ M_is_side.gl := List.Mem.tail _ (List.Mem.tail _ (List.Mem.tail _ (List.Mem.head _)))
theorem g_is_side_set : ("set" : Str) ∈ M_is_side.gl := List.Mem.tail _ (List.Mem.tail _ (List.Mem.tail _ (List.Mem.tail _ (List.Mem.head _))))
theorem g_is_side_list : ("list" : Str) ∈ M_is_side.gl := List.Mem.tail _ (List.Mem.tail _ (List.Mem.tail _ (List.Mem.tail _ (List.Mem.tail _ (List.Mem.head _)))))
theorem g_is_side_sorted : ("sorted" : Str) ∈ M_is_side.gl := List.Mem.tail _ (List.Mem.tail _ (List.Mem.tail _ (List.Mem.tail _ (List.Mem.tail _ (List.Mem.tail _ (List.Mem.head _))))))
abbrev kd_is_side_0 : List Kd := [.no, .no, .no, .no, .no, .no, .no, .no, .lo, .no, .no]
abbrev gl_is_side_0 : List Str := "isinstance" :: "tuple" :: []
abbrev own_is_side_0 : List (Str × Nat) := [("part", 8)]
theorem r_is_side_0_part (s0 : Scope) : Rdb (blkNm M_is_side s0 kd_is_side_0 gl_is_side_0) 8 "part" := ⟨rfl, ⟨_, rfl, by simp⟩, by decide +kernel, by decide +kernel⟩
theorem t_is_side_0_part (s0 : Scope) : Sto (blkNm M_is_side s0 kd_is_side_0 gl_is_side_0) 8 "part" := ⟨rfl, .inl rfl⟩
theorem g_is_side_0_isinstance (s0 : Scope) : ("isinstance" : Str) ∈ (blkNm M_is_side s0 kd_is_side_0 gl_is_side_0).gl := List.Mem.head _
theorem g_is_side_0_tuple (s0 : Scope) : ("tuple" : Str) ∈ (blkNm M_is_side s0 kd_is_side_0 gl_is_side_0).gl := List.Mem.tail _ (List.Mem.head _)
abbrev kd_is_side_1 : List Kd := [.no, .no, .no, .no, .no, .no, .no, .no, .no, .lo, .no]
abbrev gl_is_side_1 : List Str := "is_name" :: []
abbrev own_is_side_1 : List (Str × Nat) := [("cell", 9)]
theorem r_is_side_1_cell (s1 : Scope) : Rdb (blkNm M_is_side s1 kd_is_side_1 gl_is_side_1) 9 "cell" := ⟨rfl, ⟨_, rfl, by simp⟩, by decide +kernel, by decide +kernel⟩
theorem t_is_side_1_cell (s1 : Scope) : Sto (blkNm M_is_side s1 kd_is_side_1 gl_is_side_1) 9 "cell" := ⟨rfl, .inl rfl⟩
theorem g_is_side_1_is_name (s1 : Scope) : ("is_name" : Str) ∈ (blkNm M_is_side s1 kd_is_side_1 gl_is_side_1).gl := List.Mem.head _
abbrev kd_is_side_2 : List Kd := [.no, .no, .no, .no, .no, .lo, .no, .no, .no, .no, .no]
abbrev gl_is_side_2 : List Str := "isinstance" :: "tuple" :: []
abbrev own_is_side_2 : List (Str × Nat) := [("group", 5)]
theorem r_is_side_2_group (s2 : Scope) : Rdb (blkNm M_is_side s2 kd_is_side_2 gl_is_side_2) 5 "group" := ⟨rfl, ⟨_, rfl, by simp⟩, by decide +kernel, by decide +kernel⟩
theorem t_is_side_2_group (s2 : Scope) : Sto (blkNm M_is_side s2 kd_is_side_2 gl_is_side_2) 5 "group" := ⟨rfl, .inl rfl⟩
theorem g_is_side_2_isinstance (s2 : Scope) : ("isinstance" : Str) ∈ (blkNm M_is_side s2 kd_is_side_2 gl_is_side_2).gl := List.Mem.head _
theorem g_is_side_2_tuple (s2 : Scope) : ("tuple" : Str) ∈ (blkNm M_is_side s2 kd_is_side_2 gl_is_side_2).gl := List.Mem.tail _ (List.Mem.head _)
abbrev kd_is_side_3 : List Kd := [.no, .no, .no, .no, .no, .no, .no, .no, .no, .lo, .no]
abbrev gl_is_side_3 : List Str := "isinstance" :: "str" :: []
abbrev own_is_side_3 : List (Str × Nat) := [("cell", 9)]
theorem r_is_side_3_cell (s3 : Scope) : Rdb (blkNm M_is_side s3 kd_is_side_3 gl_is_side_3) 9 "cell" := ⟨rfl, ⟨_, rfl, by simp⟩, by decide +kernel, by decide +kernel⟩
theorem t_is_side_3_cell (s3 : Scope) : Sto (blkNm M_is_side s3 kd_is_side_3 gl_is_side_3) 9 "cell" := ⟨rfl, .inl rfl⟩
theorem g_is_side_3_isinstance (s3 : Scope) : ("isinstance" : Str) ∈ (blkNm M_is_side s3 kd_is_side_3 gl_is_side_3).gl := List.Mem.head _
theorem g_is_side_3_str (s3 : Scope) : ("str" : Str) ∈ (blkNm M_is_side s3 kd_is_side_3 gl_is_side_3).gl := List.Mem.tail _ (List.Mem.head _)
abbrev kd_is_side_4 : List Kd := [.no, .no, .no, .no, .no, .no, .no, .no, .no, .lo, .no]
abbrev gl_is_side_4 : List Str := "isinstance" :: "str" :: []
abbrev own_is_side_4 : List (Str × Nat) := [("cell", 9)]
theorem r_is_side_4_cell (s4 : Scope) : Rdb (blkNm M_is_side s4 kd_is_side_4 gl_is_side_4) 9 "cell" := ⟨rfl, ⟨_, rfl, by simp⟩, by decide +kernel, by decide +kernel⟩
theorem t_is_side_4_cell (s4 : Scope) : Sto (blkNm M_is_side s4 kd_is_side_4 gl_is_side_4) 9 "cell" := ⟨rfl, .inl rfl⟩
theorem g_is_side_4_isinstance (s4 : Scope) : ("isinstance" : Str) ∈ (blkNm M_is_side s4 kd_is_side_4 gl_is_side_4).gl := List.Mem.head _
theorem g_is_side_4_str (s4 : Scope) : ("str" : Str) ∈ (blkNm M_is_side s4 kd_is_side_4 gl_is_side_4).gl := List.Mem.tail _ (List.Mem.head _)
abbrev kd_is_side_5 : List Kd := [.no, .no, .rd, .no, .no, .no, .no, .no, .no, .no, .lo]
abbrev gl_is_side_5 : List Str := "sorted" :: []
abbrev own_is_side_5 : List (Str × Nat) := [("lot", 10)]
theorem r_is_side_5_cells (s5 : Scope) : Rdb (blkNm M_is_side s5 kd_is_side_5 gl_is_side_5) 2 "cells" := ⟨rfl, ⟨_, rfl, by simp⟩, by decide +kernel, by decide +kernel⟩
theorem r_is_side_5_lot (s5 : Scope) : Rdb (blkNm M_is_side s5 kd_is_side_5 gl_is_side_5) 10 "lot" := ⟨rfl, ⟨_, rfl, by simp⟩, by decide +kernel, by decide +kernel⟩
theorem t_is_side_5_lot (s5 : Scope) : Sto (blkNm M_is_side s5 kd_is_side_5 gl_is_side_5) 10 "lot" := ⟨rfl, .inl rfl⟩
theorem g_is_side_5_sorted (s5 : Scope) : ("sorted" : Str) ∈ (blkNm M_is_side s5 kd_is_side_5 gl_is_side_5).gl := List.Mem.head _
abbrev kd_is_side_6 : List Kd := [.no, .no, .rd, .no, .no, .no, .no, .no, .no, .lo, .no]
abbrev gl_is_side_6 : List Str := []
abbrev own_is_side_6 : List (Str × Nat) := [("cell", 9)]
theorem r_is_side_6_cells (s5 s6 : Scope) : Rdb (blkNm (blkNm M_is_side s5 kd_is_side_5 gl_is_side_5) s6 kd_is_side_6 gl_is_side_6) 2 "cells" := ⟨rfl, ⟨_, rfl, by simp⟩, by decide +kernel, by decide +kernel⟩
theorem r_is_side_6_cell (s5 s6 : Scope) : Rdb (blkNm (blkNm M_is_side s5 kd_is_side_5 gl_is_side_5) s6 kd_is_side_6 gl_is_side_6) 9 "cell" := ⟨rfl, ⟨_, rfl, by simp⟩, by decide +kernel, by decide +kernel⟩
theorem t_is_side_6_cell (s5 s6 : Scope) : Sto (blkNm (blkNm M_is_side s5 kd_is_side_5 gl_is_side_5) s6 kd_is_side_6 gl_is_side_6) 9 "cell" := ⟨rfl, .inl rfl⟩
abbrev kd_is_side_7 : List Kd := [.no, .no, .rd, .no, .no, .no, .no, .no, .no, .lo, .no]
abbrev gl_is_side_7 : List Str := []
abbrev own_is_side_7 : List (Str × Nat) := [("cell", 9)]
theorem r_is_side_7_cells (s5 s7 : Scope) : Rdb (blkNm (blkNm M_is_side s5 kd_is_side_5 gl_is_side_5) s7 kd_is_side_7 gl_is_side_7) 2 "cells" := ⟨rfl, ⟨_, rfl, by simp⟩, by decide +kernel, by decide +kernel⟩
theorem r_is_side_7_cell (s5 s7 : Scope) : Rdb (blkNm (blkNm M_is_side s5 kd_is_side_5 gl_is_side_5) s7 kd_is_side_7 gl_is_side_7) 9 "cell" := ⟨rfl, ⟨_, rfl, by simp⟩, by decide +kernel, by decide +kernel⟩
theorem t_is_side_7_cell (s5 s7 : Scope) : Sto (blkNm (blkNm M_is_side s5 kd_is_side_5 gl_is_side_5) s7 kd_is_side_7 gl_is_side_7) 9 "cell" := ⟨rfl, .inl rfl⟩
abbrev kd_is_side_8 : List Kd := [.no, .no, .rd, .no, .no, .lo, .no, .no, .no, .no, .no]
abbrev gl_is_side_8 : List Str := []
abbrev own_is_side_8 : List (Str × Nat) := [("group", 5)]
theorem r_is_side_8_cells (s8 : Scope) : Rdb (blkNm M_is_side s8 kd_is_side_8 gl_is_side_8) 2 "cells" := ⟨rfl, ⟨_, rfl, by simp⟩, by decide +kernel, by decide +kernel⟩
theorem r_is_side_8_group (s8 : Scope) : Rdb (blkNm M_is_side s8 kd_is_side_8 gl_is_side_8) 5 "group" := ⟨rfl, ⟨_, rfl, by simp⟩, by decide +kernel, by decide +kernel⟩
theorem t_is_side_8_group (s8 : Scope) : Sto (blkNm M_is_side s8 kd_is_side_8 gl_is_side_8) 5 "group" := ⟨rfl, .inl rfl⟩
abbrev kd_is_side_9 : List Kd := [.no, .no, .rd, .no, .no, .lo, .no, .no, .no, .no, .no]
abbrev gl_is_side_9 : List Str := []
abbrev own_is_side_9 : List (Str × Nat) := [("group", 5)]
theorem r_is_side_9_cells (s9 : Scope) : Rdb (blkNm M_is_side s9 kd_is_side_9 gl_is_side_9) 2 "cells" := ⟨rfl, ⟨_, rfl, by simp⟩, by decide +kernel, by decide +kernel⟩
theorem r_is_side_9_group (s9 : Scope) : Rdb (blkNm M_is_side s9 kd_is_side_9 gl_is_side_9) 5 "group" := ⟨rfl, ⟨_, rfl, by simp⟩, by decide +kernel, by decide +kernel⟩
theorem t_is_side_9_group (s9 : Scope) : Sto (blkNm M_is_side s9 kd_is_side_9 gl_is_side_9) 5 "group" := ⟨rfl, .inl rfl⟩
abbrev s_is_numbers : Stmt := topS 8
abbrev N_is_numbers : List Str := "thing" :: "many" :: "number" :: []
abbrev M_is_numbers : Nm := ⟨N_is_numbers, [.lo, .lo, .no], ("isinstance" :: "tuple" :: "len" :: "all" :: [] : List Str), defScope s_is_numbers⟩
theorem sc_is_numbers : FnScope M_is_numbers.N ["thing", "many"] (defScope s_is_numbers) := ⟨rfl, rfl, rfl, by decide +kernel, rfl, by decide +kernel, by decide +kernel⟩
theorem ok_is_numbers : nmOk M_is_numbers = true := by decide +kernel
theorem r_is_numbers_thing : Rdb M_is_numbers 0 "thing" := ⟨rfl, ⟨_, rfl, by simp⟩, by decide +kernel, by decide +kernel⟩
theorem r_is_numbers_many : Rdb M_is_numbers 1 "many" := ⟨rfl, ⟨_, rfl, by simp⟩, by decide +kernel, by decide +kernel⟩
theorem g_is_numbers_isinstance : ("isinstance" : Str) ∈ M_is_numbers.gl := List.Mem.head _
theorem g_is_numbers_tuple : ("tuple" : Str) ∈ M_is_numbers.gl := List.Mem.tail _ (List.Mem.head _)
theorem g_is_numbers_len : ("len" : Str) ∈ M_is_numbers.gl := List.Mem.tail _ (List.Mem.tail _ (List.Mem.head _))
theorem g_is_numbers_all : ("all" : Str) ∈ M_is_numbers.gl := List.Mem.tail _ (List.Mem.tail _ (List.Mem.tail _ (List.Mem.head _)))
abbrev kd_is_numbers_0 : List Kd := [.no, .no, .lo]
abbrev gl_is_numbers_0 : List Str := "is_integer" :: []
abbrev own_is_numbers_0 : List (Str × Nat) := [("number", 2)]
theorem r_is_numbers_0_number (s0 : Scope) : Rdb (blkNm M_is_numbers s0 kd_is_numbers_0 gl_is_numbers_0) 2 "number" := ⟨rfl, ⟨_, rfl, by simp⟩, by decide +kernel, by decide +kernel⟩
theorem t_is_numbers_0_number (s0 : Scope) : Sto (blkNm M_is_numbers s0 kd_is_numbers_0 gl_is_numbers_0) 2 "number" := ⟨rfl, .inl rfl⟩
theorem g_is_numbers_0_is_integer (s0 : Scope) : ("is_integer" : Str) ∈ (blkNm M_is_numbers s0 kd_is_numbers_0 gl_is_numbers_0).gl := List.Mem.head _
abbrev s_is_scheme_rule : Stmt := topS 9
abbrev N_is_scheme_rule : List Str := "head" :: "row" :: "thing" :: []
abbrev M_is_scheme_rule : Nm := ⟨N_is_scheme_rule, [.lo, .lo, .lo], ("isinstance" :: "tuple" :: "len" :: "str" :: "is_numbers" :: "is_integer" :: [] : List Str), defScope s_is_scheme_rule⟩
theorem sc_is_scheme_rule : FnScope M_is_scheme_rule.N ["head", "row", "thing"] (defScope s_is_scheme_rule) := ⟨rfl, rfl, rfl, by decide +kernel, rfl, by decide +kernel, by decide +kernel⟩
theorem ok_is_scheme_rule : nmOk M_is_scheme_rule = true := by decide +kernel
theorem r_is_scheme_rule_head : Rdb M_is_scheme_rule 0 "head" := ⟨rfl, ⟨_, rfl, by simp⟩, by decide +kernel, by decide +kernel⟩
theorem r_is_scheme_rule_row : Rdb M_is_scheme_rule 1 "row" := ⟨rfl, ⟨_, rfl, by simp⟩, by decide +kernel, by decide +kernel⟩
theorem r_is_scheme_rule_thing : Rdb M_is_scheme_rule 2 "thing" := ⟨rfl, ⟨_, rfl, by simp⟩, by decide +kernel, by decide +kernel⟩
theorem g_is_scheme_rule_isinstance : ("isinstance" : Str) ∈ M_is_scheme_rule.gl := List.Mem.head _
theorem g_is_scheme_rule_tuple : ("tuple" : Str) ∈ M_is_scheme_rule.gl := List.Mem.tail _ (List.Mem.head _)
theorem g_is_scheme_rule_len : ("len" : Str) ∈ M_is_scheme_rule.gl := List.Mem.tail _ (List.Mem.tail _ (List.Mem.head _))
theorem g_is_scheme_rule_str : ("str" : Str) ∈ M_is_scheme_rule.gl := List.Mem.tail _ (List.Mem.tail _ (List.Mem.tail _ (List.Mem.head _)))
theorem g_is_scheme_rule_is_numbers : ("is_numbers" : Str) ∈ M_is_scheme_rule.gl := List.Mem.tail _ (List.Mem.tail _ (List.Mem.tail _ (List.Mem.tail _ (List.Mem.head _))))
theorem g_is_scheme_rule_is_integer : ("is_integer" : Str) ∈ M_is_scheme_rule.gl := List.Mem.tail _ (List.Mem.tail _ (List.Mem.tail _ (List.Mem.tail _ (List.Mem.tail _ (List.Mem.head _)))))
abbrev s_is_scheme : Stmt := topS 10
abbrev N_is_scheme : List Str := "thing" :: "way" :: "head" :: "row" :: "rules" :: "rule" :: []
abbrev M_is_scheme : Nm := ⟨N_is_scheme, [.lo, .lo, .ce, .ce, .lo, .no], ("isinstance" :: "tuple" :: "len" :: "str" :: "is_side" :: "all" :: [] : List Str), defScope s_is_scheme⟩
theorem sc_is_scheme : FnScope M_is_scheme.N ["thing"] (defScope s_is_scheme) := ⟨rfl, rfl, rfl, by decide +kernel, rfl, by decide +kernel, by decide +kernel⟩
theorem ok_is_scheme : nmOk M_is_scheme = true := by decide +kernel
theorem r_is_scheme_thing : Rdb M_is_scheme 0 "thing" := ⟨rfl, ⟨_, rfl, by simp⟩, by decide +kernel, by decide +kernel⟩
theorem r_is_scheme_way : Rdb M_is_scheme 1 "way" := ⟨rfl, ⟨_, rfl, by simp⟩, by decide +kernel, by decide +kernel⟩
theorem t_is_scheme_way : Sto M_is_scheme 1 "way" := ⟨rfl, .inl rfl⟩
theorem r_is_scheme_head : Rdb M_is_scheme 2 "head" := ⟨rfl, ⟨_, rfl, by simp⟩, by decide +kernel, by decide +kernel⟩
theorem t_is_scheme_head : Sto M_is_scheme 2 "head" := ⟨rfl, .inr rfl⟩
theorem r_is_scheme_row : Rdb M_is_scheme 3 "row" := ⟨rfl, ⟨_, rfl, by simp⟩, by decide +kernel, by decide +kernel⟩
theorem t_is_scheme_row : Sto M_is_scheme 3 "row" := ⟨rfl, .inr rfl⟩
theorem r_is_scheme_rules : Rdb M_is_scheme 4 "rules" := ⟨rfl, ⟨_, rfl, by simp⟩, by decide +kernel, by decide +kernel⟩
theorem t_is_scheme_rules : Sto M_is_scheme 4 "rules" := ⟨rfl, .inl rfl⟩
theorem g_is_scheme_isinstance : ("isinstance" : Str) ∈ M_is_scheme.gl := List.Mem.head _
theorem g_is_scheme_tuple : ("tuple" : Str) ∈ M_is_scheme.gl := List.Mem.tail _ (List.Mem.head _)
theorem g_is_scheme_len : ("len" : Str) ∈ M_is_scheme.gl := List.Mem.tail _ (List.Mem.tail _ (List.Mem.head _))
theorem g_is_scheme_str : ("str" : Str) ∈ M_is_scheme.gl := List.Mem.tail _ (List.Mem.tail _ (List.Mem.tail _ (List.Mem.head _)))
theorem g_is_scheme_is_side : ("is_side" : Str) ∈ M_is_scheme.gl := List.Mem.tail _ (List.Mem.tail _ (List.Mem.tail _ (List.Mem.tail _ (List.Mem.head _))))
theorem g_is_scheme_all : ("all" : Str) ∈ M_is_scheme.gl := List.Mem.tail _ (List.Mem.tail _ (List.Mem.tail _ (List.Mem.tail _ (List.Mem.tail _ (List.Mem.head _)))))
abbrev kd_is_scheme_0 : List Kd := [.no, .no, .rd, .rd, .no, .lo]
abbrev gl_is_scheme_0 : List Str := "is_scheme_rule" :: []
abbrev own_is_scheme_0 : List (Str × Nat) := [("rule", 5)]
theorem r_is_scheme_0_head (s0 : Scope) : Rdb (blkNm M_is_scheme s0 kd_is_scheme_0 gl_is_scheme_0) 2 "head" := ⟨rfl, ⟨_, rfl, by simp⟩, by decide +kernel, by decide +kernel⟩
theorem r_is_scheme_0_row (s0 : Scope) : Rdb (blkNm M_is_scheme s0 kd_is_scheme_0 gl_is_scheme_0) 3 "row" := ⟨rfl, ⟨_, rfl, by simp⟩, by decide +kernel, by decide +kernel⟩
theorem r_is_scheme_0_rule (s0 : Scope) : Rdb (blkNm M_is_scheme s0 kd_is_scheme_0 gl_is_scheme_0) 5 "rule" := ⟨rfl, ⟨_, rfl, by simp⟩, by decide +kernel, by decide +kernel⟩
theorem t_is_scheme_0_rule (s0 : Scope) : Sto (blkNm M_is_scheme s0 kd_is_scheme_0 gl_is_scheme_0) 5 "rule" := ⟨rfl, .inl rfl⟩
theorem g_is_scheme_0_is_scheme_rule (s0 : Scope) : ("is_scheme_rule" : Str) ∈ (blkNm M_is_scheme s0 kd_is_scheme_0 gl_is_scheme_0).gl := List.Mem.head _
abbrev s_is_row : Stmt := topS 11
abbrev N_is_row : List Str := "thing" :: "many" :: "one" :: []
abbrev M_is_row : Nm := ⟨N_is_row, [.lo, .lo, .no], ("isinstance" :: "tuple" :: "len" :: "all" :: [] : List Str), defScope s_is_row⟩
theorem sc_is_row : FnScope M_is_row.N ["thing", "many"] (defScope s_is_row) := ⟨rfl, rfl, rfl, by decide +kernel, rfl, by decide +kernel, by decide +kernel⟩
theorem ok_is_row : nmOk M_is_row = true := by decide +kernel
theorem r_is_row_thing : Rdb M_is_row 0 "thing" := ⟨rfl, ⟨_, rfl, by simp⟩, by decide +kernel, by decide +kernel⟩
theorem r_is_row_many : Rdb M_is_row 1 "many" := ⟨rfl, ⟨_, rfl, by simp⟩, by decide +kernel, by decide +kernel⟩
theorem g_is_row_isinstance : ("isinstance" : Str) ∈ M_is_row.gl := List.Mem.head _
theorem g_is_row_tuple : ("tuple" : Str) ∈ M_is_row.gl := List.Mem.tail _ (List.Mem.head _)
theorem g_is_row_len : ("len" : Str) ∈ M_is_row.gl := List.Mem.tail _ (List.Mem.tail _ (List.Mem.head _))
theorem g_is_row_all : ("all" : Str) ∈ M_is_row.gl := List.Mem.tail _ (List.Mem.tail _ (List.Mem.tail _ (List.Mem.head _)))
abbrev kd_is_row_0 : List Kd := [.no, .no, .lo]
abbrev gl_is_row_0 : List Str := "is_fraction" :: []
abbrev own_is_row_0 : List (Str × Nat) := [("one", 2)]
theorem r_is_row_0_one (s0 : Scope) : Rdb (blkNm M_is_row s0 kd_is_row_0 gl_is_row_0) 2 "one" := ⟨rfl, ⟨_, rfl, by simp⟩, by decide +kernel, by decide +kernel⟩
theorem t_is_row_0_one (s0 : Scope) : Sto (blkNm M_is_row s0 kd_is_row_0 gl_is_row_0) 2 "one" := ⟨rfl, .inl rfl⟩
theorem g_is_row_0_is_fraction (s0 : Scope) : ("is_fraction" : Str) ∈ (blkNm M_is_row s0 kd_is_row_0 gl_is_row_0).gl := List.Mem.head _
abbrev s_is_table : Stmt := topS 12
abbrev N_is_table : List Str := "scheme" :: "thing" :: "row" :: []
abbrev M_is_table : Nm := ⟨N_is_table, [.ce, .lo, .no], ("isinstance" :: "tuple" :: "len" :: "is_row" :: "all" :: [] : List Str), defScope s_is_table⟩
theorem sc_is_table : FnScope M_is_table.N ["scheme", "thing"] (defScope s_is_table) := ⟨rfl, rfl, rfl, by decide +kernel, rfl, by decide +kernel, by decide +kernel⟩
theorem ok_is_table : nmOk M_is_table = true := by decide +kernel
theorem r_is_table_scheme : Rdb M_is_table 0 "scheme" := ⟨rfl, ⟨_, rfl, by simp⟩, by decide +kernel, by decide +kernel⟩
theorem r_is_table_thing : Rdb M_is_table 1 "thing" := ⟨rfl, ⟨_, rfl, by simp⟩, by decide +kernel, by decide +kernel⟩
theorem g_is_table_isinstance : ("isinstance" : Str) ∈ M_is_table.gl := List.Mem.head _
theorem g_is_table_tuple : ("tuple" : Str) ∈ M_is_table.gl := List.Mem.tail _ (List.Mem.head _)
theorem g_is_table_len : ("len" : Str) ∈ M_is_table.gl := List.Mem.tail _ (List.Mem.tail _ (List.Mem.head _))
theorem g_is_table_is_row : ("is_row" : Str) ∈ M_is_table.gl := List.Mem.tail _ (List.Mem.tail _ (List.Mem.tail _ (List.Mem.head _)))
theorem g_is_table_all : ("all" : Str) ∈ M_is_table.gl := List.Mem.tail _ (List.Mem.tail _ (List.Mem.tail _ (List.Mem.tail _ (List.Mem.head _))))
abbrev kd_is_table_0 : List Kd := [.rd, .no, .lo]
abbrev gl_is_table_0 : List Str := "is_row" :: "len" :: []
abbrev own_is_table_0 : List (Str × Nat) := [("row", 2)]
theorem r_is_table_0_scheme (s0 : Scope) : Rdb (blkNm M_is_table s0 kd_is_table_0 gl_is_table_0) 0 "scheme" := ⟨rfl, ⟨_, rfl, by simp⟩, by decide +kernel, by decide +kernel⟩
theorem r_is_table_0_row (s0 : Scope) : Rdb (blkNm M_is_table s0 kd_is_table_0 gl_is_table_0) 2 "row" := ⟨rfl, ⟨_, rfl, by simp⟩, by decide +kernel, by decide +kernel⟩
theorem t_is_table_0_row (s0 : Scope) : Sto (blkNm M_is_table s0 kd_is_table_0 gl_is_table_0) 2 "row" := ⟨rfl, .inl rfl⟩
theorem g_is_table_0_is_row (s0 : Scope) : ("is_row" : Str) ∈ (blkNm M_is_table s0 kd_is_table_0 gl_is_table_0).gl := List.Mem.head _
theorem g_is_table_0_len (s0 : Scope) : ("len" : Str) ∈ (blkNm M_is_table s0 kd_is_table_0 gl_is_table_0).gl := List.Mem.tail _ (List.Mem.head _)
abbrev s_law_bag : Stmt := topS 14
abbrev N_law_bag : List Str := "script" :: "cell" :: []
abbrev M_law_bag : Nm := ⟨N_law_bag, [.lo, .no], ([] : List Str), defScope s_law_bag⟩
theorem sc_law_bag : FnScope M_law_bag.N ["script"] (defScope s_law_bag) := ⟨rfl, rfl, rfl, by decide +kernel, rfl, by decide +kernel, by decide +kernel⟩
theorem ok_law_bag : nmOk M_law_bag = true := by decide +kernel
theorem r_law_bag_script : Rdb M_law_bag 0 "script" := ⟨rfl, ⟨_, rfl, by simp⟩, by decide +kernel, by decide +kernel⟩
abbrev kd_law_bag_0 : List Kd := [.no, .lo]
abbrev gl_law_bag_0 : List Str := "abs" :: []
abbrev own_law_bag_0 : List (Str × Nat) := [("cell", 1)]
theorem r_law_bag_0_cell (s0 : Scope) : Rdb (blkNm M_law_bag s0 kd_law_bag_0 gl_law_bag_0) 1 "cell" := ⟨rfl, ⟨_, rfl, by simp⟩, by decide +kernel, by decide +kernel⟩
theorem t_law_bag_0_cell (s0 : Scope) : Sto (blkNm M_law_bag s0 kd_law_bag_0 gl_law_bag_0) 1 "cell" := ⟨rfl, .inl rfl⟩
theorem g_law_bag_0_abs (s0 : Scope) : ("abs" : Str) ∈ (blkNm M_law_bag s0 kd_law_bag_0 gl_law_bag_0).gl := List.Mem.head _
abbrev s_law_take : Stmt := topS 15
abbrev N_law_take : List Str := "bag" :: "many" :: "cell" :: "stirred" :: "drawn" :: "begin" :: "second" :: []
abbrev M_law_take : Nm := ⟨N_law_take, [.lo, .lo, .lo, .lo, .lo, .lo, .lo], ("int" :: [] : List Str), defScope s_law_take⟩
theorem sc_law_take : FnScope M_law_take.N ["bag", "many"] (defScope s_law_take) := ⟨rfl, rfl, rfl, by decide +kernel, rfl, by decide +kernel, by decide +kernel⟩
theorem ok_law_take : nmOk M_law_take = true := by decide +kernel
theorem r_law_take_bag : Rdb M_law_take 0 "bag" := ⟨rfl, ⟨_, rfl, by simp⟩, by decide +kernel, by decide +kernel⟩
theorem r_law_take_many : Rdb M_law_take 1 "many" := ⟨rfl, ⟨_, rfl, by simp⟩, by decide +kernel, by decide +kernel⟩
theorem r_law_take_cell : Rdb M_law_take 2 "cell" := ⟨rfl, ⟨_, rfl, by simp⟩, by decide +kernel, by decide +kernel⟩
theorem t_law_take_cell : Sto M_law_take 2 "cell" := ⟨rfl, .inl rfl⟩
theorem r_law_take_stirred : Rdb M_law_take 3 "stirred" := ⟨rfl, ⟨_, rfl, by simp⟩, by decide +kernel, by decide +kernel⟩
theorem t_law_take_stirred : Sto M_law_take 3 "stirred" := ⟨rfl, .inl rfl⟩
theorem r_law_take_drawn : Rdb M_law_take 4 "drawn" := ⟨rfl, ⟨_, rfl, by simp⟩, by decide +kernel, by decide +kernel⟩
theorem t_law_take_drawn : Sto M_law_take 4 "drawn" := ⟨rfl, .inl rfl⟩
theorem r_law_take_begin : Rdb M_law_take 5 "begin" := ⟨rfl, ⟨_, rfl, by simp⟩, by decide +kernel, by decide +kernel⟩
theorem t_law_take_begin : Sto M_law_take 5 "begin" := ⟨rfl, .inl rfl⟩
theorem r_law_take_second : Rdb M_law_take 6 "second" := ⟨rfl, ⟨_, rfl, by simp⟩, by decide +kernel, by decide +kernel⟩
theorem t_law_take_second : Sto M_law_take 6 "second" := ⟨rfl, .inl rfl⟩
theorem g_law_take_int : ("int" : Str) ∈ M_law_take.gl := List.Mem.head _
abbrev s_law_some : Stmt := topS 16
abbrev N_law_some : List Str := "bag" :: "things" :: []
abbrev M_law_some : Nm := ⟨N_law_some, [.lo, .lo], ("_law_take" :: "len" :: [] : List Str), defScope s_law_some⟩
theorem sc_law_some : FnScope M_law_some.N ["bag", "things"] (defScope s_law_some) := ⟨rfl, rfl, rfl, by decide +kernel, rfl, by decide +kernel, by decide +kernel⟩
theorem ok_law_some : nmOk M_law_some = true := by decide +kernel
theorem r_law_some_bag : Rdb M_law_some 0 "bag" := ⟨rfl, ⟨_, rfl, by simp⟩, by decide +kernel, by decide +kernel⟩
theorem r_law_some_things : Rdb M_law_some 1 "things" := ⟨rfl, ⟨_, rfl, by simp⟩, by decide +kernel, by decide +kernel⟩
theorem g_law_some__law_take : ("_law_take" : Str) ∈ M_law_some.gl := List.Mem.head _
theorem g_law_some_len : ("len" : Str) ∈ M_law_some.gl := List.Mem.tail _ (List.Mem.head _)
abbrev s_law_mixed : Stmt := topS 17
abbrev N_law_mixed : List Str := "bag" :: "things" :: "found" :: "thing" :: []
abbrev M_law_mixed : Nm := ⟨N_law_mixed, [.lo, .lo, .lo, .lo], ("_law_take" :: "len" :: [] : List Str), defScope s_law_mixed⟩
theorem sc_law_mixed : FnScope M_law_mixed.N ["bag", "things"] (defScope s_law_mixed) := ⟨rfl, rfl, rfl, by decide +kernel, rfl, by decide +kernel, by decide +kernel⟩
theorem ok_law_mixed : nmOk M_law_mixed = true := by decide +kernel
theorem r_law_mixed_bag : Rdb M_law_mixed 0 "bag" := ⟨rfl, ⟨_, rfl, by simp⟩, by decide +kernel, by decide +kernel⟩
theorem r_law_mixed_things : Rdb M_law_mixed 1 "things" := ⟨rfl, ⟨_, rfl, by simp⟩, by decide +kernel, by decide +kernel⟩
theorem r_law_mixed_found : Rdb M_law_mixed 2 "found" := ⟨rfl, ⟨_, rfl, by simp⟩, by decide +kernel, by decide +kernel⟩
theorem t_law_mixed_found : Sto M_law_mixed 2 "found" := ⟨rfl, .inl rfl⟩
theorem r_law_mixed_thing : Rdb M_law_mixed 3 "thing" := ⟨rfl, ⟨_, rfl, by simp⟩, by decide +kernel, by decide +kernel⟩
theorem t_law_mixed_thing : Sto M_law_mixed 3 "thing" := ⟨rfl, .inl rfl⟩
theorem g_law_mixed__law_take : ("_law_take" : Str) ∈ M_law_mixed.gl := List.Mem.head _
theorem g_law_mixed_len : ("len" : Str) ∈ M_law_mixed.gl := List.Mem.tail _ (List.Mem.head _)
abbrev s_law_alike : Stmt := topS 18
abbrev N_law_alike : List Str := "found" :: "due" :: []
abbrev M_law_alike : Nm := ⟨N_law_alike, [.lo, .lo], ("repr" :: [] : List Str), defScope s_law_alike⟩
theorem sc_law_alike : FnScope M_law_alike.N ["found", "due"] (defScope s_law_alike) := ⟨rfl, rfl, rfl, by decide +kernel, rfl, by decide +kernel, by decide +kernel⟩
theorem ok_law_alike : nmOk M_law_alike = true := by decide +kernel
theorem r_law_alike_found : Rdb M_law_alike 0 "found" := ⟨rfl, ⟨_, rfl, by simp⟩, by decide +kernel, by decide +kernel⟩
theorem r_law_alike_due : Rdb M_law_alike 1 "due" := ⟨rfl, ⟨_, rfl, by simp⟩, by decide +kernel, by decide +kernel⟩
theorem g_law_alike_repr : ("repr" : Str) ∈ M_law_alike.gl := List.Mem.head _
abbrev s_law_is_int : Stmt := topS 19
abbrev N_law_is_int : List Str := "thing" :: []
abbrev M_law_is_int : Nm := ⟨N_law_is_int, [.lo], ("isinstance" :: "int" :: "bool" :: [] : List Str), defScope s_law_is_int⟩
theorem sc_law_is_int : FnScope M_law_is_int.N ["thing"] (defScope s_law_is_int) := ⟨rfl, rfl, rfl, by decide +kernel, rfl, by decide +kernel, by decide +kernel⟩
theorem ok_law_is_int : nmOk M_law_is_int = true := by decide +kernel
theorem r_law_is_int_thing : Rdb M_law_is_int 0 "thing" := ⟨rfl, ⟨_, rfl, by simp⟩, by decide +kernel, by decide +kernel⟩
theorem g_law_is_int_isinstance : ("isinstance" : Str) ∈ M_law_is_int.gl := List.Mem.head _
theorem g_law_is_int_int : ("int" : Str) ∈ M_law_is_int.gl := List.Mem.tail _ (List.Mem.head _)
theorem g_law_is_int_bool : ("bool" : Str) ∈ M_law_is_int.gl := List.Mem.tail _ (List.Mem.tail _ (List.Mem.head _))
abbrev s_law_gcd : Stmt := topS 20
abbrev N_law_gcd : List Str := "one" :: "other" :: []
abbrev M_law_gcd : Nm := ⟨N_law_gcd, [.lo, .lo], ("int" :: [] : List Str), defScope s_law_gcd⟩
theorem sc_law_gcd : FnScope M_law_gcd.N ["one", "other"] (defScope s_law_gcd) := ⟨rfl, rfl, rfl, by decide +kernel, rfl, by decide +kernel, by decide +kernel⟩
theorem ok_law_gcd : nmOk M_law_gcd = true := by decide +kernel
theorem r_law_gcd_one : Rdb M_law_gcd 0 "one" := ⟨rfl, ⟨_, rfl, by simp⟩, by decide +kernel, by decide +kernel⟩
theorem t_law_gcd_one : Sto M_law_gcd 0 "one" := ⟨rfl, .inl rfl⟩
theorem l_law_gcd_one : Lcl M_law_gcd 0 "one" := ⟨rfl, rfl⟩
theorem r_law_gcd_other : Rdb M_law_gcd 1 "other" := ⟨rfl, ⟨_, rfl, by simp⟩, by decide +kernel, by decide +kernel⟩
theorem t_law_gcd_other : Sto M_law_gcd 1 "other" := ⟨rfl, .inl rfl⟩
theorem l_law_gcd_other : Lcl M_law_gcd 1 "other" := ⟨rfl, rfl⟩
theorem g_law_gcd_int : ("int" : Str) ∈ M_law_gcd.gl := List.Mem.head _
abbrev s_law_fr : Stmt := topS 21
abbrev N_law_fr : List Str := "num" :: "den" :: "common" :: []
abbrev M_law_fr : Nm := ⟨N_law_fr, [.lo, .lo, .lo], ("_law_gcd" :: "abs" :: "int" :: [] : List Str), defScope s_law_fr⟩
theorem sc_law_fr : FnScope M_law_fr.N ["num", "den"] (defScope s_law_fr) := ⟨rfl, rfl, rfl, by decide +kernel, rfl, by decide +kernel, by decide +kernel⟩
theorem ok_law_fr : nmOk M_law_fr = true := by decide +kernel
theorem r_law_fr_num : Rdb M_law_fr 0 "num" := ⟨rfl, ⟨_, rfl, by simp⟩, by decide +kernel, by decide +kernel⟩
theorem t_law_fr_num : Sto M_law_fr 0 "num" := ⟨rfl, .inl rfl⟩
theorem r_law_fr_den : Rdb M_law_fr 1 "den" := ⟨rfl, ⟨_, rfl, by simp⟩, by decide +kernel, by decide +kernel⟩
theorem t_law_fr_den : Sto M_law_fr 1 "den" := ⟨rfl, .inl rfl⟩
theorem r_law_fr_common : Rdb M_law_fr 2 "common" := ⟨rfl, ⟨_, rfl, by simp⟩, by decide +kernel, by decide +kernel⟩
theorem t_law_fr_common : Sto M_law_fr 2 "common" := ⟨rfl, .inl rfl⟩
theorem g_law_fr__law_gcd : ("_law_gcd" : Str) ∈ M_law_fr.gl := List.Mem.head _
theorem g_law_fr_abs : ("abs" : Str) ∈ M_law_fr.gl := List.Mem.tail _ (List.Mem.head _)
theorem g_law_fr_int : ("int" : Str) ∈ M_law_fr.gl := List.Mem.tail _ (List.Mem.tail _ (List.Mem.head _))
abbrev s_law_stand : Stmt := topS 22
abbrev N_law_stand : List Str := "bag" :: "many" :: "den" :: "at" :: []
abbrev M_law_stand : Nm := ⟨N_law_stand, [.ce, .lo, .ce, .no], ("_law_some" :: "tuple" :: "range" :: [] : List Str), defScope s_law_stand⟩
theorem sc_law_stand : FnScope M_law_stand.N ["bag", "many"] (defScope s_law_stand) := ⟨rfl, rfl, rfl, by decide +kernel, rfl, by decide +kernel, by decide +kernel⟩
theorem ok_law_stand : nmOk M_law_stand = true := by decide +kernel
theorem r_law_stand_bag : Rdb M_law_stand 0 "bag" := ⟨rfl, ⟨_, rfl, by simp⟩, by decide +kernel, by decide +kernel⟩
theorem r_law_stand_many : Rdb M_law_stand 1 "many" := ⟨rfl, ⟨_, rfl, by simp⟩, by decide +kernel, by decide +kernel⟩
theorem r_law_stand_den : Rdb M_law_stand 2 "den" := ⟨rfl, ⟨_, rfl, by simp⟩, by decide +kernel, by decide +kernel⟩
theorem t_law_stand_den : Sto M_law_stand 2 "den" := ⟨rfl, .inr rfl⟩
theorem g_law_stand__law_some : ("_law_some" : Str) ∈ M_law_stand.gl := List.Mem.head _
theorem g_law_stand_tuple : ("tuple" : Str) ∈ M_law_stand.gl := List.Mem.tail _ (List.Mem.head _)
theorem g_law_stand_range : ("range" : Str) ∈ M_law_stand.gl := List.Mem.tail _ (List.Mem.tail _ (List.Mem.head _))
abbrev kd_law_stand_0 : List Kd := [.rd, .no, .rd, .lo]
abbrev gl_law_stand_0 : List Str := "_law_fr" :: "_law_take" :: []
abbrev own_law_stand_0 : List (Str × Nat) := [("at", 3)]
theorem r_law_stand_0_bag (s0 : Scope) : Rdb (blkNm M_law_stand s0 kd_law_stand_0 gl_law_stand_0) 0 "bag" := ⟨rfl, ⟨_, rfl, by simp⟩, by decide +kernel, by decide +kernel⟩
theorem r_law_stand_0_den (s0 : Scope) : Rdb (blkNm M_law_stand s0 kd_law_stand_0 gl_law_stand_0) 2 "den" := ⟨rfl, ⟨_, rfl, by simp⟩, by decide +kernel, by decide +kernel⟩
theorem r_law_stand_0_at (s0 : Scope) : Rdb (blkNm M_law_stand s0 kd_law_stand_0 gl_law_stand_0) 3 "at" := ⟨rfl, ⟨_, rfl, by simp⟩, by decide +kernel, by decide +kernel⟩
theorem t_law_stand_0_at (s0 : Scope) : Sto (blkNm M_law_stand s0 kd_law_stand_0 gl_law_stand_0) 3 "at" := ⟨rfl, .inl rfl⟩
theorem g_law_stand_0__law_fr (s0 : Scope) : ("_law_fr" : Str) ∈ (blkNm M_law_stand s0 kd_law_stand_0 gl_law_stand_0).gl := List.Mem.head _
theorem g_law_stand_0__law_take (s0 : Scope) : ("_law_take" : Str) ∈ (blkNm M_law_stand s0 kd_law_stand_0 gl_law_stand_0).gl := List.Mem.tail _ (List.Mem.head _)
abbrev s_law_is_vector : Stmt := topS 23
abbrev N_law_is_vector : List Str := "many" :: "thing" :: "one" :: []
abbrev M_law_is_vector : Nm := ⟨N_law_is_vector, [.lo, .lo, .lo], ("isinstance" :: "tuple" :: "len" :: "_law_is_int" :: "_law_gcd" :: "abs" :: [] : List Str), defScope s_law_is_vector⟩
theorem sc_law_is_vector : FnScope M_law_is_vector.N ["many", "thing"] (defScope s_law_is_vector) := ⟨rfl, rfl, rfl, by decide +kernel, rfl, by decide +kernel, by decide +kernel⟩
theorem ok_law_is_vector : nmOk M_law_is_vector = true := by decide +kernel
theorem r_law_is_vector_many : Rdb M_law_is_vector 0 "many" := ⟨rfl, ⟨_, rfl, by simp⟩, by decide +kernel, by decide +kernel⟩
theorem r_law_is_vector_thing : Rdb M_law_is_vector 1 "thing" := ⟨rfl, ⟨_, rfl, by simp⟩, by decide +kernel, by decide +kernel⟩
theorem r_law_is_vector_one : Rdb M_law_is_vector 2 "one" := ⟨rfl, ⟨_, rfl, by simp⟩, by decide +kernel, by decide +kernel⟩
theorem t_law_is_vector_one : Sto M_law_is_vector 2 "one" := ⟨rfl, .inl rfl⟩
theorem g_law_is_vector_isinstance : ("isinstance" : Str) ∈ M_law_is_vector.gl := List.Mem.head _
theorem g_law_is_vector_tuple : ("tuple" : Str) ∈ M_law_is_vector.gl := List.Mem.tail _ (List.Mem.head _)
theorem g_law_is_vector_len : ("len" : Str) ∈ M_law_is_vector.gl := List.Mem.tail _ (List.Mem.tail _ (List.Mem.head _))
theorem g_law_is_vector__law_is_int : ("_law_is_int" : Str) ∈ M_law_is_vector.gl := List.Mem.tail _ (List.Mem.tail _ (List.Mem.tail _ (List.Mem.head _)))
theorem g_law_is_vector__law_gcd : ("_law_gcd" : Str) ∈ M_law_is_vector.gl := List.Mem.tail _ (List.Mem.tail _ (List.Mem.tail _ (List.Mem.tail _ (List.Mem.head _))))
theorem g_law_is_vector_abs : ("abs" : Str) ∈ M_law_is_vector.gl := List.Mem.tail _ (List.Mem.tail _ (List.Mem.tail _ (List.Mem.tail _ (List.Mem.tail _ (List.Mem.head _)))))
abbrev s_law_shape : Stmt := topS 24
abbrev N_law_shape : List Str := "bag" :: "names" :: "cells" :: "most" :: "groups" :: "added" :: "cell" :: "group" :: []
abbrev M_law_shape : Nm := ⟨N_law_shape, [.lo, .lo, .lo, .lo, .lo, .lo, .lo, .no], ("tuple" :: "_law_mixed" :: "_law_take" :: "len" :: [] : List Str), defScope s_law_shape⟩
theorem sc_law_shape : FnScope M_law_shape.N ["bag", "names", "cells", "most"] (defScope s_law_shape) := ⟨rfl, rfl, rfl, by decide +kernel, rfl, by decide +kernel, by decide +kernel⟩
theorem ok_law_shape : nmOk M_law_shape = true := by decide +kernel
theorem r_law_shape_bag : Rdb M_law_shape 0 "bag" := ⟨rfl, ⟨_, rfl, by simp⟩, by decide +kernel, by decide +kernel⟩
theorem r_law_shape_names : Rdb M_law_shape 1 "names" := ⟨rfl, ⟨_, rfl, by simp⟩, by decide +kernel, by decide +kernel⟩
theorem r_law_shape_cells : Rdb M_law_shape 2 "cells" := ⟨rfl, ⟨_, rfl, by simp⟩, by decide +kernel, by decide +kernel⟩
theorem t_law_shape_cells : Sto M_law_shape 2 "cells" := ⟨rfl, .inl rfl⟩
theorem l_law_shape_cells : Lcl M_law_shape 2 "cells" := ⟨rfl, rfl⟩
theorem r_law_shape_most : Rdb M_law_shape 3 "most" := ⟨rfl, ⟨_, rfl, by simp⟩, by decide +kernel, by decide +kernel⟩
theorem r_law_shape_groups : Rdb M_law_shape 4 "groups" := ⟨rfl, ⟨_, rfl, by simp⟩, by decide +kernel, by decide +kernel⟩
theorem t_law_shape_groups : Sto M_law_shape 4 "groups" := ⟨rfl, .inl rfl⟩
theorem l_law_shape_groups : Lcl M_law_shape 4 "groups" := ⟨rfl, rfl⟩
theorem r_law_shape_added : Rdb M_law_shape 5 "added" := ⟨rfl, ⟨_, rfl, by simp⟩, by decide +kernel, by decide +kernel⟩
theorem t_law_shape_added : Sto M_law_shape 5 "added" := ⟨rfl, .inl rfl⟩
theorem l_law_shape_added : Lcl M_law_shape 5 "added" := ⟨rfl, rfl⟩
theorem r_law_shape_cell : Rdb M_law_shape 6 "cell" := ⟨rfl, ⟨_, rfl, by simp⟩, by decide +kernel, by decide +kernel⟩
theorem t_law_shape_cell : Sto M_law_shape 6 "cell" := ⟨rfl, .inl rfl⟩
theorem g_law_shape_tuple : ("tuple" : Str) ∈ M_law_shape.gl := List.Mem.head _
theorem g_law_shape__law_mixed : ("_law_mixed" : Str) ∈ M_law_shape.gl := List.Mem.tail _ (List.Mem.head _)
theorem g_law_shape__law_take : ("_law_take" : Str) ∈ M_law_shape.gl := List.Mem.tail _ (List.Mem.tail _ (List.Mem.head _))
theorem g_law_shape_len : ("len" : Str) ∈ M_law_shape.gl := List.Mem.tail _ (List.Mem.tail _ (List.Mem.tail _ (List.Mem.head _)))
abbrev kd_law_shape_0 : List Kd := [.no, .no, .no, .no, .no, .no, .no, .lo]
abbrev gl_law_shape_0 : List Str := "tuple" :: []
abbrev own_law_shape_0 : List (Str × Nat) := [("group", 7)]
theorem r_law_shape_0_group (s0 : Scope) : Rdb (blkNm M_law_shape s0 kd_law_shape_0 gl_law_shape_0) 7 "group" := ⟨rfl, ⟨_, rfl, by simp⟩, by decide +kernel, by decide +kernel⟩
theorem t_law_shape_0_group (s0 : Scope) : Sto (blkNm M_law_shape s0 kd_law_shape_0 gl_law_shape_0) 7 "group" := ⟨rfl, .inl rfl⟩
theorem g_law_shape_0_tuple (s0 : Scope) : ("tuple" : Str) ∈ (blkNm M_law_shape s0 kd_law_shape_0 gl_law_shape_0).gl := List.Mem.head _
abbrev s_law_numbers : Stmt := topS 25
abbrev N_law_numbers : List Str := "bag" :: "many" :: "turn" :: []
abbrev M_law_numbers : Nm := ⟨N_law_numbers, [.ce, .lo, .no], ("tuple" :: "range" :: [] : List Str), defScope s_law_numbers⟩
theorem sc_law_numbers : FnScope M_law_numbers.N ["bag", "many"] (defScope s_law_numbers) := ⟨rfl, rfl, rfl, by decide +kernel, rfl, by decide +kernel, by decide +kernel⟩
theorem ok_law_numbers : nmOk M_law_numbers = true := by decide +kernel
theorem r_law_numbers_bag : Rdb M_law_numbers 0 "bag" := ⟨rfl, ⟨_, rfl, by simp⟩, by decide +kernel, by decide +kernel⟩
theorem r_law_numbers_many : Rdb M_law_numbers 1 "many" := ⟨rfl, ⟨_, rfl, by simp⟩, by decide +kernel, by decide +kernel⟩
theorem g_law_numbers_tuple : ("tuple" : Str) ∈ M_law_numbers.gl := List.Mem.head _
theorem g_law_numbers_range : ("range" : Str) ∈ M_law_numbers.gl := List.Mem.tail _ (List.Mem.head _)
abbrev kd_law_numbers_0 : List Kd := [.rd, .no, .lo]
abbrev gl_law_numbers_0 : List Str := "_law_some" :: []
abbrev own_law_numbers_0 : List (Str × Nat) := [("turn", 2)]
theorem r_law_numbers_0_bag (s0 : Scope) : Rdb (blkNm M_law_numbers s0 kd_law_numbers_0 gl_law_numbers_0) 0 "bag" := ⟨rfl, ⟨_, rfl, by simp⟩, by decide +kernel, by decide +kernel⟩
theorem r_law_numbers_0_turn (s0 : Scope) : Rdb (blkNm M_law_numbers s0 kd_law_numbers_0 gl_law_numbers_0) 2 "turn" := ⟨rfl, ⟨_, rfl, by simp⟩, by decide +kernel, by decide +kernel⟩
theorem t_law_numbers_0_turn (s0 : Scope) : Sto (blkNm M_law_numbers s0 kd_law_numbers_0 gl_law_numbers_0) 2 "turn" := ⟨rfl, .inl rfl⟩
theorem g_law_numbers_0__law_some (s0 : Scope) : ("_law_some" : Str) ∈ (blkNm M_law_numbers s0 kd_law_numbers_0 gl_law_numbers_0).gl := List.Mem.head _
abbrev s_law_scheme : Stmt := topS 26
abbrev N_law_scheme : List Str := "bag" :: "head_cells" :: "row_cells" :: "most" :: "head" :: "row" :: "heads" :: "rows" :: "rules" :: "turn" :: "way" :: "sign" :: "bound" :: []
abbrev M_law_scheme : Nm := ⟨N_law_scheme, [.lo, .lo, .lo, .lo, .lo, .lo, .lo, .lo, .lo, .lo, .lo, .lo, .lo], ("_law_shape" :: "_law_take" :: "len" :: "range" :: "_law_some" :: "_law_numbers" :: "tuple" :: [] : List Str), defScope s_law_scheme⟩
theorem sc_law_scheme : FnScope M_law_scheme.N ["bag", "head_cells", "row_cells", "most"] (defScope s_law_scheme) := ⟨rfl, rfl, rfl, by decide +kernel, rfl, by decide +kernel, by decide +kernel⟩
theorem ok_law_scheme : nmOk M_law_scheme = true := by decide +kernel
theorem r_law_scheme_bag : Rdb M_law_scheme 0 "bag" := ⟨rfl, ⟨_, rfl, by simp⟩, by decide +kernel, by decide +kernel⟩
theorem r_law_scheme_head_cells : Rdb M_law_scheme 1 "head_cells" := ⟨rfl, ⟨_, rfl, by simp⟩, by decide +kernel, by decide +kernel⟩
theorem r_law_scheme_row_cells : Rdb M_law_scheme 2 "row_cells" := ⟨rfl, ⟨_, rfl, by simp⟩, by decide +kernel, by decide +kernel⟩
theorem r_law_scheme_most : Rdb M_law_scheme 3 "most" := ⟨rfl, ⟨_, rfl, by simp⟩, by decide +kernel, by decide +kernel⟩
theorem r_law_scheme_head : Rdb M_law_scheme 4 "head" := ⟨rfl, ⟨_, rfl, by simp⟩, by decide +kernel, by decide +kernel⟩
theorem t_law_scheme_head : Sto M_law_scheme 4 "head" := ⟨rfl, .inl rfl⟩
theorem r_law_scheme_row : Rdb M_law_scheme 5 "row" := ⟨rfl, ⟨_, rfl, by simp⟩, by decide +kernel, by decide +kernel⟩
theorem t_law_scheme_row : Sto M_law_scheme 5 "row" := ⟨rfl, .inl rfl⟩
theorem r_law_scheme_heads : Rdb M_law_scheme 6 "heads" := ⟨rfl, ⟨_, rfl, by simp⟩, by decide +kernel, by decide +kernel⟩
theorem t_law_scheme_heads : Sto M_law_scheme 6 "heads" := ⟨rfl, .inl rfl⟩
theorem l_law_scheme_heads : Lcl M_law_scheme 6 "heads" := ⟨rfl, rfl⟩
theorem r_law_scheme_rows : Rdb M_law_scheme 7 "rows" := ⟨rfl, ⟨_, rfl, by simp⟩, by decide +kernel, by decide +kernel⟩
theorem t_law_scheme_rows : Sto M_law_scheme 7 "rows" := ⟨rfl, .inl rfl⟩
theorem l_law_scheme_rows : Lcl M_law_scheme 7 "rows" := ⟨rfl, rfl⟩
theorem r_law_scheme_rules : Rdb M_law_scheme 8 "rules" := ⟨rfl, ⟨_, rfl, by simp⟩, by decide +kernel, by decide +kernel⟩
theorem t_law_scheme_rules : Sto M_law_scheme 8 "rules" := ⟨rfl, .inl rfl⟩
theorem l_law_scheme_rules : Lcl M_law_scheme 8 "rules" := ⟨rfl, rfl⟩
theorem r_law_scheme_turn : Rdb M_law_scheme 9 "turn" := ⟨rfl, ⟨_, rfl, by simp⟩, by decide +kernel, by decide +kernel⟩
theorem t_law_scheme_turn : Sto M_law_scheme 9 "turn" := ⟨rfl, .inl rfl⟩
theorem r_law_scheme_way : Rdb M_law_scheme 10 "way" := ⟨rfl, ⟨_, rfl, by simp⟩, by decide +kernel, by decide +kernel⟩
theorem t_law_scheme_way : Sto M_law_scheme 10 "way" := ⟨rfl, .inl rfl⟩
theorem l_law_scheme_way : Lcl M_law_scheme 10 "way" := ⟨rfl, rfl⟩
theorem r_law_scheme_sign : Rdb M_law_scheme 11 "sign" := ⟨rfl, ⟨_, rfl, by simp⟩, by decide +kernel, by decide +kernel⟩
theorem t_law_scheme_sign : Sto M_law_scheme 11 "sign" := ⟨rfl, .inl rfl⟩
theorem l_law_scheme_sign : Lcl M_law_scheme 11 "sign" := ⟨rfl, rfl⟩
theorem r_law_scheme_bound : Rdb M_law_scheme 12 "bound" := ⟨rfl, ⟨_, rfl, by simp⟩, by decide +kernel, by decide +kernel⟩
theorem t_law_scheme_bound : Sto M_law_scheme 12 "bound" := ⟨rfl, .inl rfl⟩
theorem g_law_scheme__law_shape : ("_law_shape" : Str) ∈ M_law_scheme.gl := List.Mem.head _
theorem g_law_scheme__law_take : ("_law_take" : Str) ∈ M_law_scheme.gl := List.Mem.tail _ (List.Mem.head _)
theorem g_law_scheme_len : ("len" : Str) ∈ M_law_scheme.gl := List.Mem.tail _ (List.Mem.tail _ (List.Mem.head _))
theorem g_law_scheme_range : ("range" : Str) ∈ M_law_scheme.gl := List.Mem.tail _ (List.Mem.tail _ (List.Mem.tail _ (List.Mem.head _)))
theorem g_law_scheme__law_some : ("_law_some" : Str) ∈ M_law_scheme.gl := List.Mem.tail _ (List.Mem.tail _ (List.Mem.tail _ (List.Mem.tail _ (List.Mem.head _))))
theorem g_law_scheme__law_numbers : ("_law_numbers" : Str) ∈ M_law_scheme.gl := List.Mem.tail _ (List.Mem.tail _ (List.Mem.tail _ (List.Mem.tail _ (List.Mem.tail _ (List.Mem.head _)))))
theorem g_law_scheme_tuple : ("tuple" : Str) ∈ M_law_scheme.gl := List.Mem.tail _ (List.Mem.tail _ (List.Mem.tail _ (List.Mem.tail _ (List.Mem.tail _ (List.Mem.tail _ (List.Mem.head _))))))
abbrev s_law_table_cells : Stmt := topS 27
abbrev N_law_table_cells : List Str := "bag" :: "many" :: []
abbrev M_law_table_cells : Nm := ⟨N_law_table_cells, [.lo, .lo], ("_law_stand" :: [] : List Str), defScope s_law_table_cells⟩
theorem sc_law_table_cells : FnScope M_law_table_cells.N ["bag", "many"] (defScope s_law_table_cells) := ⟨rfl, rfl, rfl, by decide +kernel, rfl, by decide +kernel, by decide +kernel⟩
theorem ok_law_table_cells : nmOk M_law_table_cells = true := by decide +kernel
theorem r_law_table_cells_bag : Rdb M_law_table_cells 0 "bag" := ⟨rfl, ⟨_, rfl, by simp⟩, by decide +kernel, by decide +kernel⟩
theorem r_law_table_cells_many : Rdb M_law_table_cells 1 "many" := ⟨rfl, ⟨_, rfl, by simp⟩, by decide +kernel, by decide +kernel⟩
theorem g_law_table_cells__law_stand : ("_law_stand" : Str) ∈ M_law_table_cells.gl := List.Mem.head _
abbrev s_law_any_table : Stmt := topS 28
abbrev N_law_any_table : List Str := "bag" :: "scheme" :: "many" :: "rows" :: "turn" :: []
abbrev M_law_any_table : Nm := ⟨N_law_any_table, [.ce, .ce, .lo, .lo, .no], ("tuple" :: "range" :: "_law_table_cells" :: "len" :: [] : List Str), defScope s_law_any_table⟩
theorem sc_law_any_table : FnScope M_law_any_table.N ["bag", "scheme", "many"] (defScope s_law_any_table) := ⟨rfl, rfl, rfl, by decide +kernel, rfl, by decide +kernel, by decide +kernel⟩
theorem ok_law_any_table : nmOk M_law_any_table = true := by decide +kernel
theorem r_law_any_table_bag : Rdb M_law_any_table 0 "bag" := ⟨rfl, ⟨_, rfl, by simp⟩, by decide +kernel, by decide +kernel⟩
theorem r_law_any_table_scheme : Rdb M_law_any_table 1 "scheme" := ⟨rfl, ⟨_, rfl, by simp⟩, by decide +kernel, by decide +kernel⟩
theorem r_law_any_table_many : Rdb M_law_any_table 2 "many" := ⟨rfl, ⟨_, rfl, by simp⟩, by decide +kernel, by decide +kernel⟩
theorem r_law_any_table_rows : Rdb M_law_any_table 3 "rows" := ⟨rfl, ⟨_, rfl, by simp⟩, by decide +kernel, by decide +kernel⟩
theorem t_law_any_table_rows : Sto M_law_any_table 3 "rows" := ⟨rfl, .inl rfl⟩
theorem g_law_any_table_tuple : ("tuple" : Str) ∈ M_law_any_table.gl := List.Mem.head _
theorem g_law_any_table_range : ("range" : Str) ∈ M_law_any_table.gl := List.Mem.tail _ (List.Mem.head _)
theorem g_law_any_table__law_table_cells : ("_law_table_cells" : Str) ∈ M_law_any_table.gl := List.Mem.tail _ (List.Mem.tail _ (List.Mem.head _))
theorem g_law_any_table_len : ("len" : Str) ∈ M_law_any_table.gl := List.Mem.tail _ (List.Mem.tail _ (List.Mem.tail _ (List.Mem.head _)))
abbrev kd_law_any_table_0 : List Kd := [.rd, .rd, .no, .no, .lo]
abbrev gl_law_any_table_0 : List Str := "_law_table_cells" :: "len" :: []
abbrev own_law_any_table_0 : List (Str × Nat) := [("turn", 4)]
theorem r_law_any_table_0_bag (s0 : Scope) : Rdb (blkNm M_law_any_table s0 kd_law_any_table_0 gl_law_any_table_0) 0 "bag" := ⟨rfl, ⟨_, rfl, by simp⟩, by decide +kernel, by decide +kernel⟩
theorem r_law_any_table_0_scheme (s0 : Scope) : Rdb (blkNm M_law_any_table s0 kd_law_any_table_0 gl_law_any_table_0) 1 "scheme" := ⟨rfl, ⟨_, rfl, by simp⟩, by decide +kernel, by decide +kernel⟩
theorem r_law_any_table_0_turn (s0 : Scope) : Rdb (blkNm M_law_any_table s0 kd_law_any_table_0 gl_law_any_table_0) 4 "turn" := ⟨rfl, ⟨_, rfl, by simp⟩, by decide +kernel, by decide +kernel⟩
theorem t_law_any_table_0_turn (s0 : Scope) : Sto (blkNm M_law_any_table s0 kd_law_any_table_0 gl_law_any_table_0) 4 "turn" := ⟨rfl, .inl rfl⟩
theorem g_law_any_table_0__law_table_cells (s0 : Scope) : ("_law_table_cells" : Str) ∈ (blkNm M_law_any_table s0 kd_law_any_table_0 gl_law_any_table_0).gl := List.Mem.head _
theorem g_law_any_table_0_len (s0 : Scope) : ("len" : Str) ∈ (blkNm M_law_any_table s0 kd_law_any_table_0 gl_law_any_table_0).gl := List.Mem.tail _ (List.Mem.head _)
abbrev s_law_is_table : Stmt := topS 29
abbrev N_law_is_table : List Str := "scheme" :: "thing" :: "row" :: []
abbrev M_law_is_table : Nm := ⟨N_law_is_table, [.ce, .lo, .no], ("isinstance" :: "tuple" :: "len" :: "_law_is_vector" :: [] : List Str), defScope s_law_is_table⟩
theorem sc_law_is_table : FnScope M_law_is_table.N ["scheme", "thing"] (defScope s_law_is_table) := ⟨rfl, rfl, rfl, by decide +kernel, rfl, by decide +kernel, by decide +kernel⟩
theorem ok_law_is_table : nmOk M_law_is_table = true := by decide +kernel
theorem r_law_is_table_scheme : Rdb M_law_is_table 0 "scheme" := ⟨rfl, ⟨_, rfl, by simp⟩, by decide +kernel, by decide +kernel⟩
theorem r_law_is_table_thing : Rdb M_law_is_table 1 "thing" := ⟨rfl, ⟨_, rfl, by simp⟩, by decide +kernel, by decide +kernel⟩
theorem g_law_is_table_isinstance : ("isinstance" : Str) ∈ M_law_is_table.gl := List.Mem.head _
theorem g_law_is_table_tuple : ("tuple" : Str) ∈ M_law_is_table.gl := List.Mem.tail _ (List.Mem.head _)
theorem g_law_is_table_len : ("len" : Str) ∈ M_law_is_table.gl := List.Mem.tail _ (List.Mem.tail _ (List.Mem.head _))
theorem g_law_is_table__law_is_vector : ("_law_is_vector" : Str) ∈ M_law_is_table.gl := List.Mem.tail _ (List.Mem.tail _ (List.Mem.tail _ (List.Mem.head _)))
abbrev kd_law_is_table_0 : List Kd := [.rd, .no, .lo]
abbrev gl_law_is_table_0 : List Str := "_law_is_vector" :: "len" :: []
abbrev own_law_is_table_0 : List (Str × Nat) := [("row", 2)]
theorem r_law_is_table_0_scheme (s0 : Scope) : Rdb (blkNm M_law_is_table s0 kd_law_is_table_0 gl_law_is_table_0) 0 "scheme" := ⟨rfl, ⟨_, rfl, by simp⟩, by decide +kernel, by decide +kernel⟩
theorem r_law_is_table_0_row (s0 : Scope) : Rdb (blkNm M_law_is_table s0 kd_law_is_table_0 gl_law_is_table_0) 2 "row" := ⟨rfl, ⟨_, rfl, by simp⟩, by decide +kernel, by decide +kernel⟩
theorem t_law_is_table_0_row (s0 : Scope) : Sto (blkNm M_law_is_table s0 kd_law_is_table_0 gl_law_is_table_0) 2 "row" := ⟨rfl, .inl rfl⟩
theorem g_law_is_table_0__law_is_vector (s0 : Scope) : ("_law_is_vector" : Str) ∈ (blkNm M_law_is_table s0 kd_law_is_table_0 gl_law_is_table_0).gl := List.Mem.head _
theorem g_law_is_table_0_len (s0 : Scope) : ("len" : Str) ∈ (blkNm M_law_is_table s0 kd_law_is_table_0 gl_law_is_table_0).gl := List.Mem.tail _ (List.Mem.head _)
abbrev s_law_is_name : Stmt := topS 30
abbrev N_law_is_name : List Str := "thing" :: "sign" :: []
abbrev M_law_is_name : Nm := ⟨N_law_is_name, [.lo, .no], ("isinstance" :: "str" :: "len" :: [] : List Str), defScope s_law_is_name⟩
theorem sc_law_is_name : FnScope M_law_is_name.N ["thing"] (defScope s_law_is_name) := ⟨rfl, rfl, rfl, by decide +kernel, rfl, by decide +kernel, by decide +kernel⟩
theorem ok_law_is_name : nmOk M_law_is_name = true := by decide +kernel
theorem r_law_is_name_thing : Rdb M_law_is_name 0 "thing" := ⟨rfl, ⟨_, rfl, by simp⟩, by decide +kernel, by decide +kernel⟩
theorem g_law_is_name_isinstance : ("isinstance" : Str) ∈ M_law_is_name.gl := List.Mem.head _
theorem g_law_is_name_str : ("str" : Str) ∈ M_law_is_name.gl := List.Mem.tail _ (List.Mem.head _)
theorem g_law_is_name_len : ("len" : Str) ∈ M_law_is_name.gl := List.Mem.tail _ (List.Mem.tail _ (List.Mem.head _))
abbrev kd_law_is_name_0 : List Kd := [.no, .lo]
abbrev gl_law_is_name_0 : List Str := []
abbrev own_law_is_name_0 : List (Str × Nat) := [("sign", 1)]
theorem r_law_is_name_0_sign (s0 : Scope) : Rdb (blkNm M_law_is_name s0 kd_law_is_name_0 gl_law_is_name_0) 1 "sign" := ⟨rfl, ⟨_, rfl, by simp⟩, by decide +kernel, by decide +kernel⟩
theorem t_law_is_name_0_sign (s0 : Scope) : Sto (blkNm M_law_is_name s0 kd_law_is_name_0 gl_law_is_name_0) 1 "sign" := ⟨rfl, .inl rfl⟩
abbrev s_law_is_shape : Stmt := topS 31
abbrev N_law_is_shape : List Str := "thing" :: "least" :: "cells" :: "groups" :: "added" :: "group" :: "met" :: "places" :: "firsts" :: "one" :: []
abbrev M_law_is_shape : Nm := ⟨N_law_is_shape, [.lo, .lo, .ce, .lo, .lo, .lo, .lo, .lo, .lo, .no], ("isinstance" :: "tuple" :: "len" :: "set" :: "sorted" :: "list" :: "range" :: [] : List Str), defScope s_law_is_shape⟩
theorem sc_law_is_shape : FnScope M_law_is_shape.N ["thing", "least"] (defScope s_law_is_shape) := ⟨rfl, rfl, rfl, by decide +kernel, rfl, by decide +kernel, by decide +kernel⟩
theorem ok_law_is_shape : nmOk M_law_is_shape = true := by decide +kernel
theorem r_law_is_shape_thing : Rdb M_law_is_shape 0 "thing" := ⟨rfl, ⟨_, rfl, by simp⟩, by decide +kernel, by decide +kernel⟩
theorem r_law_is_shape_least : Rdb M_law_is_shape 1 "least" := ⟨rfl, ⟨_, rfl, by simp⟩, by decide +kernel, by decide +kernel⟩
theorem r_law_is_shape_cells : Rdb M_law_is_shape 2 "cells" := ⟨rfl, ⟨_, rfl, by simp⟩, by decide +kernel, by decide +kernel⟩
theorem t_law_is_shape_cells : Sto M_law_is_shape 2 "cells" := ⟨rfl, .inr rfl⟩
theorem r_law_is_shape_groups : Rdb M_law_is_shape 3 "groups" := ⟨rfl, ⟨_, rfl, by simp⟩, by decide +kernel, by decide +kernel⟩
theorem t_law_is_shape_groups : Sto M_law_is_shape 3 "groups" := ⟨rfl, .inl rfl⟩
theorem r_law_is_shape_added : Rdb M_law_is_shape 4 "added" := ⟨rfl, ⟨_, rfl, by simp⟩, by decide +kernel, by decide +kernel⟩
theorem t_law_is_shape_added : Sto M_law_is_shape 4 "added" := ⟨rfl, .inl rfl⟩
theorem r_law_is_shape_group : Rdb M_law_is_shape 5 "group" := ⟨rfl, ⟨_, rfl, by simp⟩, by decide +kernel, by decide +kernel⟩
theorem t_law_is_shape_group : Sto M_law_is_shape 5 "group" := ⟨rfl, .inl rfl⟩
theorem r_law_is_shape_met : Rdb M_law_is_shape 6 "met" := ⟨rfl, ⟨_, rfl, by simp⟩, by decide +kernel, by decide +kernel⟩
theorem t_law_is_shape_met : Sto M_law_is_shape 6 "met" := ⟨rfl, .inl rfl⟩
theorem r_law_is_shape_places : Rdb M_law_is_shape 7 "places" := ⟨rfl, ⟨_, rfl, by simp⟩, by decide +kernel, by decide +kernel⟩
theorem t_law_is_shape_places : Sto M_law_is_shape 7 "places" := ⟨rfl, .inl rfl⟩
theorem l_law_is_shape_places : Lcl M_law_is_shape 7 "places" := ⟨rfl, rfl⟩
theorem r_law_is_shape_firsts : Rdb M_law_is_shape 8 "firsts" := ⟨rfl, ⟨_, rfl, by simp⟩, by decide +kernel, by decide +kernel⟩
theorem t_law_is_shape_firsts : Sto M_law_is_shape 8 "firsts" := ⟨rfl, .inl rfl⟩
theorem l_law_is_shape_firsts : Lcl M_law_is_shape 8 "firsts" := ⟨rfl, rfl⟩
theorem g_law_is_shape_isinstance : ("isinstance" : Str) ∈ M_law_is_shape.gl := List.Mem.head _
theorem g_law_is_shape_tuple : ("tuple" : Str) ∈ M_law_is_shape.gl := List.Mem.tail _ (List.Mem.head _)
theorem g_law_is_shape_len : ("len" : Str) ∈ M_law_is_shape.gl := List.Mem.tail _ (List.Mem.tail _ (List.Mem.head _))
theorem g_law_is_shape_set : ("set" : Str) ∈ M_law_is_shape.gl := List.Mem.tail _ (List.Mem.tail _ (List.Mem.tail _ (List.Mem.head _)))
theorem g_law_is_shape_sorted : ("sorted" : Str) ∈ M_law_is_shape.gl := List.Mem.tail _ (List.Mem.tail _ (List.Mem.tail _ (List.Mem.tail _ (List.Mem.head _))))
theorem g_law_is_shape_list : ("list" : Str) ∈ M_law_is_shape.gl := List.Mem.tail _ (List.Mem.tail _ (List.Mem.tail _ (List.Mem.tail _ (List.Mem.tail _ (List.Mem.head _)))))
theorem g_law_is_shape_range : ("range" : Str) ∈ M_law_is_shape.gl := List.Mem.tail _ (List.Mem.tail _ (List.Mem.tail _ (List.Mem.tail _ (List.Mem.tail _ (List.Mem.tail _ (List.Mem.head _))))))
abbrev kd_law_is_shape_0 : List Kd := [.no, .no, .no, .no, .no, .no, .no, .no, .no, .lo]
abbrev gl_law_is_shape_0 : List Str := "isinstance" :: "tuple" :: []
abbrev own_law_is_shape_0 : List (Str × Nat) := [("one", 9)]
theorem r_law_is_shape_0_one (s0 : Scope) : Rdb (blkNm M_law_is_shape s0 kd_law_is_shape_0 gl_law_is_shape_0) 9 "one" := ⟨rfl, ⟨_, rfl, by simp⟩, by decide +kernel, by decide +kernel⟩
theorem t_law_is_shape_0_one (s0 : Scope) : Sto (blkNm M_law_is_shape s0 kd_law_is_shape_0 gl_law_is_shape_0) 9 "one" := ⟨rfl, .inl rfl⟩
theorem g_law_is_shape_0_isinstance (s0 : Scope) : ("isinstance" : Str) ∈ (blkNm M_law_is_shape s0 kd_law_is_shape_0 gl_law_is_shape_0).gl := List.Mem.head _
theorem g_law_is_shape_0_tuple (s0 : Scope) : ("tuple" : Str) ∈ (blkNm M_law_is_shape s0 kd_law_is_shape_0 gl_law_is_shape_0).gl := List.Mem.tail _ (List.Mem.head _)
abbrev kd_law_is_shape_1 : List Kd := [.no, .no, .no, .no, .no, .no, .no, .no, .no, .lo]
abbrev gl_law_is_shape_1 : List Str := "_law_is_name" :: []
abbrev own_law_is_shape_1 : List (Str × Nat) := [("one", 9)]
theorem r_law_is_shape_1_one (s1 : Scope) : Rdb (blkNm M_law_is_shape s1 kd_law_is_shape_1 gl_law_is_shape_1) 9 "one" := ⟨rfl, ⟨_, rfl, by simp⟩, by decide +kernel, by decide +kernel⟩
theorem t_law_is_shape_1_one (s1 : Scope) : Sto (blkNm M_law_is_shape s1 kd_law_is_shape_1 gl_law_is_shape_1) 9 "one" := ⟨rfl, .inl rfl⟩
theorem g_law_is_shape_1__law_is_name (s1 : Scope) : ("_law_is_name" : Str) ∈ (blkNm M_law_is_shape s1 kd_law_is_shape_1 gl_law_is_shape_1).gl := List.Mem.head _
abbrev kd_law_is_shape_2 : List Kd := [.no, .no, .no, .no, .no, .lo, .no, .no, .no, .no]
abbrev gl_law_is_shape_2 : List Str := "isinstance" :: "tuple" :: []
abbrev own_law_is_shape_2 : List (Str × Nat) := [("group", 5)]
theorem r_law_is_shape_2_group (s2 : Scope) : Rdb (blkNm M_law_is_shape s2 kd_law_is_shape_2 gl_law_is_shape_2) 5 "group" := ⟨rfl, ⟨_, rfl, by simp⟩, by decide +kernel, by decide +kernel⟩
theorem t_law_is_shape_2_group (s2 : Scope) : Sto (blkNm M_law_is_shape s2 kd_law_is_shape_2 gl_law_is_shape_2) 5 "group" := ⟨rfl, .inl rfl⟩
theorem g_law_is_shape_2_isinstance (s2 : Scope) : ("isinstance" : Str) ∈ (blkNm M_law_is_shape s2 kd_law_is_shape_2 gl_law_is_shape_2).gl := List.Mem.head _
theorem g_law_is_shape_2_tuple (s2 : Scope) : ("tuple" : Str) ∈ (blkNm M_law_is_shape s2 kd_law_is_shape_2 gl_law_is_shape_2).gl := List.Mem.tail _ (List.Mem.head _)
abbrev kd_law_is_shape_3 : List Kd := [.no, .no, .rd, .no, .no, .no, .no, .no, .no, .lo]
abbrev gl_law_is_shape_3 : List Str := "_law_is_name" :: []
abbrev own_law_is_shape_3 : List (Str × Nat) := [("one", 9)]
theorem r_law_is_shape_3_cells (s3 : Scope) : Rdb (blkNm M_law_is_shape s3 kd_law_is_shape_3 gl_law_is_shape_3) 2 "cells" := ⟨rfl, ⟨_, rfl, by simp⟩, by decide +kernel, by decide +kernel⟩
theorem r_law_is_shape_3_one (s3 : Scope) : Rdb (blkNm M_law_is_shape s3 kd_law_is_shape_3 gl_law_is_shape_3) 9 "one" := ⟨rfl, ⟨_, rfl, by simp⟩, by decide +kernel, by decide +kernel⟩
theorem t_law_is_shape_3_one (s3 : Scope) : Sto (blkNm M_law_is_shape s3 kd_law_is_shape_3 gl_law_is_shape_3) 9 "one" := ⟨rfl, .inl rfl⟩
theorem g_law_is_shape_3__law_is_name (s3 : Scope) : ("_law_is_name" : Str) ∈ (blkNm M_law_is_shape s3 kd_law_is_shape_3 gl_law_is_shape_3).gl := List.Mem.head _
abbrev kd_law_is_shape_4 : List Kd := [.no, .no, .rd, .no, .no, .no, .no, .no, .no, .lo]
abbrev gl_law_is_shape_4 : List Str := []
abbrev own_law_is_shape_4 : List (Str × Nat) := [("one", 9)]
theorem r_law_is_shape_4_cells (s4 : Scope) : Rdb (blkNm M_law_is_shape s4 kd_law_is_shape_4 gl_law_is_shape_4) 2 "cells" := ⟨rfl, ⟨_, rfl, by simp⟩, by decide +kernel, by decide +kernel⟩
theorem r_law_is_shape_4_one (s4 : Scope) : Rdb (blkNm M_law_is_shape s4 kd_law_is_shape_4 gl_law_is_shape_4) 9 "one" := ⟨rfl, ⟨_, rfl, by simp⟩, by decide +kernel, by decide +kernel⟩
theorem t_law_is_shape_4_one (s4 : Scope) : Sto (blkNm M_law_is_shape s4 kd_law_is_shape_4 gl_law_is_shape_4) 9 "one" := ⟨rfl, .inl rfl⟩
abbrev kd_law_is_shape_5 : List Kd := [.no, .no, .rd, .no, .no, .lo, .no, .no, .no, .no]
abbrev gl_law_is_shape_5 : List Str := []
abbrev own_law_is_shape_5 : List (Str × Nat) := [("group", 5)]
theorem r_law_is_shape_5_cells (s5 : Scope) : Rdb (blkNm M_law_is_shape s5 kd_law_is_shape_5 gl_law_is_shape_5) 2 "cells" := ⟨rfl, ⟨_, rfl, by simp⟩, by decide +kernel, by decide +kernel⟩
theorem r_law_is_shape_5_group (s5 : Scope) : Rdb (blkNm M_law_is_shape s5 kd_law_is_shape_5 gl_law_is_shape_5) 5 "group" := ⟨rfl, ⟨_, rfl, by simp⟩, by decide +kernel, by decide +kernel⟩
theorem t_law_is_shape_5_group (s5 : Scope) : Sto (blkNm M_law_is_shape s5 kd_law_is_shape_5 gl_law_is_shape_5) 5 "group" := ⟨rfl, .inl rfl⟩
abbrev s_law_are_integers : Stmt := topS 32
abbrev N_law_are_integers : List Str := "thing" :: "many" :: "one" :: []
abbrev M_law_are_integers : Nm := ⟨N_law_are_integers, [.lo, .lo, .no], ("isinstance" :: "tuple" :: "len" :: [] : List Str), defScope s_law_are_integers⟩
theorem sc_law_are_integers : FnScope M_law_are_integers.N ["thing", "many"] (defScope s_law_are_integers) := ⟨rfl, rfl, rfl, by decide +kernel, rfl, by decide +kernel, by decide +kernel⟩
theorem ok_law_are_integers : nmOk M_law_are_integers = true := by decide +kernel
theorem r_law_are_integers_thing : Rdb M_law_are_integers 0 "thing" := ⟨rfl, ⟨_, rfl, by simp⟩, by decide +kernel, by decide +kernel⟩
theorem r_law_are_integers_many : Rdb M_law_are_integers 1 "many" := ⟨rfl, ⟨_, rfl, by simp⟩, by decide +kernel, by decide +kernel⟩
theorem g_law_are_integers_isinstance : ("isinstance" : Str) ∈ M_law_are_integers.gl := List.Mem.head _
theorem g_law_are_integers_tuple : ("tuple" : Str) ∈ M_law_are_integers.gl := List.Mem.tail _ (List.Mem.head _)
theorem g_law_are_integers_len : ("len" : Str) ∈ M_law_are_integers.gl := List.Mem.tail _ (List.Mem.tail _ (List.Mem.head _))
abbrev kd_law_are_integers_0 : List Kd := [.no, .no, .lo]
abbrev gl_law_are_integers_0 : List Str := "_law_is_int" :: []
abbrev own_law_are_integers_0 : List (Str × Nat) := [("one", 2)]
theorem r_law_are_integers_0_one (s0 : Scope) : Rdb (blkNm M_law_are_integers s0 kd_law_are_integers_0 gl_law_are_integers_0) 2 "one" := ⟨rfl, ⟨_, rfl, by simp⟩, by decide +kernel, by decide +kernel⟩
theorem t_law_are_integers_0_one (s0 : Scope) : Sto (blkNm M_law_are_integers s0 kd_law_are_integers_0 gl_law_are_integers_0) 2 "one" := ⟨rfl, .inl rfl⟩
theorem g_law_are_integers_0__law_is_int (s0 : Scope) : ("_law_is_int" : Str) ∈ (blkNm M_law_are_integers s0 kd_law_are_integers_0 gl_law_are_integers_0).gl := List.Mem.head _
abbrev s_law_is_rule_of : Stmt := topS 33
abbrev N_law_is_rule_of : List Str := "thing" :: "heads" :: "rows" :: []
abbrev M_law_is_rule_of : Nm := ⟨N_law_is_rule_of, [.lo, .lo, .lo], ("isinstance" :: "tuple" :: "len" :: "str" :: "_law_are_integers" :: "_law_is_int" :: [] : List Str), defScope s_law_is_rule_of⟩
theorem sc_law_is_rule_of : FnScope M_law_is_rule_of.N ["thing", "heads", "rows"] (defScope s_law_is_rule_of) := ⟨rfl, rfl, rfl, by decide +kernel, rfl, by decide +kernel, by decide +kernel⟩
theorem ok_law_is_rule_of : nmOk M_law_is_rule_of = true := by decide +kernel
theorem r_law_is_rule_of_thing : Rdb M_law_is_rule_of 0 "thing" := ⟨rfl, ⟨_, rfl, by simp⟩, by decide +kernel, by decide +kernel⟩
theorem r_law_is_rule_of_heads : Rdb M_law_is_rule_of 1 "heads" := ⟨rfl, ⟨_, rfl, by simp⟩, by decide +kernel, by decide +kernel⟩
theorem r_law_is_rule_of_rows : Rdb M_law_is_rule_of 2 "rows" := ⟨rfl, ⟨_, rfl, by simp⟩, by decide +kernel, by decide +kernel⟩
theorem g_law_is_rule_of_isinstance : ("isinstance" : Str) ∈ M_law_is_rule_of.gl := List.Mem.head _
theorem g_law_is_rule_of_tuple : ("tuple" : Str) ∈ M_law_is_rule_of.gl := List.Mem.tail _ (List.Mem.head _)
theorem g_law_is_rule_of_len : ("len" : Str) ∈ M_law_is_rule_of.gl := List.Mem.tail _ (List.Mem.tail _ (List.Mem.head _))
theorem g_law_is_rule_of_str : ("str" : Str) ∈ M_law_is_rule_of.gl := List.Mem.tail _ (List.Mem.tail _ (List.Mem.tail _ (List.Mem.head _)))
theorem g_law_is_rule_of__law_are_integers : ("_law_are_integers" : Str) ∈ M_law_is_rule_of.gl := List.Mem.tail _ (List.Mem.tail _ (List.Mem.tail _ (List.Mem.tail _ (List.Mem.head _))))
theorem g_law_is_rule_of__law_is_int : ("_law_is_int" : Str) ∈ M_law_is_rule_of.gl := List.Mem.tail _ (List.Mem.tail _ (List.Mem.tail _ (List.Mem.tail _ (List.Mem.tail _ (List.Mem.head _)))))
abbrev s_law_is_scheme : Stmt := topS 34
abbrev N_law_is_scheme : List Str := "thing" :: "one" :: []
abbrev M_law_is_scheme : Nm := ⟨N_law_is_scheme, [.ce, .no], ("isinstance" :: "tuple" :: "len" :: "str" :: "_law_is_shape" :: [] : List Str), defScope s_law_is_scheme⟩
theorem sc_law_is_scheme : FnScope M_law_is_scheme.N ["thing"] (defScope s_law_is_scheme) := ⟨rfl, rfl, rfl, by decide +kernel, rfl, by decide +kernel, by decide +kernel⟩
theorem ok_law_is_scheme : nmOk M_law_is_scheme = true := by decide +kernel
theorem r_law_is_scheme_thing : Rdb M_law_is_scheme 0 "thing" := ⟨rfl, ⟨_, rfl, by simp⟩, by decide +kernel, by decide +kernel⟩
theorem g_law_is_scheme_isinstance : ("isinstance" : Str) ∈ M_law_is_scheme.gl := List.Mem.head _
theorem g_law_is_scheme_tuple : ("tuple" : Str) ∈ M_law_is_scheme.gl := List.Mem.tail _ (List.Mem.head _)
theorem g_law_is_scheme_len : ("len" : Str) ∈ M_law_is_scheme.gl := List.Mem.tail _ (List.Mem.tail _ (List.Mem.head _))
theorem g_law_is_scheme_str : ("str" : Str) ∈ M_law_is_scheme.gl := List.Mem.tail _ (List.Mem.tail _ (List.Mem.tail _ (List.Mem.head _)))
theorem g_law_is_scheme__law_is_shape : ("_law_is_shape" : Str) ∈ M_law_is_scheme.gl := List.Mem.tail _ (List.Mem.tail _ (List.Mem.tail _ (List.Mem.tail _ (List.Mem.head _))))
abbrev kd_law_is_scheme_0 : List Kd := [.rd, .lo]
abbrev gl_law_is_scheme_0 : List Str := "_law_is_rule_of" :: "len" :: []
abbrev own_law_is_scheme_0 : List (Str × Nat) := [("one", 1)]
theorem r_law_is_scheme_0_thing (s0 : Scope) : Rdb (blkNm M_law_is_scheme s0 kd_law_is_scheme_0 gl_law_is_scheme_0) 0 "thing" := ⟨rfl, ⟨_, rfl, by simp⟩, by decide +kernel, by decide +kernel⟩
theorem r_law_is_scheme_0_one (s0 : Scope) : Rdb (blkNm M_law_is_scheme s0 kd_law_is_scheme_0 gl_law_is_scheme_0) 1 "one" := ⟨rfl, ⟨_, rfl, by simp⟩, by decide +kernel, by decide +kernel⟩
theorem t_law_is_scheme_0_one (s0 : Scope) : Sto (blkNm M_law_is_scheme s0 kd_law_is_scheme_0 gl_law_is_scheme_0) 1 "one" := ⟨rfl, .inl rfl⟩
theorem g_law_is_scheme_0__law_is_rule_of (s0 : Scope) : ("_law_is_rule_of" : Str) ∈ (blkNm M_law_is_scheme s0 kd_law_is_scheme_0 gl_law_is_scheme_0).gl := List.Mem.head _
theorem g_law_is_scheme_0_len (s0 : Scope) : ("len" : Str) ∈ (blkNm M_law_is_scheme s0 kd_law_is_scheme_0 gl_law_is_scheme_0).gl := List.Mem.tail _ (List.Mem.head _)
abbrev s_law_odd : Stmt := topS 35
abbrev N_law_odd : List Str := "bag" :: "menu" :: []
abbrev M_law_odd : Nm := ⟨N_law_odd, [.lo, .lo], ("_law_some" :: [] : List Str), defScope s_law_odd⟩
theorem sc_law_odd : FnScope M_law_odd.N ["bag"] (defScope s_law_odd) := ⟨rfl, rfl, rfl, by decide +kernel, rfl, by decide +kernel, by decide +kernel⟩
theorem ok_law_odd : nmOk M_law_odd = true := by decide +kernel
theorem r_law_odd_bag : Rdb M_law_odd 0 "bag" := ⟨rfl, ⟨_, rfl, by simp⟩, by decide +kernel, by decide +kernel⟩
theorem r_law_odd_menu : Rdb M_law_odd 1 "menu" := ⟨rfl, ⟨_, rfl, by simp⟩, by decide +kernel, by decide +kernel⟩
theorem t_law_odd_menu : Sto M_law_odd 1 "menu" := ⟨rfl, .inl rfl⟩
theorem g_law_odd__law_some : ("_law_some" : Str) ∈ M_law_odd.gl := List.Mem.head _
abbrev s_law_bent : Stmt := topS 36
abbrev N_law_bent : List Str := "bag" :: "thing" :: "deep" :: "at" :: "way" :: []
abbrev M_law_bent : Nm := ⟨N_law_bent, [.lo, .lo, .lo, .lo, .lo], ("isinstance" :: "tuple" :: "_law_take" :: "len" :: "_law_bent" :: "_law_some" :: "list" :: "_law_odd" :: "_law_is_int" :: "str" :: [] : List Str), defScope s_law_bent⟩
theorem sc_law_bent : FnScope M_law_bent.N ["bag", "thing", "deep"] (defScope s_law_bent) := ⟨rfl, rfl, rfl, by decide +kernel, rfl, by decide +kernel, by decide +kernel⟩
theorem ok_law_bent : nmOk M_law_bent = true := by decide +kernel
theorem r_law_bent_bag : Rdb M_law_bent 0 "bag" := ⟨rfl, ⟨_, rfl, by simp⟩, by decide +kernel, by decide +kernel⟩
theorem r_law_bent_thing : Rdb M_law_bent 1 "thing" := ⟨rfl, ⟨_, rfl, by simp⟩, by decide +kernel, by decide +kernel⟩
theorem r_law_bent_deep : Rdb M_law_bent 2 "deep" := ⟨rfl, ⟨_, rfl, by simp⟩, by decide +kernel, by decide +kernel⟩
theorem r_law_bent_at : Rdb M_law_bent 3 "at" := ⟨rfl, ⟨_, rfl, by simp⟩, by decide +kernel, by decide +kernel⟩
theorem t_law_bent_at : Sto M_law_bent 3 "at" := ⟨rfl, .inl rfl⟩
theorem l_law_bent_at : Lcl M_law_bent 3 "at" := ⟨rfl, rfl⟩
theorem r_law_bent_way : Rdb M_law_bent 4 "way" := ⟨rfl, ⟨_, rfl, by simp⟩, by decide +kernel, by decide +kernel⟩
theorem t_law_bent_way : Sto M_law_bent 4 "way" := ⟨rfl, .inl rfl⟩
theorem l_law_bent_way : Lcl M_law_bent 4 "way" := ⟨rfl, rfl⟩
theorem g_law_bent_isinstance : ("isinstance" : Str) ∈ M_law_bent.gl := List.Mem.head _
theorem g_law_bent_tuple : ("tuple" : Str) ∈ M_law_bent.gl := List.Mem.tail _ (List.Mem.head _)
theorem g_law_bent__law_take : ("_law_take" : Str) ∈ M_law_bent.gl := List.Mem.tail _ (List.Mem.tail _ (List.Mem.head _))
theorem g_law_bent_len : ("len" : Str) ∈ M_law_bent.gl := List.Mem.tail _ (List.Mem.tail _ (List.Mem.tail _ (List.Mem.head _)))
theorem g_law_bent__law_bent : ("_law_bent" : Str) ∈ M_law_bent.gl := List.Mem.tail _ (List.Mem.tail _ (List.Mem.tail _ (List.Mem.tail _ (List.Mem.head _))))
theorem g_law_bent__law_some : ("_law_some" : Str) ∈ M_law_bent.gl := List.Mem.tail _ (List.Mem.tail _ (List.Mem.tail _ (List.Mem.tail _ (List.Mem.tail _ (List.Mem.head _)))))
theorem g_law_bent_list : ("list" : Str) ∈ M_law_bent.gl := List.Mem.tail _ (List.Mem.tail _ (List.Mem.tail _ (List.Mem.tail _ (List.Mem.tail _ (List.Mem.tail _ (List.Mem.head _))))))
theorem g_law_bent__law_odd : ("_law_odd" : Str) ∈ M_law_bent.gl := List.Mem.tail _ (List.Mem.tail _ (List.Mem.tail _ (List.Mem.tail _ (List.Mem.tail _ (List.Mem.tail _ (List.Mem.tail _ (List.Mem.head _)))))))
theorem g_law_bent__law_is_int : ("_law_is_int" : Str) ∈ M_law_bent.gl := List.Mem.tail _ (List.Mem.tail _ (List.Mem.tail _ (List.Mem.tail _ (List.Mem.tail _ (List.Mem.tail _ (List.Mem.tail _ (List.Mem.tail _ (List.Mem.head _))))))))
theorem g_law_bent_str : ("str" : Str) ∈ M_law_bent.gl := List.Mem.tail _ (List.Mem.tail _ (List.Mem.tail _ (List.Mem.tail _ (List.Mem.tail _ (List.Mem.tail _ (List.Mem.tail _ (List.Mem.tail _ (List.Mem.tail _ (List.Mem.head _)))))))))
abbrev s_law_reworded : Stmt := topS 37
abbrev N_law_reworded : List Str := "bag" :: "shape" :: "cells" :: "groups" :: "added" :: "word" :: "one" :: "found" :: "part" :: "cell" :: []
abbrev M_law_reworded : Nm := ⟨N_law_reworded, [.lo, .lo, .lo, .lo, .lo, .ce, .ce, .lo, .no, .no], ("_law_take" :: "_law_some" :: "tuple" :: [] : List Str), defScope s_law_reworded⟩
theorem sc_law_reworded : FnScope M_law_reworded.N ["bag", "shape"] (defScope s_law_reworded) := ⟨rfl, rfl, rfl, by decide +kernel, rfl, by decide +kernel, by decide +kernel⟩
theorem ok_law_reworded : nmOk M_law_reworded = true := by decide +kernel
theorem r_law_reworded_bag : Rdb M_law_reworded 0 "bag" := ⟨rfl, ⟨_, rfl, by simp⟩, by decide +kernel, by decide +kernel⟩
theorem r_law_reworded_shape : Rdb M_law_reworded 1 "shape" := ⟨rfl, ⟨_, rfl, by simp⟩, by decide +kernel, by decide +kernel⟩
theorem r_law_reworded_cells : Rdb M_law_reworded 2 "cells" := ⟨rfl, ⟨_, rfl, by simp⟩, by decide +kernel, by decide +kernel⟩
theorem t_law_reworded_cells : Sto M_law_reworded 2 "cells" := ⟨rfl, .inl rfl⟩
theorem r_law_reworded_groups : Rdb M_law_reworded 3 "groups" := ⟨rfl, ⟨_, rfl, by simp⟩, by decide +kernel, by decide +kernel⟩
theorem t_law_reworded_groups : Sto M_law_reworded 3 "groups" := ⟨rfl, .inl rfl⟩
theorem r_law_reworded_added : Rdb M_law_reworded 4 "added" := ⟨rfl, ⟨_, rfl, by simp⟩, by decide +kernel, by decide +kernel⟩
theorem t_law_reworded_added : Sto M_law_reworded 4 "added" := ⟨rfl, .inl rfl⟩
theorem r_law_reworded_word : Rdb M_law_reworded 5 "word" := ⟨rfl, ⟨_, rfl, by simp⟩, by decide +kernel, by decide +kernel⟩
theorem t_law_reworded_word : Sto M_law_reworded 5 "word" := ⟨rfl, .inr rfl⟩
theorem r_law_reworded_one : Rdb M_law_reworded 6 "one" := ⟨rfl, ⟨_, rfl, by simp⟩, by decide +kernel, by decide +kernel⟩
theorem t_law_reworded_one : Sto M_law_reworded 6 "one" := ⟨rfl, .inr rfl⟩
theorem r_law_reworded_found : Rdb M_law_reworded 7 "found" := ⟨rfl, ⟨_, rfl, by simp⟩, by decide +kernel, by decide +kernel⟩
theorem t_law_reworded_found : Sto M_law_reworded 7 "found" := ⟨rfl, .inl rfl⟩
theorem l_law_reworded_found : Lcl M_law_reworded 7 "found" := ⟨rfl, rfl⟩
theorem g_law_reworded__law_take : ("_law_take" : Str) ∈ M_law_reworded.gl := List.Mem.head _
theorem g_law_reworded__law_some : ("_law_some" : Str) ∈ M_law_reworded.gl := List.Mem.tail _ (List.Mem.head _)
theorem g_law_reworded_tuple : ("tuple" : Str) ∈ M_law_reworded.gl := List.Mem.tail _ (List.Mem.tail _ (List.Mem.head _))
abbrev kd_law_reworded_0 : List Kd := [.no, .no, .no, .no, .no, .rd, .rd, .no, .lo, .no]
abbrev gl_law_reworded_0 : List Str := "tuple" :: []
abbrev own_law_reworded_0 : List (Str × Nat) := [("part", 8)]
theorem r_law_reworded_0_word (s0 : Scope) : Rdb (blkNm M_law_reworded s0 kd_law_reworded_0 gl_law_reworded_0) 5 "word" := ⟨rfl, ⟨_, rfl, by simp⟩, by decide +kernel, by decide +kernel⟩
theorem r_law_reworded_0_one (s0 : Scope) : Rdb (blkNm M_law_reworded s0 kd_law_reworded_0 gl_law_reworded_0) 6 "one" := ⟨rfl, ⟨_, rfl, by simp⟩, by decide +kernel, by decide +kernel⟩
theorem r_law_reworded_0_part (s0 : Scope) : Rdb (blkNm M_law_reworded s0 kd_law_reworded_0 gl_law_reworded_0) 8 "part" := ⟨rfl, ⟨_, rfl, by simp⟩, by decide +kernel, by decide +kernel⟩
theorem t_law_reworded_0_part (s0 : Scope) : Sto (blkNm M_law_reworded s0 kd_law_reworded_0 gl_law_reworded_0) 8 "part" := ⟨rfl, .inl rfl⟩
theorem g_law_reworded_0_tuple (s0 : Scope) : ("tuple" : Str) ∈ (blkNm M_law_reworded s0 kd_law_reworded_0 gl_law_reworded_0).gl := List.Mem.head _
abbrev kd_law_reworded_1 : List Kd := [.no, .no, .no, .no, .no, .rd, .rd, .no, .no, .lo]
abbrev gl_law_reworded_1 : List Str := []
abbrev own_law_reworded_1 : List (Str × Nat) := [("cell", 9)]
theorem r_law_reworded_1_word (s0 s1 : Scope) : Rdb (blkNm (blkNm M_law_reworded s0 kd_law_reworded_0 gl_law_reworded_0) s1 kd_law_reworded_1 gl_law_reworded_1) 5 "word" := ⟨rfl, ⟨_, rfl, by simp⟩, by decide +kernel, by decide +kernel⟩
theorem r_law_reworded_1_one (s0 s1 : Scope) : Rdb (blkNm (blkNm M_law_reworded s0 kd_law_reworded_0 gl_law_reworded_0) s1 kd_law_reworded_1 gl_law_reworded_1) 6 "one" := ⟨rfl, ⟨_, rfl, by simp⟩, by decide +kernel, by decide +kernel⟩
theorem r_law_reworded_1_cell (s0 s1 : Scope) : Rdb (blkNm (blkNm M_law_reworded s0 kd_law_reworded_0 gl_law_reworded_0) s1 kd_law_reworded_1 gl_law_reworded_1) 9 "cell" := ⟨rfl, ⟨_, rfl, by simp⟩, by decide +kernel, by decide +kernel⟩
theorem t_law_reworded_1_cell (s0 s1 : Scope) : Sto (blkNm (blkNm M_law_reworded s0 kd_law_reworded_0 gl_law_reworded_0) s1 kd_law_reworded_1 gl_law_reworded_1) 9 "cell" := ⟨rfl, .inl rfl⟩
abbrev s_law : Stmt := topS 38
abbrev N_law : List Str := "script" :: "bag" :: "turn" :: "scheme" :: "table" :: "turned" :: "things" :: "again" :: "at" :: "thing" :: "shown" :: "told" :: "k" :: []
abbrev M_law : Nm := ⟨N_law, [.lo, .ce, .lo, .ce, .ce, .lo, .lo, .lo, .lo, .lo, .lo, .lo, .no], ("_law_bag" :: "range" :: "_law_scheme" :: "_law_any_table" :: "_law_some" :: "_law_odd" :: "_law_take" :: "_law_reworded" :: "repr" :: "is_scheme" :: "is_table" :: "_law_alike" :: "_law_is_scheme" :: "_law_is_table" :: [] : List Str), defScope s_law⟩
theorem sc_law : FnScope M_law.N ["script"] (defScope s_law) := ⟨rfl, rfl, rfl, by decide +kernel, rfl, by decide +kernel, by decide +kernel⟩
theorem ok_law : nmOk M_law = true := by decide +kernel
theorem r_law_script : Rdb M_law 0 "script" := ⟨rfl, ⟨_, rfl, by simp⟩, by decide +kernel, by decide +kernel⟩
theorem r_law_bag : Rdb M_law 1 "bag" := ⟨rfl, ⟨_, rfl, by simp⟩, by decide +kernel, by decide +kernel⟩
theorem t_law_bag : Sto M_law 1 "bag" := ⟨rfl, .inr rfl⟩
theorem r_law_turn : Rdb M_law 2 "turn" := ⟨rfl, ⟨_, rfl, by simp⟩, by decide +kernel, by decide +kernel⟩
theorem t_law_turn : Sto M_law 2 "turn" := ⟨rfl, .inl rfl⟩
theorem r_law_scheme : Rdb M_law 3 "scheme" := ⟨rfl, ⟨_, rfl, by simp⟩, by decide +kernel, by decide +kernel⟩
theorem t_law_scheme : Sto M_law 3 "scheme" := ⟨rfl, .inr rfl⟩
theorem r_law_table : Rdb M_law 4 "table" := ⟨rfl, ⟨_, rfl, by simp⟩, by decide +kernel, by decide +kernel⟩
theorem t_law_table : Sto M_law 4 "table" := ⟨rfl, .inr rfl⟩
theorem r_law_turned : Rdb M_law 5 "turned" := ⟨rfl, ⟨_, rfl, by simp⟩, by decide +kernel, by decide +kernel⟩
theorem t_law_turned : Sto M_law 5 "turned" := ⟨rfl, .inl rfl⟩
theorem r_law_things : Rdb M_law 6 "things" := ⟨rfl, ⟨_, rfl, by simp⟩, by decide +kernel, by decide +kernel⟩
theorem t_law_things : Sto M_law 6 "things" := ⟨rfl, .inl rfl⟩
theorem r_law_again : Rdb M_law 7 "again" := ⟨rfl, ⟨_, rfl, by simp⟩, by decide +kernel, by decide +kernel⟩
theorem t_law_again : Sto M_law 7 "again" := ⟨rfl, .inl rfl⟩
theorem r_law_at : Rdb M_law 8 "at" := ⟨rfl, ⟨_, rfl, by simp⟩, by decide +kernel, by decide +kernel⟩
theorem t_law_at : Sto M_law 8 "at" := ⟨rfl, .inl rfl⟩
theorem r_law_thing : Rdb M_law 9 "thing" := ⟨rfl, ⟨_, rfl, by simp⟩, by decide +kernel, by decide +kernel⟩
theorem t_law_thing : Sto M_law 9 "thing" := ⟨rfl, .inl rfl⟩
theorem r_law_shown : Rdb M_law 10 "shown" := ⟨rfl, ⟨_, rfl, by simp⟩, by decide +kernel, by decide +kernel⟩
theorem t_law_shown : Sto M_law 10 "shown" := ⟨rfl, .inl rfl⟩
theorem l_law_shown : Lcl M_law 10 "shown" := ⟨rfl, rfl⟩
theorem r_law_told : Rdb M_law 11 "told" := ⟨rfl, ⟨_, rfl, by simp⟩, by decide +kernel, by decide +kernel⟩
theorem t_law_told : Sto M_law 11 "told" := ⟨rfl, .inl rfl⟩
theorem l_law_told : Lcl M_law 11 "told" := ⟨rfl, rfl⟩
theorem g_law__law_bag : ("_law_bag" : Str) ∈ M_law.gl := List.Mem.head _
theorem g_law_range : ("range" : Str) ∈ M_law.gl := List.Mem.tail _ (List.Mem.head _)
theorem g_law__law_scheme : ("_law_scheme" : Str) ∈ M_law.gl := List.Mem.tail _ (List.Mem.tail _ (List.Mem.head _))
theorem g_law__law_any_table : ("_law_any_table" : Str) ∈ M_law.gl := List.Mem.tail _ (List.Mem.tail _ (List.Mem.tail _ (List.Mem.head _)))
theorem g_law__law_some : ("_law_some" : Str) ∈ M_law.gl := List.Mem.tail _ (List.Mem.tail _ (List.Mem.tail _ (List.Mem.tail _ (List.Mem.head _))))
theorem g_law__law_odd : ("_law_odd" : Str) ∈ M_law.gl := List.Mem.tail _ (List.Mem.tail _ (List.Mem.tail _ (List.Mem.tail _ (List.Mem.tail _ (List.Mem.head _)))))
theorem g_law__law_take : ("_law_take" : Str) ∈ M_law.gl := List.Mem.tail _ (List.Mem.tail _ (List.Mem.tail _ (List.Mem.tail _ (List.Mem.tail _ (List.Mem.tail _ (List.Mem.head _))))))
theorem g_law__law_reworded : ("_law_reworded" : Str) ∈ M_law.gl := List.Mem.tail _ (List.Mem.tail _ (List.Mem.tail _ (List.Mem.tail _ (List.Mem.tail _ (List.Mem.tail _ (List.Mem.tail _ (List.Mem.head _)))))))
theorem g_law_repr : ("repr" : Str) ∈ M_law.gl := List.Mem.tail _ (List.Mem.tail _ (List.Mem.tail _ (List.Mem.tail _ (List.Mem.tail _ (List.Mem.tail _ (List.Mem.tail _ (List.Mem.tail _ (List.Mem.head _))))))))
theorem g_law_is_scheme : ("is_scheme" : Str) ∈ M_law.gl := List.Mem.tail _ (List.Mem.tail _ (List.Mem.tail _ (List.Mem.tail _ (List.Mem.tail _ (List.Mem.tail _ (List.Mem.tail _ (List.Mem.tail _ (List.Mem.tail _ (List.Mem.head _)))))))))
theorem g_law_is_table : ("is_table" : Str) ∈ M_law.gl := List.Mem.tail _ (List.Mem.tail _ (List.Mem.tail _ (List.Mem.tail _ (List.Mem.tail _ (List.Mem.tail _ (List.Mem.tail _ (List.Mem.tail _ (List.Mem.tail _ (List.Mem.tail _ (List.Mem.head _))))))))))
theorem g_law__law_alike : ("_law_alike" : Str) ∈ M_law.gl := List.Mem.tail _ (List.Mem.tail _ (List.Mem.tail _ (List.Mem.tail _ (List.Mem.tail _ (List.Mem.tail _ (List.Mem.tail _ (List.Mem.tail _ (List.Mem.tail _ (List.Mem.tail _ (List.Mem.tail _ (List.Mem.head _)))))))))))
theorem g_law__law_is_scheme : ("_law_is_scheme" : Str) ∈ M_law.gl := List.Mem.tail _ (List.Mem.tail _ (List.Mem.tail _ (List.Mem.tail _ (List.Mem.tail _ (List.Mem.tail _ (List.Mem.tail _ (List.Mem.tail _ (List.Mem.tail _ (List.Mem.tail _ (List.Mem.tail _ (List.Mem.tail _ (List.Mem.head _))))))))))))
theorem g_law__law_is_table : ("_law_is_table" : Str) ∈ M_law.gl := List.Mem.tail _ (List.Mem.tail _ (List.Mem.tail _ (List.Mem.tail _ (List.Mem.tail _ (List.Mem.tail _ (List.Mem.tail _ (List.Mem.tail _ (List.Mem.tail _ (List.Mem.tail _ (List.Mem.tail _ (List.Mem.tail _ (List.Mem.tail _ (List.Mem.head _)))))))))))))
abbrev kd_law_0 : List Kd := [.no, .rd, .no, .rd, .no, .no, .no, .no, .no, .no, .no, .no, .lo]
abbrev gl_law_0 : List Str := "_law_bent" :: []
abbrev own_law_0 : List (Str × Nat) := [("k", 12)]
theorem r_law_0_bag (s0 : Scope) : Rdb (blkNm M_law s0 kd_law_0 gl_law_0) 1 "bag" := ⟨rfl, ⟨_, rfl, by simp⟩, by decide +kernel, by decide +kernel⟩
theorem r_law_0_scheme (s0 : Scope) : Rdb (blkNm M_law s0 kd_law_0 gl_law_0) 3 "scheme" := ⟨rfl, ⟨_, rfl, by simp⟩, by decide +kernel, by decide +kernel⟩
theorem r_law_0_k (s0 : Scope) : Rdb (blkNm M_law s0 kd_law_0 gl_law_0) 12 "k" := ⟨rfl, ⟨_, rfl, by simp⟩, by decide +kernel, by decide +kernel⟩
theorem t_law_0_k (s0 : Scope) : Sto (blkNm M_law s0 kd_law_0 gl_law_0) 12 "k" := ⟨rfl, .inl rfl⟩
theorem g_law_0__law_bent (s0 : Scope) : ("_law_bent" : Str) ∈ (blkNm M_law s0 kd_law_0 gl_law_0).gl := List.Mem.head _
abbrev kd_law_1 : List Kd := [.no, .rd, .no, .no, .rd, .no, .no, .no, .no, .no, .no, .no, .lo]
abbrev gl_law_1 : List Str := "_law_bent" :: []
abbrev own_law_1 : List (Str × Nat) := [("k", 12)]
theorem r_law_1_bag (s1 : Scope) : Rdb (blkNm M_law s1 kd_law_1 gl_law_1) 1 "bag" := ⟨rfl, ⟨_, rfl, by simp⟩, by decide +kernel, by decide +kernel⟩
theorem r_law_1_table (s1 : Scope) : Rdb (blkNm M_law s1 kd_law_1 gl_law_1) 4 "table" := ⟨rfl, ⟨_, rfl, by simp⟩, by decide +kernel, by decide +kernel⟩
theorem r_law_1_k (s1 : Scope) : Rdb (blkNm M_law s1 kd_law_1 gl_law_1) 12 "k" := ⟨rfl, ⟨_, rfl, by simp⟩, by decide +kernel, by decide +kernel⟩
theorem t_law_1_k (s1 : Scope) : Sto (blkNm M_law s1 kd_law_1 gl_law_1) 12 "k" := ⟨rfl, .inl rfl⟩
theorem g_law_1__law_bent (s1 : Scope) : ("_law_bent" : Str) ∈ (blkNm M_law s1 kd_law_1 gl_law_1).gl := List.Mem.head _
set_option hygiene false in
local macro_rules | `(tactic| walk_at "dw_we") => `(tactic| first
  | refine we_tuple ?_ | refine we_fresh (wf_list ?_) | refine we_fresh (wf_lc ?_) | refine we_neg ?_ | refine we_ifexp ?_ | refine we_and ?_ | refine we_or ?_ | refine we_one ?_ | refine we_not ?_)
set_option hygiene false in
local macro_rules | `(tactic| walk_at "dw_wt") => `(tactic| first
  | refine wt_eq ?_ | refine wt_ne ?_ | refine wt_lt ?_ | refine wt_le ?_ | refine wt_gt ?_ | refine wt_ge ?_ | refine wt_in ?_ | refine wt_notin ?_ | refine wt_not ?_ | refine wt_is ?_ | refine wt_isnot ?_ | refine wt_of_ww (ww_and ?_) | refine wt_of_ww (ww_or ?_) | refine wt_val ?_)
set_option hygiene false in
local macro_rules | `(tactic| walk_at "dw_d") => `(tactic| first
  | (guard_target = IxD _ _ _; first | refine d_ixT0 ?_ | refine d_ixT1 ?_ | refine d_ixT2 ?_ | refine d_ixT3 ?_ | refine d_ixL0 ?_ | refine d_ixL1 ?_ | refine d_ixL2 ?_)
  | (guard_target = AddD _ _ _; first | refine d_addI ?_ | refine d_addL ?_ ?_ | refine d_addT ?_ ?_ | refine d_addS ?_ ?_)
  | (guard_target = MulD _ _ _; first | refine d_mul ?_ ?_ | refine d_rep ?_ ?_ ?_ ?_ ?_)
  | (guard_target = SubD _ _ _; refine d_sub ?_)
  | (guard_target = EqD _ _ _; first | refine d_eqI ?_ | refine d_eqS ?_)
  | (guard_target = LtD _ _ _; refine d_lt ?_)
  | (guard_target = LeD _ _ _; refine d_le ?_)
  | (guard_target = PowD _ _ _; refine d_pow (by decide) ?_)
  | (guard_target = NegD _ _; refine d_neg ?_)
  | (guard_target = FDivD _ _ _; refine d_fdiv ?_ ?_)
  | (guard_target = ModD _ _ _; refine d_mod ?_ ?_)
  | (guard_target = IntD _ _; first | refine d_int ?_ | refine d_intB ?_)
  | (guard_target = AbsD _ _; refine d_abs ?_)
  | (guard_target = GcdD _ _ _; refine d_gcd ?_)
  | (guard_target = LenD _ _; first | refine d_lenL ?_ | refine d_lenT ?_)
  | (guard_target = SeqD _ _; first | refine d_seqL ?_ | refine d_seqT ?_ | refine d_seqB ?_)
  | (guard_target = ZipD _ _ _; first | refine d_zipL ?_ | refine d_zipT ?_)
  | (guard_target = ZipE _ _ _; first | refine d_zeTT ?_ | refine d_zeLL ?_ | refine d_zeTL ?_ | refine d_zeLT ?_)
  | (guard_target = EnumE _ _; first | refine d_enT ?_ | refine d_enL ?_)
  | (guard_target = PyData.none = PyData.none ∧ _; refine ⟨rfl, ?_⟩)
  | (guard_target = SlD _ _ _ _; first | refine d_slL ?_ | refine d_slT ?_)
  | (guard_target = List.length _ < lim ∧ _; refine ⟨(by simp only [List.length_append, List.length_cons, List.length_nil]; exact lim_lt _ (by decide)), ?_⟩)
  | (guard_target = List.length _ + List.length _ ≤ lim ∧ _; refine ⟨(by simp only [List.length_append, List.length_cons, List.length_nil]; exact lim_n _ (by decide)), ?_⟩)
  | (guard_target = List.length _ ≤ lim ∧ _; refine ⟨(by simp only [List.length_cons, List.length_nil]; exact lim_n _ (by decide)), ?_⟩)
  | (guard_target = List.length _ ≤ lim; simp only [List.length_cons, List.length_nil]; exact lim_n _ (by decide))
  | (guard_target = _ ∧ _; first | refine br_dec (fun h => ?_) (fun h => ?_) | refine br_ndec (fun h => ?_) (fun h => ?_) | refine br_dec' (fun h => ?_) (fun h => ?_) | refine br_ndec' (fun h => ?_) (fun h => ?_) | refine br_tt ?_ | refine br_ff ?_)
  | refine ex_b ?_ | refine ex_i ?_ | refine ex_oneI ?_ | refine ex_twoI ?_ | refine ex_lst ?_ | refine ex_two ?_ | refine ex_par3 ?_ | refine ex_one ?_ | fail)
set_option hygiene false in
local macro_rules | `(tactic| walk_at "dw_s") => `(tactic| first
  | refine ws_cons ?_ | refine ws_nil ?_)
set_option hygiene false in
local macro_rules | `(tactic| walk_at "dw_1") => `(tactic| first
  | refine w1_ret ?_ | refine w1_if ?_ | refine w1_doc ?_ | refine w1_pass ?_ | refine w1_break ?_ | refine w1_cont ?_ | refine w1_retN ?_)
set_option hygiene false in
local macro_rules | `(tactic| walk_at "dw_1n") => `(tactic| first
  | refine w1_ret ?_ | refine w1_doc ?_ | refine w1_pass ?_ | refine w1_break ?_ | refine w1_cont ?_ | refine w1_retN ?_)
set_option hygiene false in
local macro_rules | `(tactic| walk_at "st_is_integer") => `(tactic| first
  | (guard_target = WB _ _ _ _ _ _; first | (guard_target = WB _ _ _ (.Name _ _) _ _; first | refine wb_of ?_) | refine wb_of ?_)
  | (guard_target = WE _ _ _ _ _ _; first
     | (guard_target = WE _ _ _ (.Name _ _) _ _; first | (guard_target = WE _ M_is_integer _ (.Name "thing" _) _ _; refine we_var 0 r_is_integer_thing rfl ?_))
     | (guard_target = WE _ _ _ (.Constant _ _ _) _ _; first | refine we_int ?_ | refine we_str ?_ | refine we_bool ?_ | refine we_none ?_)
     | (guard_target = WE _ _ _ (.Subscript _ _ _) _ _; first | (guard_target = WE _ _ _ (.Subscript _ (.Slice none none (some _) _) _) _ _; refine we_revT ?_) | refine we_ix ?_ | refine we_slice ?_)
     | (guard_target = WE _ _ _ (.Call (.Name _ _) _ _ _) _ _; first | (guard_target = WE _ M_is_integer _ (.Call (.Name "isinstance" _) [_, .Name "int" _] _ _) _ _; refine we_isi (T := "int") B.isinstance g_is_integer_isinstance B.int g_is_integer_int ?_) | (guard_target = WE _ M_is_integer _ (.Call (.Name "isinstance" _) [_, .Name "bool" _] _ _) _ _; refine we_isi (T := "bool") B.isinstance g_is_integer_isinstance B.bool g_is_integer_bool ?_) | (guard_target = WE _ M_is_integer _ (.Call (.Name "int" _) _ _ _) _ _; refine we_toint B.int g_is_integer_int ?_))
     | (guard_target = WE _ _ _ (.BinOp (.List _ _) .Mult _ _) _ _; refine we_fresh (wf_rep (wf_list ?_)))
     | (guard_target = WE _ _ _ (.BinOp _ _ _ _) _ _; first | refine we_add ?_ | refine we_sub ?_ | refine we_mul ?_ | refine we_mod ?_ | refine we_fdiv ?_ | refine we_pow ?_)
     | (guard_target = WE _ _ _ (.Compare _ _ _ _) _ _; first | refine we_eq ?_ | refine we_ne ?_ | refine we_lt ?_ | refine we_le ?_ | refine we_gt ?_ | refine we_ge ?_ | refine we_in ?_ | refine we_notin ?_)
     | walk_at "dw_we")
  | (guard_target = WT _ _ _ _ _ _; walk_at "dw_wt")
  | (guard_target = WL _ _ _ _ _ _; first | refine wl_cons ?_ | refine wl_nil ?_)
  | (guard_target = WW _ _ _ _ _ _; first | refine ww_and ?_ | refine ww_or ?_ | refine ww_and1 ?_ | refine ww_or1 ?_)
  | (guard_target = WO _ _ _ _ _ _; first | refine wo_none ?_ | refine wo_some ?_)
  | (guard_target = WF _ _ _ _ _ _; first | refine wf_list ?_ | refine wf_lc ?_ | refine wf_rep (wf_list ?_))
  | (guard_target = WS _ _ _ _ _ _; first | refine ws_cons ?_ | refine ws_nil ?_)
  | (guard_target = W1 _ _ _ _ _ _; first | walk_at "dw_1" | (guard_target = W1 _ _ _ (.Assign [.Tuple _ _ _] _ _) _ _; refine w1_asg ?_))
  | (guard_target = WJ _ _ _ _ _ _ _; first | refine wj_of ?_)
  | (guard_target = WI _ _ _ _ _ _ _; first | refine wi_seq ?_)
  | (guard_target = WG _ _ _ _ _ _ _; first | refine wg_tup rfl ?_)
  | (guard_target = WH _ _ _ _ _ _ _; first | refine wh_cons ?_ | refine wh_nil ?_)
  | (guard_target = WV _ _ _ _ _ _ _ _; first | refine wv_tup rfl ?_)
  | (guard_target = WVs _ _ _ _ _ _ _ _; first | refine wvs_cons ?_ | refine wvs_nil ?_)
  | walk_at "dw_d"
  | fail)
set_option hygiene false in
local macro_rules | `(tactic| walk_at "st_is_name") => `(tactic| first
  | (guard_target = WB _ _ _ _ _ _; first | (guard_target = WB _ _ _ (.Name _ _) _ _; first | refine wb_of ?_) | refine wb_of ?_)
  | (guard_target = WE _ _ _ _ _ _; first
     | (guard_target = WE _ _ _ (.Name _ _) _ _; first | (guard_target = WE _ M_is_name _ (.Name "thing" _) _ _; refine we_var 0 r_is_name_thing rfl ?_) | (guard_target = WE _ (blkNm M_is_name _ kd_is_name_0 gl_is_name_0) _ (.Name "sign" _) _ _; refine we_var 1 (r_is_name_0_sign _) rfl ?_) | (guard_target = WE _ (blkNm M_is_name _ kd_is_name_0 gl_is_name_0) _ (.Name "LETTERS" _) _ _; refine we_gtext (g_is_name_0_LETTERS _) B.LETTERS ?_))
     | (guard_target = WE _ _ _ (.Constant _ _ _) _ _; first | refine we_int ?_ | refine we_str ?_ | refine we_bool ?_ | refine we_none ?_)
     | (guard_target = WE _ _ _ (.Subscript _ _ _) _ _; first | (guard_target = WE _ _ _ (.Subscript _ (.Slice none none (some _) _) _) _ _; refine we_revT ?_) | refine we_ix ?_ | refine we_slice ?_)
     | (guard_target = WE _ _ _ (.Call (.Name _ _) _ _ _) _ _; first | (guard_target = WE _ M_is_name _ (.Call (.Name "isinstance" _) [_, .Name "str" _] _ _) _ _; refine we_isi (T := "str") B.isinstance g_is_name_isinstance B.str g_is_name_str ?_) | (guard_target = WE _ M_is_name _ (.Call (.Name "str" _) _ _ _) _ _; refine we_strI B.str g_is_name_str ?_) | (guard_target = WE _ M_is_name _ (.Call (.Name "len" _) _ _ _) _ _; refine we_len B.len g_is_name_len ?_) | (guard_target = WE _ M_is_name _ (.Call (.Name "all" _) _ _ _) _ _; refine we_all B.all g_is_name_all ?_))
     | (guard_target = WE _ _ _ (.BinOp (.List _ _) .Mult _ _) _ _; refine we_fresh (wf_rep (wf_list ?_)))
     | (guard_target = WE _ _ _ (.BinOp _ _ _ _) _ _; first | refine we_add ?_ | refine we_sub ?_ | refine we_mul ?_ | refine we_mod ?_ | refine we_fdiv ?_ | refine we_pow ?_)
     | (guard_target = WE _ _ _ (.Compare _ _ _ _) _ _; first | refine we_chainLe ?_ | (guard_target = WE _ _ _ (.Compare _ [.In] [.Name "LETTERS" _] _) _ _; refine we_inS ?_) | refine we_eq ?_ | refine we_ne ?_ | refine we_lt ?_ | refine we_le ?_ | refine we_gt ?_ | refine we_ge ?_ | refine we_in ?_ | refine we_notin ?_)
     | walk_at "dw_we")
  | (guard_target = WT _ _ _ _ _ _; first | refine wt_chainLe ?_ | walk_at "dw_wt")
  | (guard_target = WL _ _ _ _ _ _; first | refine wl_cons ?_ | refine wl_nil ?_)
  | (guard_target = WW _ _ _ _ _ _; first | refine ww_and ?_ | refine ww_or ?_ | refine ww_and1 ?_ | refine ww_or1 ?_)
  | (guard_target = WO _ _ _ _ _ _; first | refine wo_none ?_ | refine wo_some ?_)
  | (guard_target = WF _ _ _ _ _ _; first | refine wf_list ?_ | refine wf_lc ?_ | refine wf_rep (wf_list ?_))
  | (guard_target = WS _ _ _ _ _ _; first | refine ws_cons ?_ | refine ws_nil ?_)
  | (guard_target = W1 _ _ _ _ _ _; first | walk_at "dw_1" | (guard_target = W1 _ _ _ (.Assign [.Tuple _ _ _] _ _) _ _; refine w1_asg ?_))
  | (guard_target = WJ _ _ _ _ _ _ _; first | refine wj_of ?_)
  | (guard_target = WI _ _ _ _ _ _ _; first | refine wi_seq ?_)
  | (guard_target = WG _ _ _ _ _ _ _; first | refine wg_tup rfl ?_)
  | (guard_target = WH _ _ _ _ _ _ _; first | refine wh_cons ?_ | refine wh_nil ?_)
  | (guard_target = WV _ _ _ _ _ _ _ _; first | (guard_target = WV _ (blkNm M_is_name _ kd_is_name_0 gl_is_name_0) _ _ (.Name "sign" _) _ _ _; refine wv_name 1 (t_is_name_0_sign _) (by decide) ?_) | refine wv_tup rfl ?_)
  | (guard_target = WVs _ _ _ _ _ _ _ _; first | refine wvs_cons ?_ | refine wvs_nil ?_)
  | walk_at "dw_d"
  | fail)
set_option hygiene false in
local macro_rules | `(tactic| walk_at "st_is_fraction") => `(tactic| first
  | (guard_target = WB _ _ _ _ _ _; first | (guard_target = WB _ _ _ (.Name _ _) _ _; first | refine wb_of ?_) | refine wb_of ?_)
  | (guard_target = WE _ _ _ _ _ _; first
     | (guard_target = WE _ _ _ (.Name _ _) _ _; first | (guard_target = WE _ M_is_fraction _ (.Name "thing" _) _ _; refine we_var 0 r_is_fraction_thing rfl ?_) | (guard_target = WE _ (blkNm M_is_fraction _ kd_is_fraction_0 gl_is_fraction_0) _ (.Name "part" _) _ _; refine we_var 1 (r_is_fraction_0_part _) rfl ?_))
     | (guard_target = WE _ _ _ (.Constant _ _ _) _ _; first | refine we_int ?_ | refine we_str ?_ | refine we_bool ?_ | refine we_none ?_)
     | (guard_target = WE _ _ _ (.Subscript _ _ _) _ _; first | (guard_target = WE _ _ _ (.Subscript _ (.Slice none none (some _) _) _) _ _; refine we_revT ?_) | refine we_ix ?_ | refine we_slice ?_)
     | (guard_target = WE _ _ _ (.Call (.Name _ _) _ _ _) _ _; first | (guard_target = WE _ M_is_fraction _ (.Call (.Name "isinstance" _) [_, .Name "tuple" _] _ _) _ _; refine we_isi (T := "tuple") B.isinstance g_is_fraction_isinstance B.tuple g_is_fraction_tuple ?_) | (guard_target = WE _ M_is_fraction _ (.Call (.Name "tuple" _) _ _ _) _ _; refine we_tup B.tuple g_is_fraction_tuple ?_) | (guard_target = WE _ M_is_fraction _ (.Call (.Name "len" _) _ _ _) _ _; refine we_len B.len g_is_fraction_len ?_) | (guard_target = WE _ M_is_fraction _ (.Call (.Name "all" _) _ _ _) _ _; refine we_all B.all g_is_fraction_all ?_) | (guard_target = WE _ M_is_fraction _ (.Call (.Name "gcd" _) _ _ _) _ _; refine we_gcd B.gcd g_is_fraction_gcd ?_) | (guard_target = WE _ (blkNm M_is_fraction _ kd_is_fraction_0 gl_is_fraction_0) _ (.Call (.Name "is_integer" _) _ _ _) _ _; first | refine we_call f_is_integer (g_is_fraction_0_is_integer _) (by omega) ?_ | refine we_call0 f_is_integer (g_is_fraction_0_is_integer _) (by omega) ?_))
     | (guard_target = WE _ _ _ (.BinOp (.List _ _) .Mult _ _) _ _; refine we_fresh (wf_rep (wf_list ?_)))
     | (guard_target = WE _ _ _ (.BinOp _ _ _ _) _ _; first | refine we_add ?_ | refine we_sub ?_ | refine we_mul ?_ | refine we_mod ?_ | refine we_fdiv ?_ | refine we_pow ?_)
     | (guard_target = WE _ _ _ (.Compare _ _ _ _) _ _; first | refine we_eq ?_ | refine we_ne ?_ | refine we_lt ?_ | refine we_le ?_ | refine we_gt ?_ | refine we_ge ?_ | refine we_in ?_ | refine we_notin ?_)
     | walk_at "dw_we")
  | (guard_target = WT _ _ _ _ _ _; walk_at "dw_wt")
  | (guard_target = WL _ _ _ _ _ _; first | refine wl_cons ?_ | refine wl_nil ?_)
  | (guard_target = WW _ _ _ _ _ _; first | refine ww_and ?_ | refine ww_or ?_ | refine ww_and1 ?_ | refine ww_or1 ?_)
  | (guard_target = WO _ _ _ _ _ _; first | refine wo_none ?_ | refine wo_some ?_)
  | (guard_target = WF _ _ _ _ _ _; first | refine wf_list ?_ | refine wf_lc ?_ | refine wf_rep (wf_list ?_))
  | (guard_target = WS _ _ _ _ _ _; first | refine ws_cons ?_ | refine ws_nil ?_)
  | (guard_target = W1 _ _ _ _ _ _; first | walk_at "dw_1" | (guard_target = W1 _ _ _ (.Assign [.Tuple _ _ _] _ _) _ _; refine w1_asg ?_))
  | (guard_target = WJ _ _ _ _ _ _ _; first | refine wj_of ?_)
  | (guard_target = WI _ _ _ _ _ _ _; first | refine wi_seq ?_)
  | (guard_target = WG _ _ _ _ _ _ _; first | refine wg_tup rfl ?_)
  | (guard_target = WH _ _ _ _ _ _ _; first | refine wh_cons ?_ | refine wh_nil ?_)
  | (guard_target = WV _ _ _ _ _ _ _ _; first | (guard_target = WV _ (blkNm M_is_fraction _ kd_is_fraction_0 gl_is_fraction_0) _ _ (.Name "part" _) _ _ _; refine wv_name 1 (t_is_fraction_0_part _) (by decide) ?_) | refine wv_tup rfl ?_)
  | (guard_target = WVs _ _ _ _ _ _ _ _; first | refine wvs_cons ?_ | refine wvs_nil ?_)
  | walk_at "dw_d"
  | fail)
set_option hygiene false in
local macro_rules | `(tactic| walk_at "st_is_side") => `(tactic| first
  | (guard_target = WB _ _ _ _ _ _; first | (guard_target = WB _ _ _ (.Name _ _) _ _; first | (guard_target = WB _ M_is_side _ (.Name "stood" _) _ _; first | refine wb_mu 6 r_is_side_stood rfl ?_ | refine wb_of ?_) | refine wb_of ?_) | refine wb_of ?_)
  | (guard_target = WE _ _ _ _ _ _; first
     | (guard_target = WE _ _ _ (.Name _ _) _ _; first | (guard_target = WE _ M_is_side _ (.Name "thing" _) _ _; refine we_var 0 r_is_side_thing rfl ?_) | (guard_target = WE _ M_is_side _ (.Name "least" _) _ _; refine we_var 1 r_is_side_least rfl ?_) | (guard_target = WE _ M_is_side _ (.Name "cells" _) _ _; refine we_var 2 r_is_side_cells rfl ?_) | (guard_target = WE _ M_is_side _ (.Name "groups" _) _ _; refine we_var 3 r_is_side_groups rfl ?_) | (guard_target = WE _ M_is_side _ (.Name "free" _) _ _; refine we_var 4 r_is_side_free rfl ?_) | (guard_target = WE _ M_is_side _ (.Name "group" _) _ _; refine we_var 5 r_is_side_group rfl ?_) | (guard_target = WE _ M_is_side _ (.Name "stood" _) _ _; refine we_var 6 r_is_side_stood rfl ?_) | (guard_target = WE _ M_is_side _ (.Name "lots" _) _ _; refine we_var 7 r_is_side_lots rfl ?_) | (guard_target = WE _ (blkNm M_is_side _ kd_is_side_0 gl_is_side_0) _ (.Name "part" _) _ _; refine we_var 8 (r_is_side_0_part _) rfl ?_) | (guard_target = WE _ (blkNm M_is_side _ kd_is_side_1 gl_is_side_1) _ (.Name "cell" _) _ _; refine we_var 9 (r_is_side_1_cell _) rfl ?_) | (guard_target = WE _ (blkNm M_is_side _ kd_is_side_2 gl_is_side_2) _ (.Name "group" _) _ _; refine we_var 5 (r_is_side_2_group _) rfl ?_) | (guard_target = WE _ (blkNm M_is_side _ kd_is_side_3 gl_is_side_3) _ (.Name "cell" _) _ _; refine we_var 9 (r_is_side_3_cell _) rfl ?_) | (guard_target = WE _ (blkNm M_is_side _ kd_is_side_4 gl_is_side_4) _ (.Name "cell" _) _ _; refine we_var 9 (r_is_side_4_cell _) rfl ?_) | (guard_target = WE _ (blkNm M_is_side _ kd_is_side_5 gl_is_side_5) _ (.Name "cells" _) _ _; refine we_var 2 (r_is_side_5_cells _) rfl ?_) | (guard_target = WE _ (blkNm M_is_side _ kd_is_side_5 gl_is_side_5) _ (.Name "lot" _) _ _; refine we_var 10 (r_is_side_5_lot _) rfl ?_) | (guard_target = WE _ (blkNm (blkNm M_is_side _ kd_is_side_5 gl_is_side_5) _ kd_is_side_6 gl_is_side_6) _ (.Name "cells" _) _ _; refine we_var 2 (r_is_side_6_cells _ _) rfl ?_) | (guard_target = WE _ (blkNm (blkNm M_is_side _ kd_is_side_5 gl_is_side_5) _ kd_is_side_6 gl_is_side_6) _ (.Name "cell" _) _ _; refine we_var 9 (r_is_side_6_cell _ _) rfl ?_) | (guard_target = WE _ (blkNm (blkNm M_is_side _ kd_is_side_5 gl_is_side_5) _ kd_is_side_7 gl_is_side_7) _ (.Name "cells" _) _ _; refine we_var 2 (r_is_side_7_cells _ _) rfl ?_) | (guard_target = WE _ (blkNm (blkNm M_is_side _ kd_is_side_5 gl_is_side_5) _ kd_is_side_7 gl_is_side_7) _ (.Name "cell" _) _ _; refine we_var 9 (r_is_side_7_cell _ _) rfl ?_) | (guard_target = WE _ (blkNm M_is_side _ kd_is_side_8 gl_is_side_8) _ (.Name "cells" _) _ _; refine we_var 2 (r_is_side_8_cells _) rfl ?_) | (guard_target = WE _ (blkNm M_is_side _ kd_is_side_8 gl_is_side_8) _ (.Name "group" _) _ _; refine we_var 5 (r_is_side_8_group _) rfl ?_) | (guard_target = WE _ (blkNm M_is_side _ kd_is_side_9 gl_is_side_9) _ (.Name "cells" _) _ _; refine we_var 2 (r_is_side_9_cells _) rfl ?_) | (guard_target = WE _ (blkNm M_is_side _ kd_is_side_9 gl_is_side_9) _ (.Name "group" _) _ _; refine we_var 5 (r_is_side_9_group _) rfl ?_))
     | (guard_target = WE _ _ _ (.Constant _ _ _) _ _; first | refine we_int ?_ | refine we_str ?_ | refine we_bool ?_ | refine we_none ?_)
     | (guard_target = WE _ _ _ (.Subscript _ _ _) _ _; first | (guard_target = WE _ _ _ (.Subscript _ (.Slice none none (some _) _) _) _ _; refine we_revT ?_) | refine we_ix ?_ | refine we_slice ?_)
     | (guard_target = WE _ _ _ (.Call (.Name _ _) _ _ _) _ _; first | (guard_target = WE _ M_is_side _ (.Call (.Name "isinstance" _) [_, .Name "tuple" _] _ _) _ _; refine we_isi (T := "tuple") B.isinstance g_is_side_isinstance B.tuple g_is_side_tuple ?_) | (guard_target = WE _ M_is_side _ (.Call (.Name "isinstance" _) [_, .Name "list" _] _ _) _ _; refine we_isi (T := "list") B.isinstance g_is_side_isinstance B.list g_is_side_list ?_) | (guard_target = WE _ M_is_side _ (.Call (.Name "tuple" _) _ _ _) _ _; refine we_tup B.tuple g_is_side_tuple ?_) | (guard_target = WE _ M_is_side _ (.Call (.Name "len" _) [.Call (.Name "set" _) _ _ _] _ _) _ _; refine we_lenTxtG B.len g_is_side_len B.set g_is_side_set ?_) | (guard_target = WE _ M_is_side _ (.Call (.Name "len" _) _ _ _) _ _; refine we_len B.len g_is_side_len ?_) | (guard_target = WE _ M_is_side _ (.Call (.Name "all" _) _ _ _) _ _; refine we_all B.all g_is_side_all ?_) | (guard_target = WE _ M_is_side _ (.Call (.Name "list" _) _ _ _) _ _; refine we_lst B.list g_is_side_list ?_) | (guard_target = WE _ M_is_side _ (.Call (.Name "sorted" _) [.Call (.Name "set" _) _ _ _] _ _) _ _; refine we_sortSetL B.sorted g_is_side_sorted B.set g_is_side_set ?_) | (guard_target = WE _ M_is_side _ (.Call (.Name "sorted" _) _ _ _) _ _; refine we_sortAny (by omega) B.sorted g_is_side_sorted ?_) | (guard_target = WE _ (blkNm M_is_side _ kd_is_side_0 gl_is_side_0) _ (.Call (.Name "isinstance" _) [_, .Name "tuple" _] _ _) _ _; refine we_isi (T := "tuple") B.isinstance (g_is_side_0_isinstance _) B.tuple (g_is_side_0_tuple _) ?_) | (guard_target = WE _ (blkNm M_is_side _ kd_is_side_0 gl_is_side_0) _ (.Call (.Name "tuple" _) _ _ _) _ _; refine we_tup B.tuple (g_is_side_0_tuple _) ?_) | (guard_target = WE _ (blkNm M_is_side _ kd_is_side_1 gl_is_side_1) _ (.Call (.Name "is_name" _) _ _ _) _ _; first | refine we_call f_is_name (g_is_side_1_is_name _) (by omega) ?_ | refine we_call0 f_is_name (g_is_side_1_is_name _) (by omega) ?_) | (guard_target = WE _ (blkNm M_is_side _ kd_is_side_2 gl_is_side_2) _ (.Call (.Name "isinstance" _) [_, .Name "tuple" _] _ _) _ _; refine we_isi (T := "tuple") B.isinstance (g_is_side_2_isinstance _) B.tuple (g_is_side_2_tuple _) ?_) | (guard_target = WE _ (blkNm M_is_side _ kd_is_side_2 gl_is_side_2) _ (.Call (.Name "tuple" _) _ _ _) _ _; refine we_tup B.tuple (g_is_side_2_tuple _) ?_) | (guard_target = WE _ (blkNm M_is_side _ kd_is_side_3 gl_is_side_3) _ (.Call (.Name "isinstance" _) [_, .Name "str" _] _ _) _ _; refine we_isi (T := "str") B.isinstance (g_is_side_3_isinstance _) B.str (g_is_side_3_str _) ?_) | (guard_target = WE _ (blkNm M_is_side _ kd_is_side_3 gl_is_side_3) _ (.Call (.Name "str" _) _ _ _) _ _; refine we_strI B.str (g_is_side_3_str _) ?_) | (guard_target = WE _ (blkNm M_is_side _ kd_is_side_4 gl_is_side_4) _ (.Call (.Name "isinstance" _) [_, .Name "str" _] _ _) _ _; refine we_isi (T := "str") B.isinstance (g_is_side_4_isinstance _) B.str (g_is_side_4_str _) ?_) | (guard_target = WE _ (blkNm M_is_side _ kd_is_side_4 gl_is_side_4) _ (.Call (.Name "str" _) _ _ _) _ _; refine we_strI B.str (g_is_side_4_str _) ?_) | (guard_target = WE _ (blkNm M_is_side _ kd_is_side_5 gl_is_side_5) _ (.Call (.Name "sorted" _) _ _ _) _ _; refine we_sortAny (by omega) B.sorted (g_is_side_5_sorted _) ?_))
     | (guard_target = WE _ _ _ (.Call (.Attribute _ "index" _) _ _ _) _ _; refine we_tidx B.kt ?_)
     | (guard_target = WE _ _ _ (.BinOp (.List _ _) .Mult _ _) _ _; refine we_fresh (wf_rep (wf_list ?_)))
     | (guard_target = WE _ _ _ (.BinOp _ _ _ _) _ _; first | refine we_add ?_ | refine we_sub ?_ | refine we_mul ?_ | refine we_mod ?_ | refine we_fdiv ?_ | refine we_pow ?_)
     | (guard_target = WE _ _ _ (.Compare _ _ _ _) _ _; first | (guard_target = WE _ _ _ (.Compare _ [.NotEq] [.Tuple [] _ _] _) _ _; refine we_neE ?_) | refine we_eq ?_ | refine we_ne ?_ | refine we_lt ?_ | refine we_le ?_ | refine we_gt ?_ | refine we_ge ?_ | refine we_in ?_ | refine we_notin ?_)
     | walk_at "dw_we")
  | (guard_target = WT _ _ _ _ _ _; first | (guard_target = WT _ _ _ (.Compare _ [.NotEq] [.Tuple [] _ _] _) _ _; refine wt_neE ?_) | walk_at "dw_wt")
  | (guard_target = WL _ _ _ _ _ _; first | (guard_target = WL _ _ _ (.Starred _ _ :: _) _ _; refine wl_star ?_) | refine wl_cons ?_ | refine wl_nil ?_)
  | (guard_target = WW _ _ _ _ _ _; first | refine ww_and ?_ | refine ww_or ?_ | refine ww_and1 ?_ | refine ww_or1 ?_)
  | (guard_target = WO _ _ _ _ _ _; first | refine wo_none ?_ | refine wo_some ?_)
  | (guard_target = WF _ _ _ _ _ _; first | refine wf_list ?_ | refine wf_lc ?_ | refine wf_rep (wf_list ?_))
  | (guard_target = WS _ _ _ _ _ _; first | refine ws_cons ?_ | refine ws_nil ?_)
  | (guard_target = W1 _ _ _ _ _ _; first | walk_at "dw_1" | (guard_target = W1 _ M_is_side _ (.Expr (.Call (.Attribute (.Name "stood" _) "extend" _) [.ListComp _ _ _ _] _ _) _) _ _; refine w1_extend 6 r_is_side_stood rfl ?_) | (guard_target = W1 _ M_is_side _ (.Expr (.Call (.Attribute (.Name "stood" _) "extend" _) [.List _ _] _ _) _) _ _; refine w1_extend 6 r_is_side_stood rfl ?_) | (guard_target = W1 _ M_is_side _ (.Expr (.Call (.Attribute (.Name "stood" _) "extend" _) _ _ _) _) _ _; refine w1_extendE 6 r_is_side_stood rfl ?_) | (guard_target = W1 _ M_is_side _ (.Assign [(.Name "stood" _)] (.Call (.Name "list" _) _ _ _) _) _ _; refine w1_own 6 t_is_side_stood (wf_lst B.list g_is_side_list ?_)) | (guard_target = W1 _ M_is_side _ (.Assign [(.Name "lots" _)] (.List _ _) _) _ _; refine w1_set 7 t_is_side_lots ?_) | ((first | (guard_target = W1 _ _ _ (.Assign [.Name _ _] (.Call _ _ _ _) _) _ _) | (guard_target = W1 _ _ _ (.Assign [.Name _ _] (.BinOp _ _ _ _) _) _ _) | (guard_target = W1 _ _ _ (.Assign [.Name _ _] (.Name _ _) _) _ _) | (guard_target = W1 _ _ _ (.Assign [.Name _ _] (.Subscript _ _ _) _) _ _) | (guard_target = W1 _ _ _ (.Assign [.Name _ _] (.Constant _ _ _) _) _ _) | (guard_target = W1 _ _ _ (.Assign [.Name _ _] (.Compare _ _ _ _) _) _ _) | (guard_target = W1 _ _ _ (.Assign [.Name _ _] (.BoolOp _ _ _) _) _ _) | (guard_target = W1 _ _ _ (.Assign [.Name _ _] (.IfExp _ _ _ _) _) _ _) | (guard_target = W1 _ _ _ (.Assign [.Name _ _] (.Tuple _ _ _) _) _ _) | (guard_target = W1 _ _ _ (.Assign [.Name _ _] (.UnaryOp _ _ _) _) _ _)); first | (guard_target = W1 _ M_is_side _ (.Assign [(.Name "stood" _)] _ _) _ _; refine w1_set 6 t_is_side_stood ?_) | (guard_target = W1 _ M_is_side _ (.Assign [(.Name "lots" _)] _ _) _ _; refine w1_set 7 t_is_side_lots ?_)) | (guard_target = W1 _ _ _ (.Assign [.Tuple _ _ _] _ _) _ _; refine w1_asg ?_))
  | (guard_target = WJ _ _ _ _ _ _ _; first | (guard_target = WJ _ M_is_side _ _ (.Name "stood" _) _ _; first | refine wj_mu 6 r_is_side_stood rfl ?_ | refine wj_of ?_) | refine wj_of ?_)
  | (guard_target = WI _ _ _ _ _ _ _; first | refine wi_seq ?_)
  | (guard_target = WG _ _ _ _ _ _ _; first | (guard_target = WG _ M_is_side _ (.Name "cells" _) _ _ _; refine wg_name 2 t_is_side_cells ?_) | (guard_target = WG _ M_is_side _ (.Name "groups" _) _ _ _; refine wg_name 3 t_is_side_groups ?_) | (guard_target = WG _ M_is_side _ (.Name "free" _) _ _ _; refine wg_name 4 t_is_side_free ?_) | (guard_target = WG _ M_is_side _ (.Name "group" _) _ _ _; refine wg_name 5 t_is_side_group ?_) | refine wg_tup rfl ?_)
  | (guard_target = WH _ _ _ _ _ _ _; first | refine wh_cons ?_ | refine wh_nil ?_)
  | (guard_target = WV _ _ _ _ _ _ _ _; first | (guard_target = WV _ (blkNm M_is_side _ kd_is_side_0 gl_is_side_0) _ _ (.Name "part" _) _ _ _; refine wv_name 8 (t_is_side_0_part _) (by decide) ?_) | (guard_target = WV _ (blkNm M_is_side _ kd_is_side_1 gl_is_side_1) _ _ (.Name "cell" _) _ _ _; refine wv_name 9 (t_is_side_1_cell _) (by decide) ?_) | (guard_target = WV _ (blkNm M_is_side _ kd_is_side_2 gl_is_side_2) _ _ (.Name "group" _) _ _ _; refine wv_name 5 (t_is_side_2_group _) (by decide) ?_) | (guard_target = WV _ (blkNm M_is_side _ kd_is_side_3 gl_is_side_3) _ _ (.Name "cell" _) _ _ _; refine wv_name 9 (t_is_side_3_cell _) (by decide) ?_) | (guard_target = WV _ (blkNm M_is_side _ kd_is_side_4 gl_is_side_4) _ _ (.Name "cell" _) _ _ _; refine wv_name 9 (t_is_side_4_cell _) (by decide) ?_) | (guard_target = WV _ (blkNm M_is_side _ kd_is_side_5 gl_is_side_5) _ _ (.Name "lot" _) _ _ _; refine wv_name 10 (t_is_side_5_lot _) (by decide) ?_) | (guard_target = WV _ (blkNm (blkNm M_is_side _ kd_is_side_5 gl_is_side_5) _ kd_is_side_6 gl_is_side_6) _ _ (.Name "cell" _) _ _ _; refine wv_name 9 (t_is_side_6_cell _ _) (by decide) ?_) | (guard_target = WV _ (blkNm (blkNm M_is_side _ kd_is_side_5 gl_is_side_5) _ kd_is_side_7 gl_is_side_7) _ _ (.Name "cell" _) _ _ _; refine wv_name 9 (t_is_side_7_cell _ _) (by decide) ?_) | (guard_target = WV _ (blkNm M_is_side _ kd_is_side_8 gl_is_side_8) _ _ (.Name "group" _) _ _ _; refine wv_name 5 (t_is_side_8_group _) (by decide) ?_) | (guard_target = WV _ (blkNm M_is_side _ kd_is_side_9 gl_is_side_9) _ _ (.Name "group" _) _ _ _; refine wv_name 5 (t_is_side_9_group _) (by decide) ?_) | refine wv_tup rfl ?_)
  | (guard_target = WVs _ _ _ _ _ _ _ _; first | refine wvs_cons ?_ | refine wvs_nil ?_)
  | walk_at "dw_d"
  | fail)
set_option hygiene false in
local macro_rules | `(tactic| walk_at "st_is_numbers") => `(tactic| first
  | (guard_target = WB _ _ _ _ _ _; first | (guard_target = WB _ _ _ (.Name _ _) _ _; first | refine wb_of ?_) | refine wb_of ?_)
  | (guard_target = WE _ _ _ _ _ _; first
     | (guard_target = WE _ _ _ (.Name _ _) _ _; first | (guard_target = WE _ M_is_numbers _ (.Name "thing" _) _ _; refine we_var 0 r_is_numbers_thing rfl ?_) | (guard_target = WE _ M_is_numbers _ (.Name "many" _) _ _; refine we_var 1 r_is_numbers_many rfl ?_) | (guard_target = WE _ (blkNm M_is_numbers _ kd_is_numbers_0 gl_is_numbers_0) _ (.Name "number" _) _ _; refine we_var 2 (r_is_numbers_0_number _) rfl ?_))
     | (guard_target = WE _ _ _ (.Constant _ _ _) _ _; first | refine we_int ?_ | refine we_str ?_ | refine we_bool ?_ | refine we_none ?_)
     | (guard_target = WE _ _ _ (.Subscript _ _ _) _ _; first | (guard_target = WE _ _ _ (.Subscript _ (.Slice none none (some _) _) _) _ _; refine we_revT ?_) | refine we_ix ?_ | refine we_slice ?_)
     | (guard_target = WE _ _ _ (.Call (.Name _ _) _ _ _) _ _; first | (guard_target = WE _ M_is_numbers _ (.Call (.Name "isinstance" _) [_, .Name "tuple" _] _ _) _ _; refine we_isi (T := "tuple") B.isinstance g_is_numbers_isinstance B.tuple g_is_numbers_tuple ?_) | (guard_target = WE _ M_is_numbers _ (.Call (.Name "tuple" _) _ _ _) _ _; refine we_tup B.tuple g_is_numbers_tuple ?_) | (guard_target = WE _ M_is_numbers _ (.Call (.Name "len" _) _ _ _) _ _; refine we_len B.len g_is_numbers_len ?_) | (guard_target = WE _ M_is_numbers _ (.Call (.Name "all" _) _ _ _) _ _; refine we_all B.all g_is_numbers_all ?_) | (guard_target = WE _ (blkNm M_is_numbers _ kd_is_numbers_0 gl_is_numbers_0) _ (.Call (.Name "is_integer" _) _ _ _) _ _; first | refine we_call f_is_integer (g_is_numbers_0_is_integer _) (by omega) ?_ | refine we_call0 f_is_integer (g_is_numbers_0_is_integer _) (by omega) ?_))
     | (guard_target = WE _ _ _ (.BinOp (.List _ _) .Mult _ _) _ _; refine we_fresh (wf_rep (wf_list ?_)))
     | (guard_target = WE _ _ _ (.BinOp _ _ _ _) _ _; first | refine we_add ?_ | refine we_sub ?_ | refine we_mul ?_ | refine we_mod ?_ | refine we_fdiv ?_ | refine we_pow ?_)
     | (guard_target = WE _ _ _ (.Compare _ _ _ _) _ _; first | refine we_eq ?_ | refine we_ne ?_ | refine we_lt ?_ | refine we_le ?_ | refine we_gt ?_ | refine we_ge ?_ | refine we_in ?_ | refine we_notin ?_)
     | walk_at "dw_we")
  | (guard_target = WT _ _ _ _ _ _; walk_at "dw_wt")
  | (guard_target = WL _ _ _ _ _ _; first | refine wl_cons ?_ | refine wl_nil ?_)
  | (guard_target = WW _ _ _ _ _ _; first | refine ww_and ?_ | refine ww_or ?_ | refine ww_and1 ?_ | refine ww_or1 ?_)
  | (guard_target = WO _ _ _ _ _ _; first | refine wo_none ?_ | refine wo_some ?_)
  | (guard_target = WF _ _ _ _ _ _; first | refine wf_list ?_ | refine wf_lc ?_ | refine wf_rep (wf_list ?_))
  | (guard_target = WS _ _ _ _ _ _; first | refine ws_cons ?_ | refine ws_nil ?_)
  | (guard_target = W1 _ _ _ _ _ _; first | walk_at "dw_1" | (guard_target = W1 _ _ _ (.Assign [.Tuple _ _ _] _ _) _ _; refine w1_asg ?_))
  | (guard_target = WJ _ _ _ _ _ _ _; first | refine wj_of ?_)
  | (guard_target = WI _ _ _ _ _ _ _; first | refine wi_seq ?_)
  | (guard_target = WG _ _ _ _ _ _ _; first | refine wg_tup rfl ?_)
  | (guard_target = WH _ _ _ _ _ _ _; first | refine wh_cons ?_ | refine wh_nil ?_)
  | (guard_target = WV _ _ _ _ _ _ _ _; first | (guard_target = WV _ (blkNm M_is_numbers _ kd_is_numbers_0 gl_is_numbers_0) _ _ (.Name "number" _) _ _ _; refine wv_name 2 (t_is_numbers_0_number _) (by decide) ?_) | refine wv_tup rfl ?_)
  | (guard_target = WVs _ _ _ _ _ _ _ _; first | refine wvs_cons ?_ | refine wvs_nil ?_)
  | walk_at "dw_d"
  | fail)
set_option hygiene false in
local macro_rules | `(tactic| walk_at "st_is_scheme_rule") => `(tactic| first
  | (guard_target = WB _ _ _ _ _ _; first | (guard_target = WB _ _ _ (.Name _ _) _ _; first | refine wb_of ?_) | refine wb_of ?_)
  | (guard_target = WE _ _ _ _ _ _; first
     | (guard_target = WE _ _ _ (.Name _ _) _ _; first | (guard_target = WE _ M_is_scheme_rule _ (.Name "head" _) _ _; refine we_var 0 r_is_scheme_rule_head rfl ?_) | (guard_target = WE _ M_is_scheme_rule _ (.Name "row" _) _ _; refine we_var 1 r_is_scheme_rule_row rfl ?_) | (guard_target = WE _ M_is_scheme_rule _ (.Name "thing" _) _ _; refine we_var 2 r_is_scheme_rule_thing rfl ?_))
     | (guard_target = WE _ _ _ (.Constant _ _ _) _ _; first | refine we_int ?_ | refine we_str ?_ | refine we_bool ?_ | refine we_none ?_)
     | (guard_target = WE _ _ _ (.Subscript _ _ _) _ _; first | (guard_target = WE _ _ _ (.Subscript _ (.Slice none none (some _) _) _) _ _; refine we_revT ?_) | refine we_ix ?_ | refine we_slice ?_)
     | (guard_target = WE _ _ _ (.Call (.Name _ _) _ _ _) _ _; first | (guard_target = WE _ M_is_scheme_rule _ (.Call (.Name "isinstance" _) [_, .Name "tuple" _] _ _) _ _; refine we_isi (T := "tuple") B.isinstance g_is_scheme_rule_isinstance B.tuple g_is_scheme_rule_tuple ?_) | (guard_target = WE _ M_is_scheme_rule _ (.Call (.Name "isinstance" _) [_, .Name "str" _] _ _) _ _; refine we_isi (T := "str") B.isinstance g_is_scheme_rule_isinstance B.str g_is_scheme_rule_str ?_) | (guard_target = WE _ M_is_scheme_rule _ (.Call (.Name "tuple" _) _ _ _) _ _; refine we_tup B.tuple g_is_scheme_rule_tuple ?_) | (guard_target = WE _ M_is_scheme_rule _ (.Call (.Name "len" _) _ _ _) _ _; refine we_len B.len g_is_scheme_rule_len ?_) | (guard_target = WE _ M_is_scheme_rule _ (.Call (.Name "str" _) _ _ _) _ _; refine we_strI B.str g_is_scheme_rule_str ?_) | (guard_target = WE _ M_is_scheme_rule _ (.Call (.Name "is_numbers" _) _ _ _) _ _; first | refine we_call f_is_numbers g_is_scheme_rule_is_numbers (by omega) ?_ | refine we_call0 f_is_numbers g_is_scheme_rule_is_numbers (by omega) ?_) | (guard_target = WE _ M_is_scheme_rule _ (.Call (.Name "is_integer" _) _ _ _) _ _; first | refine we_call f_is_integer g_is_scheme_rule_is_integer (by omega) ?_ | refine we_call0 f_is_integer g_is_scheme_rule_is_integer (by omega) ?_))
     | (guard_target = WE _ _ _ (.BinOp (.List _ _) .Mult _ _) _ _; refine we_fresh (wf_rep (wf_list ?_)))
     | (guard_target = WE _ _ _ (.BinOp _ _ _ _) _ _; first | refine we_add ?_ | refine we_sub ?_ | refine we_mul ?_ | refine we_mod ?_ | refine we_fdiv ?_ | refine we_pow ?_)
     | (guard_target = WE _ _ _ (.Compare _ _ _ _) _ _; first | refine we_eq ?_ | refine we_ne ?_ | refine we_lt ?_ | refine we_le ?_ | refine we_gt ?_ | refine we_ge ?_ | refine we_in ?_ | refine we_notin ?_)
     | walk_at "dw_we")
  | (guard_target = WT _ _ _ _ _ _; walk_at "dw_wt")
  | (guard_target = WL _ _ _ _ _ _; first | refine wl_cons ?_ | refine wl_nil ?_)
  | (guard_target = WW _ _ _ _ _ _; first | refine ww_and ?_ | refine ww_or ?_ | refine ww_and1 ?_ | refine ww_or1 ?_)
  | (guard_target = WO _ _ _ _ _ _; first | refine wo_none ?_ | refine wo_some ?_)
  | (guard_target = WF _ _ _ _ _ _; first | refine wf_list ?_ | refine wf_lc ?_ | refine wf_rep (wf_list ?_))
  | (guard_target = WS _ _ _ _ _ _; first | refine ws_cons ?_ | refine ws_nil ?_)
  | (guard_target = W1 _ _ _ _ _ _; first | walk_at "dw_1" | (guard_target = W1 _ _ _ (.Assign [.Tuple _ _ _] _ _) _ _; refine w1_asg ?_))
  | (guard_target = WJ _ _ _ _ _ _ _; first | refine wj_of ?_)
  | (guard_target = WI _ _ _ _ _ _ _; first | refine wi_seq ?_)
  | (guard_target = WG _ _ _ _ _ _ _; first | refine wg_tup rfl ?_)
  | (guard_target = WH _ _ _ _ _ _ _; first | refine wh_cons ?_ | refine wh_nil ?_)
  | (guard_target = WV _ _ _ _ _ _ _ _; first | refine wv_tup rfl ?_)
  | (guard_target = WVs _ _ _ _ _ _ _ _; first | refine wvs_cons ?_ | refine wvs_nil ?_)
  | walk_at "dw_d"
  | fail)
set_option hygiene false in
local macro_rules | `(tactic| walk_at "st_is_scheme") => `(tactic| first
  | (guard_target = WB _ _ _ _ _ _; first | (guard_target = WB _ _ _ (.Name _ _) _ _; first | refine wb_of ?_) | refine wb_of ?_)
  | (guard_target = WE _ _ _ _ _ _; first
     | (guard_target = WE _ _ _ (.Name _ _) _ _; first | (guard_target = WE _ M_is_scheme _ (.Name "thing" _) _ _; refine we_var 0 r_is_scheme_thing rfl ?_) | (guard_target = WE _ M_is_scheme _ (.Name "way" _) _ _; refine we_var 1 r_is_scheme_way rfl ?_) | (guard_target = WE _ M_is_scheme _ (.Name "head" _) _ _; refine we_var 2 r_is_scheme_head rfl ?_) | (guard_target = WE _ M_is_scheme _ (.Name "row" _) _ _; refine we_var 3 r_is_scheme_row rfl ?_) | (guard_target = WE _ M_is_scheme _ (.Name "rules" _) _ _; refine we_var 4 r_is_scheme_rules rfl ?_) | (guard_target = WE _ (blkNm M_is_scheme _ kd_is_scheme_0 gl_is_scheme_0) _ (.Name "head" _) _ _; refine we_var 2 (r_is_scheme_0_head _) rfl ?_) | (guard_target = WE _ (blkNm M_is_scheme _ kd_is_scheme_0 gl_is_scheme_0) _ (.Name "row" _) _ _; refine we_var 3 (r_is_scheme_0_row _) rfl ?_) | (guard_target = WE _ (blkNm M_is_scheme _ kd_is_scheme_0 gl_is_scheme_0) _ (.Name "rule" _) _ _; refine we_var 5 (r_is_scheme_0_rule _) rfl ?_))
     | (guard_target = WE _ _ _ (.Constant _ _ _) _ _; first | refine we_int ?_ | refine we_str ?_ | refine we_bool ?_ | refine we_none ?_)
     | (guard_target = WE _ _ _ (.Subscript _ _ _) _ _; first | (guard_target = WE _ _ _ (.Subscript _ (.Slice none none (some _) _) _) _ _; refine we_revT ?_) | refine we_ix ?_ | refine we_slice ?_)
     | (guard_target = WE _ _ _ (.Call (.Name _ _) _ _ _) _ _; first | (guard_target = WE _ M_is_scheme _ (.Call (.Name "isinstance" _) [_, .Name "tuple" _] _ _) _ _; refine we_isi (T := "tuple") B.isinstance g_is_scheme_isinstance B.tuple g_is_scheme_tuple ?_) | (guard_target = WE _ M_is_scheme _ (.Call (.Name "isinstance" _) [_, .Name "str" _] _ _) _ _; refine we_isi (T := "str") B.isinstance g_is_scheme_isinstance B.str g_is_scheme_str ?_) | (guard_target = WE _ M_is_scheme _ (.Call (.Name "tuple" _) _ _ _) _ _; refine we_tup B.tuple g_is_scheme_tuple ?_) | (guard_target = WE _ M_is_scheme _ (.Call (.Name "len" _) _ _ _) _ _; refine we_len B.len g_is_scheme_len ?_) | (guard_target = WE _ M_is_scheme _ (.Call (.Name "str" _) _ _ _) _ _; refine we_strI B.str g_is_scheme_str ?_) | (guard_target = WE _ M_is_scheme _ (.Call (.Name "is_side" _) _ _ _) _ _; first | refine we_call f_is_side g_is_scheme_is_side (by omega) ?_ | refine we_call0 f_is_side g_is_scheme_is_side (by omega) ?_) | (guard_target = WE _ M_is_scheme _ (.Call (.Name "all" _) _ _ _) _ _; refine we_all B.all g_is_scheme_all ?_) | (guard_target = WE _ (blkNm M_is_scheme _ kd_is_scheme_0 gl_is_scheme_0) _ (.Call (.Name "is_scheme_rule" _) _ _ _) _ _; first | refine we_call f_is_scheme_rule (g_is_scheme_0_is_scheme_rule _) (by omega) ?_ | refine we_call0 f_is_scheme_rule (g_is_scheme_0_is_scheme_rule _) (by omega) ?_))
     | (guard_target = WE _ _ _ (.BinOp (.List _ _) .Mult _ _) _ _; refine we_fresh (wf_rep (wf_list ?_)))
     | (guard_target = WE _ _ _ (.BinOp _ _ _ _) _ _; first | refine we_add ?_ | refine we_sub ?_ | refine we_mul ?_ | refine we_mod ?_ | refine we_fdiv ?_ | refine we_pow ?_)
     | (guard_target = WE _ _ _ (.Compare _ _ _ _) _ _; first | refine we_eq ?_ | refine we_ne ?_ | refine we_lt ?_ | refine we_le ?_ | refine we_gt ?_ | refine we_ge ?_ | refine we_in ?_ | refine we_notin ?_)
     | walk_at "dw_we")
  | (guard_target = WT _ _ _ _ _ _; walk_at "dw_wt")
  | (guard_target = WL _ _ _ _ _ _; first | refine wl_cons ?_ | refine wl_nil ?_)
  | (guard_target = WW _ _ _ _ _ _; first | refine ww_and ?_ | refine ww_or ?_ | refine ww_and1 ?_ | refine ww_or1 ?_)
  | (guard_target = WO _ _ _ _ _ _; first | refine wo_none ?_ | refine wo_some ?_)
  | (guard_target = WF _ _ _ _ _ _; first | refine wf_list ?_ | refine wf_lc ?_ | refine wf_rep (wf_list ?_))
  | (guard_target = WS _ _ _ _ _ _; first | refine ws_cons ?_ | refine ws_nil ?_)
  | (guard_target = W1 _ _ _ _ _ _; first | walk_at "dw_1" | (guard_target = W1 _ _ _ (.Assign [.Tuple _ _ _] _ _) _ _; refine w1_asg ?_))
  | (guard_target = WJ _ _ _ _ _ _ _; first | refine wj_of ?_)
  | (guard_target = WI _ _ _ _ _ _ _; first | refine wi_seq ?_)
  | (guard_target = WG _ _ _ _ _ _ _; first | (guard_target = WG _ M_is_scheme _ (.Name "way" _) _ _ _; refine wg_name 1 t_is_scheme_way ?_) | (guard_target = WG _ M_is_scheme _ (.Name "head" _) _ _ _; refine wg_name 2 t_is_scheme_head ?_) | (guard_target = WG _ M_is_scheme _ (.Name "row" _) _ _ _; refine wg_name 3 t_is_scheme_row ?_) | (guard_target = WG _ M_is_scheme _ (.Name "rules" _) _ _ _; refine wg_name 4 t_is_scheme_rules ?_) | refine wg_tup rfl ?_)
  | (guard_target = WH _ _ _ _ _ _ _; first | refine wh_cons ?_ | refine wh_nil ?_)
  | (guard_target = WV _ _ _ _ _ _ _ _; first | (guard_target = WV _ (blkNm M_is_scheme _ kd_is_scheme_0 gl_is_scheme_0) _ _ (.Name "rule" _) _ _ _; refine wv_name 5 (t_is_scheme_0_rule _) (by decide) ?_) | refine wv_tup rfl ?_)
  | (guard_target = WVs _ _ _ _ _ _ _ _; first | refine wvs_cons ?_ | refine wvs_nil ?_)
  | walk_at "dw_d"
  | fail)
set_option hygiene false in
local macro_rules | `(tactic| walk_at "st_is_row") => `(tactic| first
  | (guard_target = WB _ _ _ _ _ _; first | (guard_target = WB _ _ _ (.Name _ _) _ _; first | refine wb_of ?_) | refine wb_of ?_)
  | (guard_target = WE _ _ _ _ _ _; first
     | (guard_target = WE _ _ _ (.Name _ _) _ _; first | (guard_target = WE _ M_is_row _ (.Name "thing" _) _ _; refine we_var 0 r_is_row_thing rfl ?_) | (guard_target = WE _ M_is_row _ (.Name "many" _) _ _; refine we_var 1 r_is_row_many rfl ?_) | (guard_target = WE _ (blkNm M_is_row _ kd_is_row_0 gl_is_row_0) _ (.Name "one" _) _ _; refine we_var 2 (r_is_row_0_one _) rfl ?_))
     | (guard_target = WE _ _ _ (.Constant _ _ _) _ _; first | refine we_int ?_ | refine we_str ?_ | refine we_bool ?_ | refine we_none ?_)
     | (guard_target = WE _ _ _ (.Subscript _ _ _) _ _; first | (guard_target = WE _ _ _ (.Subscript _ (.Slice none none (some _) _) _) _ _; refine we_revT ?_) | refine we_ix ?_ | refine we_slice ?_)
     | (guard_target = WE _ _ _ (.Call (.Name _ _) _ _ _) _ _; first | (guard_target = WE _ M_is_row _ (.Call (.Name "isinstance" _) [_, .Name "tuple" _] _ _) _ _; refine we_isi (T := "tuple") B.isinstance g_is_row_isinstance B.tuple g_is_row_tuple ?_) | (guard_target = WE _ M_is_row _ (.Call (.Name "tuple" _) _ _ _) _ _; refine we_tup B.tuple g_is_row_tuple ?_) | (guard_target = WE _ M_is_row _ (.Call (.Name "len" _) _ _ _) _ _; refine we_len B.len g_is_row_len ?_) | (guard_target = WE _ M_is_row _ (.Call (.Name "all" _) _ _ _) _ _; refine we_all B.all g_is_row_all ?_) | (guard_target = WE _ (blkNm M_is_row _ kd_is_row_0 gl_is_row_0) _ (.Call (.Name "is_fraction" _) _ _ _) _ _; first | refine we_call f_is_fraction (g_is_row_0_is_fraction _) (by omega) ?_ | refine we_call0 f_is_fraction (g_is_row_0_is_fraction _) (by omega) ?_))
     | (guard_target = WE _ _ _ (.BinOp (.List _ _) .Mult _ _) _ _; refine we_fresh (wf_rep (wf_list ?_)))
     | (guard_target = WE _ _ _ (.BinOp _ _ _ _) _ _; first | refine we_add ?_ | refine we_sub ?_ | refine we_mul ?_ | refine we_mod ?_ | refine we_fdiv ?_ | refine we_pow ?_)
     | (guard_target = WE _ _ _ (.Compare _ _ _ _) _ _; first | refine we_eq ?_ | refine we_ne ?_ | refine we_lt ?_ | refine we_le ?_ | refine we_gt ?_ | refine we_ge ?_ | refine we_in ?_ | refine we_notin ?_)
     | walk_at "dw_we")
  | (guard_target = WT _ _ _ _ _ _; walk_at "dw_wt")
  | (guard_target = WL _ _ _ _ _ _; first | refine wl_cons ?_ | refine wl_nil ?_)
  | (guard_target = WW _ _ _ _ _ _; first | refine ww_and ?_ | refine ww_or ?_ | refine ww_and1 ?_ | refine ww_or1 ?_)
  | (guard_target = WO _ _ _ _ _ _; first | refine wo_none ?_ | refine wo_some ?_)
  | (guard_target = WF _ _ _ _ _ _; first | refine wf_list ?_ | refine wf_lc ?_ | refine wf_rep (wf_list ?_))
  | (guard_target = WS _ _ _ _ _ _; first | refine ws_cons ?_ | refine ws_nil ?_)
  | (guard_target = W1 _ _ _ _ _ _; first | walk_at "dw_1" | (guard_target = W1 _ _ _ (.Assign [.Tuple _ _ _] _ _) _ _; refine w1_asg ?_))
  | (guard_target = WJ _ _ _ _ _ _ _; first | refine wj_of ?_)
  | (guard_target = WI _ _ _ _ _ _ _; first | refine wi_seq ?_)
  | (guard_target = WG _ _ _ _ _ _ _; first | refine wg_tup rfl ?_)
  | (guard_target = WH _ _ _ _ _ _ _; first | refine wh_cons ?_ | refine wh_nil ?_)
  | (guard_target = WV _ _ _ _ _ _ _ _; first | (guard_target = WV _ (blkNm M_is_row _ kd_is_row_0 gl_is_row_0) _ _ (.Name "one" _) _ _ _; refine wv_name 2 (t_is_row_0_one _) (by decide) ?_) | refine wv_tup rfl ?_)
  | (guard_target = WVs _ _ _ _ _ _ _ _; first | refine wvs_cons ?_ | refine wvs_nil ?_)
  | walk_at "dw_d"
  | fail)
set_option hygiene false in
local macro_rules | `(tactic| walk_at "st_is_table") => `(tactic| first
  | (guard_target = WB _ _ _ _ _ _; first | (guard_target = WB _ _ _ (.Name _ _) _ _; first | refine wb_of ?_) | refine wb_of ?_)
  | (guard_target = WE _ _ _ _ _ _; first
     | (guard_target = WE _ _ _ (.Name _ _) _ _; first | (guard_target = WE _ M_is_table _ (.Name "scheme" _) _ _; refine we_var 0 r_is_table_scheme rfl ?_) | (guard_target = WE _ M_is_table _ (.Name "thing" _) _ _; refine we_var 1 r_is_table_thing rfl ?_) | (guard_target = WE _ (blkNm M_is_table _ kd_is_table_0 gl_is_table_0) _ (.Name "scheme" _) _ _; refine we_var 0 (r_is_table_0_scheme _) rfl ?_) | (guard_target = WE _ (blkNm M_is_table _ kd_is_table_0 gl_is_table_0) _ (.Name "row" _) _ _; refine we_var 2 (r_is_table_0_row _) rfl ?_))
     | (guard_target = WE _ _ _ (.Constant _ _ _) _ _; first | refine we_int ?_ | refine we_str ?_ | refine we_bool ?_ | refine we_none ?_)
     | (guard_target = WE _ _ _ (.Subscript _ _ _) _ _; first | (guard_target = WE _ _ _ (.Subscript _ (.Slice none none (some _) _) _) _ _; refine we_revT ?_) | refine we_ix ?_ | refine we_slice ?_)
     | (guard_target = WE _ _ _ (.Call (.Name _ _) _ _ _) _ _; first | (guard_target = WE _ M_is_table _ (.Call (.Name "isinstance" _) [_, .Name "tuple" _] _ _) _ _; refine we_isi (T := "tuple") B.isinstance g_is_table_isinstance B.tuple g_is_table_tuple ?_) | (guard_target = WE _ M_is_table _ (.Call (.Name "tuple" _) _ _ _) _ _; refine we_tup B.tuple g_is_table_tuple ?_) | (guard_target = WE _ M_is_table _ (.Call (.Name "len" _) _ _ _) _ _; refine we_len B.len g_is_table_len ?_) | (guard_target = WE _ M_is_table _ (.Call (.Name "is_row" _) _ _ _) _ _; first | refine we_call f_is_row g_is_table_is_row (by omega) ?_ | refine we_call0 f_is_row g_is_table_is_row (by omega) ?_) | (guard_target = WE _ M_is_table _ (.Call (.Name "all" _) _ _ _) _ _; refine we_all B.all g_is_table_all ?_) | (guard_target = WE _ (blkNm M_is_table _ kd_is_table_0 gl_is_table_0) _ (.Call (.Name "is_row" _) _ _ _) _ _; first | refine we_call f_is_row (g_is_table_0_is_row _) (by omega) ?_ | refine we_call0 f_is_row (g_is_table_0_is_row _) (by omega) ?_) | (guard_target = WE _ (blkNm M_is_table _ kd_is_table_0 gl_is_table_0) _ (.Call (.Name "len" _) _ _ _) _ _; refine we_len B.len (g_is_table_0_len _) ?_))
     | (guard_target = WE _ _ _ (.BinOp (.List _ _) .Mult _ _) _ _; refine we_fresh (wf_rep (wf_list ?_)))
     | (guard_target = WE _ _ _ (.BinOp _ _ _ _) _ _; first | refine we_add ?_ | refine we_sub ?_ | refine we_mul ?_ | refine we_mod ?_ | refine we_fdiv ?_ | refine we_pow ?_)
     | (guard_target = WE _ _ _ (.Compare _ _ _ _) _ _; first | refine we_eq ?_ | refine we_ne ?_ | refine we_lt ?_ | refine we_le ?_ | refine we_gt ?_ | refine we_ge ?_ | refine we_in ?_ | refine we_notin ?_)
     | walk_at "dw_we")
  | (guard_target = WT _ _ _ _ _ _; walk_at "dw_wt")
  | (guard_target = WL _ _ _ _ _ _; first | refine wl_cons ?_ | refine wl_nil ?_)
  | (guard_target = WW _ _ _ _ _ _; first | refine ww_and ?_ | refine ww_or ?_ | refine ww_and1 ?_ | refine ww_or1 ?_)
  | (guard_target = WO _ _ _ _ _ _; first | refine wo_none ?_ | refine wo_some ?_)
  | (guard_target = WF _ _ _ _ _ _; first | refine wf_list ?_ | refine wf_lc ?_ | refine wf_rep (wf_list ?_))
  | (guard_target = WS _ _ _ _ _ _; first | refine ws_cons ?_ | refine ws_nil ?_)
  | (guard_target = W1 _ _ _ _ _ _; first | walk_at "dw_1" | (guard_target = W1 _ _ _ (.Assign [.Tuple _ _ _] _ _) _ _; refine w1_asg ?_))
  | (guard_target = WJ _ _ _ _ _ _ _; first | refine wj_of ?_)
  | (guard_target = WI _ _ _ _ _ _ _; first | refine wi_seq ?_)
  | (guard_target = WG _ _ _ _ _ _ _; first | refine wg_tup rfl ?_)
  | (guard_target = WH _ _ _ _ _ _ _; first | refine wh_cons ?_ | refine wh_nil ?_)
  | (guard_target = WV _ _ _ _ _ _ _ _; first | (guard_target = WV _ (blkNm M_is_table _ kd_is_table_0 gl_is_table_0) _ _ (.Name "row" _) _ _ _; refine wv_name 2 (t_is_table_0_row _) (by decide) ?_) | refine wv_tup rfl ?_)
  | (guard_target = WVs _ _ _ _ _ _ _ _; first | refine wvs_cons ?_ | refine wvs_nil ?_)
  | walk_at "dw_d"
  | fail)
set_option hygiene false in
local macro_rules | `(tactic| walk_at "st_law_bag") => `(tactic| first
  | (guard_target = WB _ _ _ _ _ _; first | (guard_target = WB _ _ _ (.Name _ _) _ _; first | refine wb_of ?_) | refine wb_of ?_)
  | (guard_target = WE _ _ _ _ _ _; first
     | (guard_target = WE _ _ _ (.Name _ _) _ _; first | (guard_target = WE _ M_law_bag _ (.Name "script" _) _ _; refine we_var 0 r_law_bag_script rfl ?_) | (guard_target = WE _ (blkNm M_law_bag _ kd_law_bag_0 gl_law_bag_0) _ (.Name "cell" _) _ _; refine we_var 1 (r_law_bag_0_cell _) rfl ?_))
     | (guard_target = WE _ _ _ (.Constant _ _ _) _ _; first | refine we_int ?_ | refine we_str ?_ | refine we_bool ?_ | refine we_none ?_)
     | (guard_target = WE _ _ _ (.Subscript _ _ _) _ _; first | (guard_target = WE _ _ _ (.Subscript _ (.Slice none none (some _) _) _) _ _; refine we_revT ?_) | refine we_ix ?_ | refine we_slice ?_)
     | (guard_target = WE _ _ _ (.Call (.Name _ _) _ _ _) _ _; first | (guard_target = WE _ (blkNm M_law_bag _ kd_law_bag_0 gl_law_bag_0) _ (.Call (.Name "abs" _) _ _ _) _ _; refine we_abs B.abs (g_law_bag_0_abs _) ?_))
     | (guard_target = WE _ _ _ (.BinOp (.List _ _) .Mult _ _) _ _; refine we_fresh (wf_rep (wf_list ?_)))
     | (guard_target = WE _ _ _ (.BinOp _ _ _ _) _ _; first | refine we_add ?_ | refine we_sub ?_ | refine we_mul ?_ | refine we_mod ?_ | refine we_fdiv ?_ | refine we_pow ?_)
     | (guard_target = WE _ _ _ (.Compare _ _ _ _) _ _; first | refine we_eq ?_ | refine we_ne ?_ | refine we_lt ?_ | refine we_le ?_ | refine we_gt ?_ | refine we_ge ?_ | refine we_in ?_ | refine we_notin ?_)
     | walk_at "dw_we")
  | (guard_target = WT _ _ _ _ _ _; walk_at "dw_wt")
  | (guard_target = WL _ _ _ _ _ _; first | refine wl_cons ?_ | refine wl_nil ?_)
  | (guard_target = WW _ _ _ _ _ _; first | refine ww_and ?_ | refine ww_or ?_ | refine ww_and1 ?_ | refine ww_or1 ?_)
  | (guard_target = WO _ _ _ _ _ _; first | refine wo_none ?_ | refine wo_some ?_)
  | (guard_target = WF _ _ _ _ _ _; first | refine wf_list ?_ | refine wf_lc ?_ | refine wf_rep (wf_list ?_))
  | (guard_target = WS _ _ _ _ _ _; first | refine ws_cons ?_ | refine ws_nil ?_)
  | (guard_target = W1 _ _ _ _ _ _; first | walk_at "dw_1" | (guard_target = W1 _ _ _ (.Assign [.Tuple _ _ _] _ _) _ _; refine w1_asg ?_))
  | (guard_target = WJ _ _ _ _ _ _ _; first | refine wj_of ?_)
  | (guard_target = WI _ _ _ _ _ _ _; first | refine wi_seq ?_)
  | (guard_target = WG _ _ _ _ _ _ _; first | refine wg_tup rfl ?_)
  | (guard_target = WH _ _ _ _ _ _ _; first | refine wh_cons ?_ | refine wh_nil ?_)
  | (guard_target = WV _ _ _ _ _ _ _ _; first | (guard_target = WV _ (blkNm M_law_bag _ kd_law_bag_0 gl_law_bag_0) _ _ (.Name "cell" _) _ _ _; refine wv_name 1 (t_law_bag_0_cell _) (by decide) ?_) | refine wv_tup rfl ?_)
  | (guard_target = WVs _ _ _ _ _ _ _ _; first | refine wvs_cons ?_ | refine wvs_nil ?_)
  | walk_at "dw_d"
  | fail)
set_option hygiene false in
local macro_rules | `(tactic| walk_at "st_law_take") => `(tactic| first
  | (guard_target = WB _ _ _ _ _ _; first | (guard_target = WB _ _ _ (.Name _ _) _ _; first | refine wb_of ?_) | refine wb_of ?_)
  | (guard_target = WE _ _ _ _ _ _; first
     | (guard_target = WE _ _ _ (.Name _ _) _ _; first | (guard_target = WE _ M_law_take _ (.Name "bag" _) _ _; refine we_var 0 r_law_take_bag rfl ?_) | (guard_target = WE _ M_law_take _ (.Name "many" _) _ _; refine we_var 1 r_law_take_many rfl ?_) | (guard_target = WE _ M_law_take _ (.Name "cell" _) _ _; refine we_var 2 r_law_take_cell rfl ?_) | (guard_target = WE _ M_law_take _ (.Name "stirred" _) _ _; refine we_var 3 r_law_take_stirred rfl ?_) | (guard_target = WE _ M_law_take _ (.Name "drawn" _) _ _; refine we_var 4 r_law_take_drawn rfl ?_) | (guard_target = WE _ M_law_take _ (.Name "begin" _) _ _; refine we_var 5 r_law_take_begin rfl ?_) | (guard_target = WE _ M_law_take _ (.Name "second" _) _ _; refine we_var 6 r_law_take_second rfl ?_))
     | (guard_target = WE _ _ _ (.Constant _ _ _) _ _; first | refine we_int ?_ | refine we_str ?_ | refine we_bool ?_ | refine we_none ?_)
     | (guard_target = WE _ _ _ (.Subscript _ _ _) _ _; first | (guard_target = WE _ M_law_take _ (.Subscript (.Name "bag" _) (.Constant (.int 0) _ _) _) _ _; refine we_bag0 r_law_take_bag rfl hF fun n hn => ?_) | (guard_target = WE _ M_law_take _ (.Subscript (.Name "bag" _) (.Constant (.int 1) _ _) _) _ _; refine we_bag1 r_law_take_bag rfl hF fun n hn hn2 => ?_) | (guard_target = WE _ M_law_take _ (.Subscript (.Name "bag" _) (.Constant (.int 2) _ _) _) _ _; refine we_bag2 r_law_take_bag rfl hF fun n hn => ?_) | (guard_target = WE _ M_law_take _ (.Subscript (.Name "bag" _) (.Constant (.int 3) _ _) _) _ _; refine we_bag3 r_law_take_bag rfl hF fun ns hln hns => ?_) | (guard_target = WE _ _ _ (.Subscript _ (.Slice none none (some _) _) _) _ _; refine we_revT ?_) | refine we_ix ?_ | refine we_slice ?_)
     | (guard_target = WE _ _ _ (.Call (.Name _ _) _ _ _) _ _; first | (guard_target = WE _ M_law_take _ (.Call (.Name "int" _) _ _ _) _ _; refine we_toint B.int g_law_take_int ?_))
     | (guard_target = WE _ _ _ (.BinOp (.List _ _) .Mult _ _) _ _; refine we_fresh (wf_rep (wf_list ?_)))
     | (guard_target = WE _ _ _ (.BinOp _ _ _ _) _ _; first | refine we_add ?_ | refine we_sub ?_ | refine we_mul ?_ | refine we_mod ?_ | refine we_fdiv ?_ | refine we_pow ?_)
     | (guard_target = WE _ _ _ (.Compare _ _ _ _) _ _; first | refine we_eq ?_ | refine we_ne ?_ | refine we_lt ?_ | refine we_le ?_ | refine we_gt ?_ | refine we_ge ?_ | refine we_in ?_ | refine we_notin ?_)
     | walk_at "dw_we")
  | (guard_target = WT _ _ _ _ _ _; walk_at "dw_wt")
  | (guard_target = WL _ _ _ _ _ _; first | refine wl_cons ?_ | refine wl_nil ?_)
  | (guard_target = WW _ _ _ _ _ _; first | refine ww_and ?_ | refine ww_or ?_ | refine ww_and1 ?_ | refine ww_or1 ?_)
  | (guard_target = WO _ _ _ _ _ _; first | refine wo_none ?_ | refine wo_some ?_)
  | (guard_target = WF _ _ _ _ _ _; first | refine wf_list ?_ | refine wf_lc ?_ | refine wf_rep (wf_list ?_))
  | (guard_target = WS _ _ _ _ _ _; first | refine ws_cons ?_ | refine ws_nil ?_)
  | (guard_target = W1 _ _ _ _ _ _; first | walk_at "dw_1" | (guard_target = W1 _ _ _ (.Assign [(.Subscript (.Name "bag" _) (.Constant (.int 0) _ _) _)] _ _) _ _; refine w1_bag0 r_law_take_bag rfl hF ?_) | (guard_target = W1 _ _ _ (.Assign [(.Subscript (.Name "bag" _) (.Constant (.int 1) _ _) _)] _ _) _ _; refine w1_bag1 r_law_take_bag rfl hF ?_) | (guard_target = W1 _ _ _ (.AugAssign (.Subscript (.Name "bag" _) (.Constant (.int 2) _ _) _) _ _ _) _ _; refine w1_bag2 r_law_take_bag rfl hF ?_) | ((first | (guard_target = W1 _ _ _ (.Assign [.Name _ _] (.Call _ _ _ _) _) _ _) | (guard_target = W1 _ _ _ (.Assign [.Name _ _] (.BinOp _ _ _ _) _) _ _) | (guard_target = W1 _ _ _ (.Assign [.Name _ _] (.Name _ _) _) _ _) | (guard_target = W1 _ _ _ (.Assign [.Name _ _] (.Subscript _ _ _) _) _ _) | (guard_target = W1 _ _ _ (.Assign [.Name _ _] (.Constant _ _ _) _) _ _) | (guard_target = W1 _ _ _ (.Assign [.Name _ _] (.Compare _ _ _ _) _) _ _) | (guard_target = W1 _ _ _ (.Assign [.Name _ _] (.BoolOp _ _ _) _) _ _) | (guard_target = W1 _ _ _ (.Assign [.Name _ _] (.IfExp _ _ _ _) _) _ _) | (guard_target = W1 _ _ _ (.Assign [.Name _ _] (.Tuple _ _ _) _) _ _) | (guard_target = W1 _ _ _ (.Assign [.Name _ _] (.UnaryOp _ _ _) _) _ _)); first | (guard_target = W1 _ M_law_take _ (.Assign [(.Name "cell" _)] _ _) _ _; refine w1_set 2 t_law_take_cell ?_) | (guard_target = W1 _ M_law_take _ (.Assign [(.Name "stirred" _)] _ _) _ _; refine w1_set 3 t_law_take_stirred ?_) | (guard_target = W1 _ M_law_take _ (.Assign [(.Name "drawn" _)] _ _) _ _; refine w1_set 4 t_law_take_drawn ?_) | (guard_target = W1 _ M_law_take _ (.Assign [(.Name "begin" _)] _ _) _ _; refine w1_set 5 t_law_take_begin ?_) | (guard_target = W1 _ M_law_take _ (.Assign [(.Name "second" _)] _ _) _ _; refine w1_set 6 t_law_take_second ?_)) | (guard_target = W1 _ _ _ (.Assign [.Tuple _ _ _] _ _) _ _; refine w1_asg ?_))
  | (guard_target = WJ _ _ _ _ _ _ _; first | refine wj_of ?_)
  | (guard_target = WI _ _ _ _ _ _ _; first | refine wi_seq ?_)
  | (guard_target = WG _ _ _ _ _ _ _; first | refine wg_tup rfl ?_)
  | (guard_target = WH _ _ _ _ _ _ _; first | refine wh_cons ?_ | refine wh_nil ?_)
  | (guard_target = WV _ _ _ _ _ _ _ _; first | refine wv_tup rfl ?_)
  | (guard_target = WVs _ _ _ _ _ _ _ _; first | refine wvs_cons ?_ | refine wvs_nil ?_)
  | walk_at "dw_d"
  | fail)
set_option hygiene false in
local macro_rules | `(tactic| walk_at "st_law_some") => `(tactic| first
  | (guard_target = WB _ _ _ _ _ _; first | (guard_target = WB _ _ _ (.Name _ _) _ _; first | refine wb_of ?_) | refine wb_of ?_)
  | (guard_target = WE _ _ _ _ _ _; first
     | (guard_target = WE _ _ _ (.Name _ _) _ _; first | (guard_target = WE _ M_law_some _ (.Name "bag" _) _ _; refine we_var 0 r_law_some_bag rfl ?_) | (guard_target = WE _ M_law_some _ (.Name "things" _) _ _; refine we_var 1 r_law_some_things rfl ?_))
     | (guard_target = WE _ _ _ (.Constant _ _ _) _ _; first | refine we_int ?_ | refine we_str ?_ | refine we_bool ?_ | refine we_none ?_)
     | (guard_target = WE _ _ _ (.Subscript _ _ _) _ _; first | (guard_target = WE _ M_law_some _ (.Subscript (.Name "bag" _) (.Constant (.int 0) _ _) _) _ _; refine we_bag0 r_law_some_bag rfl hF fun n hn => ?_) | (guard_target = WE _ M_law_some _ (.Subscript (.Name "bag" _) (.Constant (.int 1) _ _) _) _ _; refine we_bag1 r_law_some_bag rfl hF fun n hn hn2 => ?_) | (guard_target = WE _ M_law_some _ (.Subscript (.Name "bag" _) (.Constant (.int 2) _ _) _) _ _; refine we_bag2 r_law_some_bag rfl hF fun n hn => ?_) | (guard_target = WE _ M_law_some _ (.Subscript (.Name "bag" _) (.Constant (.int 3) _ _) _) _ _; refine we_bag3 r_law_some_bag rfl hF fun ns hln hns => ?_) | (guard_target = WE _ _ _ (.Subscript _ (.Slice none none (some _) _) _) _ _; refine we_revT ?_) | refine we_ix ?_ | refine we_slice ?_)
     | (guard_target = WE _ _ _ (.Call (.Name _ _) _ _ _) _ _; first | (guard_target = WE _ M_law_some _ (.Call (.Name "_law_take" _) _ _ _) _ _; refine we_bag f_law_take g_law_some__law_take (by omega) r_law_some_bag rfl hF ?_) | (guard_target = WE _ M_law_some _ (.Call (.Name "len" _) _ _ _) _ _; refine we_len B.len g_law_some_len ?_))
     | (guard_target = WE _ _ _ (.BinOp (.List _ _) .Mult _ _) _ _; refine we_fresh (wf_rep (wf_list ?_)))
     | (guard_target = WE _ _ _ (.BinOp _ _ _ _) _ _; first | refine we_add ?_ | refine we_sub ?_ | refine we_mul ?_ | refine we_mod ?_ | refine we_fdiv ?_ | refine we_pow ?_)
     | (guard_target = WE _ _ _ (.Compare _ _ _ _) _ _; first | refine we_eq ?_ | refine we_ne ?_ | refine we_lt ?_ | refine we_le ?_ | refine we_gt ?_ | refine we_ge ?_ | refine we_in ?_ | refine we_notin ?_)
     | walk_at "dw_we")
  | (guard_target = WT _ _ _ _ _ _; walk_at "dw_wt")
  | (guard_target = WL _ _ _ _ _ _; first | refine wl_cons ?_ | refine wl_nil ?_)
  | (guard_target = WW _ _ _ _ _ _; first | refine ww_and ?_ | refine ww_or ?_ | refine ww_and1 ?_ | refine ww_or1 ?_)
  | (guard_target = WO _ _ _ _ _ _; first | refine wo_none ?_ | refine wo_some ?_)
  | (guard_target = WF _ _ _ _ _ _; first | refine wf_list ?_ | refine wf_lc ?_ | refine wf_rep (wf_list ?_))
  | (guard_target = WS _ _ _ _ _ _; first | refine ws_cons ?_ | refine ws_nil ?_)
  | (guard_target = W1 _ _ _ _ _ _; first | walk_at "dw_1" | (guard_target = W1 _ _ _ (.Assign [(.Subscript (.Name "bag" _) (.Constant (.int 0) _ _) _)] _ _) _ _; refine w1_bag0 r_law_some_bag rfl hF ?_) | (guard_target = W1 _ _ _ (.Assign [(.Subscript (.Name "bag" _) (.Constant (.int 1) _ _) _)] _ _) _ _; refine w1_bag1 r_law_some_bag rfl hF ?_) | (guard_target = W1 _ _ _ (.AugAssign (.Subscript (.Name "bag" _) (.Constant (.int 2) _ _) _) _ _ _) _ _; refine w1_bag2 r_law_some_bag rfl hF ?_) | (guard_target = W1 _ _ _ (.Assign [.Tuple _ _ _] _ _) _ _; refine w1_asg ?_))
  | (guard_target = WJ _ _ _ _ _ _ _; first | refine wj_of ?_)
  | (guard_target = WI _ _ _ _ _ _ _; first | refine wi_seq ?_)
  | (guard_target = WG _ _ _ _ _ _ _; first | refine wg_tup rfl ?_)
  | (guard_target = WH _ _ _ _ _ _ _; first | refine wh_cons ?_ | refine wh_nil ?_)
  | (guard_target = WV _ _ _ _ _ _ _ _; first | refine wv_tup rfl ?_)
  | (guard_target = WVs _ _ _ _ _ _ _ _; first | refine wvs_cons ?_ | refine wvs_nil ?_)
  | walk_at "dw_d"
  | fail)
set_option hygiene false in
local macro_rules | `(tactic| walk_at "st_law_mixed") => `(tactic| first
  | (guard_target = WB _ _ _ _ _ _; first | (guard_target = WB _ _ _ (.Name _ _) _ _; first | (guard_target = WB _ M_law_mixed _ (.Name "found" _) _ _; first | refine wb_mu 2 r_law_mixed_found rfl ?_ | refine wb_of ?_) | refine wb_of ?_) | refine wb_of ?_)
  | (guard_target = WE _ _ _ _ _ _; first
     | (guard_target = WE _ _ _ (.Name _ _) _ _; first | (guard_target = WE _ M_law_mixed _ (.Name "bag" _) _ _; refine we_var 0 r_law_mixed_bag rfl ?_) | (guard_target = WE _ M_law_mixed _ (.Name "things" _) _ _; refine we_var 1 r_law_mixed_things rfl ?_) | (guard_target = WE _ M_law_mixed _ (.Name "found" _) _ _; refine we_var 2 r_law_mixed_found rfl ?_) | (guard_target = WE _ M_law_mixed _ (.Name "thing" _) _ _; refine we_var 3 r_law_mixed_thing rfl ?_))
     | (guard_target = WE _ _ _ (.Constant _ _ _) _ _; first | refine we_int ?_ | refine we_str ?_ | refine we_bool ?_ | refine we_none ?_)
     | (guard_target = WE _ _ _ (.Subscript _ _ _) _ _; first | (guard_target = WE _ M_law_mixed _ (.Subscript (.Name "bag" _) (.Constant (.int 0) _ _) _) _ _; refine we_bag0 r_law_mixed_bag rfl hF fun n hn => ?_) | (guard_target = WE _ M_law_mixed _ (.Subscript (.Name "bag" _) (.Constant (.int 1) _ _) _) _ _; refine we_bag1 r_law_mixed_bag rfl hF fun n hn hn2 => ?_) | (guard_target = WE _ M_law_mixed _ (.Subscript (.Name "bag" _) (.Constant (.int 2) _ _) _) _ _; refine we_bag2 r_law_mixed_bag rfl hF fun n hn => ?_) | (guard_target = WE _ M_law_mixed _ (.Subscript (.Name "bag" _) (.Constant (.int 3) _ _) _) _ _; refine we_bag3 r_law_mixed_bag rfl hF fun ns hln hns => ?_) | (guard_target = WE _ _ _ (.Subscript _ (.Slice none none (some _) _) _) _ _; refine we_revT ?_) | refine we_ix ?_ | refine we_slice ?_)
     | (guard_target = WE _ _ _ (.Call (.Name _ _) _ _ _) _ _; first | (guard_target = WE _ M_law_mixed _ (.Call (.Name "_law_take" _) _ _ _) _ _; refine we_bag f_law_take g_law_mixed__law_take (by omega) r_law_mixed_bag rfl hF ?_) | (guard_target = WE _ M_law_mixed _ (.Call (.Name "len" _) _ _ _) _ _; refine we_len B.len g_law_mixed_len ?_))
     | (guard_target = WE _ _ _ (.BinOp (.List _ _) .Mult _ _) _ _; refine we_fresh (wf_rep (wf_list ?_)))
     | (guard_target = WE _ _ _ (.BinOp _ _ _ _) _ _; first | refine we_add ?_ | refine we_sub ?_ | refine we_mul ?_ | refine we_mod ?_ | refine we_fdiv ?_ | refine we_pow ?_)
     | (guard_target = WE _ _ _ (.Compare _ _ _ _) _ _; first | refine we_eq ?_ | refine we_ne ?_ | refine we_lt ?_ | refine we_le ?_ | refine we_gt ?_ | refine we_ge ?_ | refine we_in ?_ | refine we_notin ?_)
     | walk_at "dw_we")
  | (guard_target = WT _ _ _ _ _ _; walk_at "dw_wt")
  | (guard_target = WL _ _ _ _ _ _; first | refine wl_cons ?_ | refine wl_nil ?_)
  | (guard_target = WW _ _ _ _ _ _; first | refine ww_and ?_ | refine ww_or ?_ | refine ww_and1 ?_ | refine ww_or1 ?_)
  | (guard_target = WO _ _ _ _ _ _; first | refine wo_none ?_ | refine wo_some ?_)
  | (guard_target = WF _ _ _ _ _ _; first | refine wf_list ?_ | refine wf_lc ?_ | refine wf_rep (wf_list ?_))
  | (guard_target = WS _ _ _ _ _ _; first | refine ws_cons ?_ | refine ws_nil ?_)
  | (guard_target = W1 _ _ _ _ _ _; first | walk_at "dw_1" | (guard_target = W1 _ M_law_mixed _ (.Expr (.Call (.Attribute (.Name "found" _) "insert" _) _ _ _) _) _ _; refine w1_insert 2 r_law_mixed_found rfl ?_) | (guard_target = W1 _ M_law_mixed _ (.Assign [(.Name "found" _)] (.List _ _) _) _ _; refine w1_own 2 t_law_mixed_found (wf_list ?_)) | (guard_target = W1 _ _ _ (.Assign [(.Subscript (.Name "bag" _) (.Constant (.int 0) _ _) _)] _ _) _ _; refine w1_bag0 r_law_mixed_bag rfl hF ?_) | (guard_target = W1 _ _ _ (.Assign [(.Subscript (.Name "bag" _) (.Constant (.int 1) _ _) _)] _ _) _ _; refine w1_bag1 r_law_mixed_bag rfl hF ?_) | (guard_target = W1 _ _ _ (.AugAssign (.Subscript (.Name "bag" _) (.Constant (.int 2) _ _) _) _ _ _) _ _; refine w1_bag2 r_law_mixed_bag rfl hF ?_) | ((first | (guard_target = W1 _ _ _ (.Assign [.Name _ _] (.Call _ _ _ _) _) _ _) | (guard_target = W1 _ _ _ (.Assign [.Name _ _] (.BinOp _ _ _ _) _) _ _) | (guard_target = W1 _ _ _ (.Assign [.Name _ _] (.Name _ _) _) _ _) | (guard_target = W1 _ _ _ (.Assign [.Name _ _] (.Subscript _ _ _) _) _ _) | (guard_target = W1 _ _ _ (.Assign [.Name _ _] (.Constant _ _ _) _) _ _) | (guard_target = W1 _ _ _ (.Assign [.Name _ _] (.Compare _ _ _ _) _) _ _) | (guard_target = W1 _ _ _ (.Assign [.Name _ _] (.BoolOp _ _ _) _) _ _) | (guard_target = W1 _ _ _ (.Assign [.Name _ _] (.IfExp _ _ _ _) _) _ _) | (guard_target = W1 _ _ _ (.Assign [.Name _ _] (.Tuple _ _ _) _) _ _) | (guard_target = W1 _ _ _ (.Assign [.Name _ _] (.UnaryOp _ _ _) _) _ _)); first | (guard_target = W1 _ M_law_mixed _ (.Assign [(.Name "found" _)] _ _) _ _; refine w1_set 2 t_law_mixed_found ?_)) | (guard_target = W1 _ _ _ (.Assign [.Tuple _ _ _] _ _) _ _; refine w1_asg ?_))
  | (guard_target = WJ _ _ _ _ _ _ _; first | (guard_target = WJ _ M_law_mixed _ _ (.Name "found" _) _ _; first | refine wj_mu 2 r_law_mixed_found rfl ?_ | refine wj_of ?_) | refine wj_of ?_)
  | (guard_target = WI _ _ _ _ _ _ _; first | refine wi_seq ?_)
  | (guard_target = WG _ _ _ _ _ _ _; first | (guard_target = WG _ M_law_mixed _ (.Name "thing" _) _ _ _; refine wg_name 3 t_law_mixed_thing ?_) | refine wg_tup rfl ?_)
  | (guard_target = WH _ _ _ _ _ _ _; first | refine wh_cons ?_ | refine wh_nil ?_)
  | (guard_target = WV _ _ _ _ _ _ _ _; first | refine wv_tup rfl ?_)
  | (guard_target = WVs _ _ _ _ _ _ _ _; first | refine wvs_cons ?_ | refine wvs_nil ?_)
  | walk_at "dw_d"
  | fail)
set_option hygiene false in
local macro_rules | `(tactic| walk_at "st_law_alike") => `(tactic| first
  | (guard_target = WB _ _ _ _ _ _; first | (guard_target = WB _ _ _ (.Name _ _) _ _; first | refine wb_of ?_) | refine wb_of ?_)
  | (guard_target = WE _ _ _ _ _ _; first
     | (guard_target = WE _ _ _ (.Name _ _) _ _; first | (guard_target = WE _ M_law_alike _ (.Name "found" _) _ _; refine we_var 0 r_law_alike_found rfl ?_) | (guard_target = WE _ M_law_alike _ (.Name "due" _) _ _; refine we_var 1 r_law_alike_due rfl ?_))
     | (guard_target = WE _ _ _ (.Constant _ _ _) _ _; first | refine we_int ?_ | refine we_str ?_ | refine we_bool ?_ | refine we_none ?_)
     | (guard_target = WE _ _ _ (.Subscript _ _ _) _ _; first | (guard_target = WE _ _ _ (.Subscript _ (.Slice none none (some _) _) _) _ _; refine we_revT ?_) | refine we_ix ?_ | refine we_slice ?_)
     | (guard_target = WE _ _ _ (.Call (.Name _ _) _ _ _) _ _; first | (guard_target = WE _ M_law_alike _ (.Call (.Name "repr" _) _ _ _) _ _; refine we_repr hG B.dg B.repr g_law_alike_repr ?_))
     | (guard_target = WE _ _ _ (.BinOp (.List _ _) .Mult _ _) _ _; refine we_fresh (wf_rep (wf_list ?_)))
     | (guard_target = WE _ _ _ (.BinOp _ _ _ _) _ _; first | refine we_add ?_ | refine we_sub ?_ | refine we_mul ?_ | refine we_mod ?_ | refine we_fdiv ?_ | refine we_pow ?_)
     | (guard_target = WE _ _ _ (.Compare _ _ _ _) _ _; first | refine we_eq ?_ | refine we_ne ?_ | refine we_lt ?_ | refine we_le ?_ | refine we_gt ?_ | refine we_ge ?_ | refine we_in ?_ | refine we_notin ?_)
     | walk_at "dw_we")
  | (guard_target = WT _ _ _ _ _ _; walk_at "dw_wt")
  | (guard_target = WL _ _ _ _ _ _; first | refine wl_cons ?_ | refine wl_nil ?_)
  | (guard_target = WW _ _ _ _ _ _; first | refine ww_and ?_ | refine ww_or ?_ | refine ww_and1 ?_ | refine ww_or1 ?_)
  | (guard_target = WO _ _ _ _ _ _; first | refine wo_none ?_ | refine wo_some ?_)
  | (guard_target = WF _ _ _ _ _ _; first | refine wf_list ?_ | refine wf_lc ?_ | refine wf_rep (wf_list ?_))
  | (guard_target = WS _ _ _ _ _ _; first | refine ws_cons ?_ | refine ws_nil ?_)
  | (guard_target = W1 _ _ _ _ _ _; first | walk_at "dw_1" | (guard_target = W1 _ _ _ (.Assign [.Tuple _ _ _] _ _) _ _; refine w1_asg ?_))
  | (guard_target = WJ _ _ _ _ _ _ _; first | refine wj_of ?_)
  | (guard_target = WI _ _ _ _ _ _ _; first | refine wi_seq ?_)
  | (guard_target = WG _ _ _ _ _ _ _; first | refine wg_tup rfl ?_)
  | (guard_target = WH _ _ _ _ _ _ _; first | refine wh_cons ?_ | refine wh_nil ?_)
  | (guard_target = WV _ _ _ _ _ _ _ _; first | refine wv_tup rfl ?_)
  | (guard_target = WVs _ _ _ _ _ _ _ _; first | refine wvs_cons ?_ | refine wvs_nil ?_)
  | walk_at "dw_d"
  | fail)
set_option hygiene false in
local macro_rules | `(tactic| walk_at "st_law_is_int") => `(tactic| first
  | (guard_target = WB _ _ _ _ _ _; first | (guard_target = WB _ _ _ (.Name _ _) _ _; first | refine wb_of ?_) | refine wb_of ?_)
  | (guard_target = WE _ _ _ _ _ _; first
     | (guard_target = WE _ _ _ (.Name _ _) _ _; first | (guard_target = WE _ M_law_is_int _ (.Name "thing" _) _ _; refine we_var 0 r_law_is_int_thing rfl ?_))
     | (guard_target = WE _ _ _ (.Constant _ _ _) _ _; first | refine we_int ?_ | refine we_str ?_ | refine we_bool ?_ | refine we_none ?_)
     | (guard_target = WE _ _ _ (.Subscript _ _ _) _ _; first | (guard_target = WE _ _ _ (.Subscript _ (.Slice none none (some _) _) _) _ _; refine we_revT ?_) | refine we_ix ?_ | refine we_slice ?_)
     | (guard_target = WE _ _ _ (.Call (.Name _ _) _ _ _) _ _; first | (guard_target = WE _ M_law_is_int _ (.Call (.Name "isinstance" _) [_, .Name "int" _] _ _) _ _; refine we_isi (T := "int") B.isinstance g_law_is_int_isinstance B.int g_law_is_int_int ?_) | (guard_target = WE _ M_law_is_int _ (.Call (.Name "isinstance" _) [_, .Name "bool" _] _ _) _ _; refine we_isi (T := "bool") B.isinstance g_law_is_int_isinstance B.bool g_law_is_int_bool ?_) | (guard_target = WE _ M_law_is_int _ (.Call (.Name "int" _) _ _ _) _ _; refine we_toint B.int g_law_is_int_int ?_))
     | (guard_target = WE _ _ _ (.BinOp (.List _ _) .Mult _ _) _ _; refine we_fresh (wf_rep (wf_list ?_)))
     | (guard_target = WE _ _ _ (.BinOp _ _ _ _) _ _; first | refine we_add ?_ | refine we_sub ?_ | refine we_mul ?_ | refine we_mod ?_ | refine we_fdiv ?_ | refine we_pow ?_)
     | (guard_target = WE _ _ _ (.Compare _ _ _ _) _ _; first | refine we_eq ?_ | refine we_ne ?_ | refine we_lt ?_ | refine we_le ?_ | refine we_gt ?_ | refine we_ge ?_ | refine we_in ?_ | refine we_notin ?_)
     | walk_at "dw_we")
  | (guard_target = WT _ _ _ _ _ _; walk_at "dw_wt")
  | (guard_target = WL _ _ _ _ _ _; first | refine wl_cons ?_ | refine wl_nil ?_)
  | (guard_target = WW _ _ _ _ _ _; first | refine ww_and ?_ | refine ww_or ?_ | refine ww_and1 ?_ | refine ww_or1 ?_)
  | (guard_target = WO _ _ _ _ _ _; first | refine wo_none ?_ | refine wo_some ?_)
  | (guard_target = WF _ _ _ _ _ _; first | refine wf_list ?_ | refine wf_lc ?_ | refine wf_rep (wf_list ?_))
  | (guard_target = WS _ _ _ _ _ _; first | refine ws_cons ?_ | refine ws_nil ?_)
  | (guard_target = W1 _ _ _ _ _ _; first | walk_at "dw_1" | (guard_target = W1 _ _ _ (.Assign [.Tuple _ _ _] _ _) _ _; refine w1_asg ?_))
  | (guard_target = WJ _ _ _ _ _ _ _; first | refine wj_of ?_)
  | (guard_target = WI _ _ _ _ _ _ _; first | refine wi_seq ?_)
  | (guard_target = WG _ _ _ _ _ _ _; first | refine wg_tup rfl ?_)
  | (guard_target = WH _ _ _ _ _ _ _; first | refine wh_cons ?_ | refine wh_nil ?_)
  | (guard_target = WV _ _ _ _ _ _ _ _; first | refine wv_tup rfl ?_)
  | (guard_target = WVs _ _ _ _ _ _ _ _; first | refine wvs_cons ?_ | refine wvs_nil ?_)
  | walk_at "dw_d"
  | fail)
set_option hygiene false in
local macro_rules | `(tactic| walk_at "st_law_gcd") => `(tactic| first
  | (guard_target = WB _ _ _ _ _ _; first | (guard_target = WB _ _ _ (.Name _ _) _ _; first | refine wb_of ?_) | refine wb_of ?_)
  | (guard_target = WE _ _ _ _ _ _; first
     | (guard_target = WE _ _ _ (.Name _ _) _ _; first | (guard_target = WE _ M_law_gcd _ (.Name "one" _) _ _; refine we_var 0 r_law_gcd_one rfl ?_) | (guard_target = WE _ M_law_gcd _ (.Name "other" _) _ _; refine we_var 1 r_law_gcd_other rfl ?_))
     | (guard_target = WE _ _ _ (.Constant _ _ _) _ _; first | refine we_int ?_ | refine we_str ?_ | refine we_bool ?_ | refine we_none ?_)
     | (guard_target = WE _ _ _ (.Subscript _ _ _) _ _; first | (guard_target = WE _ _ _ (.Subscript _ (.Slice none none (some _) _) _) _ _; refine we_revT ?_) | refine we_ix ?_ | refine we_slice ?_)
     | (guard_target = WE _ _ _ (.Call (.Name _ _) _ _ _) _ _; first | (guard_target = WE _ M_law_gcd _ (.Call (.Name "int" _) _ _ _) _ _; refine we_toint B.int g_law_gcd_int ?_))
     | (guard_target = WE _ _ _ (.BinOp (.List _ _) .Mult _ _) _ _; refine we_fresh (wf_rep (wf_list ?_)))
     | (guard_target = WE _ _ _ (.BinOp _ _ _ _) _ _; first | refine we_add ?_ | refine we_sub ?_ | refine we_mul ?_ | refine we_mod ?_ | refine we_fdiv ?_ | refine we_pow ?_)
     | (guard_target = WE _ _ _ (.Compare _ _ _ _) _ _; first | refine we_eq ?_ | refine we_ne ?_ | refine we_lt ?_ | refine we_le ?_ | refine we_gt ?_ | refine we_ge ?_ | refine we_in ?_ | refine we_notin ?_)
     | walk_at "dw_we")
  | (guard_target = WT _ _ _ _ _ _; walk_at "dw_wt")
  | (guard_target = WL _ _ _ _ _ _; first | refine wl_cons ?_ | refine wl_nil ?_)
  | (guard_target = WW _ _ _ _ _ _; first | refine ww_and ?_ | refine ww_or ?_ | refine ww_and1 ?_ | refine ww_or1 ?_)
  | (guard_target = WO _ _ _ _ _ _; first | refine wo_none ?_ | refine wo_some ?_)
  | (guard_target = WF _ _ _ _ _ _; first | refine wf_list ?_ | refine wf_lc ?_ | refine wf_rep (wf_list ?_))
  | (guard_target = WS _ _ _ _ _ _; first | refine ws_cons ?_ | refine ws_nil ?_)
  | (guard_target = W1 _ _ _ _ _ _; first | walk_at "dw_1" | (guard_target = W1 _ _ _ (.Assign [.Tuple [.Name "one" _, .Name "other" _] _ _] (.Tuple _ _ _) _) _ _; refine w1_par 0 1 l_law_gcd_one l_law_gcd_other (by decide) ?_) | (guard_target = W1 _ _ _ (.Assign [.Tuple _ _ _] _ _) _ _; refine w1_asg ?_))
  | (guard_target = WJ _ _ _ _ _ _ _; first | refine wj_of ?_)
  | (guard_target = WI _ _ _ _ _ _ _; first | refine wi_seq ?_)
  | (guard_target = WG _ _ _ _ _ _ _; first | (guard_target = WG _ M_law_gcd _ (.Name "one" _) _ _ _; refine wg_name 0 t_law_gcd_one ?_) | (guard_target = WG _ M_law_gcd _ (.Name "other" _) _ _ _; refine wg_name 1 t_law_gcd_other ?_) | refine wg_tup rfl ?_)
  | (guard_target = WH _ _ _ _ _ _ _; first | refine wh_cons ?_ | refine wh_nil ?_)
  | (guard_target = WV _ _ _ _ _ _ _ _; first | refine wv_tup rfl ?_)
  | (guard_target = WVs _ _ _ _ _ _ _ _; first | refine wvs_cons ?_ | refine wvs_nil ?_)
  | walk_at "dw_d"
  | fail)
set_option hygiene false in
local macro_rules | `(tactic| walk_at "st_law_fr") => `(tactic| first
  | (guard_target = WB _ _ _ _ _ _; first | (guard_target = WB _ _ _ (.Name _ _) _ _; first | refine wb_of ?_) | refine wb_of ?_)
  | (guard_target = WE _ _ _ _ _ _; first
     | (guard_target = WE _ _ _ (.Name _ _) _ _; first | (guard_target = WE _ M_law_fr _ (.Name "num" _) _ _; refine we_var 0 r_law_fr_num rfl ?_) | (guard_target = WE _ M_law_fr _ (.Name "den" _) _ _; refine we_var 1 r_law_fr_den rfl ?_) | (guard_target = WE _ M_law_fr _ (.Name "common" _) _ _; refine we_var 2 r_law_fr_common rfl ?_))
     | (guard_target = WE _ _ _ (.Constant _ _ _) _ _; first | refine we_int ?_ | refine we_str ?_ | refine we_bool ?_ | refine we_none ?_)
     | (guard_target = WE _ _ _ (.Subscript _ _ _) _ _; first | (guard_target = WE _ _ _ (.Subscript _ (.Slice none none (some _) _) _) _ _; refine we_revT ?_) | refine we_ix ?_ | refine we_slice ?_)
     | (guard_target = WE _ _ _ (.Call (.Name _ _) _ _ _) _ _; first | (guard_target = WE _ M_law_fr _ (.Call (.Name "_law_gcd" _) _ _ _) _ _; first | refine we_call f_law_gcd g_law_fr__law_gcd (by omega) ?_ | refine we_call0 f_law_gcd g_law_fr__law_gcd (by omega) ?_) | (guard_target = WE _ M_law_fr _ (.Call (.Name "abs" _) _ _ _) _ _; refine we_abs B.abs g_law_fr_abs ?_) | (guard_target = WE _ M_law_fr _ (.Call (.Name "int" _) _ _ _) _ _; refine we_toint B.int g_law_fr_int ?_))
     | (guard_target = WE _ _ _ (.BinOp (.List _ _) .Mult _ _) _ _; refine we_fresh (wf_rep (wf_list ?_)))
     | (guard_target = WE _ _ _ (.BinOp _ _ _ _) _ _; first | refine we_add ?_ | refine we_sub ?_ | refine we_mul ?_ | refine we_mod ?_ | refine we_fdiv ?_ | refine we_pow ?_)
     | (guard_target = WE _ _ _ (.Compare _ _ _ _) _ _; first | refine we_eq ?_ | refine we_ne ?_ | refine we_lt ?_ | refine we_le ?_ | refine we_gt ?_ | refine we_ge ?_ | refine we_in ?_ | refine we_notin ?_)
     | walk_at "dw_we")
  | (guard_target = WT _ _ _ _ _ _; walk_at "dw_wt")
  | (guard_target = WL _ _ _ _ _ _; first | refine wl_cons ?_ | refine wl_nil ?_)
  | (guard_target = WW _ _ _ _ _ _; first | refine ww_and ?_ | refine ww_or ?_ | refine ww_and1 ?_ | refine ww_or1 ?_)
  | (guard_target = WO _ _ _ _ _ _; first | refine wo_none ?_ | refine wo_some ?_)
  | (guard_target = WF _ _ _ _ _ _; first | refine wf_list ?_ | refine wf_lc ?_ | refine wf_rep (wf_list ?_))
  | (guard_target = WS _ _ _ _ _ _; first | refine ws_cons ?_ | refine ws_nil ?_)
  | (guard_target = W1 _ _ _ _ _ _; first | walk_at "dw_1" | ((first | (guard_target = W1 _ _ _ (.Assign [.Name _ _] (.Call _ _ _ _) _) _ _) | (guard_target = W1 _ _ _ (.Assign [.Name _ _] (.BinOp _ _ _ _) _) _ _) | (guard_target = W1 _ _ _ (.Assign [.Name _ _] (.Name _ _) _) _ _) | (guard_target = W1 _ _ _ (.Assign [.Name _ _] (.Subscript _ _ _) _) _ _) | (guard_target = W1 _ _ _ (.Assign [.Name _ _] (.Constant _ _ _) _) _ _) | (guard_target = W1 _ _ _ (.Assign [.Name _ _] (.Compare _ _ _ _) _) _ _) | (guard_target = W1 _ _ _ (.Assign [.Name _ _] (.BoolOp _ _ _) _) _ _) | (guard_target = W1 _ _ _ (.Assign [.Name _ _] (.IfExp _ _ _ _) _) _ _) | (guard_target = W1 _ _ _ (.Assign [.Name _ _] (.Tuple _ _ _) _) _ _) | (guard_target = W1 _ _ _ (.Assign [.Name _ _] (.UnaryOp _ _ _) _) _ _)); first | (guard_target = W1 _ M_law_fr _ (.Assign [(.Name "common" _)] _ _) _ _; refine w1_set 2 t_law_fr_common ?_)) | (guard_target = W1 _ _ _ (.Assign [.Tuple _ _ _] _ _) _ _; refine w1_asg ?_))
  | (guard_target = WJ _ _ _ _ _ _ _; first | refine wj_of ?_)
  | (guard_target = WI _ _ _ _ _ _ _; first | refine wi_seq ?_)
  | (guard_target = WG _ _ _ _ _ _ _; first | (guard_target = WG _ M_law_fr _ (.Name "num" _) _ _ _; refine wg_name 0 t_law_fr_num ?_) | (guard_target = WG _ M_law_fr _ (.Name "den" _) _ _ _; refine wg_name 1 t_law_fr_den ?_) | refine wg_tup rfl ?_)
  | (guard_target = WH _ _ _ _ _ _ _; first | refine wh_cons ?_ | refine wh_nil ?_)
  | (guard_target = WV _ _ _ _ _ _ _ _; first | refine wv_tup rfl ?_)
  | (guard_target = WVs _ _ _ _ _ _ _ _; first | refine wvs_cons ?_ | refine wvs_nil ?_)
  | walk_at "dw_d"
  | fail)
set_option hygiene false in
local macro_rules | `(tactic| walk_at "st_law_stand") => `(tactic| first
  | (guard_target = WB _ _ _ _ _ _; first | (guard_target = WB _ _ _ (.Name _ _) _ _; first | refine wb_of ?_) | refine wb_of ?_)
  | (guard_target = WE _ _ _ _ _ _; first
     | (guard_target = WE _ _ _ (.Name _ _) _ _; first | (guard_target = WE _ M_law_stand _ (.Name "bag" _) _ _; refine we_var 0 r_law_stand_bag rfl ?_) | (guard_target = WE _ M_law_stand _ (.Name "many" _) _ _; refine we_var 1 r_law_stand_many rfl ?_) | (guard_target = WE _ M_law_stand _ (.Name "den" _) _ _; refine we_var 2 r_law_stand_den rfl ?_) | (guard_target = WE _ (blkNm M_law_stand _ kd_law_stand_0 gl_law_stand_0) _ (.Name "bag" _) _ _; refine we_var 0 (r_law_stand_0_bag _) rfl ?_) | (guard_target = WE _ (blkNm M_law_stand _ kd_law_stand_0 gl_law_stand_0) _ (.Name "den" _) _ _; refine we_var 2 (r_law_stand_0_den _) rfl ?_) | (guard_target = WE _ (blkNm M_law_stand _ kd_law_stand_0 gl_law_stand_0) _ (.Name "at" _) _ _; refine we_var 3 (r_law_stand_0_at _) rfl ?_))
     | (guard_target = WE _ _ _ (.Constant _ _ _) _ _; first | refine we_int ?_ | refine we_str ?_ | refine we_bool ?_ | refine we_none ?_)
     | (guard_target = WE _ _ _ (.Subscript _ _ _) _ _; first | (guard_target = WE _ M_law_stand _ (.Subscript (.Name "bag" _) (.Constant (.int 0) _ _) _) _ _; refine we_bag0 r_law_stand_bag rfl hF fun n hn => ?_) | (guard_target = WE _ M_law_stand _ (.Subscript (.Name "bag" _) (.Constant (.int 1) _ _) _) _ _; refine we_bag1 r_law_stand_bag rfl hF fun n hn hn2 => ?_) | (guard_target = WE _ M_law_stand _ (.Subscript (.Name "bag" _) (.Constant (.int 2) _ _) _) _ _; refine we_bag2 r_law_stand_bag rfl hF fun n hn => ?_) | (guard_target = WE _ M_law_stand _ (.Subscript (.Name "bag" _) (.Constant (.int 3) _ _) _) _ _; refine we_bag3 r_law_stand_bag rfl hF fun ns hln hns => ?_) | (guard_target = WE _ (blkNm M_law_stand _ kd_law_stand_0 gl_law_stand_0) _ (.Subscript (.Name "bag" _) (.Constant (.int 0) _ _) _) _ _; refine we_bag0 (r_law_stand_0_bag _) rfl hF fun n hn => ?_) | (guard_target = WE _ (blkNm M_law_stand _ kd_law_stand_0 gl_law_stand_0) _ (.Subscript (.Name "bag" _) (.Constant (.int 1) _ _) _) _ _; refine we_bag1 (r_law_stand_0_bag _) rfl hF fun n hn hn2 => ?_) | (guard_target = WE _ (blkNm M_law_stand _ kd_law_stand_0 gl_law_stand_0) _ (.Subscript (.Name "bag" _) (.Constant (.int 2) _ _) _) _ _; refine we_bag2 (r_law_stand_0_bag _) rfl hF fun n hn => ?_) | (guard_target = WE _ (blkNm M_law_stand _ kd_law_stand_0 gl_law_stand_0) _ (.Subscript (.Name "bag" _) (.Constant (.int 3) _ _) _) _ _; refine we_bag3 (r_law_stand_0_bag _) rfl hF fun ns hln hns => ?_) | (guard_target = WE _ _ _ (.Subscript _ (.Slice none none (some _) _) _) _ _; refine we_revT ?_) | refine we_ix ?_ | refine we_slice ?_)
     | (guard_target = WE _ _ _ (.Call (.Name _ _) _ _ _) _ _; first | (guard_target = WE _ M_law_stand _ (.Call (.Name "_law_some" _) _ _ _) _ _; refine we_bag f_law_some g_law_stand__law_some (by omega) r_law_stand_bag rfl hF ?_) | (guard_target = WE _ M_law_stand _ (.Call (.Name "tuple" _) _ _ _) _ _; refine we_tup B.tuple g_law_stand_tuple ?_) | (guard_target = WE _ (blkNm M_law_stand _ kd_law_stand_0 gl_law_stand_0) _ (.Call (.Name "_law_fr" _) _ _ _) _ _; first | refine we_call f_law_fr (g_law_stand_0__law_fr _) (by omega) ?_ | refine we_call0 f_law_fr (g_law_stand_0__law_fr _) (by omega) ?_) | (guard_target = WE _ (blkNm M_law_stand _ kd_law_stand_0 gl_law_stand_0) _ (.Call (.Name "_law_take" _) _ _ _) _ _; refine we_bag f_law_take (g_law_stand_0__law_take _) (by omega) (r_law_stand_0_bag _) rfl hF ?_))
     | (guard_target = WE _ _ _ (.BinOp (.List _ _) .Mult _ _) _ _; refine we_fresh (wf_rep (wf_list ?_)))
     | (guard_target = WE _ _ _ (.BinOp _ _ _ _) _ _; first | refine we_add ?_ | refine we_sub ?_ | refine we_mul ?_ | refine we_mod ?_ | refine we_fdiv ?_ | refine we_pow ?_)
     | (guard_target = WE _ _ _ (.Compare _ _ _ _) _ _; first | refine we_eq ?_ | refine we_ne ?_ | refine we_lt ?_ | refine we_le ?_ | refine we_gt ?_ | refine we_ge ?_ | refine we_in ?_ | refine we_notin ?_)
     | walk_at "dw_we")
  | (guard_target = WT _ _ _ _ _ _; walk_at "dw_wt")
  | (guard_target = WL _ _ _ _ _ _; first | refine wl_cons ?_ | refine wl_nil ?_)
  | (guard_target = WW _ _ _ _ _ _; first | refine ww_and ?_ | refine ww_or ?_ | refine ww_and1 ?_ | refine ww_or1 ?_)
  | (guard_target = WO _ _ _ _ _ _; first | refine wo_none ?_ | refine wo_some ?_)
  | (guard_target = WF _ _ _ _ _ _; first | refine wf_list ?_ | refine wf_lc ?_ | refine wf_rep (wf_list ?_))
  | (guard_target = WS _ _ _ _ _ _; first | refine ws_cons ?_ | refine ws_nil ?_)
  | (guard_target = W1 _ _ _ _ _ _; first | walk_at "dw_1" | (guard_target = W1 _ _ _ (.Assign [(.Subscript (.Name "bag" _) (.Constant (.int 0) _ _) _)] _ _) _ _; refine w1_bag0 r_law_stand_bag rfl hF ?_) | (guard_target = W1 _ _ _ (.Assign [(.Subscript (.Name "bag" _) (.Constant (.int 1) _ _) _)] _ _) _ _; refine w1_bag1 r_law_stand_bag rfl hF ?_) | (guard_target = W1 _ _ _ (.AugAssign (.Subscript (.Name "bag" _) (.Constant (.int 2) _ _) _) _ _ _) _ _; refine w1_bag2 r_law_stand_bag rfl hF ?_) | ((first | (guard_target = W1 _ _ _ (.Assign [.Name _ _] (.Call _ _ _ _) _) _ _) | (guard_target = W1 _ _ _ (.Assign [.Name _ _] (.BinOp _ _ _ _) _) _ _) | (guard_target = W1 _ _ _ (.Assign [.Name _ _] (.Name _ _) _) _ _) | (guard_target = W1 _ _ _ (.Assign [.Name _ _] (.Subscript _ _ _) _) _ _) | (guard_target = W1 _ _ _ (.Assign [.Name _ _] (.Constant _ _ _) _) _ _) | (guard_target = W1 _ _ _ (.Assign [.Name _ _] (.Compare _ _ _ _) _) _ _) | (guard_target = W1 _ _ _ (.Assign [.Name _ _] (.BoolOp _ _ _) _) _ _) | (guard_target = W1 _ _ _ (.Assign [.Name _ _] (.IfExp _ _ _ _) _) _ _) | (guard_target = W1 _ _ _ (.Assign [.Name _ _] (.Tuple _ _ _) _) _ _) | (guard_target = W1 _ _ _ (.Assign [.Name _ _] (.UnaryOp _ _ _) _) _ _)); first | (guard_target = W1 _ M_law_stand _ (.Assign [(.Name "den" _)] _ _) _ _; refine w1_set 2 t_law_stand_den ?_)) | (guard_target = W1 _ _ _ (.Assign [.Tuple _ _ _] _ _) _ _; refine w1_asg ?_))
  | (guard_target = WJ _ _ _ _ _ _ _; first | refine wj_of ?_)
  | (guard_target = WI _ _ _ _ _ _ _; first | refine wi_range B.range g_law_stand_range ?_ | refine wi_range2 B.range g_law_stand_range ?_ | refine wi_seq ?_)
  | (guard_target = WG _ _ _ _ _ _ _; first | refine wg_tup rfl ?_)
  | (guard_target = WH _ _ _ _ _ _ _; first | refine wh_cons ?_ | refine wh_nil ?_)
  | (guard_target = WV _ _ _ _ _ _ _ _; first | (guard_target = WV _ (blkNm M_law_stand _ kd_law_stand_0 gl_law_stand_0) _ _ (.Name "at" _) _ _ _; refine wv_name 3 (t_law_stand_0_at _) (by decide) ?_) | refine wv_tup rfl ?_)
  | (guard_target = WVs _ _ _ _ _ _ _ _; first | refine wvs_cons ?_ | refine wvs_nil ?_)
  | walk_at "dw_d"
  | fail)
set_option hygiene false in
local macro_rules | `(tactic| walk_at "st_law_is_vector") => `(tactic| first
  | (guard_target = WB _ _ _ _ _ _; first | (guard_target = WB _ _ _ (.Name _ _) _ _; first | refine wb_of ?_) | refine wb_of ?_)
  | (guard_target = WE _ _ _ _ _ _; first
     | (guard_target = WE _ _ _ (.Name _ _) _ _; first | (guard_target = WE _ M_law_is_vector _ (.Name "many" _) _ _; refine we_var 0 r_law_is_vector_many rfl ?_) | (guard_target = WE _ M_law_is_vector _ (.Name "thing" _) _ _; refine we_var 1 r_law_is_vector_thing rfl ?_) | (guard_target = WE _ M_law_is_vector _ (.Name "one" _) _ _; refine we_var 2 r_law_is_vector_one rfl ?_))
     | (guard_target = WE _ _ _ (.Constant _ _ _) _ _; first | refine we_int ?_ | refine we_str ?_ | refine we_bool ?_ | refine we_none ?_)
     | (guard_target = WE _ _ _ (.Subscript _ _ _) _ _; first | (guard_target = WE _ _ _ (.Subscript _ (.Slice none none (some _) _) _) _ _; refine we_revT ?_) | refine we_ix ?_ | refine we_slice ?_)
     | (guard_target = WE _ _ _ (.Call (.Name _ _) _ _ _) _ _; first | (guard_target = WE _ M_law_is_vector _ (.Call (.Name "isinstance" _) [_, .Name "tuple" _] _ _) _ _; refine we_isi (T := "tuple") B.isinstance g_law_is_vector_isinstance B.tuple g_law_is_vector_tuple ?_) | (guard_target = WE _ M_law_is_vector _ (.Call (.Name "tuple" _) _ _ _) _ _; refine we_tup B.tuple g_law_is_vector_tuple ?_) | (guard_target = WE _ M_law_is_vector _ (.Call (.Name "len" _) _ _ _) _ _; refine we_len B.len g_law_is_vector_len ?_) | (guard_target = WE _ M_law_is_vector _ (.Call (.Name "_law_is_int" _) _ _ _) _ _; first | refine we_call f_law_is_int g_law_is_vector__law_is_int (by omega) ?_ | refine we_call0 f_law_is_int g_law_is_vector__law_is_int (by omega) ?_) | (guard_target = WE _ M_law_is_vector _ (.Call (.Name "_law_gcd" _) _ _ _) _ _; first | refine we_call f_law_gcd g_law_is_vector__law_gcd (by omega) ?_ | refine we_call0 f_law_gcd g_law_is_vector__law_gcd (by omega) ?_) | (guard_target = WE _ M_law_is_vector _ (.Call (.Name "abs" _) _ _ _) _ _; refine we_abs B.abs g_law_is_vector_abs ?_))
     | (guard_target = WE _ _ _ (.BinOp (.List _ _) .Mult _ _) _ _; refine we_fresh (wf_rep (wf_list ?_)))
     | (guard_target = WE _ _ _ (.BinOp _ _ _ _) _ _; first | refine we_add ?_ | refine we_sub ?_ | refine we_mul ?_ | refine we_mod ?_ | refine we_fdiv ?_ | refine we_pow ?_)
     | (guard_target = WE _ _ _ (.Compare _ _ _ _) _ _; first | refine we_eq ?_ | refine we_ne ?_ | refine we_lt ?_ | refine we_le ?_ | refine we_gt ?_ | refine we_ge ?_ | refine we_in ?_ | refine we_notin ?_)
     | walk_at "dw_we")
  | (guard_target = WT _ _ _ _ _ _; walk_at "dw_wt")
  | (guard_target = WL _ _ _ _ _ _; first | refine wl_cons ?_ | refine wl_nil ?_)
  | (guard_target = WW _ _ _ _ _ _; first | refine ww_and ?_ | refine ww_or ?_ | refine ww_and1 ?_ | refine ww_or1 ?_)
  | (guard_target = WO _ _ _ _ _ _; first | refine wo_none ?_ | refine wo_some ?_)
  | (guard_target = WF _ _ _ _ _ _; first | refine wf_list ?_ | refine wf_lc ?_ | refine wf_rep (wf_list ?_))
  | (guard_target = WS _ _ _ _ _ _; first | refine ws_cons ?_ | refine ws_nil ?_)
  | (guard_target = W1 _ _ _ _ _ _; first | walk_at "dw_1" | (guard_target = W1 _ _ _ (.Assign [.Tuple _ _ _] _ _) _ _; refine w1_asg ?_))
  | (guard_target = WJ _ _ _ _ _ _ _; first | refine wj_of ?_)
  | (guard_target = WI _ _ _ _ _ _ _; first | refine wi_seq ?_)
  | (guard_target = WG _ _ _ _ _ _ _; first | (guard_target = WG _ M_law_is_vector _ (.Name "one" _) _ _ _; refine wg_name 2 t_law_is_vector_one ?_) | refine wg_tup rfl ?_)
  | (guard_target = WH _ _ _ _ _ _ _; first | refine wh_cons ?_ | refine wh_nil ?_)
  | (guard_target = WV _ _ _ _ _ _ _ _; first | refine wv_tup rfl ?_)
  | (guard_target = WVs _ _ _ _ _ _ _ _; first | refine wvs_cons ?_ | refine wvs_nil ?_)
  | walk_at "dw_d"
  | fail)
set_option hygiene false in
local macro_rules | `(tactic| walk_at "st_law_shape") => `(tactic| first
  | (guard_target = WB _ _ _ _ _ _; first | (guard_target = WB _ _ _ (.Name _ _) _ _; first | (guard_target = WB _ M_law_shape _ (.Name "groups" _) _ _; first | refine wb_mu 4 r_law_shape_groups rfl ?_ | refine wb_of ?_) | (guard_target = WB _ M_law_shape _ (.Name "added" _) _ _; first | refine wb_mu 5 r_law_shape_added rfl ?_ | refine wb_of ?_) | refine wb_of ?_) | refine wb_of ?_)
  | (guard_target = WE _ _ _ _ _ _; first
     | (guard_target = WE _ _ _ (.Name _ _) _ _; first | (guard_target = WE _ M_law_shape _ (.Name "bag" _) _ _; refine we_var 0 r_law_shape_bag rfl ?_) | (guard_target = WE _ M_law_shape _ (.Name "names" _) _ _; refine we_var 1 r_law_shape_names rfl ?_) | (guard_target = WE _ M_law_shape _ (.Name "cells" _) _ _; refine we_var 2 r_law_shape_cells rfl ?_) | (guard_target = WE _ M_law_shape _ (.Name "most" _) _ _; refine we_var 3 r_law_shape_most rfl ?_) | (guard_target = WE _ M_law_shape _ (.Name "groups" _) _ _; refine we_var 4 r_law_shape_groups rfl ?_) | (guard_target = WE _ M_law_shape _ (.Name "added" _) _ _; refine we_var 5 r_law_shape_added rfl ?_) | (guard_target = WE _ M_law_shape _ (.Name "cell" _) _ _; refine we_var 6 r_law_shape_cell rfl ?_) | (guard_target = WE _ (blkNm M_law_shape _ kd_law_shape_0 gl_law_shape_0) _ (.Name "group" _) _ _; refine we_var 7 (r_law_shape_0_group _) rfl ?_))
     | (guard_target = WE _ _ _ (.Constant _ _ _) _ _; first | refine we_int ?_ | refine we_str ?_ | refine we_bool ?_ | refine we_none ?_)
     | (guard_target = WE _ _ _ (.Subscript _ _ _) _ _; first | (guard_target = WE _ M_law_shape _ (.Subscript (.Name "bag" _) (.Constant (.int 0) _ _) _) _ _; refine we_bag0 r_law_shape_bag rfl hF fun n hn => ?_) | (guard_target = WE _ M_law_shape _ (.Subscript (.Name "bag" _) (.Constant (.int 1) _ _) _) _ _; refine we_bag1 r_law_shape_bag rfl hF fun n hn hn2 => ?_) | (guard_target = WE _ M_law_shape _ (.Subscript (.Name "bag" _) (.Constant (.int 2) _ _) _) _ _; refine we_bag2 r_law_shape_bag rfl hF fun n hn => ?_) | (guard_target = WE _ M_law_shape _ (.Subscript (.Name "bag" _) (.Constant (.int 3) _ _) _) _ _; refine we_bag3 r_law_shape_bag rfl hF fun ns hln hns => ?_) | (guard_target = WE _ _ _ (.Subscript _ (.Slice none none (some _) _) _) _ _; refine we_revT ?_) | refine we_ix ?_ | refine we_slice ?_)
     | (guard_target = WE _ _ _ (.Call (.Name _ _) _ _ _) _ _; first | (guard_target = WE _ M_law_shape _ (.Call (.Name "tuple" _) _ _ _) _ _; refine we_tup B.tuple g_law_shape_tuple ?_) | (guard_target = WE _ M_law_shape _ (.Call (.Name "_law_mixed" _) _ _ _) _ _; refine we_bag f_law_mixed g_law_shape__law_mixed (by omega) r_law_shape_bag rfl hF ?_) | (guard_target = WE _ M_law_shape _ (.Call (.Name "_law_take" _) _ _ _) _ _; refine we_bag f_law_take g_law_shape__law_take (by omega) r_law_shape_bag rfl hF ?_) | (guard_target = WE _ M_law_shape _ (.Call (.Name "len" _) _ _ _) _ _; refine we_len B.len g_law_shape_len ?_) | (guard_target = WE _ (blkNm M_law_shape _ kd_law_shape_0 gl_law_shape_0) _ (.Call (.Name "tuple" _) _ _ _) _ _; refine we_tup B.tuple (g_law_shape_0_tuple _) ?_))
     | (guard_target = WE _ _ _ (.BinOp (.List _ _) .Mult _ _) _ _; refine we_fresh (wf_rep (wf_list ?_)))
     | (guard_target = WE _ _ _ (.BinOp _ _ _ _) _ _; first | refine we_add ?_ | refine we_sub ?_ | refine we_mul ?_ | refine we_mod ?_ | refine we_fdiv ?_ | refine we_pow ?_)
     | (guard_target = WE _ _ _ (.Compare _ _ _ _) _ _; first | refine we_eq ?_ | refine we_ne ?_ | refine we_lt ?_ | refine we_le ?_ | refine we_gt ?_ | refine we_ge ?_ | refine we_in ?_ | refine we_notin ?_)
     | walk_at "dw_we")
  | (guard_target = WT _ _ _ _ _ _; walk_at "dw_wt")
  | (guard_target = WL _ _ _ _ _ _; first | refine wl_cons ?_ | refine wl_nil ?_)
  | (guard_target = WW _ _ _ _ _ _; first | refine ww_and ?_ | refine ww_or ?_ | refine ww_and1 ?_ | refine ww_or1 ?_)
  | (guard_target = WO _ _ _ _ _ _; first | refine wo_none ?_ | refine wo_some ?_)
  | (guard_target = WF _ _ _ _ _ _; first | refine wf_list ?_ | refine wf_lc ?_ | refine wf_rep (wf_list ?_))
  | (guard_target = WS _ _ _ _ _ _; first | refine ws_cons ?_ | refine ws_nil ?_)
  | (guard_target = W1 _ _ _ _ _ _; first | walk_at "dw_1" | (guard_target = W1 _ _ _ (.Assign [.Tuple [.Name "cells" _, .Name "groups" _, .Name "added" _] _ _] (.Tuple _ _ _) _) _ _; refine w1_par3IOO 2 4 5 l_law_shape_cells l_law_shape_groups l_law_shape_added (by decide) (by decide) (by decide) ?_) | (guard_target = W1 _ M_law_shape _ (.Expr (.Call (.Attribute (.Name "groups" _) "append" _) _ _ _) _) _ _; refine w1_append 4 r_law_shape_groups rfl ?_) | (guard_target = W1 _ M_law_shape _ (.Expr (.Call (.Attribute (.Name "added" _) "append" _) _ _ _) _) _ _; refine w1_append 5 r_law_shape_added rfl ?_) | (guard_target = W1 _ _ _ (.Assign [(.Subscript (.Name "bag" _) (.Constant (.int 0) _ _) _)] _ _) _ _; refine w1_bag0 r_law_shape_bag rfl hF ?_) | (guard_target = W1 _ _ _ (.Assign [(.Subscript (.Name "bag" _) (.Constant (.int 1) _ _) _)] _ _) _ _; refine w1_bag1 r_law_shape_bag rfl hF ?_) | (guard_target = W1 _ _ _ (.AugAssign (.Subscript (.Name "bag" _) (.Constant (.int 2) _ _) _) _ _ _) _ _; refine w1_bag2 r_law_shape_bag rfl hF ?_) | (guard_target = W1 _ _ _ (.Assign [.Tuple _ _ _] _ _) _ _; refine w1_asg ?_))
  | (guard_target = WJ _ _ _ _ _ _ _; first | (guard_target = WJ _ M_law_shape _ _ (.Name "groups" _) _ _; first | refine wj_mu 4 r_law_shape_groups rfl ?_ | refine wj_of ?_) | (guard_target = WJ _ M_law_shape _ _ (.Name "added" _) _ _; first | refine wj_mu 5 r_law_shape_added rfl ?_ | refine wj_of ?_) | refine wj_of ?_)
  | (guard_target = WI _ _ _ _ _ _ _; first | refine wi_seq ?_)
  | (guard_target = WG _ _ _ _ _ _ _; first | (guard_target = WG _ M_law_shape _ (.Name "cells" _) _ _ _; refine wg_name 2 t_law_shape_cells ?_) | (guard_target = WG _ M_law_shape _ (.Name "groups" _) _ _ _; refine wg_name 4 t_law_shape_groups ?_) | (guard_target = WG _ M_law_shape _ (.Name "added" _) _ _ _; refine wg_name 5 t_law_shape_added ?_) | (guard_target = WG _ M_law_shape _ (.Name "cell" _) _ _ _; refine wg_name 6 t_law_shape_cell ?_) | refine wg_tup rfl ?_)
  | (guard_target = WH _ _ _ _ _ _ _; first | refine wh_cons ?_ | refine wh_nil ?_)
  | (guard_target = WV _ _ _ _ _ _ _ _; first | (guard_target = WV _ (blkNm M_law_shape _ kd_law_shape_0 gl_law_shape_0) _ _ (.Name "group" _) _ _ _; refine wv_name 7 (t_law_shape_0_group _) (by decide) ?_) | refine wv_tup rfl ?_)
  | (guard_target = WVs _ _ _ _ _ _ _ _; first | refine wvs_cons ?_ | refine wvs_nil ?_)
  | walk_at "dw_d"
  | fail)
set_option hygiene false in
local macro_rules | `(tactic| walk_at "st_law_numbers") => `(tactic| first
  | (guard_target = WB _ _ _ _ _ _; first | (guard_target = WB _ _ _ (.Name _ _) _ _; first | refine wb_of ?_) | refine wb_of ?_)
  | (guard_target = WE _ _ _ _ _ _; first
     | (guard_target = WE _ _ _ (.Name _ _) _ _; first | (guard_target = WE _ M_law_numbers _ (.Name "bag" _) _ _; refine we_var 0 r_law_numbers_bag rfl ?_) | (guard_target = WE _ M_law_numbers _ (.Name "many" _) _ _; refine we_var 1 r_law_numbers_many rfl ?_) | (guard_target = WE _ (blkNm M_law_numbers _ kd_law_numbers_0 gl_law_numbers_0) _ (.Name "bag" _) _ _; refine we_var 0 (r_law_numbers_0_bag _) rfl ?_) | (guard_target = WE _ (blkNm M_law_numbers _ kd_law_numbers_0 gl_law_numbers_0) _ (.Name "turn" _) _ _; refine we_var 2 (r_law_numbers_0_turn _) rfl ?_))
     | (guard_target = WE _ _ _ (.Constant _ _ _) _ _; first | refine we_int ?_ | refine we_str ?_ | refine we_bool ?_ | refine we_none ?_)
     | (guard_target = WE _ _ _ (.Subscript _ _ _) _ _; first | (guard_target = WE _ M_law_numbers _ (.Subscript (.Name "bag" _) (.Constant (.int 0) _ _) _) _ _; refine we_bag0 r_law_numbers_bag rfl hF fun n hn => ?_) | (guard_target = WE _ M_law_numbers _ (.Subscript (.Name "bag" _) (.Constant (.int 1) _ _) _) _ _; refine we_bag1 r_law_numbers_bag rfl hF fun n hn hn2 => ?_) | (guard_target = WE _ M_law_numbers _ (.Subscript (.Name "bag" _) (.Constant (.int 2) _ _) _) _ _; refine we_bag2 r_law_numbers_bag rfl hF fun n hn => ?_) | (guard_target = WE _ M_law_numbers _ (.Subscript (.Name "bag" _) (.Constant (.int 3) _ _) _) _ _; refine we_bag3 r_law_numbers_bag rfl hF fun ns hln hns => ?_) | (guard_target = WE _ (blkNm M_law_numbers _ kd_law_numbers_0 gl_law_numbers_0) _ (.Subscript (.Name "bag" _) (.Constant (.int 0) _ _) _) _ _; refine we_bag0 (r_law_numbers_0_bag _) rfl hF fun n hn => ?_) | (guard_target = WE _ (blkNm M_law_numbers _ kd_law_numbers_0 gl_law_numbers_0) _ (.Subscript (.Name "bag" _) (.Constant (.int 1) _ _) _) _ _; refine we_bag1 (r_law_numbers_0_bag _) rfl hF fun n hn hn2 => ?_) | (guard_target = WE _ (blkNm M_law_numbers _ kd_law_numbers_0 gl_law_numbers_0) _ (.Subscript (.Name "bag" _) (.Constant (.int 2) _ _) _) _ _; refine we_bag2 (r_law_numbers_0_bag _) rfl hF fun n hn => ?_) | (guard_target = WE _ (blkNm M_law_numbers _ kd_law_numbers_0 gl_law_numbers_0) _ (.Subscript (.Name "bag" _) (.Constant (.int 3) _ _) _) _ _; refine we_bag3 (r_law_numbers_0_bag _) rfl hF fun ns hln hns => ?_) | (guard_target = WE _ _ _ (.Subscript _ (.Slice none none (some _) _) _) _ _; refine we_revT ?_) | refine we_ix ?_ | refine we_slice ?_)
     | (guard_target = WE _ _ _ (.Call (.Name _ _) _ _ _) _ _; first | (guard_target = WE _ M_law_numbers _ (.Call (.Name "tuple" _) _ _ _) _ _; refine we_tup B.tuple g_law_numbers_tuple ?_) | (guard_target = WE _ (blkNm M_law_numbers _ kd_law_numbers_0 gl_law_numbers_0) _ (.Call (.Name "_law_some" _) _ _ _) _ _; refine we_bag f_law_some (g_law_numbers_0__law_some _) (by omega) (r_law_numbers_0_bag _) rfl hF ?_))
     | (guard_target = WE _ _ _ (.BinOp (.List _ _) .Mult _ _) _ _; refine we_fresh (wf_rep (wf_list ?_)))
     | (guard_target = WE _ _ _ (.BinOp _ _ _ _) _ _; first | refine we_add ?_ | refine we_sub ?_ | refine we_mul ?_ | refine we_mod ?_ | refine we_fdiv ?_ | refine we_pow ?_)
     | (guard_target = WE _ _ _ (.Compare _ _ _ _) _ _; first | refine we_eq ?_ | refine we_ne ?_ | refine we_lt ?_ | refine we_le ?_ | refine we_gt ?_ | refine we_ge ?_ | refine we_in ?_ | refine we_notin ?_)
     | walk_at "dw_we")
  | (guard_target = WT _ _ _ _ _ _; walk_at "dw_wt")
  | (guard_target = WL _ _ _ _ _ _; first | refine wl_cons ?_ | refine wl_nil ?_)
  | (guard_target = WW _ _ _ _ _ _; first | refine ww_and ?_ | refine ww_or ?_ | refine ww_and1 ?_ | refine ww_or1 ?_)
  | (guard_target = WO _ _ _ _ _ _; first | refine wo_none ?_ | refine wo_some ?_)
  | (guard_target = WF _ _ _ _ _ _; first | refine wf_list ?_ | refine wf_lc ?_ | refine wf_rep (wf_list ?_))
  | (guard_target = WS _ _ _ _ _ _; first | refine ws_cons ?_ | refine ws_nil ?_)
  | (guard_target = W1 _ _ _ _ _ _; first | walk_at "dw_1" | (guard_target = W1 _ _ _ (.Assign [(.Subscript (.Name "bag" _) (.Constant (.int 0) _ _) _)] _ _) _ _; refine w1_bag0 r_law_numbers_bag rfl hF ?_) | (guard_target = W1 _ _ _ (.Assign [(.Subscript (.Name "bag" _) (.Constant (.int 1) _ _) _)] _ _) _ _; refine w1_bag1 r_law_numbers_bag rfl hF ?_) | (guard_target = W1 _ _ _ (.AugAssign (.Subscript (.Name "bag" _) (.Constant (.int 2) _ _) _) _ _ _) _ _; refine w1_bag2 r_law_numbers_bag rfl hF ?_) | (guard_target = W1 _ _ _ (.Assign [.Tuple _ _ _] _ _) _ _; refine w1_asg ?_))
  | (guard_target = WJ _ _ _ _ _ _ _; first | refine wj_of ?_)
  | (guard_target = WI _ _ _ _ _ _ _; first | refine wi_range B.range g_law_numbers_range ?_ | refine wi_range2 B.range g_law_numbers_range ?_ | refine wi_seq ?_)
  | (guard_target = WG _ _ _ _ _ _ _; first | refine wg_tup rfl ?_)
  | (guard_target = WH _ _ _ _ _ _ _; first | refine wh_cons ?_ | refine wh_nil ?_)
  | (guard_target = WV _ _ _ _ _ _ _ _; first | (guard_target = WV _ (blkNm M_law_numbers _ kd_law_numbers_0 gl_law_numbers_0) _ _ (.Name "turn" _) _ _ _; refine wv_name 2 (t_law_numbers_0_turn _) (by decide) ?_) | refine wv_tup rfl ?_)
  | (guard_target = WVs _ _ _ _ _ _ _ _; first | refine wvs_cons ?_ | refine wvs_nil ?_)
  | walk_at "dw_d"
  | fail)
set_option hygiene false in
local macro_rules | `(tactic| walk_at "st_law_scheme") => `(tactic| first
  | (guard_target = WB _ _ _ _ _ _; first | (guard_target = WB _ _ _ (.Name _ _) _ _; first | (guard_target = WB _ M_law_scheme _ (.Name "rules" _) _ _; first | refine wb_mu 8 r_law_scheme_rules rfl ?_ | refine wb_of ?_) | refine wb_of ?_) | refine wb_of ?_)
  | (guard_target = WE _ _ _ _ _ _; first
     | (guard_target = WE _ _ _ (.Name _ _) _ _; first | (guard_target = WE _ M_law_scheme _ (.Name "bag" _) _ _; refine we_var 0 r_law_scheme_bag rfl ?_) | (guard_target = WE _ M_law_scheme _ (.Name "head_cells" _) _ _; refine we_var 1 r_law_scheme_head_cells rfl ?_) | (guard_target = WE _ M_law_scheme _ (.Name "row_cells" _) _ _; refine we_var 2 r_law_scheme_row_cells rfl ?_) | (guard_target = WE _ M_law_scheme _ (.Name "most" _) _ _; refine we_var 3 r_law_scheme_most rfl ?_) | (guard_target = WE _ M_law_scheme _ (.Name "head" _) _ _; refine we_var 4 r_law_scheme_head rfl ?_) | (guard_target = WE _ M_law_scheme _ (.Name "row" _) _ _; refine we_var 5 r_law_scheme_row rfl ?_) | (guard_target = WE _ M_law_scheme _ (.Name "heads" _) _ _; refine we_var 6 r_law_scheme_heads rfl ?_) | (guard_target = WE _ M_law_scheme _ (.Name "rows" _) _ _; refine we_var 7 r_law_scheme_rows rfl ?_) | (guard_target = WE _ M_law_scheme _ (.Name "rules" _) _ _; refine we_var 8 r_law_scheme_rules rfl ?_) | (guard_target = WE _ M_law_scheme _ (.Name "turn" _) _ _; refine we_var 9 r_law_scheme_turn rfl ?_) | (guard_target = WE _ M_law_scheme _ (.Name "way" _) _ _; refine we_var 10 r_law_scheme_way rfl ?_) | (guard_target = WE _ M_law_scheme _ (.Name "sign" _) _ _; refine we_var 11 r_law_scheme_sign rfl ?_) | (guard_target = WE _ M_law_scheme _ (.Name "bound" _) _ _; refine we_var 12 r_law_scheme_bound rfl ?_))
     | (guard_target = WE _ _ _ (.Constant _ _ _) _ _; first | refine we_int ?_ | refine we_str ?_ | refine we_bool ?_ | refine we_none ?_)
     | (guard_target = WE _ _ _ (.Subscript _ _ _) _ _; first | (guard_target = WE _ M_law_scheme _ (.Subscript (.Name "bag" _) (.Constant (.int 0) _ _) _) _ _; refine we_bag0 r_law_scheme_bag rfl hF fun n hn => ?_) | (guard_target = WE _ M_law_scheme _ (.Subscript (.Name "bag" _) (.Constant (.int 1) _ _) _) _ _; refine we_bag1 r_law_scheme_bag rfl hF fun n hn hn2 => ?_) | (guard_target = WE _ M_law_scheme _ (.Subscript (.Name "bag" _) (.Constant (.int 2) _ _) _) _ _; refine we_bag2 r_law_scheme_bag rfl hF fun n hn => ?_) | (guard_target = WE _ M_law_scheme _ (.Subscript (.Name "bag" _) (.Constant (.int 3) _ _) _) _ _; refine we_bag3 r_law_scheme_bag rfl hF fun ns hln hns => ?_) | (guard_target = WE _ _ _ (.Subscript _ (.Slice none none (some _) _) _) _ _; refine we_revT ?_) | refine we_ix ?_ | refine we_slice ?_)
     | (guard_target = WE _ _ _ (.Call (.Name _ _) _ _ _) _ _; first | (guard_target = WE _ M_law_scheme _ (.Call (.Name "_law_shape" _) _ _ _) _ _; refine we_bag f_law_shape g_law_scheme__law_shape (by omega) r_law_scheme_bag rfl hF ?_) | (guard_target = WE _ M_law_scheme _ (.Call (.Name "_law_take" _) _ _ _) _ _; refine we_bag f_law_take g_law_scheme__law_take (by omega) r_law_scheme_bag rfl hF ?_) | (guard_target = WE _ M_law_scheme _ (.Call (.Name "len" _) _ _ _) _ _; refine we_len B.len g_law_scheme_len ?_) | (guard_target = WE _ M_law_scheme _ (.Call (.Name "_law_some" _) _ _ _) _ _; refine we_bag f_law_some g_law_scheme__law_some (by omega) r_law_scheme_bag rfl hF ?_) | (guard_target = WE _ M_law_scheme _ (.Call (.Name "_law_numbers" _) _ _ _) _ _; refine we_bag f_law_numbers g_law_scheme__law_numbers (by omega) r_law_scheme_bag rfl hF ?_) | (guard_target = WE _ M_law_scheme _ (.Call (.Name "tuple" _) _ _ _) _ _; refine we_tup B.tuple g_law_scheme_tuple ?_))
     | (guard_target = WE _ _ _ (.BinOp (.List _ _) .Mult _ _) _ _; refine we_fresh (wf_rep (wf_list ?_)))
     | (guard_target = WE _ _ _ (.BinOp _ _ _ _) _ _; first | refine we_add ?_ | refine we_sub ?_ | refine we_mul ?_ | refine we_mod ?_ | refine we_fdiv ?_ | refine we_pow ?_)
     | (guard_target = WE _ _ _ (.Compare _ _ _ _) _ _; first | refine we_eq ?_ | refine we_ne ?_ | refine we_lt ?_ | refine we_le ?_ | refine we_gt ?_ | refine we_ge ?_ | refine we_in ?_ | refine we_notin ?_)
     | walk_at "dw_we")
  | (guard_target = WT _ _ _ _ _ _; walk_at "dw_wt")
  | (guard_target = WL _ _ _ _ _ _; first | refine wl_cons ?_ | refine wl_nil ?_)
  | (guard_target = WW _ _ _ _ _ _; first | refine ww_and ?_ | refine ww_or ?_ | refine ww_and1 ?_ | refine ww_or1 ?_)
  | (guard_target = WO _ _ _ _ _ _; first | refine wo_none ?_ | refine wo_some ?_)
  | (guard_target = WF _ _ _ _ _ _; first | refine wf_list ?_ | refine wf_lc ?_ | refine wf_rep (wf_list ?_))
  | (guard_target = WS _ _ _ _ _ _; first | refine ws_cons ?_ | refine ws_nil ?_)
  | (guard_target = W1 _ _ _ _ _ _; first | walk_at "dw_1" | (guard_target = W1 _ _ _ (.Assign [.Tuple [.Name "heads" _, .Name "rows" _, .Name "rules" _] _ _] (.Tuple _ _ _) _) _ _; refine w1_par3IIO 6 7 8 l_law_scheme_heads l_law_scheme_rows l_law_scheme_rules (by decide) (by decide) (by decide) ?_) | (guard_target = W1 _ _ _ (.Assign [.Tuple [.Name "way" _, .Name "sign" _] _ _] (.Tuple _ _ _) _) _ _; refine w1_par 10 11 l_law_scheme_way l_law_scheme_sign (by decide) ?_) | (guard_target = W1 _ M_law_scheme _ (.Expr (.Call (.Attribute (.Name "rules" _) "append" _) _ _ _) _) _ _; refine w1_append 8 r_law_scheme_rules rfl ?_) | (guard_target = W1 _ _ _ (.Assign [(.Subscript (.Name "bag" _) (.Constant (.int 0) _ _) _)] _ _) _ _; refine w1_bag0 r_law_scheme_bag rfl hF ?_) | (guard_target = W1 _ _ _ (.Assign [(.Subscript (.Name "bag" _) (.Constant (.int 1) _ _) _)] _ _) _ _; refine w1_bag1 r_law_scheme_bag rfl hF ?_) | (guard_target = W1 _ _ _ (.AugAssign (.Subscript (.Name "bag" _) (.Constant (.int 2) _ _) _) _ _ _) _ _; refine w1_bag2 r_law_scheme_bag rfl hF ?_) | ((first | (guard_target = W1 _ _ _ (.Assign [.Name _ _] (.Call _ _ _ _) _) _ _) | (guard_target = W1 _ _ _ (.Assign [.Name _ _] (.BinOp _ _ _ _) _) _ _) | (guard_target = W1 _ _ _ (.Assign [.Name _ _] (.Name _ _) _) _ _) | (guard_target = W1 _ _ _ (.Assign [.Name _ _] (.Subscript _ _ _) _) _ _) | (guard_target = W1 _ _ _ (.Assign [.Name _ _] (.Constant _ _ _) _) _ _) | (guard_target = W1 _ _ _ (.Assign [.Name _ _] (.Compare _ _ _ _) _) _ _) | (guard_target = W1 _ _ _ (.Assign [.Name _ _] (.BoolOp _ _ _) _) _ _) | (guard_target = W1 _ _ _ (.Assign [.Name _ _] (.IfExp _ _ _ _) _) _ _) | (guard_target = W1 _ _ _ (.Assign [.Name _ _] (.Tuple _ _ _) _) _ _) | (guard_target = W1 _ _ _ (.Assign [.Name _ _] (.UnaryOp _ _ _) _) _ _)); first | (guard_target = W1 _ M_law_scheme _ (.Assign [(.Name "head" _)] _ _) _ _; refine w1_set 4 t_law_scheme_head ?_) | (guard_target = W1 _ M_law_scheme _ (.Assign [(.Name "row" _)] _ _) _ _; refine w1_set 5 t_law_scheme_row ?_) | (guard_target = W1 _ M_law_scheme _ (.Assign [(.Name "bound" _)] _ _) _ _; refine w1_set 12 t_law_scheme_bound ?_)) | (guard_target = W1 _ _ _ (.Assign [.Tuple _ _ _] _ _) _ _; refine w1_asg ?_))
  | (guard_target = WJ _ _ _ _ _ _ _; first | (guard_target = WJ _ M_law_scheme _ _ (.Name "rules" _) _ _; first | refine wj_mu 8 r_law_scheme_rules rfl ?_ | refine wj_of ?_) | refine wj_of ?_)
  | (guard_target = WI _ _ _ _ _ _ _; first | refine wi_range B.range g_law_scheme_range ?_ | refine wi_range2 B.range g_law_scheme_range ?_ | refine wi_seq ?_)
  | (guard_target = WG _ _ _ _ _ _ _; first | (guard_target = WG _ M_law_scheme _ (.Name "heads" _) _ _ _; refine wg_name 6 t_law_scheme_heads ?_) | (guard_target = WG _ M_law_scheme _ (.Name "rows" _) _ _ _; refine wg_name 7 t_law_scheme_rows ?_) | (guard_target = WG _ M_law_scheme _ (.Name "rules" _) _ _ _; refine wg_name 8 t_law_scheme_rules ?_) | (guard_target = WG _ M_law_scheme _ (.Name "turn" _) _ _ _; refine wg_name 9 t_law_scheme_turn ?_) | (guard_target = WG _ M_law_scheme _ (.Name "way" _) _ _ _; refine wg_name 10 t_law_scheme_way ?_) | (guard_target = WG _ M_law_scheme _ (.Name "sign" _) _ _ _; refine wg_name 11 t_law_scheme_sign ?_) | refine wg_tup rfl ?_)
  | (guard_target = WH _ _ _ _ _ _ _; first | refine wh_cons ?_ | refine wh_nil ?_)
  | (guard_target = WV _ _ _ _ _ _ _ _; first | refine wv_tup rfl ?_)
  | (guard_target = WVs _ _ _ _ _ _ _ _; first | refine wvs_cons ?_ | refine wvs_nil ?_)
  | walk_at "dw_d"
  | fail)
set_option hygiene false in
local macro_rules | `(tactic| walk_at "st_law_table_cells") => `(tactic| first
  | (guard_target = WB _ _ _ _ _ _; first | (guard_target = WB _ _ _ (.Name _ _) _ _; first | refine wb_of ?_) | refine wb_of ?_)
  | (guard_target = WE _ _ _ _ _ _; first
     | (guard_target = WE _ _ _ (.Name _ _) _ _; first | (guard_target = WE _ M_law_table_cells _ (.Name "bag" _) _ _; refine we_var 0 r_law_table_cells_bag rfl ?_) | (guard_target = WE _ M_law_table_cells _ (.Name "many" _) _ _; refine we_var 1 r_law_table_cells_many rfl ?_))
     | (guard_target = WE _ _ _ (.Constant _ _ _) _ _; first | refine we_int ?_ | refine we_str ?_ | refine we_bool ?_ | refine we_none ?_)
     | (guard_target = WE _ _ _ (.Subscript _ _ _) _ _; first | (guard_target = WE _ M_law_table_cells _ (.Subscript (.Name "bag" _) (.Constant (.int 0) _ _) _) _ _; refine we_bag0 r_law_table_cells_bag rfl hF fun n hn => ?_) | (guard_target = WE _ M_law_table_cells _ (.Subscript (.Name "bag" _) (.Constant (.int 1) _ _) _) _ _; refine we_bag1 r_law_table_cells_bag rfl hF fun n hn hn2 => ?_) | (guard_target = WE _ M_law_table_cells _ (.Subscript (.Name "bag" _) (.Constant (.int 2) _ _) _) _ _; refine we_bag2 r_law_table_cells_bag rfl hF fun n hn => ?_) | (guard_target = WE _ M_law_table_cells _ (.Subscript (.Name "bag" _) (.Constant (.int 3) _ _) _) _ _; refine we_bag3 r_law_table_cells_bag rfl hF fun ns hln hns => ?_) | (guard_target = WE _ _ _ (.Subscript _ (.Slice none none (some _) _) _) _ _; refine we_revT ?_) | refine we_ix ?_ | refine we_slice ?_)
     | (guard_target = WE _ _ _ (.Call (.Name _ _) _ _ _) _ _; first | (guard_target = WE _ M_law_table_cells _ (.Call (.Name "_law_stand" _) _ _ _) _ _; refine we_bag f_law_stand g_law_table_cells__law_stand (by omega) r_law_table_cells_bag rfl hF ?_))
     | (guard_target = WE _ _ _ (.BinOp (.List _ _) .Mult _ _) _ _; refine we_fresh (wf_rep (wf_list ?_)))
     | (guard_target = WE _ _ _ (.BinOp _ _ _ _) _ _; first | refine we_add ?_ | refine we_sub ?_ | refine we_mul ?_ | refine we_mod ?_ | refine we_fdiv ?_ | refine we_pow ?_)
     | (guard_target = WE _ _ _ (.Compare _ _ _ _) _ _; first | refine we_eq ?_ | refine we_ne ?_ | refine we_lt ?_ | refine we_le ?_ | refine we_gt ?_ | refine we_ge ?_ | refine we_in ?_ | refine we_notin ?_)
     | walk_at "dw_we")
  | (guard_target = WT _ _ _ _ _ _; walk_at "dw_wt")
  | (guard_target = WL _ _ _ _ _ _; first | refine wl_cons ?_ | refine wl_nil ?_)
  | (guard_target = WW _ _ _ _ _ _; first | refine ww_and ?_ | refine ww_or ?_ | refine ww_and1 ?_ | refine ww_or1 ?_)
  | (guard_target = WO _ _ _ _ _ _; first | refine wo_none ?_ | refine wo_some ?_)
  | (guard_target = WF _ _ _ _ _ _; first | refine wf_list ?_ | refine wf_lc ?_ | refine wf_rep (wf_list ?_))
  | (guard_target = WS _ _ _ _ _ _; first | refine ws_cons ?_ | refine ws_nil ?_)
  | (guard_target = W1 _ _ _ _ _ _; first | walk_at "dw_1" | (guard_target = W1 _ _ _ (.Assign [(.Subscript (.Name "bag" _) (.Constant (.int 0) _ _) _)] _ _) _ _; refine w1_bag0 r_law_table_cells_bag rfl hF ?_) | (guard_target = W1 _ _ _ (.Assign [(.Subscript (.Name "bag" _) (.Constant (.int 1) _ _) _)] _ _) _ _; refine w1_bag1 r_law_table_cells_bag rfl hF ?_) | (guard_target = W1 _ _ _ (.AugAssign (.Subscript (.Name "bag" _) (.Constant (.int 2) _ _) _) _ _ _) _ _; refine w1_bag2 r_law_table_cells_bag rfl hF ?_) | (guard_target = W1 _ _ _ (.Assign [.Tuple _ _ _] _ _) _ _; refine w1_asg ?_))
  | (guard_target = WJ _ _ _ _ _ _ _; first | refine wj_of ?_)
  | (guard_target = WI _ _ _ _ _ _ _; first | refine wi_seq ?_)
  | (guard_target = WG _ _ _ _ _ _ _; first | refine wg_tup rfl ?_)
  | (guard_target = WH _ _ _ _ _ _ _; first | refine wh_cons ?_ | refine wh_nil ?_)
  | (guard_target = WV _ _ _ _ _ _ _ _; first | refine wv_tup rfl ?_)
  | (guard_target = WVs _ _ _ _ _ _ _ _; first | refine wvs_cons ?_ | refine wvs_nil ?_)
  | walk_at "dw_d"
  | fail)
set_option hygiene false in
local macro_rules | `(tactic| walk_at "st_law_any_table") => `(tactic| first
  | (guard_target = WB _ _ _ _ _ _; first | (guard_target = WB _ _ _ (.Name _ _) _ _; first | refine wb_of ?_) | refine wb_of ?_)
  | (guard_target = WE _ _ _ _ _ _; first
     | (guard_target = WE _ _ _ (.Name _ _) _ _; first | (guard_target = WE _ M_law_any_table _ (.Name "bag" _) _ _; refine we_var 0 r_law_any_table_bag rfl ?_) | (guard_target = WE _ M_law_any_table _ (.Name "scheme" _) _ _; refine we_var 1 r_law_any_table_scheme rfl ?_) | (guard_target = WE _ M_law_any_table _ (.Name "many" _) _ _; refine we_var 2 r_law_any_table_many rfl ?_) | (guard_target = WE _ M_law_any_table _ (.Name "rows" _) _ _; refine we_var 3 r_law_any_table_rows rfl ?_) | (guard_target = WE _ (blkNm M_law_any_table _ kd_law_any_table_0 gl_law_any_table_0) _ (.Name "bag" _) _ _; refine we_var 0 (r_law_any_table_0_bag _) rfl ?_) | (guard_target = WE _ (blkNm M_law_any_table _ kd_law_any_table_0 gl_law_any_table_0) _ (.Name "scheme" _) _ _; refine we_var 1 (r_law_any_table_0_scheme _) rfl ?_) | (guard_target = WE _ (blkNm M_law_any_table _ kd_law_any_table_0 gl_law_any_table_0) _ (.Name "turn" _) _ _; refine we_var 4 (r_law_any_table_0_turn _) rfl ?_))
     | (guard_target = WE _ _ _ (.Constant _ _ _) _ _; first | refine we_int ?_ | refine we_str ?_ | refine we_bool ?_ | refine we_none ?_)
     | (guard_target = WE _ _ _ (.Subscript _ _ _) _ _; first | (guard_target = WE _ M_law_any_table _ (.Subscript (.Name "bag" _) (.Constant (.int 0) _ _) _) _ _; refine we_bag0 r_law_any_table_bag rfl hF fun n hn => ?_) | (guard_target = WE _ M_law_any_table _ (.Subscript (.Name "bag" _) (.Constant (.int 1) _ _) _) _ _; refine we_bag1 r_law_any_table_bag rfl hF fun n hn hn2 => ?_) | (guard_target = WE _ M_law_any_table _ (.Subscript (.Name "bag" _) (.Constant (.int 2) _ _) _) _ _; refine we_bag2 r_law_any_table_bag rfl hF fun n hn => ?_) | (guard_target = WE _ M_law_any_table _ (.Subscript (.Name "bag" _) (.Constant (.int 3) _ _) _) _ _; refine we_bag3 r_law_any_table_bag rfl hF fun ns hln hns => ?_) | (guard_target = WE _ (blkNm M_law_any_table _ kd_law_any_table_0 gl_law_any_table_0) _ (.Subscript (.Name "bag" _) (.Constant (.int 0) _ _) _) _ _; refine we_bag0 (r_law_any_table_0_bag _) rfl hF fun n hn => ?_) | (guard_target = WE _ (blkNm M_law_any_table _ kd_law_any_table_0 gl_law_any_table_0) _ (.Subscript (.Name "bag" _) (.Constant (.int 1) _ _) _) _ _; refine we_bag1 (r_law_any_table_0_bag _) rfl hF fun n hn hn2 => ?_) | (guard_target = WE _ (blkNm M_law_any_table _ kd_law_any_table_0 gl_law_any_table_0) _ (.Subscript (.Name "bag" _) (.Constant (.int 2) _ _) _) _ _; refine we_bag2 (r_law_any_table_0_bag _) rfl hF fun n hn => ?_) | (guard_target = WE _ (blkNm M_law_any_table _ kd_law_any_table_0 gl_law_any_table_0) _ (.Subscript (.Name "bag" _) (.Constant (.int 3) _ _) _) _ _; refine we_bag3 (r_law_any_table_0_bag _) rfl hF fun ns hln hns => ?_) | (guard_target = WE _ _ _ (.Subscript _ (.Slice none none (some _) _) _) _ _; refine we_revT ?_) | refine we_ix ?_ | refine we_slice ?_)
     | (guard_target = WE _ _ _ (.Call (.Name _ _) _ _ _) _ _; first | (guard_target = WE _ M_law_any_table _ (.Call (.Name "tuple" _) _ _ _) _ _; refine we_tup B.tuple g_law_any_table_tuple ?_) | (guard_target = WE _ M_law_any_table _ (.Call (.Name "_law_table_cells" _) _ _ _) _ _; refine we_bag f_law_table_cells g_law_any_table__law_table_cells (by omega) r_law_any_table_bag rfl hF ?_) | (guard_target = WE _ M_law_any_table _ (.Call (.Name "len" _) _ _ _) _ _; refine we_len B.len g_law_any_table_len ?_) | (guard_target = WE _ (blkNm M_law_any_table _ kd_law_any_table_0 gl_law_any_table_0) _ (.Call (.Name "_law_table_cells" _) _ _ _) _ _; refine we_bag f_law_table_cells (g_law_any_table_0__law_table_cells _) (by omega) (r_law_any_table_0_bag _) rfl hF ?_) | (guard_target = WE _ (blkNm M_law_any_table _ kd_law_any_table_0 gl_law_any_table_0) _ (.Call (.Name "len" _) _ _ _) _ _; refine we_len B.len (g_law_any_table_0_len _) ?_))
     | (guard_target = WE _ _ _ (.BinOp (.List _ _) .Mult _ _) _ _; refine we_fresh (wf_rep (wf_list ?_)))
     | (guard_target = WE _ _ _ (.BinOp _ _ _ _) _ _; first | refine we_add ?_ | refine we_sub ?_ | refine we_mul ?_ | refine we_mod ?_ | refine we_fdiv ?_ | refine we_pow ?_)
     | (guard_target = WE _ _ _ (.Compare _ _ _ _) _ _; first | refine we_eq ?_ | refine we_ne ?_ | refine we_lt ?_ | refine we_le ?_ | refine we_gt ?_ | refine we_ge ?_ | refine we_in ?_ | refine we_notin ?_)
     | walk_at "dw_we")
  | (guard_target = WT _ _ _ _ _ _; walk_at "dw_wt")
  | (guard_target = WL _ _ _ _ _ _; first | refine wl_cons ?_ | refine wl_nil ?_)
  | (guard_target = WW _ _ _ _ _ _; first | refine ww_and ?_ | refine ww_or ?_ | refine ww_and1 ?_ | refine ww_or1 ?_)
  | (guard_target = WO _ _ _ _ _ _; first | refine wo_none ?_ | refine wo_some ?_)
  | (guard_target = WF _ _ _ _ _ _; first | refine wf_list ?_ | refine wf_lc ?_ | refine wf_rep (wf_list ?_))
  | (guard_target = WS _ _ _ _ _ _; first | refine ws_cons ?_ | refine ws_nil ?_)
  | (guard_target = W1 _ _ _ _ _ _; first | walk_at "dw_1" | (guard_target = W1 _ _ _ (.Assign [(.Subscript (.Name "bag" _) (.Constant (.int 0) _ _) _)] _ _) _ _; refine w1_bag0 r_law_any_table_bag rfl hF ?_) | (guard_target = W1 _ _ _ (.Assign [(.Subscript (.Name "bag" _) (.Constant (.int 1) _ _) _)] _ _) _ _; refine w1_bag1 r_law_any_table_bag rfl hF ?_) | (guard_target = W1 _ _ _ (.AugAssign (.Subscript (.Name "bag" _) (.Constant (.int 2) _ _) _) _ _ _) _ _; refine w1_bag2 r_law_any_table_bag rfl hF ?_) | ((first | (guard_target = W1 _ _ _ (.Assign [.Name _ _] (.Call _ _ _ _) _) _ _) | (guard_target = W1 _ _ _ (.Assign [.Name _ _] (.BinOp _ _ _ _) _) _ _) | (guard_target = W1 _ _ _ (.Assign [.Name _ _] (.Name _ _) _) _ _) | (guard_target = W1 _ _ _ (.Assign [.Name _ _] (.Subscript _ _ _) _) _ _) | (guard_target = W1 _ _ _ (.Assign [.Name _ _] (.Constant _ _ _) _) _ _) | (guard_target = W1 _ _ _ (.Assign [.Name _ _] (.Compare _ _ _ _) _) _ _) | (guard_target = W1 _ _ _ (.Assign [.Name _ _] (.BoolOp _ _ _) _) _ _) | (guard_target = W1 _ _ _ (.Assign [.Name _ _] (.IfExp _ _ _ _) _) _ _) | (guard_target = W1 _ _ _ (.Assign [.Name _ _] (.Tuple _ _ _) _) _ _) | (guard_target = W1 _ _ _ (.Assign [.Name _ _] (.UnaryOp _ _ _) _) _ _)); first | (guard_target = W1 _ M_law_any_table _ (.Assign [(.Name "rows" _)] _ _) _ _; refine w1_set 3 t_law_any_table_rows ?_)) | (guard_target = W1 _ _ _ (.Assign [.Tuple _ _ _] _ _) _ _; refine w1_asg ?_))
  | (guard_target = WJ _ _ _ _ _ _ _; first | refine wj_of ?_)
  | (guard_target = WI _ _ _ _ _ _ _; first | refine wi_range B.range g_law_any_table_range ?_ | refine wi_range2 B.range g_law_any_table_range ?_ | refine wi_seq ?_)
  | (guard_target = WG _ _ _ _ _ _ _; first | refine wg_tup rfl ?_)
  | (guard_target = WH _ _ _ _ _ _ _; first | refine wh_cons ?_ | refine wh_nil ?_)
  | (guard_target = WV _ _ _ _ _ _ _ _; first | (guard_target = WV _ (blkNm M_law_any_table _ kd_law_any_table_0 gl_law_any_table_0) _ _ (.Name "turn" _) _ _ _; refine wv_name 4 (t_law_any_table_0_turn _) (by decide) ?_) | refine wv_tup rfl ?_)
  | (guard_target = WVs _ _ _ _ _ _ _ _; first | refine wvs_cons ?_ | refine wvs_nil ?_)
  | walk_at "dw_d"
  | fail)
set_option hygiene false in
local macro_rules | `(tactic| walk_at "st_law_is_table") => `(tactic| first
  | (guard_target = WB _ _ _ _ _ _; first | (guard_target = WB _ _ _ (.Name _ _) _ _; first | refine wb_of ?_) | refine wb_of ?_)
  | (guard_target = WE _ _ _ _ _ _; first
     | (guard_target = WE _ _ _ (.Name _ _) _ _; first | (guard_target = WE _ M_law_is_table _ (.Name "scheme" _) _ _; refine we_var 0 r_law_is_table_scheme rfl ?_) | (guard_target = WE _ M_law_is_table _ (.Name "thing" _) _ _; refine we_var 1 r_law_is_table_thing rfl ?_) | (guard_target = WE _ (blkNm M_law_is_table _ kd_law_is_table_0 gl_law_is_table_0) _ (.Name "scheme" _) _ _; refine we_var 0 (r_law_is_table_0_scheme _) rfl ?_) | (guard_target = WE _ (blkNm M_law_is_table _ kd_law_is_table_0 gl_law_is_table_0) _ (.Name "row" _) _ _; refine we_var 2 (r_law_is_table_0_row _) rfl ?_))
     | (guard_target = WE _ _ _ (.Constant _ _ _) _ _; first | refine we_int ?_ | refine we_str ?_ | refine we_bool ?_ | refine we_none ?_)
     | (guard_target = WE _ _ _ (.Subscript _ _ _) _ _; first | (guard_target = WE _ _ _ (.Subscript _ (.Slice none none (some _) _) _) _ _; refine we_revT ?_) | refine we_ix ?_ | refine we_slice ?_)
     | (guard_target = WE _ _ _ (.Call (.Name _ _) _ _ _) _ _; first | (guard_target = WE _ M_law_is_table _ (.Call (.Name "isinstance" _) [_, .Name "tuple" _] _ _) _ _; refine we_isi (T := "tuple") B.isinstance g_law_is_table_isinstance B.tuple g_law_is_table_tuple ?_) | (guard_target = WE _ M_law_is_table _ (.Call (.Name "tuple" _) _ _ _) _ _; refine we_tup B.tuple g_law_is_table_tuple ?_) | (guard_target = WE _ M_law_is_table _ (.Call (.Name "len" _) _ _ _) _ _; refine we_len B.len g_law_is_table_len ?_) | (guard_target = WE _ M_law_is_table _ (.Call (.Name "_law_is_vector" _) _ _ _) _ _; first | refine we_call f_law_is_vector g_law_is_table__law_is_vector (by omega) ?_ | refine we_call0 f_law_is_vector g_law_is_table__law_is_vector (by omega) ?_) | (guard_target = WE _ (blkNm M_law_is_table _ kd_law_is_table_0 gl_law_is_table_0) _ (.Call (.Name "_law_is_vector" _) _ _ _) _ _; first | refine we_call f_law_is_vector (g_law_is_table_0__law_is_vector _) (by omega) ?_ | refine we_call0 f_law_is_vector (g_law_is_table_0__law_is_vector _) (by omega) ?_) | (guard_target = WE _ (blkNm M_law_is_table _ kd_law_is_table_0 gl_law_is_table_0) _ (.Call (.Name "len" _) _ _ _) _ _; refine we_len B.len (g_law_is_table_0_len _) ?_))
     | (guard_target = WE _ _ _ (.BinOp (.List _ _) .Mult _ _) _ _; refine we_fresh (wf_rep (wf_list ?_)))
     | (guard_target = WE _ _ _ (.BinOp _ _ _ _) _ _; first | refine we_add ?_ | refine we_sub ?_ | refine we_mul ?_ | refine we_mod ?_ | refine we_fdiv ?_ | refine we_pow ?_)
     | (guard_target = WE _ _ _ (.Compare _ _ _ _) _ _; first | refine we_eq ?_ | refine we_ne ?_ | refine we_lt ?_ | refine we_le ?_ | refine we_gt ?_ | refine we_ge ?_ | refine we_in ?_ | refine we_notin ?_)
     | walk_at "dw_we")
  | (guard_target = WT _ _ _ _ _ _; walk_at "dw_wt")
  | (guard_target = WL _ _ _ _ _ _; first | refine wl_cons ?_ | refine wl_nil ?_)
  | (guard_target = WW _ _ _ _ _ _; first | refine ww_and ?_ | refine ww_or ?_ | refine ww_and1 ?_ | refine ww_or1 ?_)
  | (guard_target = WO _ _ _ _ _ _; first | refine wo_none ?_ | refine wo_some ?_)
  | (guard_target = WF _ _ _ _ _ _; first | refine wf_list ?_ | refine wf_lc ?_ | refine wf_rep (wf_list ?_))
  | (guard_target = WS _ _ _ _ _ _; first | refine ws_cons ?_ | refine ws_nil ?_)
  | (guard_target = W1 _ _ _ _ _ _; first | walk_at "dw_1" | (guard_target = W1 _ _ _ (.Assign [.Tuple _ _ _] _ _) _ _; refine w1_asg ?_))
  | (guard_target = WJ _ _ _ _ _ _ _; first | refine wj_of ?_)
  | (guard_target = WI _ _ _ _ _ _ _; first | refine wi_seq ?_)
  | (guard_target = WG _ _ _ _ _ _ _; first | refine wg_tup rfl ?_)
  | (guard_target = WH _ _ _ _ _ _ _; first | refine wh_cons ?_ | refine wh_nil ?_)
  | (guard_target = WV _ _ _ _ _ _ _ _; first | (guard_target = WV _ (blkNm M_law_is_table _ kd_law_is_table_0 gl_law_is_table_0) _ _ (.Name "row" _) _ _ _; refine wv_name 2 (t_law_is_table_0_row _) (by decide) ?_) | refine wv_tup rfl ?_)
  | (guard_target = WVs _ _ _ _ _ _ _ _; first | refine wvs_cons ?_ | refine wvs_nil ?_)
  | walk_at "dw_d"
  | fail)
set_option hygiene false in
local macro_rules | `(tactic| walk_at "st_law_is_name") => `(tactic| first
  | (guard_target = WB _ _ _ _ _ _; first | (guard_target = WB _ _ _ (.Name _ _) _ _; first | refine wb_of ?_) | refine wb_of ?_)
  | (guard_target = WE _ _ _ _ _ _; first
     | (guard_target = WE _ _ _ (.Name _ _) _ _; first | (guard_target = WE _ M_law_is_name _ (.Name "thing" _) _ _; refine we_var 0 r_law_is_name_thing rfl ?_) | (guard_target = WE _ (blkNm M_law_is_name _ kd_law_is_name_0 gl_law_is_name_0) _ (.Name "sign" _) _ _; refine we_var 1 (r_law_is_name_0_sign _) rfl ?_))
     | (guard_target = WE _ _ _ (.Constant _ _ _) _ _; first | refine we_int ?_ | refine we_str ?_ | refine we_bool ?_ | refine we_none ?_)
     | (guard_target = WE _ _ _ (.Subscript _ _ _) _ _; first | (guard_target = WE _ _ _ (.Subscript _ (.Slice none none (some _) _) _) _ _; refine we_revT ?_) | refine we_ix ?_ | refine we_slice ?_)
     | (guard_target = WE _ _ _ (.Call (.Name _ _) _ _ _) _ _; first | (guard_target = WE _ M_law_is_name _ (.Call (.Name "isinstance" _) [_, .Name "str" _] _ _) _ _; refine we_isi (T := "str") B.isinstance g_law_is_name_isinstance B.str g_law_is_name_str ?_) | (guard_target = WE _ M_law_is_name _ (.Call (.Name "str" _) _ _ _) _ _; refine we_strI B.str g_law_is_name_str ?_) | (guard_target = WE _ M_law_is_name _ (.Call (.Name "len" _) _ _ _) _ _; refine we_len B.len g_law_is_name_len ?_))
     | (guard_target = WE _ _ _ (.BinOp (.List _ _) .Mult _ _) _ _; refine we_fresh (wf_rep (wf_list ?_)))
     | (guard_target = WE _ _ _ (.BinOp _ _ _ _) _ _; first | refine we_add ?_ | refine we_sub ?_ | refine we_mul ?_ | refine we_mod ?_ | refine we_fdiv ?_ | refine we_pow ?_)
     | (guard_target = WE _ _ _ (.Compare _ _ _ _) _ _; first | refine we_chainLe ?_ | refine we_eq ?_ | refine we_ne ?_ | refine we_lt ?_ | refine we_le ?_ | refine we_gt ?_ | refine we_ge ?_ | refine we_in ?_ | refine we_notin ?_)
     | walk_at "dw_we")
  | (guard_target = WT _ _ _ _ _ _; first | (guard_target = WT _ _ _ (.Compare _ [.NotIn] [.Constant (.str _) _ _] _) _ _; refine wt_notinS ?_) | refine wt_chainLe ?_ | walk_at "dw_wt")
  | (guard_target = WL _ _ _ _ _ _; first | refine wl_cons ?_ | refine wl_nil ?_)
  | (guard_target = WW _ _ _ _ _ _; first | refine ww_and ?_ | refine ww_or ?_ | refine ww_and1 ?_ | refine ww_or1 ?_)
  | (guard_target = WO _ _ _ _ _ _; first | refine wo_none ?_ | refine wo_some ?_)
  | (guard_target = WF _ _ _ _ _ _; first | refine wf_list ?_ | refine wf_lc ?_ | refine wf_rep (wf_list ?_))
  | (guard_target = WS _ _ _ _ _ _; first | refine ws_cons ?_ | refine ws_nil ?_)
  | (guard_target = W1 _ _ _ _ _ _; first | walk_at "dw_1" | (guard_target = W1 _ _ _ (.Assign [.Tuple _ _ _] _ _) _ _; refine w1_asg ?_))
  | (guard_target = WJ _ _ _ _ _ _ _; first | refine wj_of ?_)
  | (guard_target = WI _ _ _ _ _ _ _; first | refine wi_seq ?_)
  | (guard_target = WG _ _ _ _ _ _ _; first | refine wg_tup rfl ?_)
  | (guard_target = WH _ _ _ _ _ _ _; first | refine wh_cons ?_ | refine wh_nil ?_)
  | (guard_target = WV _ _ _ _ _ _ _ _; first | (guard_target = WV _ (blkNm M_law_is_name _ kd_law_is_name_0 gl_law_is_name_0) _ _ (.Name "sign" _) _ _ _; refine wv_name 1 (t_law_is_name_0_sign _) (by decide) ?_) | refine wv_tup rfl ?_)
  | (guard_target = WVs _ _ _ _ _ _ _ _; first | refine wvs_cons ?_ | refine wvs_nil ?_)
  | walk_at "dw_d"
  | fail)
set_option hygiene false in
local macro_rules | `(tactic| walk_at "st_law_is_shape") => `(tactic| first
  | (guard_target = WB _ _ _ _ _ _; first | (guard_target = WB _ _ _ (.Name _ _) _ _; first | (guard_target = WB _ M_law_is_shape _ (.Name "met" _) _ _; first | refine wb_mu 6 r_law_is_shape_met rfl ?_ | refine wb_of ?_) | refine wb_of ?_) | refine wb_of ?_)
  | (guard_target = WE _ _ _ _ _ _; first
     | (guard_target = WE _ _ _ (.Name _ _) _ _; first | (guard_target = WE _ M_law_is_shape _ (.Name "thing" _) _ _; refine we_var 0 r_law_is_shape_thing rfl ?_) | (guard_target = WE _ M_law_is_shape _ (.Name "least" _) _ _; refine we_var 1 r_law_is_shape_least rfl ?_) | (guard_target = WE _ M_law_is_shape _ (.Name "cells" _) _ _; refine we_var 2 r_law_is_shape_cells rfl ?_) | (guard_target = WE _ M_law_is_shape _ (.Name "groups" _) _ _; refine we_var 3 r_law_is_shape_groups rfl ?_) | (guard_target = WE _ M_law_is_shape _ (.Name "added" _) _ _; refine we_var 4 r_law_is_shape_added rfl ?_) | (guard_target = WE _ M_law_is_shape _ (.Name "group" _) _ _; refine we_var 5 r_law_is_shape_group rfl ?_) | (guard_target = WE _ M_law_is_shape _ (.Name "met" _) _ _; refine we_var 6 r_law_is_shape_met rfl ?_) | (guard_target = WE _ M_law_is_shape _ (.Name "places" _) _ _; refine we_var 7 r_law_is_shape_places rfl ?_) | (guard_target = WE _ M_law_is_shape _ (.Name "firsts" _) _ _; refine we_var 8 r_law_is_shape_firsts rfl ?_) | (guard_target = WE _ (blkNm M_law_is_shape _ kd_law_is_shape_0 gl_law_is_shape_0) _ (.Name "one" _) _ _; refine we_var 9 (r_law_is_shape_0_one _) rfl ?_) | (guard_target = WE _ (blkNm M_law_is_shape _ kd_law_is_shape_1 gl_law_is_shape_1) _ (.Name "one" _) _ _; refine we_var 9 (r_law_is_shape_1_one _) rfl ?_) | (guard_target = WE _ (blkNm M_law_is_shape _ kd_law_is_shape_2 gl_law_is_shape_2) _ (.Name "group" _) _ _; refine we_var 5 (r_law_is_shape_2_group _) rfl ?_) | (guard_target = WE _ (blkNm M_law_is_shape _ kd_law_is_shape_3 gl_law_is_shape_3) _ (.Name "cells" _) _ _; refine we_var 2 (r_law_is_shape_3_cells _) rfl ?_) | (guard_target = WE _ (blkNm M_law_is_shape _ kd_law_is_shape_3 gl_law_is_shape_3) _ (.Name "one" _) _ _; refine we_var 9 (r_law_is_shape_3_one _) rfl ?_) | (guard_target = WE _ (blkNm M_law_is_shape _ kd_law_is_shape_4 gl_law_is_shape_4) _ (.Name "cells" _) _ _; refine we_var 2 (r_law_is_shape_4_cells _) rfl ?_) | (guard_target = WE _ (blkNm M_law_is_shape _ kd_law_is_shape_4 gl_law_is_shape_4) _ (.Name "one" _) _ _; refine we_var 9 (r_law_is_shape_4_one _) rfl ?_) | (guard_target = WE _ (blkNm M_law_is_shape _ kd_law_is_shape_5 gl_law_is_shape_5) _ (.Name "cells" _) _ _; refine we_var 2 (r_law_is_shape_5_cells _) rfl ?_) | (guard_target = WE _ (blkNm M_law_is_shape _ kd_law_is_shape_5 gl_law_is_shape_5) _ (.Name "group" _) _ _; refine we_var 5 (r_law_is_shape_5_group _) rfl ?_))
     | (guard_target = WE _ _ _ (.Constant _ _ _) _ _; first | refine we_int ?_ | refine we_str ?_ | refine we_bool ?_ | refine we_none ?_)
     | (guard_target = WE _ _ _ (.Subscript _ _ _) _ _; first | (guard_target = WE _ _ _ (.Subscript _ (.Slice none none (some _) _) _) _ _; refine we_revT ?_) | refine we_ix ?_ | refine we_slice ?_)
     | (guard_target = WE _ _ _ (.Call (.Name _ _) _ _ _) _ _; first | (guard_target = WE _ M_law_is_shape _ (.Call (.Name "isinstance" _) [_, .Name "tuple" _] _ _) _ _; refine we_isi (T := "tuple") B.isinstance g_law_is_shape_isinstance B.tuple g_law_is_shape_tuple ?_) | (guard_target = WE _ M_law_is_shape _ (.Call (.Name "isinstance" _) [_, .Name "list" _] _ _) _ _; refine we_isi (T := "list") B.isinstance g_law_is_shape_isinstance B.list g_law_is_shape_list ?_) | (guard_target = WE _ M_law_is_shape _ (.Call (.Name "tuple" _) _ _ _) _ _; refine we_tup B.tuple g_law_is_shape_tuple ?_) | (guard_target = WE _ M_law_is_shape _ (.Call (.Name "len" _) [.Call (.Name "set" _) _ _ _] _ _) _ _; refine we_lenTxtG B.len g_law_is_shape_len B.set g_law_is_shape_set ?_) | (guard_target = WE _ M_law_is_shape _ (.Call (.Name "len" _) _ _ _) _ _; refine we_len B.len g_law_is_shape_len ?_) | (guard_target = WE _ M_law_is_shape _ (.Call (.Name "sorted" _) [.Call (.Name "set" _) _ _ _] _ _) _ _; refine we_sortSetL B.sorted g_law_is_shape_sorted B.set g_law_is_shape_set ?_) | (guard_target = WE _ M_law_is_shape _ (.Call (.Name "sorted" _) _ _ _) _ _; refine we_sortAny (by omega) B.sorted g_law_is_shape_sorted ?_) | (guard_target = WE _ M_law_is_shape _ (.Call (.Name "list" _) [.Call (.Name "range" _) _ _ _] _ _) _ _; refine we_lstRange B.list g_law_is_shape_list B.range g_law_is_shape_range ?_) | (guard_target = WE _ M_law_is_shape _ (.Call (.Name "list" _) _ _ _) _ _; refine we_lst B.list g_law_is_shape_list ?_) | (guard_target = WE _ (blkNm M_law_is_shape _ kd_law_is_shape_0 gl_law_is_shape_0) _ (.Call (.Name "isinstance" _) [_, .Name "tuple" _] _ _) _ _; refine we_isi (T := "tuple") B.isinstance (g_law_is_shape_0_isinstance _) B.tuple (g_law_is_shape_0_tuple _) ?_) | (guard_target = WE _ (blkNm M_law_is_shape _ kd_law_is_shape_0 gl_law_is_shape_0) _ (.Call (.Name "tuple" _) _ _ _) _ _; refine we_tup B.tuple (g_law_is_shape_0_tuple _) ?_) | (guard_target = WE _ (blkNm M_law_is_shape _ kd_law_is_shape_1 gl_law_is_shape_1) _ (.Call (.Name "_law_is_name" _) _ _ _) _ _; first | refine we_call f_law_is_name (g_law_is_shape_1__law_is_name _) (by omega) ?_ | refine we_call0 f_law_is_name (g_law_is_shape_1__law_is_name _) (by omega) ?_) | (guard_target = WE _ (blkNm M_law_is_shape _ kd_law_is_shape_2 gl_law_is_shape_2) _ (.Call (.Name "isinstance" _) [_, .Name "tuple" _] _ _) _ _; refine we_isi (T := "tuple") B.isinstance (g_law_is_shape_2_isinstance _) B.tuple (g_law_is_shape_2_tuple _) ?_) | (guard_target = WE _ (blkNm M_law_is_shape _ kd_law_is_shape_2 gl_law_is_shape_2) _ (.Call (.Name "tuple" _) _ _ _) _ _; refine we_tup B.tuple (g_law_is_shape_2_tuple _) ?_) | (guard_target = WE _ (blkNm M_law_is_shape _ kd_law_is_shape_3 gl_law_is_shape_3) _ (.Call (.Name "_law_is_name" _) _ _ _) _ _; first | refine we_call f_law_is_name (g_law_is_shape_3__law_is_name _) (by omega) ?_ | refine we_call0 f_law_is_name (g_law_is_shape_3__law_is_name _) (by omega) ?_))
     | (guard_target = WE _ _ _ (.Call (.Attribute _ "index" _) _ _ _) _ _; refine we_tidx B.kt ?_)
     | (guard_target = WE _ _ _ (.BinOp (.List _ _) .Mult _ _) _ _; refine we_fresh (wf_rep (wf_list ?_)))
     | (guard_target = WE _ _ _ (.BinOp _ _ _ _) _ _; first | refine we_add ?_ | refine we_sub ?_ | refine we_mul ?_ | refine we_mod ?_ | refine we_fdiv ?_ | refine we_pow ?_)
     | (guard_target = WE _ _ _ (.Compare _ _ _ _) _ _; first | (guard_target = WE _ _ _ (.Compare _ [.Eq] [.Tuple [] _ _] _) _ _; refine we_eqE ?_) | refine we_eq ?_ | refine we_ne ?_ | refine we_lt ?_ | refine we_le ?_ | refine we_gt ?_ | refine we_ge ?_ | refine we_in ?_ | refine we_notin ?_)
     | walk_at "dw_we")
  | (guard_target = WT _ _ _ _ _ _; first | (guard_target = WT _ _ _ (.Compare _ [.Eq] [.Tuple [] _ _] _) _ _; refine wt_eqE ?_) | walk_at "dw_wt")
  | (guard_target = WL _ _ _ _ _ _; first | refine wl_cons ?_ | refine wl_nil ?_)
  | (guard_target = WW _ _ _ _ _ _; first | refine ww_and ?_ | refine ww_or ?_ | refine ww_and1 ?_ | refine ww_or1 ?_)
  | (guard_target = WO _ _ _ _ _ _; first | refine wo_none ?_ | refine wo_some ?_)
  | (guard_target = WF _ _ _ _ _ _; first | refine wf_list ?_ | refine wf_lc ?_ | refine wf_rep (wf_list ?_))
  | (guard_target = WS _ _ _ _ _ _; first | refine ws_cons ?_ | refine ws_nil ?_)
  | (guard_target = W1 _ _ _ _ _ _; first | walk_at "dw_1" | (guard_target = W1 _ M_law_is_shape _ (.Expr (.Call (.Attribute (.Name "met" _) "extend" _) [.ListComp _ _ _ _] _ _) _) _ _; refine w1_extend 6 r_law_is_shape_met rfl ?_) | (guard_target = W1 _ M_law_is_shape _ (.Expr (.Call (.Attribute (.Name "met" _) "extend" _) [.List _ _] _ _) _) _ _; refine w1_extend 6 r_law_is_shape_met rfl ?_) | (guard_target = W1 _ M_law_is_shape _ (.Expr (.Call (.Attribute (.Name "met" _) "extend" _) _ _ _) _) _ _; refine w1_extendE 6 r_law_is_shape_met rfl ?_) | (guard_target = W1 _ M_law_is_shape _ (.Assign [(.Name "met" _)] (.List _ _) _) _ _; refine w1_own 6 t_law_is_shape_met (wf_list ?_)) | (guard_target = W1 _ M_law_is_shape _ (.Assign [(.Name "places" _)] (.ListComp _ _ _ _) _) _ _; refine w1_lc 7 l_law_is_shape_places ?_) | (guard_target = W1 _ M_law_is_shape _ (.Assign [(.Name "firsts" _)] (.ListComp _ _ _ _) _) _ _; refine w1_lc 8 l_law_is_shape_firsts ?_) | ((first | (guard_target = W1 _ _ _ (.Assign [.Name _ _] (.Call _ _ _ _) _) _ _) | (guard_target = W1 _ _ _ (.Assign [.Name _ _] (.BinOp _ _ _ _) _) _ _) | (guard_target = W1 _ _ _ (.Assign [.Name _ _] (.Name _ _) _) _ _) | (guard_target = W1 _ _ _ (.Assign [.Name _ _] (.Subscript _ _ _) _) _ _) | (guard_target = W1 _ _ _ (.Assign [.Name _ _] (.Constant _ _ _) _) _ _) | (guard_target = W1 _ _ _ (.Assign [.Name _ _] (.Compare _ _ _ _) _) _ _) | (guard_target = W1 _ _ _ (.Assign [.Name _ _] (.BoolOp _ _ _) _) _ _) | (guard_target = W1 _ _ _ (.Assign [.Name _ _] (.IfExp _ _ _ _) _) _ _) | (guard_target = W1 _ _ _ (.Assign [.Name _ _] (.Tuple _ _ _) _) _ _) | (guard_target = W1 _ _ _ (.Assign [.Name _ _] (.UnaryOp _ _ _) _) _ _)); first | (guard_target = W1 _ M_law_is_shape _ (.Assign [(.Name "met" _)] _ _) _ _; refine w1_set 6 t_law_is_shape_met ?_) | (guard_target = W1 _ M_law_is_shape _ (.Assign [(.Name "places" _)] _ _) _ _; refine w1_set 7 t_law_is_shape_places ?_) | (guard_target = W1 _ M_law_is_shape _ (.Assign [(.Name "firsts" _)] _ _) _ _; refine w1_set 8 t_law_is_shape_firsts ?_)) | (guard_target = W1 _ _ _ (.Assign [.Tuple _ _ _] _ _) _ _; refine w1_asg ?_))
  | (guard_target = WJ _ _ _ _ _ _ _; first | (guard_target = WJ _ M_law_is_shape _ _ (.Name "met" _) _ _; first | refine wj_mu 6 r_law_is_shape_met rfl ?_ | refine wj_of ?_) | refine wj_of ?_)
  | (guard_target = WI _ _ _ _ _ _ _; first | refine wi_range B.range g_law_is_shape_range ?_ | refine wi_range2 B.range g_law_is_shape_range ?_ | refine wi_seq ?_)
  | (guard_target = WG _ _ _ _ _ _ _; first | (guard_target = WG _ M_law_is_shape _ (.Name "cells" _) _ _ _; refine wg_name 2 t_law_is_shape_cells ?_) | (guard_target = WG _ M_law_is_shape _ (.Name "groups" _) _ _ _; refine wg_name 3 t_law_is_shape_groups ?_) | (guard_target = WG _ M_law_is_shape _ (.Name "added" _) _ _ _; refine wg_name 4 t_law_is_shape_added ?_) | (guard_target = WG _ M_law_is_shape _ (.Name "group" _) _ _ _; refine wg_name 5 t_law_is_shape_group ?_) | refine wg_tup rfl ?_)
  | (guard_target = WH _ _ _ _ _ _ _; first | refine wh_cons ?_ | refine wh_nil ?_)
  | (guard_target = WV _ _ _ _ _ _ _ _; first | (guard_target = WV _ (blkNm M_law_is_shape _ kd_law_is_shape_0 gl_law_is_shape_0) _ _ (.Name "one" _) _ _ _; refine wv_name 9 (t_law_is_shape_0_one _) (by decide) ?_) | (guard_target = WV _ (blkNm M_law_is_shape _ kd_law_is_shape_1 gl_law_is_shape_1) _ _ (.Name "one" _) _ _ _; refine wv_name 9 (t_law_is_shape_1_one _) (by decide) ?_) | (guard_target = WV _ (blkNm M_law_is_shape _ kd_law_is_shape_2 gl_law_is_shape_2) _ _ (.Name "group" _) _ _ _; refine wv_name 5 (t_law_is_shape_2_group _) (by decide) ?_) | (guard_target = WV _ (blkNm M_law_is_shape _ kd_law_is_shape_3 gl_law_is_shape_3) _ _ (.Name "one" _) _ _ _; refine wv_name 9 (t_law_is_shape_3_one _) (by decide) ?_) | (guard_target = WV _ (blkNm M_law_is_shape _ kd_law_is_shape_4 gl_law_is_shape_4) _ _ (.Name "one" _) _ _ _; refine wv_name 9 (t_law_is_shape_4_one _) (by decide) ?_) | (guard_target = WV _ (blkNm M_law_is_shape _ kd_law_is_shape_5 gl_law_is_shape_5) _ _ (.Name "group" _) _ _ _; refine wv_name 5 (t_law_is_shape_5_group _) (by decide) ?_) | refine wv_tup rfl ?_)
  | (guard_target = WVs _ _ _ _ _ _ _ _; first | refine wvs_cons ?_ | refine wvs_nil ?_)
  | walk_at "dw_d"
  | fail)
set_option hygiene false in
local macro_rules | `(tactic| walk_at "st_law_are_integers") => `(tactic| first
  | (guard_target = WB _ _ _ _ _ _; first | (guard_target = WB _ _ _ (.Name _ _) _ _; first | refine wb_of ?_) | refine wb_of ?_)
  | (guard_target = WE _ _ _ _ _ _; first
     | (guard_target = WE _ _ _ (.Name _ _) _ _; first | (guard_target = WE _ M_law_are_integers _ (.Name "thing" _) _ _; refine we_var 0 r_law_are_integers_thing rfl ?_) | (guard_target = WE _ M_law_are_integers _ (.Name "many" _) _ _; refine we_var 1 r_law_are_integers_many rfl ?_) | (guard_target = WE _ (blkNm M_law_are_integers _ kd_law_are_integers_0 gl_law_are_integers_0) _ (.Name "one" _) _ _; refine we_var 2 (r_law_are_integers_0_one _) rfl ?_))
     | (guard_target = WE _ _ _ (.Constant _ _ _) _ _; first | refine we_int ?_ | refine we_str ?_ | refine we_bool ?_ | refine we_none ?_)
     | (guard_target = WE _ _ _ (.Subscript _ _ _) _ _; first | (guard_target = WE _ _ _ (.Subscript _ (.Slice none none (some _) _) _) _ _; refine we_revT ?_) | refine we_ix ?_ | refine we_slice ?_)
     | (guard_target = WE _ _ _ (.Call (.Name _ _) _ _ _) _ _; first | (guard_target = WE _ M_law_are_integers _ (.Call (.Name "isinstance" _) [_, .Name "tuple" _] _ _) _ _; refine we_isi (T := "tuple") B.isinstance g_law_are_integers_isinstance B.tuple g_law_are_integers_tuple ?_) | (guard_target = WE _ M_law_are_integers _ (.Call (.Name "tuple" _) _ _ _) _ _; refine we_tup B.tuple g_law_are_integers_tuple ?_) | (guard_target = WE _ M_law_are_integers _ (.Call (.Name "len" _) _ _ _) _ _; refine we_len B.len g_law_are_integers_len ?_) | (guard_target = WE _ (blkNm M_law_are_integers _ kd_law_are_integers_0 gl_law_are_integers_0) _ (.Call (.Name "_law_is_int" _) _ _ _) _ _; first | refine we_call f_law_is_int (g_law_are_integers_0__law_is_int _) (by omega) ?_ | refine we_call0 f_law_is_int (g_law_are_integers_0__law_is_int _) (by omega) ?_))
     | (guard_target = WE _ _ _ (.BinOp (.List _ _) .Mult _ _) _ _; refine we_fresh (wf_rep (wf_list ?_)))
     | (guard_target = WE _ _ _ (.BinOp _ _ _ _) _ _; first | refine we_add ?_ | refine we_sub ?_ | refine we_mul ?_ | refine we_mod ?_ | refine we_fdiv ?_ | refine we_pow ?_)
     | (guard_target = WE _ _ _ (.Compare _ _ _ _) _ _; first | refine we_eq ?_ | refine we_ne ?_ | refine we_lt ?_ | refine we_le ?_ | refine we_gt ?_ | refine we_ge ?_ | refine we_in ?_ | refine we_notin ?_)
     | walk_at "dw_we")
  | (guard_target = WT _ _ _ _ _ _; walk_at "dw_wt")
  | (guard_target = WL _ _ _ _ _ _; first | refine wl_cons ?_ | refine wl_nil ?_)
  | (guard_target = WW _ _ _ _ _ _; first | refine ww_and ?_ | refine ww_or ?_ | refine ww_and1 ?_ | refine ww_or1 ?_)
  | (guard_target = WO _ _ _ _ _ _; first | refine wo_none ?_ | refine wo_some ?_)
  | (guard_target = WF _ _ _ _ _ _; first | refine wf_list ?_ | refine wf_lc ?_ | refine wf_rep (wf_list ?_))
  | (guard_target = WS _ _ _ _ _ _; first | refine ws_cons ?_ | refine ws_nil ?_)
  | (guard_target = W1 _ _ _ _ _ _; first | walk_at "dw_1" | (guard_target = W1 _ _ _ (.Assign [.Tuple _ _ _] _ _) _ _; refine w1_asg ?_))
  | (guard_target = WJ _ _ _ _ _ _ _; first | refine wj_of ?_)
  | (guard_target = WI _ _ _ _ _ _ _; first | refine wi_seq ?_)
  | (guard_target = WG _ _ _ _ _ _ _; first | refine wg_tup rfl ?_)
  | (guard_target = WH _ _ _ _ _ _ _; first | refine wh_cons ?_ | refine wh_nil ?_)
  | (guard_target = WV _ _ _ _ _ _ _ _; first | (guard_target = WV _ (blkNm M_law_are_integers _ kd_law_are_integers_0 gl_law_are_integers_0) _ _ (.Name "one" _) _ _ _; refine wv_name 2 (t_law_are_integers_0_one _) (by decide) ?_) | refine wv_tup rfl ?_)
  | (guard_target = WVs _ _ _ _ _ _ _ _; first | refine wvs_cons ?_ | refine wvs_nil ?_)
  | walk_at "dw_d"
  | fail)
set_option hygiene false in
local macro_rules | `(tactic| walk_at "st_law_is_rule_of") => `(tactic| first
  | (guard_target = WB _ _ _ _ _ _; first | (guard_target = WB _ _ _ (.Name _ _) _ _; first | refine wb_of ?_) | refine wb_of ?_)
  | (guard_target = WE _ _ _ _ _ _; first
     | (guard_target = WE _ _ _ (.Name _ _) _ _; first | (guard_target = WE _ M_law_is_rule_of _ (.Name "thing" _) _ _; refine we_var 0 r_law_is_rule_of_thing rfl ?_) | (guard_target = WE _ M_law_is_rule_of _ (.Name "heads" _) _ _; refine we_var 1 r_law_is_rule_of_heads rfl ?_) | (guard_target = WE _ M_law_is_rule_of _ (.Name "rows" _) _ _; refine we_var 2 r_law_is_rule_of_rows rfl ?_))
     | (guard_target = WE _ _ _ (.Constant _ _ _) _ _; first | refine we_int ?_ | refine we_str ?_ | refine we_bool ?_ | refine we_none ?_)
     | (guard_target = WE _ _ _ (.Subscript _ _ _) _ _; first | (guard_target = WE _ _ _ (.Subscript _ (.Slice none none (some _) _) _) _ _; refine we_revT ?_) | refine we_ix ?_ | refine we_slice ?_)
     | (guard_target = WE _ _ _ (.Call (.Name _ _) _ _ _) _ _; first | (guard_target = WE _ M_law_is_rule_of _ (.Call (.Name "isinstance" _) [_, .Name "tuple" _] _ _) _ _; refine we_isi (T := "tuple") B.isinstance g_law_is_rule_of_isinstance B.tuple g_law_is_rule_of_tuple ?_) | (guard_target = WE _ M_law_is_rule_of _ (.Call (.Name "isinstance" _) [_, .Name "str" _] _ _) _ _; refine we_isi (T := "str") B.isinstance g_law_is_rule_of_isinstance B.str g_law_is_rule_of_str ?_) | (guard_target = WE _ M_law_is_rule_of _ (.Call (.Name "tuple" _) _ _ _) _ _; refine we_tup B.tuple g_law_is_rule_of_tuple ?_) | (guard_target = WE _ M_law_is_rule_of _ (.Call (.Name "len" _) _ _ _) _ _; refine we_len B.len g_law_is_rule_of_len ?_) | (guard_target = WE _ M_law_is_rule_of _ (.Call (.Name "str" _) _ _ _) _ _; refine we_strI B.str g_law_is_rule_of_str ?_) | (guard_target = WE _ M_law_is_rule_of _ (.Call (.Name "_law_are_integers" _) _ _ _) _ _; first | refine we_call f_law_are_integers g_law_is_rule_of__law_are_integers (by omega) ?_ | refine we_call0 f_law_are_integers g_law_is_rule_of__law_are_integers (by omega) ?_) | (guard_target = WE _ M_law_is_rule_of _ (.Call (.Name "_law_is_int" _) _ _ _) _ _; first | refine we_call f_law_is_int g_law_is_rule_of__law_is_int (by omega) ?_ | refine we_call0 f_law_is_int g_law_is_rule_of__law_is_int (by omega) ?_))
     | (guard_target = WE _ _ _ (.BinOp (.List _ _) .Mult _ _) _ _; refine we_fresh (wf_rep (wf_list ?_)))
     | (guard_target = WE _ _ _ (.BinOp _ _ _ _) _ _; first | refine we_add ?_ | refine we_sub ?_ | refine we_mul ?_ | refine we_mod ?_ | refine we_fdiv ?_ | refine we_pow ?_)
     | (guard_target = WE _ _ _ (.Compare _ _ _ _) _ _; first | refine we_eq ?_ | refine we_ne ?_ | refine we_lt ?_ | refine we_le ?_ | refine we_gt ?_ | refine we_ge ?_ | refine we_in ?_ | refine we_notin ?_)
     | walk_at "dw_we")
  | (guard_target = WT _ _ _ _ _ _; walk_at "dw_wt")
  | (guard_target = WL _ _ _ _ _ _; first | refine wl_cons ?_ | refine wl_nil ?_)
  | (guard_target = WW _ _ _ _ _ _; first | refine ww_and ?_ | refine ww_or ?_ | refine ww_and1 ?_ | refine ww_or1 ?_)
  | (guard_target = WO _ _ _ _ _ _; first | refine wo_none ?_ | refine wo_some ?_)
  | (guard_target = WF _ _ _ _ _ _; first | refine wf_list ?_ | refine wf_lc ?_ | refine wf_rep (wf_list ?_))
  | (guard_target = WS _ _ _ _ _ _; first | refine ws_cons ?_ | refine ws_nil ?_)
  | (guard_target = W1 _ _ _ _ _ _; first | walk_at "dw_1" | (guard_target = W1 _ _ _ (.Assign [.Tuple _ _ _] _ _) _ _; refine w1_asg ?_))
  | (guard_target = WJ _ _ _ _ _ _ _; first | refine wj_of ?_)
  | (guard_target = WI _ _ _ _ _ _ _; first | refine wi_seq ?_)
  | (guard_target = WG _ _ _ _ _ _ _; first | refine wg_tup rfl ?_)
  | (guard_target = WH _ _ _ _ _ _ _; first | refine wh_cons ?_ | refine wh_nil ?_)
  | (guard_target = WV _ _ _ _ _ _ _ _; first | refine wv_tup rfl ?_)
  | (guard_target = WVs _ _ _ _ _ _ _ _; first | refine wvs_cons ?_ | refine wvs_nil ?_)
  | walk_at "dw_d"
  | fail)
set_option hygiene false in
local macro_rules | `(tactic| walk_at "st_law_is_scheme") => `(tactic| first
  | (guard_target = WB _ _ _ _ _ _; first | (guard_target = WB _ _ _ (.Name _ _) _ _; first | refine wb_of ?_) | refine wb_of ?_)
  | (guard_target = WE _ _ _ _ _ _; first
     | (guard_target = WE _ _ _ (.Name _ _) _ _; first | (guard_target = WE _ M_law_is_scheme _ (.Name "thing" _) _ _; refine we_var 0 r_law_is_scheme_thing rfl ?_) | (guard_target = WE _ (blkNm M_law_is_scheme _ kd_law_is_scheme_0 gl_law_is_scheme_0) _ (.Name "thing" _) _ _; refine we_var 0 (r_law_is_scheme_0_thing _) rfl ?_) | (guard_target = WE _ (blkNm M_law_is_scheme _ kd_law_is_scheme_0 gl_law_is_scheme_0) _ (.Name "one" _) _ _; refine we_var 1 (r_law_is_scheme_0_one _) rfl ?_))
     | (guard_target = WE _ _ _ (.Constant _ _ _) _ _; first | refine we_int ?_ | refine we_str ?_ | refine we_bool ?_ | refine we_none ?_)
     | (guard_target = WE _ _ _ (.Subscript _ _ _) _ _; first | (guard_target = WE _ _ _ (.Subscript _ (.Slice none none (some _) _) _) _ _; refine we_revT ?_) | refine we_ix ?_ | refine we_slice ?_)
     | (guard_target = WE _ _ _ (.Call (.Name _ _) _ _ _) _ _; first | (guard_target = WE _ M_law_is_scheme _ (.Call (.Name "isinstance" _) [_, .Name "tuple" _] _ _) _ _; refine we_isi (T := "tuple") B.isinstance g_law_is_scheme_isinstance B.tuple g_law_is_scheme_tuple ?_) | (guard_target = WE _ M_law_is_scheme _ (.Call (.Name "isinstance" _) [_, .Name "str" _] _ _) _ _; refine we_isi (T := "str") B.isinstance g_law_is_scheme_isinstance B.str g_law_is_scheme_str ?_) | (guard_target = WE _ M_law_is_scheme _ (.Call (.Name "tuple" _) _ _ _) _ _; refine we_tup B.tuple g_law_is_scheme_tuple ?_) | (guard_target = WE _ M_law_is_scheme _ (.Call (.Name "len" _) _ _ _) _ _; refine we_len B.len g_law_is_scheme_len ?_) | (guard_target = WE _ M_law_is_scheme _ (.Call (.Name "str" _) _ _ _) _ _; refine we_strI B.str g_law_is_scheme_str ?_) | (guard_target = WE _ M_law_is_scheme _ (.Call (.Name "_law_is_shape" _) _ _ _) _ _; first | refine we_call f_law_is_shape g_law_is_scheme__law_is_shape (by omega) ?_ | refine we_call0 f_law_is_shape g_law_is_scheme__law_is_shape (by omega) ?_) | (guard_target = WE _ (blkNm M_law_is_scheme _ kd_law_is_scheme_0 gl_law_is_scheme_0) _ (.Call (.Name "_law_is_rule_of" _) _ _ _) _ _; first | refine we_call f_law_is_rule_of (g_law_is_scheme_0__law_is_rule_of _) (by omega) ?_ | refine we_call0 f_law_is_rule_of (g_law_is_scheme_0__law_is_rule_of _) (by omega) ?_) | (guard_target = WE _ (blkNm M_law_is_scheme _ kd_law_is_scheme_0 gl_law_is_scheme_0) _ (.Call (.Name "len" _) _ _ _) _ _; refine we_len B.len (g_law_is_scheme_0_len _) ?_))
     | (guard_target = WE _ _ _ (.BinOp (.List _ _) .Mult _ _) _ _; refine we_fresh (wf_rep (wf_list ?_)))
     | (guard_target = WE _ _ _ (.BinOp _ _ _ _) _ _; first | refine we_add ?_ | refine we_sub ?_ | refine we_mul ?_ | refine we_mod ?_ | refine we_fdiv ?_ | refine we_pow ?_)
     | (guard_target = WE _ _ _ (.Compare _ _ _ _) _ _; first | refine we_eq ?_ | refine we_ne ?_ | refine we_lt ?_ | refine we_le ?_ | refine we_gt ?_ | refine we_ge ?_ | refine we_in ?_ | refine we_notin ?_)
     | walk_at "dw_we")
  | (guard_target = WT _ _ _ _ _ _; walk_at "dw_wt")
  | (guard_target = WL _ _ _ _ _ _; first | refine wl_cons ?_ | refine wl_nil ?_)
  | (guard_target = WW _ _ _ _ _ _; first | refine ww_and ?_ | refine ww_or ?_ | refine ww_and1 ?_ | refine ww_or1 ?_)
  | (guard_target = WO _ _ _ _ _ _; first | refine wo_none ?_ | refine wo_some ?_)
  | (guard_target = WF _ _ _ _ _ _; first | refine wf_list ?_ | refine wf_lc ?_ | refine wf_rep (wf_list ?_))
  | (guard_target = WS _ _ _ _ _ _; first | refine ws_cons ?_ | refine ws_nil ?_)
  | (guard_target = W1 _ _ _ _ _ _; first | walk_at "dw_1" | (guard_target = W1 _ _ _ (.Assign [.Tuple _ _ _] _ _) _ _; refine w1_asg ?_))
  | (guard_target = WJ _ _ _ _ _ _ _; first | refine wj_of ?_)
  | (guard_target = WI _ _ _ _ _ _ _; first | refine wi_seq ?_)
  | (guard_target = WG _ _ _ _ _ _ _; first | refine wg_tup rfl ?_)
  | (guard_target = WH _ _ _ _ _ _ _; first | refine wh_cons ?_ | refine wh_nil ?_)
  | (guard_target = WV _ _ _ _ _ _ _ _; first | (guard_target = WV _ (blkNm M_law_is_scheme _ kd_law_is_scheme_0 gl_law_is_scheme_0) _ _ (.Name "one" _) _ _ _; refine wv_name 1 (t_law_is_scheme_0_one _) (by decide) ?_) | refine wv_tup rfl ?_)
  | (guard_target = WVs _ _ _ _ _ _ _ _; first | refine wvs_cons ?_ | refine wvs_nil ?_)
  | walk_at "dw_d"
  | fail)
set_option hygiene false in
local macro_rules | `(tactic| walk_at "st_law_odd") => `(tactic| first
  | (guard_target = WB _ _ _ _ _ _; first | (guard_target = WB _ _ _ (.Name _ _) _ _; first | refine wb_of ?_) | refine wb_of ?_)
  | (guard_target = WE _ _ _ _ _ _; first
     | (guard_target = WE _ _ _ (.Name _ _) _ _; first | (guard_target = WE _ M_law_odd _ (.Name "bag" _) _ _; refine we_var 0 r_law_odd_bag rfl ?_) | (guard_target = WE _ M_law_odd _ (.Name "menu" _) _ _; refine we_var 1 r_law_odd_menu rfl ?_))
     | (guard_target = WE _ _ _ (.Constant _ _ _) _ _; first | refine we_int ?_ | refine we_str ?_ | refine we_bool ?_ | refine we_none ?_)
     | (guard_target = WE _ _ _ (.Subscript _ _ _) _ _; first | (guard_target = WE _ M_law_odd _ (.Subscript (.Name "bag" _) (.Constant (.int 0) _ _) _) _ _; refine we_bag0 r_law_odd_bag rfl hF fun n hn => ?_) | (guard_target = WE _ M_law_odd _ (.Subscript (.Name "bag" _) (.Constant (.int 1) _ _) _) _ _; refine we_bag1 r_law_odd_bag rfl hF fun n hn hn2 => ?_) | (guard_target = WE _ M_law_odd _ (.Subscript (.Name "bag" _) (.Constant (.int 2) _ _) _) _ _; refine we_bag2 r_law_odd_bag rfl hF fun n hn => ?_) | (guard_target = WE _ M_law_odd _ (.Subscript (.Name "bag" _) (.Constant (.int 3) _ _) _) _ _; refine we_bag3 r_law_odd_bag rfl hF fun ns hln hns => ?_) | (guard_target = WE _ _ _ (.Subscript _ (.Slice none none (some _) _) _) _ _; refine we_revT ?_) | refine we_ix ?_ | refine we_slice ?_)
     | (guard_target = WE _ _ _ (.Call (.Name _ _) _ _ _) _ _; first | (guard_target = WE _ M_law_odd _ (.Call (.Name "_law_some" _) _ _ _) _ _; refine we_bag f_law_some g_law_odd__law_some (by omega) r_law_odd_bag rfl hF ?_))
     | (guard_target = WE _ _ _ (.BinOp (.List _ _) .Mult _ _) _ _; refine we_fresh (wf_rep (wf_list ?_)))
     | (guard_target = WE _ _ _ (.BinOp _ _ _ _) _ _; first | refine we_add ?_ | refine we_sub ?_ | refine we_mul ?_ | refine we_mod ?_ | refine we_fdiv ?_ | refine we_pow ?_)
     | (guard_target = WE _ _ _ (.Compare _ _ _ _) _ _; first | refine we_eq ?_ | refine we_ne ?_ | refine we_lt ?_ | refine we_le ?_ | refine we_gt ?_ | refine we_ge ?_ | refine we_in ?_ | refine we_notin ?_)
     | (guard_target = WE _ _ _ (.Dict _ _ _) _ _; first | refine we_dict0 ?_ | refine we_dictC ?_ | refine we_dictS ?_)
     | walk_at "dw_we")
  | (guard_target = WT _ _ _ _ _ _; walk_at "dw_wt")
  | (guard_target = WL _ _ _ _ _ _; first | refine wl_cons ?_ | refine wl_nil ?_)
  | (guard_target = WW _ _ _ _ _ _; first | refine ww_and ?_ | refine ww_or ?_ | refine ww_and1 ?_ | refine ww_or1 ?_)
  | (guard_target = WO _ _ _ _ _ _; first | refine wo_none ?_ | refine wo_some ?_)
  | (guard_target = WF _ _ _ _ _ _; first | refine wf_list ?_ | refine wf_lc ?_ | refine wf_rep (wf_list ?_))
  | (guard_target = WS _ _ _ _ _ _; first | refine ws_cons ?_ | refine ws_nil ?_)
  | (guard_target = W1 _ _ _ _ _ _; first | walk_at "dw_1" | (guard_target = W1 _ M_law_odd _ (.Assign [(.Name "menu" _)] (.List _ _) _) _ _; refine w1_set 1 t_law_odd_menu ?_) | (guard_target = W1 _ _ _ (.Assign [(.Subscript (.Name "bag" _) (.Constant (.int 0) _ _) _)] _ _) _ _; refine w1_bag0 r_law_odd_bag rfl hF ?_) | (guard_target = W1 _ _ _ (.Assign [(.Subscript (.Name "bag" _) (.Constant (.int 1) _ _) _)] _ _) _ _; refine w1_bag1 r_law_odd_bag rfl hF ?_) | (guard_target = W1 _ _ _ (.AugAssign (.Subscript (.Name "bag" _) (.Constant (.int 2) _ _) _) _ _ _) _ _; refine w1_bag2 r_law_odd_bag rfl hF ?_) | ((first | (guard_target = W1 _ _ _ (.Assign [.Name _ _] (.Call _ _ _ _) _) _ _) | (guard_target = W1 _ _ _ (.Assign [.Name _ _] (.BinOp _ _ _ _) _) _ _) | (guard_target = W1 _ _ _ (.Assign [.Name _ _] (.Name _ _) _) _ _) | (guard_target = W1 _ _ _ (.Assign [.Name _ _] (.Subscript _ _ _) _) _ _) | (guard_target = W1 _ _ _ (.Assign [.Name _ _] (.Constant _ _ _) _) _ _) | (guard_target = W1 _ _ _ (.Assign [.Name _ _] (.Compare _ _ _ _) _) _ _) | (guard_target = W1 _ _ _ (.Assign [.Name _ _] (.BoolOp _ _ _) _) _ _) | (guard_target = W1 _ _ _ (.Assign [.Name _ _] (.IfExp _ _ _ _) _) _ _) | (guard_target = W1 _ _ _ (.Assign [.Name _ _] (.Tuple _ _ _) _) _ _) | (guard_target = W1 _ _ _ (.Assign [.Name _ _] (.UnaryOp _ _ _) _) _ _)); first | (guard_target = W1 _ M_law_odd _ (.Assign [(.Name "menu" _)] _ _) _ _; refine w1_set 1 t_law_odd_menu ?_)) | (guard_target = W1 _ _ _ (.Assign [.Tuple _ _ _] _ _) _ _; refine w1_asg ?_))
  | (guard_target = WJ _ _ _ _ _ _ _; first | refine wj_of ?_)
  | (guard_target = WI _ _ _ _ _ _ _; first | refine wi_seq ?_)
  | (guard_target = WG _ _ _ _ _ _ _; first | refine wg_tup rfl ?_)
  | (guard_target = WH _ _ _ _ _ _ _; first | refine wh_cons ?_ | refine wh_nil ?_)
  | (guard_target = WV _ _ _ _ _ _ _ _; first | refine wv_tup rfl ?_)
  | (guard_target = WVs _ _ _ _ _ _ _ _; first | refine wvs_cons ?_ | refine wvs_nil ?_)
  | walk_at "dw_d"
  | fail)
set_option hygiene false in
local macro_rules | `(tactic| walk_at "st_law_bent") => `(tactic| first
  | (guard_target = WB _ _ _ _ _ _; first | (guard_target = WB _ _ _ (.Name _ _) _ _; first | refine wb_of ?_) | refine wb_of ?_)
  | (guard_target = WE _ _ _ _ _ _; first
     | (guard_target = WE _ _ _ (.Name _ _) _ _; first | (guard_target = WE _ M_law_bent _ (.Name "bag" _) _ _; refine we_var 0 r_law_bent_bag rfl ?_) | (guard_target = WE _ M_law_bent _ (.Name "thing" _) _ _; refine we_var 1 r_law_bent_thing rfl ?_) | (guard_target = WE _ M_law_bent _ (.Name "deep" _) _ _; refine we_var 2 r_law_bent_deep rfl ?_) | (guard_target = WE _ M_law_bent _ (.Name "at" _) _ _; refine we_var 3 r_law_bent_at rfl ?_) | (guard_target = WE _ M_law_bent _ (.Name "way" _) _ _; refine we_var 4 r_law_bent_way rfl ?_))
     | (guard_target = WE _ _ _ (.Constant _ _ _) _ _; first | refine we_int ?_ | refine we_str ?_ | refine we_bool ?_ | refine we_none ?_)
     | (guard_target = WE _ _ _ (.Subscript _ _ _) _ _; first | (guard_target = WE _ M_law_bent _ (.Subscript (.Name "bag" _) (.Constant (.int 0) _ _) _) _ _; refine we_bag0 r_law_bent_bag rfl hF fun n hn => ?_) | (guard_target = WE _ M_law_bent _ (.Subscript (.Name "bag" _) (.Constant (.int 1) _ _) _) _ _; refine we_bag1 r_law_bent_bag rfl hF fun n hn hn2 => ?_) | (guard_target = WE _ M_law_bent _ (.Subscript (.Name "bag" _) (.Constant (.int 2) _ _) _) _ _; refine we_bag2 r_law_bent_bag rfl hF fun n hn => ?_) | (guard_target = WE _ M_law_bent _ (.Subscript (.Name "bag" _) (.Constant (.int 3) _ _) _) _ _; refine we_bag3 r_law_bent_bag rfl hF fun ns hln hns => ?_) | (guard_target = WE _ _ _ (.Subscript _ (.Slice none none (some _) _) _) _ _; refine we_revT ?_) | refine we_ix ?_ | refine we_slice ?_)
     | (guard_target = WE _ _ _ (.Call (.Name _ _) _ _ _) _ _; first | (guard_target = WE _ M_law_bent _ (.Call (.Name "isinstance" _) [_, .Name "tuple" _] _ _) _ _; refine we_isi (T := "tuple") B.isinstance g_law_bent_isinstance B.tuple g_law_bent_tuple ?_) | (guard_target = WE _ M_law_bent _ (.Call (.Name "isinstance" _) [_, .Name "list" _] _ _) _ _; refine we_isi (T := "list") B.isinstance g_law_bent_isinstance B.list g_law_bent_list ?_) | (guard_target = WE _ M_law_bent _ (.Call (.Name "isinstance" _) [_, .Name "str" _] _ _) _ _; refine we_isi (T := "str") B.isinstance g_law_bent_isinstance B.str g_law_bent_str ?_) | (guard_target = WE _ M_law_bent _ (.Call (.Name "tuple" _) _ _ _) _ _; refine we_tup B.tuple g_law_bent_tuple ?_) | (guard_target = WE _ M_law_bent _ (.Call (.Name "_law_take" _) _ _ _) _ _; refine we_bag f_law_take g_law_bent__law_take (by omega) r_law_bent_bag rfl hF ?_) | (guard_target = WE _ M_law_bent _ (.Call (.Name "len" _) _ _ _) _ _; refine we_len B.len g_law_bent_len ?_) | (guard_target = WE _ M_law_bent _ (.Call (.Name "_law_bent" _) _ _ _) _ _; refine we_bag f_law_bent g_law_bent__law_bent (by omega) r_law_bent_bag rfl hF ?_) | (guard_target = WE _ M_law_bent _ (.Call (.Name "_law_some" _) _ _ _) _ _; refine we_bag f_law_some g_law_bent__law_some (by omega) r_law_bent_bag rfl hF ?_) | (guard_target = WE _ M_law_bent _ (.Call (.Name "list" _) _ _ _) _ _; refine we_lst B.list g_law_bent_list ?_) | (guard_target = WE _ M_law_bent _ (.Call (.Name "_law_odd" _) _ _ _) _ _; refine we_bag f_law_odd g_law_bent__law_odd (by omega) r_law_bent_bag rfl hF ?_) | (guard_target = WE _ M_law_bent _ (.Call (.Name "_law_is_int" _) _ _ _) _ _; first | refine we_call f_law_is_int g_law_bent__law_is_int (by omega) ?_ | refine we_call0 f_law_is_int g_law_bent__law_is_int (by omega) ?_) | (guard_target = WE _ M_law_bent _ (.Call (.Name "str" _) _ _ _) _ _; refine we_strI B.str g_law_bent_str ?_))
     | (guard_target = WE _ _ _ (.BinOp (.List _ _) .Mult _ _) _ _; refine we_fresh (wf_rep (wf_list ?_)))
     | (guard_target = WE _ _ _ (.BinOp _ _ _ _) _ _; first | refine we_add ?_ | refine we_sub ?_ | refine we_mul ?_ | refine we_mod ?_ | refine we_fdiv ?_ | refine we_pow ?_)
     | (guard_target = WE _ _ _ (.Compare _ _ _ _) _ _; first | (guard_target = WE _ _ _ (.Compare _ [.NotEq] [.Tuple [] _ _] _) _ _; refine we_neE ?_) | refine we_eq ?_ | refine we_ne ?_ | refine we_lt ?_ | refine we_le ?_ | refine we_gt ?_ | refine we_ge ?_ | refine we_in ?_ | refine we_notin ?_)
     | walk_at "dw_we")
  | (guard_target = WT _ _ _ _ _ _; first | (guard_target = WT _ _ _ (.Compare _ [.NotEq] [.Tuple [] _ _] _) _ _; refine wt_neE ?_) | walk_at "dw_wt")
  | (guard_target = WL _ _ _ _ _ _; first | refine wl_cons ?_ | refine wl_nil ?_)
  | (guard_target = WW _ _ _ _ _ _; first | refine ww_and ?_ | refine ww_or ?_ | refine ww_and1 ?_ | refine ww_or1 ?_)
  | (guard_target = WO _ _ _ _ _ _; first | refine wo_none ?_ | refine wo_some ?_)
  | (guard_target = WF _ _ _ _ _ _; first | refine wf_list ?_ | refine wf_lc ?_ | refine wf_rep (wf_list ?_))
  | (guard_target = WS _ _ _ _ _ _; first | refine ws_cons ?_ | refine ws_nil ?_)
  | (guard_target = W1 _ _ _ _ _ _; first | walk_at "dw_1" | (guard_target = W1 _ _ _ (.Assign [.Tuple [.Name "at" _, .Name "way" _] _ _] (.Tuple _ _ _) _) _ _; refine w1_par 3 4 l_law_bent_at l_law_bent_way (by decide) ?_) | (guard_target = W1 _ _ _ (.Assign [(.Subscript (.Name "bag" _) (.Constant (.int 0) _ _) _)] _ _) _ _; refine w1_bag0 r_law_bent_bag rfl hF ?_) | (guard_target = W1 _ _ _ (.Assign [(.Subscript (.Name "bag" _) (.Constant (.int 1) _ _) _)] _ _) _ _; refine w1_bag1 r_law_bent_bag rfl hF ?_) | (guard_target = W1 _ _ _ (.AugAssign (.Subscript (.Name "bag" _) (.Constant (.int 2) _ _) _) _ _ _) _ _; refine w1_bag2 r_law_bent_bag rfl hF ?_) | (guard_target = W1 _ _ _ (.Assign [.Tuple _ _ _] _ _) _ _; refine w1_asg ?_))
  | (guard_target = WJ _ _ _ _ _ _ _; first | refine wj_of ?_)
  | (guard_target = WI _ _ _ _ _ _ _; first | refine wi_seq ?_)
  | (guard_target = WG _ _ _ _ _ _ _; first | (guard_target = WG _ M_law_bent _ (.Name "at" _) _ _ _; refine wg_name 3 t_law_bent_at ?_) | (guard_target = WG _ M_law_bent _ (.Name "way" _) _ _ _; refine wg_name 4 t_law_bent_way ?_) | refine wg_tup rfl ?_)
  | (guard_target = WH _ _ _ _ _ _ _; first | refine wh_cons ?_ | refine wh_nil ?_)
  | (guard_target = WV _ _ _ _ _ _ _ _; first | refine wv_tup rfl ?_)
  | (guard_target = WVs _ _ _ _ _ _ _ _; first | refine wvs_cons ?_ | refine wvs_nil ?_)
  | walk_at "dw_d"
  | fail)
set_option hygiene false in
local macro_rules | `(tactic| walk_at "st_law_reworded") => `(tactic| first
  | (guard_target = WB _ _ _ _ _ _; first | (guard_target = WB _ _ _ (.Name _ _) _ _; first | refine wb_of ?_) | refine wb_of ?_)
  | (guard_target = WE _ _ _ _ _ _; first
     | (guard_target = WE _ _ _ (.Name _ _) _ _; first | (guard_target = WE _ M_law_reworded _ (.Name "bag" _) _ _; refine we_var 0 r_law_reworded_bag rfl ?_) | (guard_target = WE _ M_law_reworded _ (.Name "shape" _) _ _; refine we_var 1 r_law_reworded_shape rfl ?_) | (guard_target = WE _ M_law_reworded _ (.Name "cells" _) _ _; refine we_var 2 r_law_reworded_cells rfl ?_) | (guard_target = WE _ M_law_reworded _ (.Name "groups" _) _ _; refine we_var 3 r_law_reworded_groups rfl ?_) | (guard_target = WE _ M_law_reworded _ (.Name "added" _) _ _; refine we_var 4 r_law_reworded_added rfl ?_) | (guard_target = WE _ M_law_reworded _ (.Name "word" _) _ _; refine we_var 5 r_law_reworded_word rfl ?_) | (guard_target = WE _ M_law_reworded _ (.Name "one" _) _ _; refine we_var 6 r_law_reworded_one rfl ?_) | (guard_target = WE _ M_law_reworded _ (.Name "found" _) _ _; refine we_var 7 r_law_reworded_found rfl ?_) | (guard_target = WE _ (blkNm M_law_reworded _ kd_law_reworded_0 gl_law_reworded_0) _ (.Name "word" _) _ _; refine we_var 5 (r_law_reworded_0_word _) rfl ?_) | (guard_target = WE _ (blkNm M_law_reworded _ kd_law_reworded_0 gl_law_reworded_0) _ (.Name "one" _) _ _; refine we_var 6 (r_law_reworded_0_one _) rfl ?_) | (guard_target = WE _ (blkNm M_law_reworded _ kd_law_reworded_0 gl_law_reworded_0) _ (.Name "part" _) _ _; refine we_var 8 (r_law_reworded_0_part _) rfl ?_) | (guard_target = WE _ (blkNm (blkNm M_law_reworded _ kd_law_reworded_0 gl_law_reworded_0) _ kd_law_reworded_1 gl_law_reworded_1) _ (.Name "word" _) _ _; refine we_var 5 (r_law_reworded_1_word _ _) rfl ?_) | (guard_target = WE _ (blkNm (blkNm M_law_reworded _ kd_law_reworded_0 gl_law_reworded_0) _ kd_law_reworded_1 gl_law_reworded_1) _ (.Name "one" _) _ _; refine we_var 6 (r_law_reworded_1_one _ _) rfl ?_) | (guard_target = WE _ (blkNm (blkNm M_law_reworded _ kd_law_reworded_0 gl_law_reworded_0) _ kd_law_reworded_1 gl_law_reworded_1) _ (.Name "cell" _) _ _; refine we_var 9 (r_law_reworded_1_cell _ _) rfl ?_))
     | (guard_target = WE _ _ _ (.Constant _ _ _) _ _; first | refine we_int ?_ | refine we_str ?_ | refine we_bool ?_ | refine we_none ?_)
     | (guard_target = WE _ _ _ (.Subscript _ _ _) _ _; first | (guard_target = WE _ M_law_reworded _ (.Subscript (.Name "bag" _) (.Constant (.int 0) _ _) _) _ _; refine we_bag0 r_law_reworded_bag rfl hF fun n hn => ?_) | (guard_target = WE _ M_law_reworded _ (.Subscript (.Name "bag" _) (.Constant (.int 1) _ _) _) _ _; refine we_bag1 r_law_reworded_bag rfl hF fun n hn hn2 => ?_) | (guard_target = WE _ M_law_reworded _ (.Subscript (.Name "bag" _) (.Constant (.int 2) _ _) _) _ _; refine we_bag2 r_law_reworded_bag rfl hF fun n hn => ?_) | (guard_target = WE _ M_law_reworded _ (.Subscript (.Name "bag" _) (.Constant (.int 3) _ _) _) _ _; refine we_bag3 r_law_reworded_bag rfl hF fun ns hln hns => ?_) | (guard_target = WE _ _ _ (.Subscript _ (.Slice none none (some _) _) _) _ _; refine we_revT ?_) | refine we_ix ?_ | refine we_slice ?_)
     | (guard_target = WE _ _ _ (.Call (.Name _ _) _ _ _) _ _; first | (guard_target = WE _ M_law_reworded _ (.Call (.Name "_law_take" _) _ _ _) _ _; refine we_bag f_law_take g_law_reworded__law_take (by omega) r_law_reworded_bag rfl hF ?_) | (guard_target = WE _ M_law_reworded _ (.Call (.Name "_law_some" _) _ _ _) _ _; refine we_bag f_law_some g_law_reworded__law_some (by omega) r_law_reworded_bag rfl hF ?_) | (guard_target = WE _ M_law_reworded _ (.Call (.Name "tuple" _) _ _ _) _ _; refine we_tup B.tuple g_law_reworded_tuple ?_) | (guard_target = WE _ (blkNm M_law_reworded _ kd_law_reworded_0 gl_law_reworded_0) _ (.Call (.Name "tuple" _) _ _ _) _ _; refine we_tup B.tuple (g_law_reworded_0_tuple _) ?_))
     | (guard_target = WE _ _ _ (.BinOp (.List _ _) .Mult _ _) _ _; refine we_fresh (wf_rep (wf_list ?_)))
     | (guard_target = WE _ _ _ (.BinOp _ _ _ _) _ _; first | refine we_add ?_ | refine we_sub ?_ | refine we_mul ?_ | refine we_mod ?_ | refine we_fdiv ?_ | refine we_pow ?_)
     | (guard_target = WE _ _ _ (.Compare _ _ _ _) _ _; first | (guard_target = WE _ _ _ (.Compare _ [.Eq] [.Tuple [] _ _] _) _ _; refine we_eqE ?_) | refine we_eq ?_ | refine we_ne ?_ | refine we_lt ?_ | refine we_le ?_ | refine we_gt ?_ | refine we_ge ?_ | refine we_in ?_ | refine we_notin ?_)
     | walk_at "dw_we")
  | (guard_target = WT _ _ _ _ _ _; first | (guard_target = WT _ _ _ (.Compare _ [.Eq] [.Tuple [] _ _] _) _ _; refine wt_eqE ?_) | walk_at "dw_wt")
  | (guard_target = WL _ _ _ _ _ _; first | refine wl_cons ?_ | refine wl_nil ?_)
  | (guard_target = WW _ _ _ _ _ _; first | refine ww_and ?_ | refine ww_or ?_ | refine ww_and1 ?_ | refine ww_or1 ?_)
  | (guard_target = WO _ _ _ _ _ _; first | refine wo_none ?_ | refine wo_some ?_)
  | (guard_target = WF _ _ _ _ _ _; first | refine wf_list ?_ | refine wf_lc ?_ | refine wf_rep (wf_list ?_))
  | (guard_target = WS _ _ _ _ _ _; first | refine ws_cons ?_ | refine ws_nil ?_)
  | (guard_target = W1 _ _ _ _ _ _; first | walk_at "dw_1" | (guard_target = W1 _ M_law_reworded _ (.Assign [(.Name "found" _)] (.ListComp _ _ _ _) _) _ _; refine w1_lc 7 l_law_reworded_found ?_) | (guard_target = W1 _ _ _ (.Assign [(.Subscript (.Name "bag" _) (.Constant (.int 0) _ _) _)] _ _) _ _; refine w1_bag0 r_law_reworded_bag rfl hF ?_) | (guard_target = W1 _ _ _ (.Assign [(.Subscript (.Name "bag" _) (.Constant (.int 1) _ _) _)] _ _) _ _; refine w1_bag1 r_law_reworded_bag rfl hF ?_) | (guard_target = W1 _ _ _ (.AugAssign (.Subscript (.Name "bag" _) (.Constant (.int 2) _ _) _) _ _ _) _ _; refine w1_bag2 r_law_reworded_bag rfl hF ?_) | ((first | (guard_target = W1 _ _ _ (.Assign [.Name _ _] (.Call _ _ _ _) _) _ _) | (guard_target = W1 _ _ _ (.Assign [.Name _ _] (.BinOp _ _ _ _) _) _ _) | (guard_target = W1 _ _ _ (.Assign [.Name _ _] (.Name _ _) _) _ _) | (guard_target = W1 _ _ _ (.Assign [.Name _ _] (.Subscript _ _ _) _) _ _) | (guard_target = W1 _ _ _ (.Assign [.Name _ _] (.Constant _ _ _) _) _ _) | (guard_target = W1 _ _ _ (.Assign [.Name _ _] (.Compare _ _ _ _) _) _ _) | (guard_target = W1 _ _ _ (.Assign [.Name _ _] (.BoolOp _ _ _) _) _ _) | (guard_target = W1 _ _ _ (.Assign [.Name _ _] (.IfExp _ _ _ _) _) _ _) | (guard_target = W1 _ _ _ (.Assign [.Name _ _] (.Tuple _ _ _) _) _ _) | (guard_target = W1 _ _ _ (.Assign [.Name _ _] (.UnaryOp _ _ _) _) _ _)); first | (guard_target = W1 _ M_law_reworded _ (.Assign [(.Name "word" _)] _ _) _ _; refine w1_set 5 t_law_reworded_word ?_) | (guard_target = W1 _ M_law_reworded _ (.Assign [(.Name "one" _)] _ _) _ _; refine w1_set 6 t_law_reworded_one ?_) | (guard_target = W1 _ M_law_reworded _ (.Assign [(.Name "found" _)] _ _) _ _; refine w1_set 7 t_law_reworded_found ?_)) | (guard_target = W1 _ _ _ (.Assign [.Tuple _ _ _] _ _) _ _; refine w1_asg ?_))
  | (guard_target = WJ _ _ _ _ _ _ _; first | refine wj_of ?_)
  | (guard_target = WI _ _ _ _ _ _ _; first | refine wi_seq ?_)
  | (guard_target = WG _ _ _ _ _ _ _; first | (guard_target = WG _ M_law_reworded _ (.Name "cells" _) _ _ _; refine wg_name 2 t_law_reworded_cells ?_) | (guard_target = WG _ M_law_reworded _ (.Name "groups" _) _ _ _; refine wg_name 3 t_law_reworded_groups ?_) | (guard_target = WG _ M_law_reworded _ (.Name "added" _) _ _ _; refine wg_name 4 t_law_reworded_added ?_) | refine wg_tup rfl ?_)
  | (guard_target = WH _ _ _ _ _ _ _; first | refine wh_cons ?_ | refine wh_nil ?_)
  | (guard_target = WV _ _ _ _ _ _ _ _; first | (guard_target = WV _ (blkNm M_law_reworded _ kd_law_reworded_0 gl_law_reworded_0) _ _ (.Name "part" _) _ _ _; refine wv_name 8 (t_law_reworded_0_part _) (by decide) ?_) | (guard_target = WV _ (blkNm (blkNm M_law_reworded _ kd_law_reworded_0 gl_law_reworded_0) _ kd_law_reworded_1 gl_law_reworded_1) _ _ (.Name "cell" _) _ _ _; refine wv_name 9 (t_law_reworded_1_cell _ _) (by decide) ?_) | refine wv_tup rfl ?_)
  | (guard_target = WVs _ _ _ _ _ _ _ _; first | refine wvs_cons ?_ | refine wvs_nil ?_)
  | walk_at "dw_d"
  | fail)
set_option hygiene false in
local macro_rules | `(tactic| walk_at "st_law") => `(tactic| first
  | (guard_target = WB _ _ _ _ _ _; first | (guard_target = WB _ _ _ (.Name _ _) _ _; first | (guard_target = WB _ M_law _ (.Name "things" _) _ _; first | refine wb_mu 6 r_law_things rfl ?_ | refine wb_of ?_) | refine wb_of ?_) | refine wb_of ?_)
  | (guard_target = WE _ _ _ _ _ _; first
     | (guard_target = WE _ _ _ (.Name _ _) _ _; first | (guard_target = WE _ M_law _ (.Name "script" _) _ _; refine we_var 0 r_law_script rfl ?_) | (guard_target = WE _ M_law _ (.Name "bag" _) _ _; refine we_var 1 r_law_bag rfl ?_) | (guard_target = WE _ M_law _ (.Name "turn" _) _ _; refine we_var 2 r_law_turn rfl ?_) | (guard_target = WE _ M_law _ (.Name "scheme" _) _ _; refine we_var 3 r_law_scheme rfl ?_) | (guard_target = WE _ M_law _ (.Name "table" _) _ _; refine we_var 4 r_law_table rfl ?_) | (guard_target = WE _ M_law _ (.Name "turned" _) _ _; refine we_var 5 r_law_turned rfl ?_) | (guard_target = WE _ M_law _ (.Name "things" _) _ _; refine we_var 6 r_law_things rfl ?_) | (guard_target = WE _ M_law _ (.Name "again" _) _ _; refine we_var 7 r_law_again rfl ?_) | (guard_target = WE _ M_law _ (.Name "at" _) _ _; refine we_var 8 r_law_at rfl ?_) | (guard_target = WE _ M_law _ (.Name "thing" _) _ _; refine we_var 9 r_law_thing rfl ?_) | (guard_target = WE _ M_law _ (.Name "shown" _) _ _; refine we_var 10 r_law_shown rfl ?_) | (guard_target = WE _ M_law _ (.Name "told" _) _ _; refine we_var 11 r_law_told rfl ?_) | (guard_target = WE _ (blkNm M_law _ kd_law_0 gl_law_0) _ (.Name "bag" _) _ _; refine we_var 1 (r_law_0_bag _) rfl ?_) | (guard_target = WE _ (blkNm M_law _ kd_law_0 gl_law_0) _ (.Name "scheme" _) _ _; refine we_var 3 (r_law_0_scheme _) rfl ?_) | (guard_target = WE _ (blkNm M_law _ kd_law_0 gl_law_0) _ (.Name "k" _) _ _; refine we_var 12 (r_law_0_k _) rfl ?_) | (guard_target = WE _ (blkNm M_law _ kd_law_1 gl_law_1) _ (.Name "bag" _) _ _; refine we_var 1 (r_law_1_bag _) rfl ?_) | (guard_target = WE _ (blkNm M_law _ kd_law_1 gl_law_1) _ (.Name "table" _) _ _; refine we_var 4 (r_law_1_table _) rfl ?_) | (guard_target = WE _ (blkNm M_law _ kd_law_1 gl_law_1) _ (.Name "k" _) _ _; refine we_var 12 (r_law_1_k _) rfl ?_))
     | (guard_target = WE _ _ _ (.Constant _ _ _) _ _; first | refine we_int ?_ | refine we_str ?_ | refine we_bool ?_ | refine we_none ?_)
     | (guard_target = WE _ _ _ (.Subscript _ _ _) _ _; first | (guard_target = WE _ M_law _ (.Subscript (.Name "bag" _) (.Constant (.int 0) _ _) _) _ _; refine we_bag0 r_law_bag rfl hF fun n hn => ?_) | (guard_target = WE _ M_law _ (.Subscript (.Name "bag" _) (.Constant (.int 1) _ _) _) _ _; refine we_bag1 r_law_bag rfl hF fun n hn hn2 => ?_) | (guard_target = WE _ M_law _ (.Subscript (.Name "bag" _) (.Constant (.int 2) _ _) _) _ _; refine we_bag2 r_law_bag rfl hF fun n hn => ?_) | (guard_target = WE _ M_law _ (.Subscript (.Name "bag" _) (.Constant (.int 3) _ _) _) _ _; refine we_bag3 r_law_bag rfl hF fun ns hln hns => ?_) | (guard_target = WE _ (blkNm M_law _ kd_law_0 gl_law_0) _ (.Subscript (.Name "bag" _) (.Constant (.int 0) _ _) _) _ _; refine we_bag0 (r_law_0_bag _) rfl hF fun n hn => ?_) | (guard_target = WE _ (blkNm M_law _ kd_law_0 gl_law_0) _ (.Subscript (.Name "bag" _) (.Constant (.int 1) _ _) _) _ _; refine we_bag1 (r_law_0_bag _) rfl hF fun n hn hn2 => ?_) | (guard_target = WE _ (blkNm M_law _ kd_law_0 gl_law_0) _ (.Subscript (.Name "bag" _) (.Constant (.int 2) _ _) _) _ _; refine we_bag2 (r_law_0_bag _) rfl hF fun n hn => ?_) | (guard_target = WE _ (blkNm M_law _ kd_law_0 gl_law_0) _ (.Subscript (.Name "bag" _) (.Constant (.int 3) _ _) _) _ _; refine we_bag3 (r_law_0_bag _) rfl hF fun ns hln hns => ?_) | (guard_target = WE _ (blkNm M_law _ kd_law_1 gl_law_1) _ (.Subscript (.Name "bag" _) (.Constant (.int 0) _ _) _) _ _; refine we_bag0 (r_law_1_bag _) rfl hF fun n hn => ?_) | (guard_target = WE _ (blkNm M_law _ kd_law_1 gl_law_1) _ (.Subscript (.Name "bag" _) (.Constant (.int 1) _ _) _) _ _; refine we_bag1 (r_law_1_bag _) rfl hF fun n hn hn2 => ?_) | (guard_target = WE _ (blkNm M_law _ kd_law_1 gl_law_1) _ (.Subscript (.Name "bag" _) (.Constant (.int 2) _ _) _) _ _; refine we_bag2 (r_law_1_bag _) rfl hF fun n hn => ?_) | (guard_target = WE _ (blkNm M_law _ kd_law_1 gl_law_1) _ (.Subscript (.Name "bag" _) (.Constant (.int 3) _ _) _) _ _; refine we_bag3 (r_law_1_bag _) rfl hF fun ns hln hns => ?_) | (guard_target = WE _ _ _ (.Subscript _ (.Slice none none (some _) _) _) _ _; refine we_revT ?_) | refine we_ix ?_ | refine we_slice ?_)
     | (guard_target = WE _ _ _ (.Call (.Name _ _) _ _ _) _ _; first | (guard_target = WE _ M_law _ (.Call (.Name "_law_scheme" _) _ _ _) _ _; refine we_bag f_law_scheme g_law__law_scheme (by omega) r_law_bag rfl hF ?_) | (guard_target = WE _ M_law _ (.Call (.Name "_law_any_table" _) _ _ _) _ _; refine we_bag f_law_any_table g_law__law_any_table (by omega) r_law_bag rfl hF ?_) | (guard_target = WE _ M_law _ (.Call (.Name "_law_some" _) _ _ _) _ _; refine we_bag f_law_some g_law__law_some (by omega) r_law_bag rfl hF ?_) | (guard_target = WE _ M_law _ (.Call (.Name "_law_odd" _) _ _ _) _ _; refine we_bag f_law_odd g_law__law_odd (by omega) r_law_bag rfl hF ?_) | (guard_target = WE _ M_law _ (.Call (.Name "_law_take" _) _ _ _) _ _; refine we_bag f_law_take g_law__law_take (by omega) r_law_bag rfl hF ?_) | (guard_target = WE _ M_law _ (.Call (.Name "_law_reworded" _) _ _ _) _ _; refine we_bag f_law_reworded g_law__law_reworded (by omega) r_law_bag rfl hF ?_) | (guard_target = WE _ M_law _ (.Call (.Name "repr" _) _ _ _) _ _; refine we_reprA hG B.dg B.repr g_law_repr ?_) | (guard_target = WE _ M_law _ (.Call (.Name "is_scheme" _) _ _ _) _ _; first | refine we_call f_is_scheme g_law_is_scheme (by omega) ?_ | refine we_call0 f_is_scheme g_law_is_scheme (by omega) ?_) | (guard_target = WE _ M_law _ (.Call (.Name "is_table" _) _ _ _) _ _; first | refine we_call f_is_table g_law_is_table (by omega) ?_ | refine we_call0 f_is_table g_law_is_table (by omega) ?_) | (guard_target = WE _ M_law _ (.Call (.Name "_law_alike" _) _ _ _) _ _; refine we_callG f_law_alike hG g_law__law_alike (by omega) ?_) | (guard_target = WE _ M_law _ (.Call (.Name "_law_is_scheme" _) _ _ _) _ _; first | refine we_call f_law_is_scheme g_law__law_is_scheme (by omega) ?_ | refine we_call0 f_law_is_scheme g_law__law_is_scheme (by omega) ?_) | (guard_target = WE _ M_law _ (.Call (.Name "_law_is_table" _) _ _ _) _ _; first | refine we_call f_law_is_table g_law__law_is_table (by omega) ?_ | refine we_call0 f_law_is_table g_law__law_is_table (by omega) ?_) | (guard_target = WE _ (blkNm M_law _ kd_law_0 gl_law_0) _ (.Call (.Name "_law_bent" _) _ _ _) _ _; refine we_bag f_law_bent (g_law_0__law_bent _) (by omega) (r_law_0_bag _) rfl hF ?_) | (guard_target = WE _ (blkNm M_law _ kd_law_1 gl_law_1) _ (.Call (.Name "_law_bent" _) _ _ _) _ _; refine we_bag f_law_bent (g_law_1__law_bent _) (by omega) (r_law_1_bag _) rfl hF ?_))
     | (guard_target = WE _ _ _ (.BinOp (.List _ _) .Mult _ _) _ _; refine we_fresh (wf_rep (wf_list ?_)))
     | (guard_target = WE _ _ _ (.BinOp _ _ _ _) _ _; first | refine we_add ?_ | refine we_sub ?_ | refine we_mul ?_ | refine we_mod ?_ | refine we_fdiv ?_ | refine we_pow ?_)
     | (guard_target = WE _ _ _ (.Compare _ _ _ _) _ _; first | refine we_eq ?_ | refine we_ne ?_ | refine we_lt ?_ | refine we_le ?_ | refine we_gt ?_ | refine we_ge ?_ | refine we_in ?_ | refine we_notin ?_)
     | walk_at "dw_we")
  | (guard_target = WT _ _ _ _ _ _; walk_at "dw_wt")
  | (guard_target = WL _ _ _ _ _ _; first | refine wl_cons ?_ | refine wl_nil ?_)
  | (guard_target = WW _ _ _ _ _ _; first | refine ww_and ?_ | refine ww_or ?_ | refine ww_and1 ?_ | refine ww_or1 ?_)
  | (guard_target = WO _ _ _ _ _ _; first | refine wo_none ?_ | refine wo_some ?_)
  | (guard_target = WF _ _ _ _ _ _; first | refine wf_list ?_ | refine wf_lc ?_ | refine wf_rep (wf_list ?_))
  | (guard_target = WS _ _ _ _ _ _; first | refine ws_cons ?_ | refine ws_nil ?_)
  | (guard_target = W1 _ _ _ _ _ _; first | walk_at "dw_1n" | (guard_target = W1 _ _ _ (.Assign [.Tuple [.Name "shown" _, .Name "told" _] _ _] (.Tuple _ _ _) _) _ _; refine w1_par 10 11 l_law_shown l_law_told (by decide) ?_) | (guard_target = W1 _ M_law _ (.Expr (.Call (.Attribute (.Name "things" _) "append" _) _ _ _) _) _ _; refine w1_append 6 r_law_things rfl ?_) | (guard_target = W1 _ M_law _ (.Assign [(.Name "things" _)] (.BinOp (.List _ _) .Mult _ _) _) _ _; refine w1_own 6 t_law_things (wf_rep (wf_list ?_))) | (guard_target = W1 _ M_law _ (.Assign [(.Name "things" _)] (.BinOp _ .Add _ _) _) _ _; refine w1_own 6 t_law_things (wf_add ?_)) | (guard_target = W1 _ M_law _ (.Assign [(.Name "things" _)] (.List _ _) _) _ _; refine w1_own 6 t_law_things (wf_list ?_)) | (guard_target = W1 _ _ _ (.Assign [(.Subscript (.Name "bag" _) (.Constant (.int 0) _ _) _)] _ _) _ _; refine w1_bag0 r_law_bag rfl hF ?_) | (guard_target = W1 _ _ _ (.Assign [(.Subscript (.Name "bag" _) (.Constant (.int 1) _ _) _)] _ _) _ _; refine w1_bag1 r_law_bag rfl hF ?_) | (guard_target = W1 _ _ _ (.AugAssign (.Subscript (.Name "bag" _) (.Constant (.int 2) _ _) _) _ _ _) _ _; refine w1_bag2 r_law_bag rfl hF ?_) | ((first | (guard_target = W1 _ _ _ (.Assign [.Name _ _] (.Call _ _ _ _) _) _ _) | (guard_target = W1 _ _ _ (.Assign [.Name _ _] (.BinOp _ _ _ _) _) _ _) | (guard_target = W1 _ _ _ (.Assign [.Name _ _] (.Name _ _) _) _ _) | (guard_target = W1 _ _ _ (.Assign [.Name _ _] (.Subscript _ _ _) _) _ _) | (guard_target = W1 _ _ _ (.Assign [.Name _ _] (.Constant _ _ _) _) _ _) | (guard_target = W1 _ _ _ (.Assign [.Name _ _] (.Compare _ _ _ _) _) _ _) | (guard_target = W1 _ _ _ (.Assign [.Name _ _] (.BoolOp _ _ _) _) _ _) | (guard_target = W1 _ _ _ (.Assign [.Name _ _] (.IfExp _ _ _ _) _) _ _) | (guard_target = W1 _ _ _ (.Assign [.Name _ _] (.Tuple _ _ _) _) _ _) | (guard_target = W1 _ _ _ (.Assign [.Name _ _] (.UnaryOp _ _ _) _) _ _)); first | (guard_target = W1 _ M_law _ (.Assign [(.Name "bag" _)] _ _) _ _; refine w1_set 1 t_law_bag ?_) | (guard_target = W1 _ M_law _ (.Assign [(.Name "scheme" _)] _ _) _ _; refine w1_set 3 t_law_scheme ?_) | (guard_target = W1 _ M_law _ (.Assign [(.Name "table" _)] _ _) _ _; refine w1_set 4 t_law_table ?_) | (guard_target = W1 _ M_law _ (.Assign [(.Name "turned" _)] _ _) _ _; refine w1_set 5 t_law_turned ?_) | (guard_target = W1 _ M_law _ (.Assign [(.Name "things" _)] _ _) _ _; refine w1_set 6 t_law_things ?_) | (guard_target = W1 _ M_law _ (.Assign [(.Name "at" _)] _ _) _ _; refine w1_set 8 t_law_at ?_)) | (guard_target = W1 _ _ _ (.Assign [.Tuple _ _ _] _ _) _ _; refine w1_asg ?_))
  | (guard_target = WJ _ _ _ _ _ _ _; first | (guard_target = WJ _ M_law _ _ (.Name "things" _) _ _; first | refine wj_mu 6 r_law_things rfl ?_ | refine wj_of ?_) | refine wj_of ?_)
  | (guard_target = WI _ _ _ _ _ _ _; first | refine wi_range B.range g_law_range ?_ | refine wi_range2 B.range g_law_range ?_ | refine wi_seq ?_)
  | (guard_target = WG _ _ _ _ _ _ _; first | (guard_target = WG _ M_law _ (.Name "turn" _) _ _ _; refine wg_name 2 t_law_turn ?_) | (guard_target = WG _ M_law _ (.Name "again" _) _ _ _; refine wg_name 7 t_law_again ?_) | (guard_target = WG _ M_law _ (.Name "thing" _) _ _ _; refine wg_name 9 t_law_thing ?_) | (guard_target = WG _ M_law _ (.Name "shown" _) _ _ _; refine wg_name 10 t_law_shown ?_) | (guard_target = WG _ M_law _ (.Name "told" _) _ _ _; refine wg_name 11 t_law_told ?_) | refine wg_tup rfl ?_)
  | (guard_target = WH _ _ _ _ _ _ _; first | refine wh_cons ?_ | refine wh_nil ?_)
  | (guard_target = WV _ _ _ _ _ _ _ _; first | (guard_target = WV _ (blkNm M_law _ kd_law_0 gl_law_0) _ _ (.Name "k" _) _ _ _; refine wv_name 12 (t_law_0_k _) (by decide) ?_) | (guard_target = WV _ (blkNm M_law _ kd_law_1 gl_law_1) _ _ (.Name "k" _) _ _ _; refine wv_name 12 (t_law_1_k _) (by decide) ?_) | refine wv_tup rfl ?_)
  | (guard_target = WVs _ _ _ _ _ _ _ _; first | refine wvs_cons ?_ | refine wvs_nil ?_)
  | walk_at "dw_d"
  | fail)
theorem take_cell {ns : List Int} {n : Int} (hns : ∀ k, k ∈ ns → 0 ≤ k) : ∃ (c : Int) (r : List PyData), 0 ≤ c ∧ cutD (ns.map PyData.int) (some n) none ++ [PyData.int 0] = .int c :: r := by
  cases h : cutD (ns.map PyData.int) (some n) none with
  | nil => exact ⟨0, [], by decide, rfl⟩
  | cons a r =>
    obtain ⟨k, hk, rfl⟩ := List.mem_map.mp (cutD_mem (x := a) (by rw [h]; exact List.Mem.head _))
    exact ⟨k, r ++ [PyData.int 0], hns k hk, rfl⟩
theorem take_sq (n k : Int) : DW.MulOk (n % 1000000007) (n % 1000000007) ∧ DW.MulOk (k % 998244353) 30011 := by
  have h1 := Int.emod_nonneg n (b := 1000000007) (by decide)
  have h2 := Int.emod_lt_of_pos n (b := 1000000007) (by decide)
  exact ⟨.inl ⟨by omega, by omega⟩, .inr (.inl ⟨by decide, by decide⟩)⟩
theorem fdiv_nonneg {n m : Int} (h : 0 ≤ n) (k : 0 < m) : 0 ≤ n.fdiv m := by
  rw [Int.fdiv_eq_ediv_of_nonneg _ (by omega)]
  exact Int.ediv_nonneg h (by omega)
theorem div_small {m : Int} (h0 : 0 < m) (h1 : m < 1073741824) : DivOk m := by
  have : NB 30 m := by unfold NB; omega
  exact this.div (by decide) (by decide) (by omega)
theorem p_law_take {G : Gd} (B : Blt G) (hg : G.grd = false) (hk : G.k = 0) (df : Df G "_law_take" s_law_take ["bag", "many"]) : Fn G (G.k + 1) "_law_take" ["bag", "many"] (spB G.K 2 sp_take) := by
  apply DW.Shut.out
  simp (disch := with_unfolding_all
  refine fn_bag df hg sc_law_take ok_law_take rfl fun F bb hF ds Q0 hl hs => ?_
  obtain ⟨m, rfl, h0, h1, hq⟩ := hs
  have hm : ∀ k : Int, Q0 (.int (k % m)) := fun k => hq _ (Int.emod_nonneg _ (by omega)) (Int.emod_lt_of_pos _ h0)
  have h8 : ∀ k : Int, 0 ≤ k % 2147483647 ∧ k % 2147483647 < 2147483647 := fun k => ⟨Int.emod_nonneg _ (by decide), Int.emod_lt_of_pos _ (by decide)⟩
  have h7 : DivOk 7 := ⟨by decide, by decide +kernel⟩
  repeat' (walk_at "st_law_take")
  · have := cutD_len (ns.map PyData.int) (some n) none
    rw [List.length_map] at this
    exact Nat.le_trans (Nat.add_le_add_right (Nat.le_trans this hln) 1) (lim_n _ (by decide))
  · obtain ⟨c, r, hc, e⟩ := take_cell (n := n) hns
    rw [e]
    refine d_ixL0 ?_
    repeat' (walk_at "st_law_take")
    · refine ⟨hc, ?_⟩
      repeat' (walk_at "st_law_take")
      all_goals first | decide | exact .inr (.inl ⟨by decide, by decide⟩) | exact .inl ⟨by decide, by decide⟩ | skip
      refine ⟨h8 _, ?_⟩
      repeat' (walk_at "st_law_take")
      all_goals first | decide | exact h0 | exact h7 | exact (take_sq _ 0).1 | exact (take_sq 0 _).2 | exact div_small h0 h1 | exact hm _ | exact .inr (.inl ⟨by decide, by decide⟩) | skip
      refine ⟨fdiv_nonneg hn h0, ?_⟩
      repeat' (walk_at "st_law_take")
      exact hm _
    · exact .inr (.inl ⟨by decide, by decide⟩)
    · decide
    · exact .inl ⟨by decide, by decide⟩
    · decide
    · refine ⟨h8 _, ?_⟩
      repeat' (walk_at "st_law_take")
      all_goals first | decide | exact h0 | exact h7 | exact (take_sq _ 0).1 | exact (take_sq 0 _).2 | exact div_small h0 h1 | exact hm _ | exact .inr (.inl ⟨by decide, by decide⟩) | skip
      refine ⟨fdiv_nonneg hn h0, ?_⟩
      repeat' (walk_at "st_law_take")
      exact hm _
  all_goals first | decide | exact h0 | exact h7 | exact (take_sq _ 0).1 | exact (take_sq 0 _).2 | exact div_small h0 h1 | exact hm _ | exact .inr (.inl ⟨by decide, by decide⟩) | skip
  refine ⟨fdiv_nonneg hn h0, ?_⟩
  repeat' (walk_at "st_law_take")
  exact hm _
   ) only [↓DW.shutI]
theorem p_law_mixed {G : Gd} (B : Blt G) (hg : G.grd = false) (hk : G.k = 1) (f_law_take : Fn G 1 "_law_take" ["bag", "many"] (spB G.K 2 sp_take)) (df : Df G "_law_mixed" s_law_mixed ["bag", "things"]) : Fn G (G.k + 1) "_law_mixed" ["bag", "things"] (spB G.K 2 sp_mixed) := by
  apply DW.Shut.out
  simp (disch := with_unfolding_all
  refine fn_bag df hg sc_law_mixed ok_law_mixed rfl fun F bb hF ds Q0 hl hs => ?_
  obtain ⟨xs, rfl, h1, hq⟩ := hs
  refine ws_cons (w1_own 2 t_law_mixed_found (wf_list (wl_nil ?_)))
  refine ⟨Nat.zero_le _, ?_⟩
  refine ws_cons (w1_for (fun i Γ => ∃ (ys : List PyData) (t : Bd), ys.Perm (xs.take i) ∧ Γ = [Bd.rw (.ref bb), Bd.im (.list xs), Bd.mu ys, t]) ?_)
  repeat' (walk_at "st_law_mixed")
  refine ⟨⟨[], _, List.Perm.refl _, rfl⟩, ?_, ?_⟩
  · rintro i d Γ1 hd ⟨ys, t, hp, rfl⟩
    have hi : i < xs.length := (List.getElem?_eq_some_iff.mp hd).1
    have hl : ys.length = i := by rw [hp.length_eq, List.length_take]; omega
    refine wg_name 3 t_law_mixed_thing ?_
    refine ws_cons (w1_insert 2 r_law_mixed_found rfl ?_)
    repeat' (walk_at "st_law_mixed")
    refine ⟨rfl, _, rfl, by omega, by omega, fun n hn hm => ?_⟩
    repeat' (walk_at "st_law_mixed")
    refine ⟨n, d, rfl, ?_, hn, by omega, ?_⟩
    · exact Nat.lt_of_lt_of_le (show ys.length < 1001 by omega) (by rw [lim_eq]; decide)
    refine ws_nil ?_
    refine ⟨_, _, ?_, rfl⟩
    rw [take_succ hd]
    refine List.Perm.trans ?_ (hp.append_right [d])
    have e : ys.take n.toNat ++ ys.drop n.toNat = ys := List.take_append_drop ..
    have p1 : (ys.take n.toNat ++ [d] ++ ys.drop n.toNat).Perm (ys.take n.toNat ++ ys.drop n.toNat ++ [d]) := by
      rw [List.append_assoc, List.append_assoc]
      exact List.Perm.append_left _ List.perm_append_comm
    rw [e] at p1
    exact p1
  · rintro Γ1 ⟨ys, t, hp, rfl⟩
    rw [List.take_length] at hp
    refine ws_freeze 2 rfl ?_
    repeat' (walk_at "st_law_mixed")
    exact hq _ hp
   ) only [↓DW.shutI]
theorem p_law_gcd {G : Gd} (B : Blt G) (hg : G.grd = false) (hk : G.k = 0) (df : Df G "_law_gcd" s_law_gcd ["one", "other"]) : Fn G (G.k + 1) "_law_gcd" ["one", "other"] (spD G.K 2 sp_lgcd) := by
  apply DW.Shut.out
  simp (disch := with_unfolding_all
  refine fn_pure df hg sc_law_gcd ok_law_gcd rfl fun F hF ds Q0 hl hs => ?_
  obtain ⟨a, b, rfl, ha, hb, hq⟩ := hs
  refine ws_cons (w1_while (fun m Γ => ∃ x y : Int, 0 ≤ x ∧ 0 ≤ y ∧ m = y.toNat ∧ Γ = [Bd.im (.int x), Bd.im (.int y)] ∧ Nat.gcd x.natAbs y.natAbs = Nat.gcd a.natAbs b.natAbs) _ ⟨a, b, ha, hb, rfl, rfl, rfl⟩ ?_)
  rintro m Γ ⟨x, y, hx, hy, rfl, rfl, hg'⟩
  repeat' (walk_at "st_law_gcd")
  · exact h
  · have h1 := Int.emod_lt_of_pos x h
    have h2 := Int.emod_nonneg x (b := y) (by omega)
    exact ⟨_, by omega, _, _, hy, h2, rfl, rfl, (gcd_step hx h).trans hg'⟩
  · have : y = 0 := by omega
    subst this
    rw [show Int.natAbs 0 = 0 from rfl, Nat.gcd_zero_right] at hg'
    rw [← hg', Int.natAbs_of_nonneg hx] at hq
    exact hq
   ) only [↓DW.shutI]
theorem p_law_fr {G : Gd} (B : Blt G) (hg : G.grd = false) (hk : G.k = 1) (f_law_gcd : Fn G 1 "_law_gcd" ["one", "other"] (spD G.K 2 sp_lgcd)) (df : Df G "_law_fr" s_law_fr ["num", "den"]) : Fn G (G.k + 1) "_law_fr" ["num", "den"] (spD G.K 2 sp_fraction) := by
  apply DW.Shut.out
  simp (disch := with_unfolding_all
  refine fn_pure df hg sc_law_fr ok_law_fr rfl fun F hF ds Q0 hl hs => ?_
  obtain ⟨n, d, rfl, hd, hq⟩ := hs
  repeat' (walk_at "st_law_fr")
  · have hd' : 0 < -d := by omega
    refine ⟨rfl, _, _, rfl, by omega, by omega, ?_⟩
    have hf := frac_pos (n := -n) hd'
    have hv := sgcd_ok (n := -n) (d := -d) ⟨by omega, by rw [Int.natAbs_neg]; exact hd.2⟩
    unfold sgcd at hv
    rw [if_pos hd'] at hv
    simp only [Int.natAbs_natCast]
    repeat' (walk_at "st_law_fr")
    · exact hv
    · exact hv
    · rw [hf.1, hf.2, Rat.neg_divInt_neg]; exact hq
  · have hd' : 0 < d := by have := hd.1; omega
    refine ⟨rfl, _, _, rfl, by omega, by omega, ?_⟩
    have hf := frac_pos (n := n) hd'
    have hv := sgcd_ok (n := n) hd
    unfold sgcd at hv
    rw [if_pos hd'] at hv
    simp only [Int.natAbs_natCast]
    repeat' (walk_at "st_law_fr")
    · exact hv
    · exact hv
    · rw [hf.1, hf.2]; exact hq
   ) only [↓DW.shutI]
theorem p_law_alike {G : Gd} (B : Blt G) (hG : G.grd = true) (hc : G.cq = none) (hk : G.k = 0) (df : Df G "_law_alike" s_law_alike ["found", "due"]) : FnG G (G.k + 1) "_law_alike" ["found", "due"] (spD G.K 2 sp_alike) := by
  apply DW.Shut.out
  simp (disch := with_unfolding_all
  refine fnG_pure hc df sc_law_alike ok_law_alike rfl fun F hF ds Q0 hl hs => ?_
  obtain ⟨xs, k, n, rfl, ht, hk, hn, hq⟩ := hs
  repeat' (walk_at "st_law_alike")
  refine d_eqSame ht hk ?_
  repeat' (walk_at "st_law_alike")
  refine ⟨trivial, d_repr ht hk hn ?_⟩
  repeat' (walk_at "st_law_alike")
  refine ⟨trivial, d_repr ht hk hn ?_⟩
  repeat' (walk_at "st_law_alike")
  rw [decide_eq_true rfl]
  exact hq
   ) only [↓DW.shutI]
theorem p_law_bag {G : Gd} (B : Blt G) (hg : G.grd = false) (hk : G.k = 0) (df : Df G "_law_bag" s_law_bag ["script"]) : Fn G (G.k + 1) "_law_bag" ["script"] (spNew G.K) := by
  apply DW.Shut.out
  simp (disch := with_unfolding_all
  refine fn_new df hg sc_law_bag ok_law_bag rfl rfl fun F hF ns hz => ⟨_, _, _, rfl, ?_⟩
  repeat' (walk_at "st_law_bag")
  refine wc_typ (ns.take 63) PyData.int (fun n => .int (n.natAbs : Int)) kd_law_bag_0 gl_law_bag_0 own_law_bag_0 ?_ ?_
  · decide +kernel
  repeat' (walk_at "st_law_bag")
  refine ⟨?_, fun n hn => ?_, ?_⟩
  · have := cutD_to (ns.map PyData.int) 63
    rw [List.map_take]; exact this
  · repeat' (walk_at "st_law_bag")
    rfl
  · repeat' (walk_at "st_law_bag")
    refine ⟨0, 1234567891, 0, (ns.take 63).map fun n => (n.natAbs : Int), by rw [List.map_map]; rfl, by decide, by decide, by decide, by decide, ?_, fun m hm => ?_⟩
    · rw [List.length_map, List.length_take]; omega
    · obtain ⟨k, _, rfl⟩ := List.mem_map.mp hm
      omega
   ) only [↓DW.shutI]
theorem p_is_integer {G : Gd} (B : Blt G) (hg : G.grd = false) (hk : G.k = 0) (df : Df G "is_integer" s_is_integer ["thing"]) : Fn G (G.k + 1) "is_integer" ["thing"] (spD G.K 1 sp_isint68) := by
  apply DW.Shut.out
  simp (disch := with_unfolding_all
  refine fn_pure df hg sc_is_integer ok_is_integer rfl fun F hF ds Q0 hl hs => ?_
  obtain ⟨d, rfl, hq⟩ := hs
  cases d
  all_goals
    repeat' (first | (guard_target = IsiD _ _ _; first | refine ⟨true, rfl, ?_⟩ | refine ⟨false, rfl, ?_⟩) | walk_at "st_is_integer" | fail)
    try exact hq
   ) only [↓DW.shutI]
theorem p_law_is_int {G : Gd} (B : Blt G) (hg : G.grd = false) (hk : G.k = 0) (df : Df G "_law_is_int" s_law_is_int ["thing"]) : Fn G (G.k + 1) "_law_is_int" ["thing"] (spD G.K 1 sp_isint68) := by
  apply DW.Shut.out
  simp (disch := with_unfolding_all
  refine fn_pure df hg sc_law_is_int ok_law_is_int rfl fun F hF ds Q0 hl hs => ?_
  obtain ⟨d, rfl, hq⟩ := hs
  cases d
  all_goals
    repeat' (first | (guard_target = IsiD _ _ _; first | refine ⟨true, rfl, ?_⟩ | refine ⟨false, rfl, ?_⟩) | walk_at "st_law_is_int" | fail)
    try exact hq
   ) only [↓DW.shutI]
theorem p_is_numbers {G : Gd} (B : Blt G) (hg : G.grd = false) (hk : G.k = 1) (f_is_integer : Fn G 1 "is_integer" ["thing"] (spD G.K 1 sp_isint68)) (df : Df G "is_numbers" s_is_numbers ["thing", "many"]) : Fn G (G.k + 1) "is_numbers" ["thing", "many"] (spD G.K 2 sp_nums64) := by
  apply DW.Shut.out
  simp (disch := with_unfolding_all
  refine fn_pure df hg sc_is_numbers ok_is_numbers rfl fun F hF ds Q0 hl hs => ?_
  obtain ⟨d, n, rfl, hq⟩ := hs
  cases d
  all_goals
    repeat' (first | (guard_target = IsiD _ _ _; first | refine ⟨true, rfl, ?_⟩ | refine ⟨false, rfl, ?_⟩) | refine br1 rfl ?_ | refine br2 rfl ?_ | refine br3 rfl ?_ | refine br4 rfl ?_ | walk_at "st_is_numbers" | fail)
    try exact hq
  · rename_i xs
    refine wc_typ xs (fun x => x) (fun x => .bool (isIntD x)) kd_is_numbers_0 gl_is_numbers_0 own_is_numbers_0 ?_ ?_
    · decide +kernel
    repeat' (walk_at "st_is_numbers")
    refine ⟨by rw [List.map_id'], fun x hx => ?_, d_allB ?_⟩
    · repeat' (walk_at "st_is_numbers")
      exact ⟨rfl, x, rfl, rfl⟩
    · rw [nums_len (Int.ofNat.inj h)] at hq
      exact hq
  · rw [nums_no fun e => h (congrArg Nat.cast e)] at hq
    exact hq
   ) only [↓DW.shutI]
theorem p_law_are_integers {G : Gd} (B : Blt G) (hg : G.grd = false) (hk : G.k = 1) (f_law_is_int : Fn G 1 "_law_is_int" ["thing"] (spD G.K 1 sp_isint68)) (df : Df G "_law_are_integers" s_law_are_integers ["thing", "many"]) : Fn G (G.k + 1) "_law_are_integers" ["thing", "many"] (spD G.K 2 sp_nums64) := by
  apply DW.Shut.out
  simp (disch := with_unfolding_all
  refine fn_pure df hg sc_law_are_integers ok_law_are_integers rfl fun F hF ds Q0 hl hs => ?_
  obtain ⟨d, n, rfl, hq⟩ := hs
  cases d
  all_goals
    repeat' (first | (guard_target = IsiD _ _ _; first | refine ⟨true, rfl, ?_⟩ | refine ⟨false, rfl, ?_⟩) | refine br1 rfl ?_ | refine br2 rfl ?_ | refine br3 rfl ?_ | refine br4 rfl ?_ | walk_at "st_law_are_integers" | fail)
    try exact hq
  · rename_i xs
    refine wc_ftyp xs (fun x => x) (fun x => !isIntD x) (fun _ => .int 1) kd_law_are_integers_0 gl_law_are_integers_0 own_law_are_integers_0 ?_ ?_
    · decide +kernel
    repeat' (walk_at "st_law_are_integers")
    refine ⟨by rw [List.map_id'], fun x hx => ?_, ?_⟩
    · repeat' (walk_at "st_law_are_integers")
      refine ⟨rfl, x, rfl, _, rfl, rfl, fun _ => ?_⟩
      repeat' (walk_at "st_law_are_integers")
      rfl
    repeat' (walk_at "st_law_are_integers")
    refine d_onesNil ?_
    rw [← List.all_eq_not_any_not, ← nums_len (Int.ofNat.inj h)]
    exact hq
  · rw [nums_no fun e => h (congrArg Nat.cast e)] at hq
    exact hq
   ) only [↓DW.shutI]
theorem p_is_name {G : Gd} (B : Blt G) (hg : G.grd = false) (hk : G.k = 0) (df : Df G "is_name" s_is_name ["thing"]) : Fn G (G.k + 1) "is_name" ["thing"] (spD G.K 1 sp_isname64) := by
  apply DW.Shut.out
  simp (disch := with_unfolding_all
  refine fn_pure df hg sc_is_name ok_is_name rfl fun F hF ds Q0 hl hs => ?_
  obtain ⟨d, rfl, hm, hq⟩ := hs
  cases d
  all_goals
    repeat' (first | (guard_target = IsiD _ _ _; first | refine ⟨true, rfl, ?_⟩ | refine ⟨false, rfl, ?_⟩) | refine br1 rfl ?_ | refine br2 rfl ?_ | refine br3 rfl ?_ | refine br4 rfl ?_ | walk_at "st_is_name" | fail)
    try exact hq
  rename_i s
  have hl := sm_len hm
  refine ⟨by rw [lim_eq]; omega, _, rfl, ?_⟩
  cases hb : (decide ((1 : Int) ≤ (s.length : Int)) && decide ((s.length : Int) ≤ 12)) with
  | false =>
    rw [nm_bad hb] at hq
    exact ⟨false, rfl, (fun z => nomatch z), fun _ => hq⟩
  | true =>
    rw [nm_len hb] at hq
    refine ⟨true, rfl, fun _ => ?_, (fun z => nomatch z)⟩
    repeat' (walk_at "st_is_name")
    refine wc_typ s.cps.toList (fun ch => PyData.str ⟨#[ch]⟩) (fun c => .bool (inT ⟨#[c]⟩ "abcdefghijklmnopqrstuvwxyz")) kd_is_name_0 gl_is_name_0 own_is_name_0 ?_ ?_
    · decide +kernel
    refine wj_of (wi_str ?_)
    repeat' (walk_at "st_is_name")
    refine ⟨s, rfl, by have : s.cps.size = s.length := rfl; rw [this, lim_eq]; omega, rfl, fun ch hch => ?_, d_allB hq⟩
    repeat' (walk_at "st_is_name")
    exact ⟨_, _, rfl, rfl, rfl⟩
   ) only [↓DW.shutI]
theorem p_law_is_name {G : Gd} (B : Blt G) (hg : G.grd = false) (hk : G.k = 0) (df : Df G "_law_is_name" s_law_is_name ["thing"]) : Fn G (G.k + 1) "_law_is_name" ["thing"] (spD G.K 1 sp_isname64) := by
  apply DW.Shut.out
  simp (disch := with_unfolding_all
  refine fn_pure df hg sc_law_is_name ok_law_is_name rfl fun F hF ds Q0 hl hs => ?_
  obtain ⟨d, rfl, hm, hq⟩ := hs
  cases d
  all_goals
    repeat' (first | (guard_target = IsiD _ _ _; first | refine ⟨true, rfl, ?_⟩ | refine ⟨false, rfl, ?_⟩) | refine br1 rfl ?_ | refine br2 rfl ?_ | refine br3 rfl ?_ | refine br4 rfl ?_ | walk_at "st_law_is_name" | fail)
    try exact hq
  rename_i s
  have hl := sm_len hm
  refine ⟨by rw [lim_eq]; omega, _, rfl, ?_⟩
  cases hb : (decide ((1 : Int) ≤ (s.length : Int)) && decide ((s.length : Int) ≤ 12)) with
  | false =>
    rw [nm_bad hb] at hq
    refine ⟨fun _ => ?_, (fun z => nomatch z)⟩
    repeat' (walk_at "st_law_is_name")
    exact hq
  | true =>
    rw [nm_len hb] at hq
    refine ⟨(fun z => nomatch z), fun _ => ?_⟩
    repeat' (walk_at "st_law_is_name")
    refine wc_ftyp s.cps.toList (fun ch => PyData.str ⟨#[ch]⟩) (fun c => !inT ⟨#[c]⟩ "abcdefghijklmnopqrstuvwxyz") (fun ch => PyData.str ⟨#[ch]⟩) kd_law_is_name_0 gl_law_is_name_0 own_law_is_name_0 ?_ ?_
    · decide +kernel
    refine wj_of (wi_str ?_)
    repeat' (walk_at "st_law_is_name")
    refine ⟨s, rfl, by have : s.cps.size = s.length := rfl; rw [this, lim_eq]; omega, rfl, fun ch hch => ?_, ?_⟩
    · repeat' (walk_at "st_law_is_name")
      refine ⟨_, _, rfl, rfl, rfl, fun _ => ?_⟩
      repeat' (walk_at "st_law_is_name")
      rfl
    repeat' (walk_at "st_law_is_name")
    refine d_filtNil (fun x hx => flat_char hm hx) ?_
    simpa using hq
   ) only [↓DW.shutI]
theorem p_is_fraction {G : Gd} (B : Blt G) (hg : G.grd = false) (hk : G.k = 1) (f_is_integer : Fn G 1 "is_integer" ["thing"] (spD G.K 1 sp_isint68)) (df : Df G "is_fraction" s_is_fraction ["thing"]) : Fn G (G.k + 1) "is_fraction" ["thing"] (spD G.K 1 sp_isfrac64) := by
  apply DW.Shut.out
  simp (disch := with_unfolding_all
  refine fn_pure df hg sc_is_fraction ok_is_fraction rfl fun F hF ds Q0 hl hs => ?_
  obtain ⟨d, rfl, hm, hq⟩ := hs
  cases d
  all_goals
    repeat' (first | (guard_target = IsiD _ _ _; first | refine ⟨true, rfl, ?_⟩ | refine ⟨false, rfl, ?_⟩) | refine br1 rfl ?_ | refine br2 rfl ?_ | refine br3 rfl ?_ | refine br4 rfl ?_ | walk_at "st_is_fraction" | fail)
    try exact hq
  · rw [fr_len fun e => h (congrArg Nat.cast e)] at hq
    exact hq
  rename_i xs
  obtain ⟨x, y, rfl⟩ := two_of (Int.ofNat.inj h)
  refine wc_typ [x, y] (fun x => x) (fun x => .bool (isIntD x)) kd_is_fraction_0 gl_is_fraction_0 own_is_fraction_0 ?_ ?_
  · decide +kernel
  repeat' (walk_at "st_is_fraction")
  refine ⟨by rw [List.map_id'], fun x hx => ?_, d_allB ?_⟩
  · repeat' (walk_at "st_is_fraction")
    exact ⟨rfl, x, rfl, rfl⟩
  cases hb : [x, y].all isIntD with
  | false =>
    rw [fr_int hb] at hq
    refine ⟨_, rfl, fun _ => ?_, fun z => (nomatch z)⟩
    repeat' (walk_at "st_is_fraction")
    exact hq
  | true =>
    obtain ⟨a, b, rfl, rfl⟩ := ints_of hb
    refine ⟨_, rfl, fun z => (nomatch z), fun _ => ?_⟩
    repeat' (walk_at "st_is_fraction")
    · rw [fr_two, decide_eq_true h, Bool.true_and] at hq
      rw [show decide (((a.natAbs.gcd b.natAbs : Nat) : Int) = 1) = decide (Int.gcd a b = 1) from decide_eq_decide.mpr ⟨fun e => Int.ofNat.inj e, fun e => congrArg Nat.cast e⟩]
      exact hq
    · rw [fr_two, decide_eq_false h, Bool.false_and] at hq
      exact hq
   ) only [↓DW.shutI]
theorem p_is_row {G : Gd} (B : Blt G) (hg : G.grd = false) (hk : G.k = 2) (f_is_fraction : Fn G 2 "is_fraction" ["thing"] (spD G.K 1 sp_isfrac64)) (df : Df G "is_row" s_is_row ["thing", "many"]) : Fn G (G.k + 1) "is_row" ["thing", "many"] (spD G.K 2 sp_row64) := by
  apply DW.Shut.out
  simp (disch := with_unfolding_all
  refine fn_pure df hg sc_is_row ok_is_row rfl fun F hF ds Q0 hl hs => ?_
  obtain ⟨d, n, rfl, hm, hq⟩ := hs
  cases d
  all_goals
    repeat' (first | (guard_target = IsiD _ _ _; first | refine ⟨true, rfl, ?_⟩ | refine ⟨false, rfl, ?_⟩) | refine br1 rfl ?_ | refine br2 rfl ?_ | refine br3 rfl ?_ | refine br4 rfl ?_ | walk_at "st_is_row" | fail)
    try exact hq
  · rename_i xs
    refine wc_typ xs (fun x => x) (fun x => .bool (isFrB x)) kd_is_row_0 gl_is_row_0 own_is_row_0 ?_ ?_
    · decide +kernel
    repeat' (walk_at "st_is_row")
    refine ⟨by rw [List.map_id'], fun x hx => ?_, d_allB ?_⟩
    · repeat' (walk_at "st_is_row")
      exact ⟨rfl, x, rfl, sm_all hm x hx, rfl⟩
    · rw [row_len (Int.ofNat.inj h)] at hq
      exact hq
  · rw [row_no fun e => h (congrArg Nat.cast e)] at hq
    exact hq
   ) only [↓DW.shutI]
theorem p_law_is_vector {G : Gd} (B : Blt G) (hg : G.grd = false) (hk : G.k = 2) (f_law_is_int : Fn G 1 "_law_is_int" ["thing"] (spD G.K 1 sp_isint68)) (f_law_gcd : Fn G 1 "_law_gcd" ["one", "other"] (spD G.K 2 sp_lgcd)) (df : Df G "_law_is_vector" s_law_is_vector ["many", "thing"]) : Fn G (G.k + 1) "_law_is_vector" ["many", "thing"] (spD G.K 2 sp_lvec64) := by
  apply DW.Shut.out
  simp (disch := with_unfolding_all
  refine fn_pure df hg sc_law_is_vector ok_law_is_vector rfl fun F hF ds Q0 hl hs => ?_
  obtain ⟨d, n, rfl, hm, hq⟩ := hs
  cases d
  all_goals
    repeat' (first | (guard_target = IsiD _ _ _; first | refine ⟨true, rfl, ?_⟩ | refine ⟨false, rfl, ?_⟩) | refine br1 rfl ?_ | refine br2 rfl ?_ | refine br3 rfl ?_ | refine br4 rfl ?_ | walk_at "st_law_is_vector" | fail)
    try exact hq
  · rw [row_no fun e => h (congrArg Nat.cast e)] at hq
    exact hq
  rename_i xs
  rw [row_len (Int.ofNat.inj h)] at hq
  refine w1_for (fun i Γ => ∃ t2 : Bd, (xs.take i).all isFrB = true ∧ Γ = [Bd.im (.int (n : Int)), Bd.im (.tuple xs), t2]) ?_
  repeat' (walk_at "st_law_is_vector")
  refine ⟨⟨_, rfl, rfl⟩, ?_, ?_⟩
  · rintro i x Γ1 hx ⟨t2, hall, rfl⟩
    have hsx := sm_all hm x (List.mem_of_getElem? hx)
    have bad : isFrB x = false → xs.all isFrB = false := fun e => all_at hx e
    have good : isFrB x = true → (xs.take (i + 1)).all isFrB = true := fun e => all_take hall hx e
    repeat' (walk_at "st_law_is_vector")
    cases x
    all_goals
      repeat' (first | (guard_target = IsiD _ _ _; first | refine ⟨true, rfl, ?_⟩ | refine ⟨false, rfl, ?_⟩) | refine br1 rfl ?_ | refine br2 rfl ?_ | refine br3 rfl ?_ | refine br4 rfl ?_ | walk_at "st_law_is_vector" | fail)
      try (rw [bad rfl] at hq; exact hq)
    · rename_i ys h
      rw [bad (fr_len fun e => h (congrArg Nat.cast e))] at hq
      exact hq
    rename_i ys
    obtain ⟨a, b, rfl⟩ := two_of (Int.ofNat.inj h)
    obtain ⟨ha, hb⟩ := sm_two hsx
    repeat' (walk_at "st_law_is_vector")
    refine ⟨rfl, a, rfl, ?_⟩
    cases a
    all_goals
      repeat' (first | refine br1 rfl ?_ | refine br2 rfl ?_ | refine br3 rfl ?_ | refine br4 rfl ?_ | walk_at "st_law_is_vector" | fail)
      try (rw [bad rfl] at hq; exact hq)
    refine ⟨rfl, b, rfl, ?_⟩
    cases b
    all_goals
      repeat' (first | refine br1 rfl ?_ | refine br2 rfl ?_ | refine br3 rfl ?_ | refine br4 rfl ?_ | walk_at "st_law_is_vector" | fail)
      try (rw [bad rfl] at hq; exact hq)
    · rename_i a b hz
      rw [bad (by rw [fr_two, decide_eq_false (show ¬ 0 < b by omega), Bool.false_and])] at hq
      exact hq
    rename_i a b hz
    refine ⟨rfl, _, _, rfl, Int.natCast_nonneg _, by omega, ?_⟩
    rw [Int.natAbs_natCast]
    have e1 : isFrB (.tuple [.int a, .int b]) = decide (Int.gcd a b = 1) := by rw [fr_two, decide_eq_true (show 0 < b by omega), Bool.true_and]
    repeat' (walk_at "st_law_is_vector")
    · rw [bad (by rw [e1]; exact decide_eq_false fun e => h (congrArg Nat.cast e))] at hq
      exact hq
    · refine ⟨_, good ?_, rfl⟩
      rw [e1]
      exact decide_eq_true (Int.ofNat.inj h)
  · rintro Γ1 ⟨t2, hall, rfl⟩
    rw [List.take_length] at hall
    rw [hall] at hq
    repeat' (walk_at "st_law_is_vector")
    exact hq
   ) only [↓DW.shutI]
theorem p_is_table {G : Gd} (B : Blt G) (hg : G.grd = false) (hk : G.k = 3) (f_is_row : Fn G 3 "is_row" ["thing", "many"] (spD G.K 2 sp_row64)) (df : Df G "is_table" s_is_table ["scheme", "thing"]) : Fn G (G.k + 1) "is_table" ["scheme", "thing"] (spD G.K 2 sp_table64) := by
  apply DW.Shut.out
  simp (disch := with_unfolding_all
  refine fn_pure df hg sc_is_table ok_is_table rfl fun F hF ds Q0 hl hs => ?_
  obtain ⟨w, hs0, rs, t1, t2, t3, d, rfl, hm, hq⟩ := hs
  cases d
  all_goals
    repeat' (first | (guard_target = IsiD _ _ _; first | refine ⟨true, rfl, ?_⟩ | refine ⟨false, rfl, ?_⟩) | refine br1 rfl ?_ | refine br2 rfl ?_ | refine br3 rfl ?_ | refine br4 rfl ?_ | walk_at "st_is_table" | fail)
    try exact hq
  · rw [tab_len fun e => h (congrArg Nat.cast e)] at hq
    exact hq
  rename_i xs
  obtain ⟨x, y, rfl⟩ := two_of (Int.ofNat.inj h)
  obtain ⟨hx, hy⟩ := sm_two hm
  rw [tab_two] at hq
  repeat' (walk_at "st_is_table")
  refine ⟨rfl, x, hs0.length, rfl, hx, ?_⟩
  cases hb : rowB hs0.length x with
  | false =>
    rw [hb] at hq
    refine ⟨_, rfl, fun _ => ?_, fun z => (nomatch z)⟩
    repeat' (walk_at "st_is_table")
    exact hq
  | true =>
    rw [hb, Bool.true_and] at hq
    refine ⟨_, rfl, fun z => (nomatch z), fun _ => ?_⟩
    repeat' (walk_at "st_is_table")
    cases y
    all_goals
      repeat' (first | (guard_target = IsiD _ _ _; first | refine ⟨true, rfl, ?_⟩ | refine ⟨false, rfl, ?_⟩) | refine br1 rfl ?_ | refine br2 rfl ?_ | refine br3 rfl ?_ | refine br4 rfl ?_ | walk_at "st_is_table" | fail)
      try exact hq
    rename_i ys
    refine wc_typ ys (fun x => x) (fun x => .bool (rowB rs.length x)) kd_is_table_0 gl_is_table_0 own_is_table_0 ?_ ?_
    · decide +kernel
    repeat' (walk_at "st_is_table")
    refine ⟨by rw [List.map_id'], fun x hx => ?_, d_allB hq⟩
    repeat' (walk_at "st_is_table")
    exact ⟨rfl, x, rs.length, rfl, sm_all hy x hx, rfl⟩
   ) only [↓DW.shutI]
theorem p_law_is_table {G : Gd} (B : Blt G) (hg : G.grd = false) (hk : G.k = 3) (f_law_is_vector : Fn G 3 "_law_is_vector" ["many", "thing"] (spD G.K 2 sp_lvec64)) (df : Df G "_law_is_table" s_law_is_table ["scheme", "thing"]) : Fn G (G.k + 1) "_law_is_table" ["scheme", "thing"] (spD G.K 2 sp_table64) := by
  apply DW.Shut.out
  simp (disch := with_unfolding_all
  refine fn_pure df hg sc_law_is_table ok_law_is_table rfl fun F hF ds Q0 hl hs => ?_
  obtain ⟨w, hs0, rs, t1, t2, t3, d, rfl, hm, hq⟩ := hs
  cases d
  all_goals
    repeat' (first | (guard_target = IsiD _ _ _; first | refine ⟨true, rfl, ?_⟩ | refine ⟨false, rfl, ?_⟩) | refine br1 rfl ?_ | refine br2 rfl ?_ | refine br3 rfl ?_ | refine br4 rfl ?_ | walk_at "st_law_is_table" | fail)
    try exact hq
  · rw [tab_len fun e => h (congrArg Nat.cast e)] at hq
    exact hq
  rename_i xs
  obtain ⟨x, y, rfl⟩ := two_of (Int.ofNat.inj h)
  obtain ⟨hx, hy⟩ := sm_two hm
  rw [tab_two] at hq
  repeat' (walk_at "st_law_is_table")
  refine ⟨rfl, x, hs0.length, rfl, hx, ?_⟩
  cases hb : rowB hs0.length x with
  | false =>
    rw [hb] at hq
    refine ⟨_, rfl, fun _ => ?_, fun z => (nomatch z)⟩
    repeat' (walk_at "st_law_is_table")
    exact hq
  | true =>
    rw [hb, Bool.true_and] at hq
    refine ⟨_, rfl, fun z => (nomatch z), fun _ => ?_⟩
    repeat' (walk_at "st_law_is_table")
    cases y
    all_goals
      repeat' (first | (guard_target = IsiD _ _ _; first | refine ⟨true, rfl, ?_⟩ | refine ⟨false, rfl, ?_⟩) | refine br1 rfl ?_ | refine br2 rfl ?_ | refine br3 rfl ?_ | refine br4 rfl ?_ | walk_at "st_law_is_table" | fail)
      try exact hq
    rename_i ys
    refine wc_ftyp ys (fun x => x) (fun x => !rowB rs.length x) (fun _ => .int 1) kd_law_is_table_0 gl_law_is_table_0 own_law_is_table_0 ?_ ?_
    · decide +kernel
    repeat' (walk_at "st_law_is_table")
    refine ⟨by rw [List.map_id'], fun x hx => ?_, ?_⟩
    · repeat' (walk_at "st_law_is_table")
      refine ⟨rfl, x, rs.length, rfl, sm_all hy x hx, _, rfl, rfl, fun _ => ?_⟩
      repeat' (walk_at "st_law_is_table")
      rfl
    repeat' (walk_at "st_law_is_table")
    refine d_onesNil ?_
    rw [← List.all_eq_not_any_not]
    exact hq
   ) only [↓DW.shutI]
theorem p_is_scheme_rule {G : Gd} (B : Blt G) (hg : G.grd = false) (hk : G.k = 2) (f_is_integer : Fn G 1 "is_integer" ["thing"] (spD G.K 1 sp_isint68)) (f_is_numbers : Fn G 2 "is_numbers" ["thing", "many"] (spD G.K 2 sp_nums64)) (df : Df G "is_scheme_rule" s_is_scheme_rule ["head", "row", "thing"]) : Fn G (G.k + 1) "is_scheme_rule" ["head", "row", "thing"] (spD G.K 3 sp_srule64) := by
  apply DW.Shut.out
  simp (disch := with_unfolding_all
  refine fn_pure df hg sc_is_scheme_rule ok_is_scheme_rule rfl fun F hF ds Q0 hl hs => ?_
  obtain ⟨hs0, rs, t1, t2, d, rfl, hm, hq⟩ := hs
  cases d
  all_goals
    repeat' (first | (guard_target = IsiD _ _ _; first | refine ⟨true, rfl, ?_⟩ | refine ⟨false, rfl, ?_⟩) | refine br1 rfl ?_ | refine br2 rfl ?_ | refine br3 rfl ?_ | refine br4 rfl ?_ | walk_at "st_is_scheme_rule" | fail)
    try exact hq
  · rw [rule_short (show _ < 3 by omega)] at hq
    exact hq
  obtain ⟨x, y, z, t, rfl⟩ := len_cases (fun e => h (Int.ofNat_lt.mpr e))
  repeat' (walk_at "st_is_scheme_rule")
  cases x
  all_goals
    repeat' (first | (guard_target = IsiD _ _ _; first | refine ⟨true, rfl, ?_⟩ | refine ⟨false, rfl, ?_⟩) | refine br1 rfl ?_ | refine br2 rfl ?_ | refine br3 rfl ?_ | refine br4 rfl ?_ | walk_at "st_is_scheme_rule" | fail)
    try (rw [rule_s0 (by intro s; exact PyData.noConfusion)] at hq; exact hq)
  cases y
  all_goals
    repeat' (first | (guard_target = IsiD _ _ _; first | refine ⟨true, rfl, ?_⟩ | refine ⟨false, rfl, ?_⟩) | refine br1 rfl ?_ | refine br2 rfl ?_ | refine br3 rfl ?_ | refine br4 rfl ?_ | walk_at "st_is_scheme_rule" | fail)
    try (rw [rule_s1 (by intro s; exact PyData.noConfusion)] at hq; exact hq)
  rename_i a b
  rw [rule_at] at hq
  refine d_inS2 ?_
  cases hb : decide (b ∈ (["=", "<="] : List Str)) with
  | false =>
    rw [hb, Bool.false_and] at hq
    refine ⟨fun _ => ?_, fun z => (nomatch z)⟩
    repeat' (walk_at "st_is_scheme_rule")
    exact hq
  | true =>
    rw [hb, Bool.true_and] at hq
    refine ⟨fun z => (nomatch z), fun _ => ?_⟩
    repeat' (first | refine br1 rfl ?_ | refine br2 rfl ?_ | refine br3 rfl ?_ | refine br4 rfl ?_ | walk_at "st_is_scheme_rule" | fail)
    · rename_i he
      rw [if_pos he] at hq
      obtain ⟨y, rfl⟩ := tl1 h
      refine ⟨rfl, z, _, rfl, ?_⟩
      rw [show headB hs0.length z [y] = (numsB hs0.length z && isIntD y) from rfl] at hq
      cases hz : numsB hs0.length z with
      | false =>
        rw [hz] at hq
        exact ⟨_, rfl, (fun z => nomatch z), fun _ => hq⟩
      | true =>
        rw [hz, Bool.true_and] at hq
        refine ⟨_, rfl, fun _ => ?_, fun z => (nomatch z)⟩
        repeat' (walk_at "st_is_scheme_rule")
        exact ⟨rfl, y, rfl, hq⟩
    · rename_i he
      rw [if_pos he, head_no (tn (n := 1) h)] at hq
      exact hq
    · rename_i he hr
      rw [if_neg he, if_pos hr] at hq
      obtain rfl := tl0 h
      exact ⟨rfl, z, _, rfl, hq⟩
    · rename_i he hr
      rw [if_neg he, if_pos hr, row_no' (tn (n := 0) h)] at hq
      exact hq
    · rename_i he hr
      rw [if_neg he, if_neg hr, if_neg h] at hq
      exact hq
    · rename_i he hr hsu
      rw [if_neg he, if_neg hr, if_pos hsu, sum_no (tn (n := 2) h)] at hq
      exact hq
    · rename_i he hr hsu
      rw [if_neg he, if_neg hr, if_pos hsu] at hq
      obtain ⟨y, u, rfl⟩ := tl2 h
      rw [show sumB hs0.length rs.length z [y, u] = (numsB hs0.length z && numsB rs.length y && isIntD u) from rfl] at hq
      repeat' (walk_at "st_is_scheme_rule")
      refine d_ix4 ?_
      repeat' (walk_at "st_is_scheme_rule")
      refine ⟨rfl, u, rfl, ?_⟩
      cases hu : isIntD u with
      | false =>
        rw [hu, Bool.and_false] at hq
        refine ⟨_, rfl, fun _ => ?_, fun z => (nomatch z)⟩
        repeat' (walk_at "st_is_scheme_rule")
        exact hq
      | true =>
        rw [hu, Bool.and_true] at hq
        refine ⟨_, rfl, fun z => (nomatch z), fun _ => ?_⟩
        repeat' (walk_at "st_is_scheme_rule")
        refine ⟨rfl, z, _, rfl, ?_⟩
        cases hz : numsB hs0.length z with
        | false =>
          rw [hz, Bool.false_and] at hq
          exact ⟨_, rfl, (fun z => nomatch z), fun _ => hq⟩
        | true =>
          rw [hz, Bool.true_and] at hq
          refine ⟨_, rfl, fun _ => ?_, fun z => (nomatch z)⟩
          repeat' (walk_at "st_is_scheme_rule")
          exact ⟨rfl, y, _, rfl, hq⟩
   ) only [↓DW.shutI]
theorem p_law_is_rule_of {G : Gd} (B : Blt G) (hg : G.grd = false) (hk : G.k = 2) (f_law_are_integers : Fn G 2 "_law_are_integers" ["thing", "many"] (spD G.K 2 sp_nums64)) (f_law_is_int : Fn G 1 "_law_is_int" ["thing"] (spD G.K 1 sp_isint68)) (df : Df G "_law_is_rule_of" s_law_is_rule_of ["thing", "heads", "rows"]) : Fn G (G.k + 1) "_law_is_rule_of" ["thing", "heads", "rows"] (spD G.K 3 sp_lrule64) := by
  apply DW.Shut.out
  simp (disch := with_unfolding_all
  refine fn_pure df hg sc_law_is_rule_of ok_law_is_rule_of rfl fun F hF ds Q0 hl hs => ?_
  obtain ⟨h0, r0, d, rfl, hm, hq⟩ := hs
  cases d
  all_goals
    repeat' (first | (guard_target = IsiD _ _ _; first | refine ⟨true, rfl, ?_⟩ | refine ⟨false, rfl, ?_⟩) | refine br1 rfl ?_ | refine br2 rfl ?_ | refine br3 rfl ?_ | refine br4 rfl ?_ | walk_at "st_law_is_rule_of" | fail)
    try exact hq
  · rw [rule_short (show _ < 3 by omega)] at hq
    exact hq
  obtain ⟨x, y, z, t, rfl⟩ := len_cases (fun e => h (Int.ofNat_lt.mpr e))
  repeat' (walk_at "st_law_is_rule_of")
  cases x
  all_goals
    repeat' (first | (guard_target = IsiD _ _ _; first | refine ⟨true, rfl, ?_⟩ | refine ⟨false, rfl, ?_⟩) | refine br1 rfl ?_ | refine br2 rfl ?_ | refine br3 rfl ?_ | refine br4 rfl ?_ | walk_at "st_law_is_rule_of" | fail)
    try (rw [rule_s0 (by intro s; exact PyData.noConfusion)] at hq; exact hq)
  cases y
  all_goals
    repeat' (first | (guard_target = IsiD _ _ _; first | refine ⟨true, rfl, ?_⟩ | refine ⟨false, rfl, ?_⟩) | refine br1 rfl ?_ | refine br2 rfl ?_ | refine br3 rfl ?_ | refine br4 rfl ?_ | walk_at "st_law_is_rule_of" | fail)
    try (rw [rule_s1 (by intro s; exact PyData.noConfusion)] at hq; exact hq)
  rename_i a b
  rw [rule_at] at hq
  refine d_inS2 ?_
  cases hb : decide (b ∈ (["=", "<="] : List Str)) with
  | false =>
    rw [hb, Bool.false_and] at hq
    refine ⟨fun _ => ?_, fun z => (nomatch z)⟩
    repeat' (walk_at "st_law_is_rule_of")
    exact hq
  | true =>
    rw [hb, Bool.true_and] at hq
    refine ⟨fun z => (nomatch z), fun _ => ?_⟩
    repeat' (first | refine br1 rfl ?_ | refine br2 rfl ?_ | refine br3 rfl ?_ | refine br4 rfl ?_ | walk_at "st_law_is_rule_of" | fail)
    · rename_i he
      rw [if_pos he] at hq
      obtain ⟨y, rfl⟩ := tl1 h
      refine ⟨rfl, z, _, rfl, ?_⟩
      rw [show headB h0 z [y] = (numsB h0 z && isIntD y) from rfl] at hq
      cases hz : numsB h0 z with
      | false =>
        rw [hz] at hq
        exact ⟨_, rfl, (fun z => nomatch z), fun _ => hq⟩
      | true =>
        rw [hz, Bool.true_and] at hq
        refine ⟨_, rfl, fun _ => ?_, fun z => (nomatch z)⟩
        repeat' (walk_at "st_law_is_rule_of")
        exact ⟨rfl, y, rfl, hq⟩
    · rename_i he
      rw [if_pos he, head_no (tn (n := 1) h)] at hq
      exact hq
    · rename_i he hr
      rw [if_neg he, if_pos hr] at hq
      obtain rfl := tl0 h
      exact ⟨rfl, z, _, rfl, hq⟩
    · rename_i he hr
      rw [if_neg he, if_pos hr, row_no' (tn (n := 0) h)] at hq
      exact hq
    · rename_i he hr
      rw [if_neg he, if_neg hr, if_neg h] at hq
      exact hq
    · rename_i he hr hsu
      rw [if_neg he, if_neg hr, if_pos hsu, sum_no (tn (n := 2) h)] at hq
      exact hq
    · rename_i he hr hsu
      rw [if_neg he, if_neg hr, if_pos hsu] at hq
      obtain ⟨y, u, rfl⟩ := tl2 h
      rw [show sumB h0 r0 z [y, u] = (numsB h0 z && numsB r0 y && isIntD u) from rfl] at hq
      repeat' (walk_at "st_law_is_rule_of")
      refine ⟨rfl, z, _, rfl, ?_⟩
      cases hz : numsB h0 z with
      | false =>
        rw [hz, Bool.false_and, Bool.false_and] at hq
        exact ⟨_, rfl, (fun z => nomatch z), fun _ => hq⟩
      | true =>
        rw [hz, Bool.true_and] at hq
        refine ⟨_, rfl, fun _ => ?_, fun z => (nomatch z)⟩
        repeat' (walk_at "st_law_is_rule_of")
        refine ⟨rfl, y, _, rfl, ?_⟩
        cases hy : numsB r0 y with
        | false =>
          rw [hy, Bool.false_and] at hq
          exact ⟨_, rfl, (fun z => nomatch z), fun _ => hq⟩
        | true =>
          rw [hy, Bool.true_and] at hq
          refine ⟨_, rfl, fun _ => ?_, fun z => (nomatch z)⟩
          repeat' (walk_at "st_law_is_rule_of")
          refine d_ix4 ?_
          repeat' (walk_at "st_law_is_rule_of")
          exact ⟨rfl, u, rfl, hq⟩
   ) only [↓DW.shutI]
theorem p_is_side {G : Gd} (B : Blt G) (hg : G.grd = false) (hk : G.k = 2) (f_is_name : Fn G 1 "is_name" ["thing"] (spD G.K 1 sp_isname64)) (df : Df G "is_side" s_is_side ["thing", "least"]) : Fn G (G.k + 1) "is_side" ["thing", "least"] (spD G.K 2 sp_side64) := by
  apply DW.Shut.out
  simp (disch := with_unfolding_all
  refine fn_pure df hg sc_is_side ok_is_side rfl fun F hF ds Q0 hl hs => ?_
  obtain ⟨d, least, rfl, hw, hq⟩ := hs
  cases d
  all_goals
    repeat' (first | (guard_target = IsiD _ _ _; first | refine ⟨true, rfl, ?_⟩ | refine ⟨false, rfl, ?_⟩) | refine br1 rfl ?_ | refine br2 rfl ?_ | refine br3 rfl ?_ | refine br4 rfl ?_ | walk_at "st_is_side" | fail)
    try (rw [side_tup (fun xs => PyData.noConfusion)] at hq; exact hq)
  · rw [side_len fun e => h (congrArg Nat.cast e)] at hq
    exact hq
  rename_i xs
  obtain ⟨a, b, c, rfl⟩ := three_at (Int.ofNat.inj h)
  refine wc_typ [a, b, c] (fun x => x) (fun x => .bool (isTup x)) kd_is_side_0 gl_is_side_0 own_is_side_0 ?_ ?_
  · decide +kernel
  repeat' (walk_at "st_is_side")
  refine ⟨by rw [List.map_id'], fun x hx => ?_, d_allB ?_⟩
  · repeat' (walk_at "st_is_side")
    cases x
    all_goals
      first | refine ⟨true, rfl, ?_⟩ | refine ⟨false, rfl, ?_⟩
      rfl
  cases ht : [a, b, c].all isTup with
  | false =>
    rw [side_parts ht] at hq
    refine ⟨_, rfl, fun _ => ?_, fun z => (nomatch z)⟩
    repeat' (walk_at "st_is_side")
    exact hq
  | true =>
    obtain ⟨cs, gs0, fr0, rfl, rfl, rfl⟩ := tups3 ht
    refine ⟨_, rfl, fun z => (nomatch z), fun _ => ?_⟩
    repeat' (first | refine br1 rfl ?_ | refine br2 rfl ?_ | refine br3 rfl ?_ | refine br4 rfl ?_ | walk_at "st_is_side" | fail)
    · rw [side_few (Int.ofNat_lt.mp h)] at hq
      exact hq
    have hwc : Whl 60 30 20000 30 (.tuple cs) := hw.mem (by simp)
    have hwg : Whl 60 30 20000 30 (.tuple gs0) := hw.mem (by simp)
    have hwf : Whl 60 30 20000 30 (.tuple fr0) := hw.mem (by simp)
    have lc := hwc.len
    have lg := hwg.len
    have lf := hwf.len
    refine wc_typ cs (fun x => x) (fun x => .bool (isNmB x)) kd_is_side_1 gl_is_side_1 own_is_side_1 ?_ ?_
    · decide +kernel
    repeat' (walk_at "st_is_side")
    refine ⟨by rw [List.map_id'], fun x hx => ?_, d_allB ?_⟩
    · repeat' (walk_at "st_is_side")
      exact ⟨rfl, x, rfl, (hwc.mem hx).sm, rfl⟩
    cases hn : cs.all isNmB with
    | false =>
      rw [side_names hn] at hq
      refine ⟨_, rfl, fun z => (nomatch z), fun _ => ?_⟩
      repeat' (walk_at "st_is_side")
      exact hq
    | true =>
    obtain ⟨ts, rfl, hnm⟩ := nms_all hn
    rw [List.length_map] at lc h
    refine ⟨_, rfl, fun _ => ?_, fun z => (nomatch z)⟩
    repeat' (walk_at "st_is_side")
    refine ⟨ts, rfl, by omega, ?_⟩
    repeat' (walk_at "st_is_side")
    · have e0 : sideB least (.tuple [.tuple (ts.map PyData.str), .tuple gs0, .tuple fr0]) = false := side_nodup fun nd => by have := (dn_nodup ts).mpr nd; rw [List.length_map] at h; omega
      rw [e0] at hq
      exact hq
    have nd : ts.Nodup := (dn_nodup ts).mp (by have := SS2.dn_le ts ts.length; rw [List.length_map] at h; omega)
    refine wc_typ gs0 (fun x => x) (fun x => .bool (neT x)) kd_is_side_2 gl_is_side_2 own_is_side_2 ?_ ?_
    · decide +kernel
    repeat' (walk_at "st_is_side")
    refine ⟨by rw [List.map_id'], fun x hx => ?_, d_allB ?_⟩
    · repeat' (walk_at "st_is_side")
      cases x
      all_goals
        repeat' (first | (guard_target = IsiD _ _ _; first | refine ⟨true, rfl, ?_⟩ | refine ⟨false, rfl, ?_⟩) | refine br1 rfl ?_ | refine br2 rfl ?_ | refine br3 rfl ?_ | refine br4 rfl ?_ | walk_at "st_is_side" | fail)
        try rfl
      exact d_emp rfl
    cases hg0 : gs0.all neT with
    | false =>
      rw [side_groups hg0] at hq
      refine ⟨_, rfl, fun _ => ?_, fun z => (nomatch z)⟩
      repeat' (walk_at "st_is_side")
      exact hq
    | true =>
    obtain ⟨gss, rfl, hgn⟩ := tups_all hg0
    refine ⟨_, rfl, fun z => (nomatch z), fun _ => ?_⟩
    repeat' (walk_at "st_is_side")
    refine wc_typ fr0 (fun x => x) (fun x => .bool (isStrD x)) kd_is_side_3 gl_is_side_3 own_is_side_3 ?_ ?_
    · decide +kernel
    repeat' (walk_at "st_is_side")
    refine ⟨by rw [List.map_id'], fun x hx => ?_, d_allB ?_⟩
    · repeat' (walk_at "st_is_side")
      cases x
      all_goals
        first | refine ⟨true, rfl, ?_⟩ | refine ⟨false, rfl, ?_⟩
        rfl
    cases hf0 : fr0.all isStrD with
    | false =>
      rw [side_free hf0] at hq
      refine ⟨_, rfl, fun _ => ?_, fun z => (nomatch z)⟩
      repeat' (walk_at "st_is_side")
      exact hq
    | true =>
    obtain ⟨fr, rfl⟩ := strs_all hf0
    refine ⟨_, rfl, fun z => (nomatch z), fun _ => ?_⟩
    repeat' (walk_at "st_is_side")
    refine w1_for (fun i Γ => ∃ (gs : List (List Str)) (t5 t7 t8 t9 t10 : Bd), gss.take i = gs.map (fun g => g.map PyData.str) ∧ (fr ++ gs.flatten).length ≤ 30 + 30 * i ∧ Γ = [Bd.im (.tuple [.tuple (ts.map PyData.str), .tuple (gss.map PyData.tuple), .tuple (fr.map PyData.str)]), Bd.im (.int (least : Int)), Bd.im (.tuple (ts.map PyData.str)), Bd.im (.tuple (gss.map PyData.tuple)), Bd.im (.tuple (fr.map PyData.str)), t5, Bd.mu ((fr ++ gs.flatten).map PyData.str), t7, t8, t9, t10]) ?_
    repeat' (walk_at "st_is_side")
    rw [List.length_map] at lg lf
    refine ⟨⟨[], _, _, _, _, _, rfl, by simp only [List.flatten_nil, List.append_nil]; omega, by rw [List.flatten_nil, List.append_nil]; rfl⟩, ?_, ?_⟩
    · rintro i d Γ1 hd ⟨gs, t5, t7, t8, t9, t10, hgs, hlen, rfl⟩
      obtain ⟨ys, hys, rfl⟩ := map_get hd
      have hym : PyData.tuple ys ∈ gss.map PyData.tuple := List.mem_map.mpr ⟨ys, List.mem_of_getElem? hys, rfl⟩
      have ly := (hwg.mem hym).len
      repeat' (walk_at "st_is_side")
      refine wc_typ ys (fun x => x) (fun x => .bool (isStrD x)) kd_is_side_4 gl_is_side_4 own_is_side_4 ?_ ?_
      · decide +kernel
      repeat' (walk_at "st_is_side")
      refine ⟨by rw [List.map_id'], fun x hx => ?_, d_allB ?_⟩
      · repeat' (walk_at "st_is_side")
        cases x
        all_goals
          first | refine ⟨true, rfl, ?_⟩ | refine ⟨false, rfl, ?_⟩
          rfl
      cases hb : ys.all isStrD with
      | false =>
        rw [side_group hym hb] at hq
        refine ⟨_, rfl, fun _ => ?_, fun z => (nomatch z)⟩
        repeat' (walk_at "st_is_side")
        exact hq
      | true =>
        obtain ⟨g, rfl⟩ := strs_all hb
        rw [List.length_map] at ly
        refine ⟨_, rfl, fun z => (nomatch z), fun _ => ?_⟩
        repeat' (walk_at "st_is_side")
        have ef : fr ++ (gs ++ [g]).flatten = (fr ++ gs.flatten) ++ g := by rw [List.flatten_append, List.flatten_singleton, List.append_assoc]
        refine ⟨?_, ?_⟩
        · rw [List.length_map, List.length_map]
          exact lim_n _ (by have := (List.getElem?_eq_some_iff.mp hys).1; omega)
        · rw [← List.map_append, ← ef]
          repeat' (walk_at "st_is_side")
          refine ⟨gs ++ [g], _, _, _, _, _, by rw [take_succ hys, hgs, List.map_append]; rfl, by rw [ef, List.length_append]; omega, rfl⟩
    · rintro Γ1 ⟨gs, t5, t7, t8, t9, t10, hgs, hlen, rfl⟩
      rw [List.length_map, List.take_length] at hgs
      subst hgs
      have eg : (gs.map fun g => g.map PyData.str).map PyData.tuple = gs.map tstrs := by rw [List.map_map]; rfl
      rw [eg] at hq hwg
      repeat' (walk_at "st_is_side")
      have okt : ∀ c, c ∈ ts → PyData.strOk c = true := fun c hc => sm_strOk (hwc.mem (List.mem_map.mpr ⟨c, hc, rfl⟩)).sm
      have okf : ∀ c, c ∈ fr ++ gs.flatten → PyData.strOk c = true := fun c hc => by
        rcases List.mem_append.mp hc with hc | hc
        · exact sm_strOk (hwf.mem (List.mem_map.mpr ⟨c, hc, rfl⟩)).sm
        · obtain ⟨g, hg, hc⟩ := List.mem_flatten.mp hc
          have hwg1 : Whl 60 30 20000 30 (.tuple (g.map PyData.str)) := hwg.mem (List.mem_map.mpr ⟨g, hg, rfl⟩)
          exact sm_strOk (hwg1.mem (List.mem_map.mpr ⟨c, hc, rfl⟩)).sm
      refine ⟨_, .inl rfl, alike_strs _, sortable_strs _, fit_strs _, ?_⟩
      repeat' (walk_at "st_is_side")
      refine ⟨_, .inr rfl, alike_strs _, sortable_strs _, fit_strs _, ?_⟩
      rw [sortD_S, sortD_S]
      refine strD_eq (sortS_ok okf) (sortS_ok okt) ?_
      have hty := side_typed (least := least) (ts := ts) (fr := fr) (gs := gs)
      by_cases hp : (fr ++ gs.flatten).Perm ts
      rotate_left
      · have e0 : sideB least (.tuple [.tuple (ts.map PyData.str), .tuple (gs.map tstrs), .tuple (fr.map PyData.str)]) = false := side_f fun z => hp (hty.mp z).perm
        rw [e0] at hq
        rw [decide_eq_false fun e => hp (sortS_eq.mp e)]
        refine ⟨fun _ => ?_, fun z => (nomatch z)⟩
        repeat' (walk_at "st_is_side")
        exact hq
      rw [decide_eq_true (sortS_eq.mpr hp)]
      refine ⟨fun z => (nomatch z), fun _ => ?_⟩
      repeat' (walk_at "st_is_side")
      refine ⟨false, _, rfl, ?_⟩
      repeat' (walk_at "st_is_side")
      refine ⟨lim_n _ (by rw [List.length_append, List.length_map, List.length_map]; simp only [List.length_map] at lg; simp; omega), ?_⟩
      repeat' (walk_at "st_is_side")
      have e1 : ∀ l : List Str, (l.map fun c => PyData.int ((ts.idxOf c : Nat) : Int)) = (plc ts l).map fun (n : Nat) => PyData.int (n : Int) := fun l => by unfold plc; rw [List.map_map]; rfl
      have hall : ∀ l, l ∈ gs ++ [fr] → ∀ c, c ∈ l → c ∈ ts := fun l hl c hc => hp.mem_iff.mp (by
        rcases List.mem_append.mp hl with h1 | h1
        · exact List.mem_append_right _ (List.mem_flatten.mpr ⟨l, h1, hc⟩)
        · rw [List.mem_singleton.mp h1] at hc
          exact List.mem_append_left _ hc)
      refine wc_typ (gs ++ [fr]) tstrs (fun l => .bool (decide (plc ts l = sortN (plc ts l)))) kd_is_side_5 gl_is_side_5 own_is_side_5 ?_ ?_
      · decide +kernel
      repeat' (walk_at "st_is_side")
      refine ⟨by rw [List.map_append, List.map_map]; rfl, fun l hl => ?_, d_allB ?_⟩
      · repeat' (walk_at "st_is_side")
        refine wc_typ l PyData.str (fun c => .int ((ts.idxOf c : Nat) : Int)) kd_is_side_6 gl_is_side_6 own_is_side_6 ?_ ?_
        · decide +kernel
        repeat' (walk_at "st_is_side")
        refine ⟨rfl, fun c hc => ?_, ?_⟩
        · repeat' (walk_at "st_is_side")
          refine ⟨ts, rfl, List.ne_nil_of_mem (hall l hl c hc), ?_⟩
          repeat' (walk_at "st_is_side")
          exact d_tixP (hall l hl c hc) rfl
        rw [e1]
        repeat' (walk_at "st_is_side")
        refine wc_typ l PyData.str (fun c => .int ((ts.idxOf c : Nat) : Int)) kd_is_side_7 gl_is_side_7 own_is_side_7 ?_ ?_
        · decide +kernel
        repeat' (walk_at "st_is_side")
        refine ⟨rfl, fun c hc => ?_, ?_⟩
        · repeat' (walk_at "st_is_side")
          refine ⟨ts, rfl, List.ne_nil_of_mem (hall l hl c hc), ?_⟩
          repeat' (walk_at "st_is_side")
          exact d_tixP (hall l hl c hc) rfl
        rw [e1]
        repeat' (walk_at "st_is_side")
        refine ⟨_, .inl rfl, alike_nats _, sortable_nats _, fit_nats _, ?_⟩
        rw [sortD_N]
        exact natD_eq rfl
      cases hall2 : ((gs ++ [fr]).all fun l => decide (plc ts l = sortN (plc ts l))) with
      | false =>
        have e0 : sideB least (.tuple [.tuple (ts.map PyData.str), .tuple (gs.map tstrs), .tuple (fr.map PyData.str)]) = false := side_asc hall2
        rw [e0] at hq
        refine ⟨_, rfl, fun _ => ?_, fun z => (nomatch z)⟩
        repeat' (walk_at "st_is_side")
        exact hq
      | true =>
      have hgn' : ∀ g, g ∈ gs → g ≠ [] := fun g hg e => hgn _ (List.mem_map.mpr ⟨g, hg, rfl⟩) (by rw [e]; rfl)
      have e0 : sideB least (.tuple [.tuple (ts.map PyData.str), .tuple (gs.map tstrs), .tuple (fr.map PyData.str)]) = _ := side_end (by omega) hnm nd hgn' hp fun l hl => of_decide_eq_true (List.all_eq_true.mp hall2 l hl)
      rw [e0] at hq
      have e2 : (gs.map fun g => PyData.int ((ts.idxOf (g.headD Str.empty) : Nat) : Int)) = (gs.map fun g => ts.idxOf (g.headD Str.empty)).map fun (n : Nat) => PyData.int (n : Int) := by rw [List.map_map]; rfl
      refine ⟨_, rfl, fun z => (nomatch z), fun _ => ?_⟩
      repeat' (walk_at "st_is_side")
      refine wc_typ gs tstrs (fun g => .int ((ts.idxOf (g.headD Str.empty) : Nat) : Int)) kd_is_side_8 gl_is_side_8 own_is_side_8 ?_ ?_
      · decide +kernel
      repeat' (walk_at "st_is_side")
      refine ⟨eg, fun g hg => ?_, ?_⟩
      · obtain ⟨c, g', rfl⟩ := List.exists_cons_of_ne_nil (hgn' g hg)
        repeat' (walk_at "st_is_side")
        refine ⟨ts, rfl, List.ne_nil_of_mem (hall _ (List.mem_append_left _ hg) c List.mem_cons_self), ?_⟩
        repeat' (walk_at "st_is_side")
        exact d_tixP (hall _ (List.mem_append_left _ hg) c List.mem_cons_self) rfl
      rw [e2]
      repeat' (walk_at "st_is_side")
      refine wc_typ gs tstrs (fun g => .int ((ts.idxOf (g.headD Str.empty) : Nat) : Int)) kd_is_side_9 gl_is_side_9 own_is_side_9 ?_ ?_
      · decide +kernel
      repeat' (walk_at "st_is_side")
      refine ⟨eg, fun g hg => ?_, ?_⟩
      · obtain ⟨c, g', rfl⟩ := List.exists_cons_of_ne_nil (hgn' g hg)
        repeat' (walk_at "st_is_side")
        refine ⟨ts, rfl, List.ne_nil_of_mem (hall _ (List.mem_append_left _ hg) c List.mem_cons_self), ?_⟩
        repeat' (walk_at "st_is_side")
        exact d_tixP (hall _ (List.mem_append_left _ hg) c List.mem_cons_self) rfl
      rw [e2]
      repeat' (walk_at "st_is_side")
      refine ⟨_, .inl rfl, alike_nats _, sortable_nats _, fit_nats _, ?_⟩
      rw [sortD_N]
      exact natD_eq hq
   ) only [↓DW.shutI]
theorem p_law_is_shape {G : Gd} (B : Blt G) (hg : G.grd = false) (hk : G.k = 2) (f_law_is_name : Fn G 1 "_law_is_name" ["thing"] (spD G.K 1 sp_isname64)) (df : Df G "_law_is_shape" s_law_is_shape ["thing", "least"]) : Fn G (G.k + 1) "_law_is_shape" ["thing", "least"] (spD G.K 2 sp_side64) := by
  apply DW.Shut.out
  simp (disch := with_unfolding_all
  refine fn_pure df hg sc_law_is_shape ok_law_is_shape rfl fun F hF ds Q0 hl hs => ?_
  obtain ⟨d, least, rfl, hw, hq⟩ := hs
  cases d
  all_goals
    repeat' (first | (guard_target = IsiD _ _ _; first | refine ⟨true, rfl, ?_⟩ | refine ⟨false, rfl, ?_⟩) | refine br1 rfl ?_ | refine br2 rfl ?_ | refine br3 rfl ?_ | refine br4 rfl ?_ | walk_at "st_law_is_shape" | fail)
    try (rw [side_tup (fun xs => PyData.noConfusion)] at hq; exact hq)
  · rw [side_len fun e => h (congrArg Nat.cast e)] at hq
    exact hq
  rename_i xs
  obtain ⟨a, b, c, rfl⟩ := three_at (Int.ofNat.inj h)
  refine wc_ftyp [a, b, c] (fun x => x) (fun x => !isTup x) (fun _ => .int 1) kd_law_is_shape_0 gl_law_is_shape_0 own_law_is_shape_0 ?_ ?_
  · decide +kernel
  repeat' (walk_at "st_law_is_shape")
  refine ⟨by rw [List.map_id'], fun x hx => ?_, ?_⟩
  · repeat' (walk_at "st_law_is_shape")
    cases x
    all_goals
      first | refine ⟨true, rfl, ?_⟩ | refine ⟨false, rfl, ?_⟩
      refine ⟨_, rfl, rfl, fun _ => ?_⟩
      repeat' (walk_at "st_law_is_shape")
      rfl
  repeat' (walk_at "st_law_is_shape")
  refine d_onesNil ?_
  rw [← List.all_eq_not_any_not]
  cases ht : [a, b, c].all isTup with
  | false =>
    rw [side_parts ht] at hq
    refine ⟨fun _ => ?_, fun z => (nomatch z)⟩
    repeat' (walk_at "st_law_is_shape")
    exact hq
  | true =>
  obtain ⟨cs, gs0, fr0, rfl, rfl, rfl⟩ := tups3 ht
  refine ⟨fun z => (nomatch z), fun _ => ?_⟩
  repeat' (first | refine br1 rfl ?_ | refine br2 rfl ?_ | refine br3 rfl ?_ | refine br4 rfl ?_ | walk_at "st_law_is_shape" | fail)
  have hwc : Whl 60 30 20000 30 (.tuple cs) := hw.mem (by simp)
  have hwg : Whl 60 30 20000 30 (.tuple gs0) := hw.mem (by simp)
  have hwf : Whl 60 30 20000 30 (.tuple fr0) := hw.mem (by simp)
  have lc := hwc.len
  have lg := hwg.len
  have lf := hwf.len
  refine wc_ftyp cs (fun x => x) (fun x => !isNmB x) (fun _ => .int 1) kd_law_is_shape_1 gl_law_is_shape_1 own_law_is_shape_1 ?_ ?_
  · decide +kernel
  repeat' (walk_at "st_law_is_shape")
  refine ⟨by rw [List.map_id'], fun x hx => ?_, ?_⟩
  · repeat' (walk_at "st_law_is_shape")
    refine ⟨rfl, x, rfl, (hwc.mem hx).sm, _, rfl, rfl, fun _ => ?_⟩
    repeat' (walk_at "st_law_is_shape")
    rfl
  repeat' (walk_at "st_law_is_shape")
  refine d_onesNil ?_
  rw [← List.all_eq_not_any_not]
  cases hn : cs.all isNmB with
  | false =>
    rw [side_names hn] at hq
    refine ⟨fun z => (nomatch z), fun _ => ?_⟩
    repeat' (first | refine br1 rfl ?_ | refine br2 rfl ?_ | refine br3 rfl ?_ | refine br4 rfl ?_ | walk_at "st_law_is_shape" | fail)
    exact hq
  | true =>
  obtain ⟨ts, rfl, hnm⟩ := nms_all hn
  rw [List.length_map] at lc
  refine ⟨fun _ => ?_, fun z => (nomatch z)⟩
  repeat' (first | refine br1 rfl ?_ | refine br2 rfl ?_ | refine br3 rfl ?_ | refine br4 rfl ?_ | walk_at "st_law_is_shape" | fail)
  · rw [side_few (Int.ofNat_lt.mp h)] at hq
    exact hq
  rw [List.length_map] at h
  refine ⟨ts, rfl, by omega, ?_⟩
  repeat' (walk_at "st_law_is_shape")
  · have e0 : sideB least (.tuple [.tuple (ts.map PyData.str), .tuple gs0, .tuple fr0]) = false := side_nodup fun nd => by have := (dn_nodup ts).mpr nd; rw [List.length_map] at h; omega
    rw [e0] at hq
    exact hq
  have nd : ts.Nodup := (dn_nodup ts).mp (by rw [List.length_map] at h; omega)
  refine wc_ftyp gs0 (fun x => x) (fun x => !neT x) (fun _ => .int 1) kd_law_is_shape_2 gl_law_is_shape_2 own_law_is_shape_2 ?_ ?_
  · decide +kernel
  repeat' (walk_at "st_law_is_shape")
  refine ⟨by rw [List.map_id'], fun x hx => ?_, ?_⟩
  · repeat' (walk_at "st_law_is_shape")
    cases x
    all_goals
      repeat' (first | (guard_target = IsiD _ _ _; first | refine ⟨true, rfl, ?_⟩ | refine ⟨false, rfl, ?_⟩) | refine br1 rfl ?_ | refine br2 rfl ?_ | refine br3 rfl ?_ | refine br4 rfl ?_ | walk_at "st_law_is_shape" | fail)
      try (refine ⟨rfl, fun _ => ?_⟩; repeat' (walk_at "st_law_is_shape"); rfl)
    rename_i ys
    refine d_emp ⟨by show _ = !(!ys.isEmpty); rw [Bool.not_not], fun _ => ?_⟩
    repeat' (walk_at "st_law_is_shape")
    rfl
  repeat' (walk_at "st_law_is_shape")
  refine d_onesNil ?_
  rw [← List.all_eq_not_any_not]
  cases hg0 : gs0.all neT with
  | false =>
    rw [side_groups hg0] at hq
    refine ⟨fun _ => ?_, fun z => (nomatch z)⟩
    repeat' (walk_at "st_law_is_shape")
    exact hq
  | true =>
  obtain ⟨gss, rfl, hgn⟩ := tups_all hg0
  refine ⟨fun z => (nomatch z), fun _ => ?_⟩
  repeat' (walk_at "st_law_is_shape")
  rw [List.length_map] at lg
  refine w1_for (fun i Γ => ∃ (ls : List (List Str)) (t5 t7 t8 t9 : Bd), (gss ++ [fr0]).take i = ls.map (fun g => g.map PyData.str) ∧ (∀ l, l ∈ ls → (∀ c, c ∈ l → c ∈ ts) ∧ (plc ts l).Pairwise (· < ·)) ∧ (ls.flatMap (plc ts)).length ≤ 30 * i ∧ Γ = [Bd.im (.tuple [.tuple (ts.map PyData.str), .tuple (gss.map PyData.tuple), .tuple fr0]), Bd.im (.int (least : Int)), Bd.im (.tuple (ts.map PyData.str)), Bd.im (.tuple (gss.map PyData.tuple)), Bd.im (.tuple fr0), t5, Bd.mu ((ls.flatMap (plc ts)).map fun (n : Nat) => PyData.int (n : Int)), t7, t8, t9]) ?_
  repeat' (walk_at "st_law_is_shape")
  · exact lim_n _ (by rw [List.length_map]; show _ + 1 ≤ _; omega)
  have egl : gss.map PyData.tuple ++ [PyData.tuple fr0] = (gss ++ [fr0]).map PyData.tuple := by rw [List.map_append]; rfl
  refine ⟨⟨[], _, _, _, _, rfl, (fun _ z => nomatch z), by simp, rfl⟩, ?_, ?_⟩
  · rintro i d Γ1 hd ⟨ls, t5, t7, t8, t9, hls, hin, hlen, rfl⟩
    have hdm := List.mem_of_getElem? hd
    rw [egl] at hd
    obtain ⟨ys, hys, rfl⟩ := map_get hd
    have hwy : Whl 60 30 20000 30 (.tuple ys) := by
      rcases List.mem_append.mp hdm with h1 | h1
      · exact hwg.mem h1
      · rw [List.mem_singleton.mp h1]; exact hwf
    have ly := hwy.len
    repeat' (walk_at "st_law_is_shape")
    refine wc_ftyp ys (fun x => x) (fun x => !inB ts x) (fun _ => .int 1) kd_law_is_shape_3 gl_law_is_shape_3 own_law_is_shape_3 ?_ ?_
    · decide +kernel
    repeat' (walk_at "st_law_is_shape")
    refine ⟨by rw [List.map_id'], fun x hx => ?_, ?_⟩
    · repeat' (walk_at "st_law_is_shape")
      refine ⟨rfl, x, rfl, (hwy.mem hx).sm, _, rfl, ?_⟩
      cases hx1 : isNmB x with
      | false =>
        refine ⟨fun z => (nomatch z), fun _ => ?_⟩
        refine ⟨by rw [in_no hx1]; rfl, fun _ => ?_⟩
        repeat' (walk_at "st_law_is_shape")
        rfl
      | true =>
        obtain ⟨s, rfl⟩ := nm_str hx1
        refine ⟨fun _ => ?_, fun z => (nomatch z)⟩
        repeat' (walk_at "st_law_is_shape")
        refine d_inST ⟨by show _ = !(isNmB (.str s) && decide (s ∈ ts)); rw [hx1, Bool.true_and], fun _ => ?_⟩
        repeat' (walk_at "st_law_is_shape")
        rfl
    repeat' (walk_at "st_law_is_shape")
    refine d_onesNil ?_
    rw [← List.all_eq_not_any_not]
    cases hb : ys.all (inB ts) with
    | false =>
      have e0 : sideB least (.tuple [.tuple (ts.map PyData.str), .tuple (gss.map PyData.tuple), .tuple fr0]) = false := side_item hdm hb
      rw [e0] at hq
      refine ⟨fun _ => ?_, fun z => (nomatch z)⟩
      repeat' (walk_at "st_law_is_shape")
      exact hq
    | true =>
    obtain ⟨l, rfl, hl⟩ := in_all hb
    rw [List.length_map] at ly
    refine ⟨fun z => (nomatch z), fun _ => ?_⟩
    repeat' (walk_at "st_law_is_shape")
    refine wc_typ l PyData.str (fun c => .int ((ts.idxOf c : Nat) : Int)) kd_law_is_shape_4 gl_law_is_shape_4 own_law_is_shape_4 ?_ ?_
    · decide +kernel
    repeat' (walk_at "st_law_is_shape")
    refine ⟨rfl, fun c hc => ?_, ?_⟩
    · repeat' (walk_at "st_law_is_shape")
      refine ⟨ts, rfl, List.ne_nil_of_mem (hl c hc), ?_⟩
      repeat' (walk_at "st_law_is_shape")
      exact d_tixP (hl c hc) rfl
    rw [plcI_d]
    repeat' (walk_at "st_law_is_shape")
    refine ⟨plcI ts l, rfl, by unfold plcI plc; rw [List.length_map, List.length_map]; omega, fun ms hms hmem => ?_⟩
    refine d_eqLI ?_
    rw [asc_uniq hms hmem]
    cases hr : riseI (plcI ts l) with
    | false =>
      have e0 : sideB least (.tuple [.tuple (ts.map PyData.str), .tuple (gss.map PyData.tuple), .tuple fr0]) = false := side_lot hdm hr
      rw [e0] at hq
      refine ⟨fun _ => ?_, fun z => (nomatch z)⟩
      repeat' (walk_at "st_law_is_shape")
      exact hq
    | true =>
    refine ⟨fun z => (nomatch z), fun _ => ?_⟩
    repeat' (walk_at "st_law_is_shape")
    have e5 : (plcI ts l).map PyData.int = (plc ts l).map fun (n : Nat) => PyData.int (n : Int) := by unfold plcI; rw [List.map_map]; rfl
    have l5 : (plc ts l).length ≤ 30 := by unfold plc; rw [List.length_map]; exact ly
    have hib : i < 31 := by
      have := (List.getElem?_eq_some_iff.mp hys).1
      rw [List.length_append] at this
      simp at this
      omega
    rw [e5]
    refine ⟨lim_n _ (by rw [List.length_map, List.length_map]; omega), ?_⟩
    rw [← List.map_append, show ls.flatMap (plc ts) ++ plc ts l = (ls ++ [l]).flatMap (plc ts) from by rw [List.flatMap_append]; simp]
    repeat' (walk_at "st_law_is_shape")
    refine ⟨ls ++ [l], _, _, _, _, by rw [take_succ hys, hls, List.map_append]; rfl, fun k hk => ?_, by rw [lotsLen]; omega, rfl⟩
    rcases List.mem_append.mp hk with h1 | h1
    · exact hin k h1
    · rw [List.mem_singleton.mp h1]
      exact ⟨hl, plcI_rise.mp hr⟩
  · rintro Γ1 ⟨ls, t5, t7, t8, t9, hls, hin, hlen, rfl⟩
    rw [egl, List.length_map, List.take_length] at hls
    obtain ⟨gs, fr, rfl, egs, efr⟩ := snoc_map hls
    subst egs efr
    have eg : (gs.map fun g => g.map PyData.str).map PyData.tuple = gs.map tstrs := by rw [List.map_map]; rfl
    have hgn' : ∀ g, g ∈ gs → g ≠ [] := fun g hg e => hgn _ (List.mem_map.mpr ⟨g, hg, rfl⟩) (by rw [e]; rfl)
    have e0 : sideB least (.tuple [.tuple (ts.map PyData.str), .tuple (gs.map tstrs), .tuple (fr.map PyData.str)]) = _ := side_end2 (by omega) hnm nd hgn' hin
    rw [eg, e0] at hq
    have e2 : (gs.map fun g => PyData.int ((ts.idxOf (g.headD Str.empty) : Nat) : Int)) = (gs.map fun g => ts.idxOf (g.headD Str.empty)).map fun (n : Nat) => PyData.int (n : Int) := by rw [List.map_map]; rfl
    repeat' (walk_at "st_law_is_shape")
    refine wc_typ gs tstrs (fun g => .int ((ts.idxOf (g.headD Str.empty) : Nat) : Int)) kd_law_is_shape_5 gl_law_is_shape_5 own_law_is_shape_5 ?_ ?_
    · decide +kernel
    repeat' (walk_at "st_law_is_shape")
    refine ⟨eg, fun g hg => ?_, ?_⟩
    · obtain ⟨c, g', rfl⟩ := List.exists_cons_of_ne_nil (hgn' g hg)
      have hct := (hin _ (List.mem_append_left _ hg)).1 c List.mem_cons_self
      repeat' (walk_at "st_law_is_shape")
      refine ⟨ts, rfl, List.ne_nil_of_mem hct, ?_⟩
      repeat' (walk_at "st_law_is_shape")
      exact d_tixP hct rfl
    rw [e2]
    repeat' (walk_at "st_law_is_shape")
    refine ⟨_, .inl rfl, alike_nats _, sortable_nats _, fit_nats _, ?_⟩
    rw [sortD_N]
    refine natD_eq ?_
    cases hfs : decide ((gs.map fun g => ts.idxOf (g.headD Str.empty)) = sortN (gs.map fun g => ts.idxOf (g.headD Str.empty))) with
    | false =>
      rw [hfs, Bool.false_and] at hq
      exact ⟨_, rfl, (fun z => nomatch z), fun _ => hq⟩
    | true =>
    rw [hfs, Bool.true_and] at hq
    refine ⟨_, rfl, fun _ => ?_, fun z => (nomatch z)⟩
    repeat' (walk_at "st_law_is_shape")
    refine ⟨_, .inl rfl, alike_nats _, sortable_nats _, fit_nats _, ?_⟩
    rw [sortD_N]
    repeat' (walk_at "st_law_is_shape")
    refine ⟨by rw [List.length_map]; omega, ?_⟩
    rw [Int.toNat_natCast, rngD_map, List.length_map]
    exact natD_eq hq
   ) only [↓DW.shutI]
theorem p_is_scheme {G : Gd} (B : Blt G) (hg : G.grd = false) (hk : G.k = 3) (f_is_side : Fn G 3 "is_side" ["thing", "least"] (spD G.K 2 sp_side64)) (f_is_scheme_rule : Fn G 3 "is_scheme_rule" ["head", "row", "thing"] (spD G.K 3 sp_srule64)) (df : Df G "is_scheme" s_is_scheme ["thing"]) : Fn G (G.k + 1) "is_scheme" ["thing"] (spD G.K 1 sp_scheme64) := by
  apply DW.Shut.out
  simp (disch := with_unfolding_all
  refine fn_pure df hg sc_is_scheme ok_is_scheme rfl fun F hF ds Q0 hl hs => ?_
  obtain ⟨d, rfl, hw, hq⟩ := hs
  cases d
  all_goals
    repeat' (first | (guard_target = IsiD _ _ _; first | refine ⟨true, rfl, ?_⟩ | refine ⟨false, rfl, ?_⟩) | refine br1 rfl ?_ | refine br2 rfl ?_ | refine br3 rfl ?_ | refine br4 rfl ?_ | walk_at "st_is_scheme" | fail)
    try exact hq
  · rw [sch_len fun e => h (congrArg Nat.cast e)] at hq
    exact hq
  rename_i xs
  obtain ⟨x, y, z, u, rfl⟩ := four_at (Int.ofNat.inj h)
  have hwx := hw.mem (x := x) (by simp)
  have hwy := hw.mem (x := y) (by simp)
  have hwz := hw.mem (x := z) (by simp)
  have hwu := hw.mem (x := u) (by simp)
  repeat' (walk_at "st_is_scheme")
  cases x
  all_goals
    repeat' (first | (guard_target = IsiD _ _ _; first | refine ⟨true, rfl, ?_⟩ | refine ⟨false, rfl, ?_⟩) | refine br1 rfl ?_ | refine br2 rfl ?_ | refine br3 rfl ?_ | refine br4 rfl ?_ | walk_at "st_is_scheme" | fail)
    try (rw [sch_way (by intro s; exact PyData.noConfusion)] at hq; exact hq)
  rename_i w
  rw [sch_at] at hq
  refine d_inS2 ?_
  cases hb : decide (w ∈ (["usual", "strict"] : List Str)) with
  | false =>
    rw [hb, Bool.false_and] at hq
    refine ⟨fun z => (nomatch z), fun _ => ?_⟩
    repeat' (first | refine br1 rfl ?_ | refine br2 rfl ?_ | refine br3 rfl ?_ | refine br4 rfl ?_ | walk_at "st_is_scheme" | fail)
    exact hq
  | true =>
  rw [hb, Bool.true_and] at hq
  refine ⟨fun _ => ?_, fun z => (nomatch z)⟩
  repeat' (walk_at "st_is_scheme")
  refine ⟨rfl, y, 0, rfl, hwy, ?_⟩
  cases hy : sideB 0 y with
  | false =>
    rw [hy, Bool.false_and] at hq
    refine ⟨_, rfl, fun z => (nomatch z), fun _ => ?_⟩
    repeat' (first | refine br1 rfl ?_ | refine br2 rfl ?_ | refine br3 rfl ?_ | refine br4 rfl ?_ | walk_at "st_is_scheme" | fail)
    exact hq
  | true =>
  rw [hy, Bool.true_and] at hq
  refine ⟨_, rfl, fun _ => ?_, fun z => (nomatch z)⟩
  repeat' (walk_at "st_is_scheme")
  refine ⟨rfl, z, 1, rfl, hwz, ?_⟩
  cases hz : sideB 1 z with
  | false =>
    rw [hz, Bool.false_and] at hq
    refine ⟨_, rfl, fun _ => ?_, fun z => (nomatch z)⟩
    repeat' (walk_at "st_is_scheme")
    exact hq
  | true =>
  rw [hz, Bool.true_and] at hq
  obtain ⟨hs0, t1, rfl⟩ := side_shape hy
  obtain ⟨rs, t2, rfl⟩ := side_shape hz
  refine ⟨_, rfl, fun z => (nomatch z), fun _ => ?_⟩
  repeat' (walk_at "st_is_scheme")
  cases u
  all_goals
    repeat' (first | (guard_target = IsiD _ _ _; first | refine ⟨true, rfl, ?_⟩ | refine ⟨false, rfl, ?_⟩) | refine br1 rfl ?_ | refine br2 rfl ?_ | refine br3 rfl ?_ | refine br4 rfl ?_ | walk_at "st_is_scheme" | fail)
    try exact hq
  rename_i us
  refine wc_typ us (fun x => x) (fun x => .bool (ruleB hs0.length rs.length x)) kd_is_scheme_0 gl_is_scheme_0 own_is_scheme_0 ?_ ?_
  · decide +kernel
  repeat' (walk_at "st_is_scheme")
  refine ⟨by rw [List.map_id'], fun x hx => ?_, d_allB hq⟩
  repeat' (walk_at "st_is_scheme")
  exact ⟨rfl, hs0, rs, t1, t2, x, rfl, (hwu.mem hx).sm, rfl⟩
   ) only [↓DW.shutI]
theorem p_law_is_scheme {G : Gd} (B : Blt G) (hg : G.grd = false) (hk : G.k = 3) (f_law_is_shape : Fn G 3 "_law_is_shape" ["thing", "least"] (spD G.K 2 sp_side64)) (f_law_is_rule_of : Fn G 3 "_law_is_rule_of" ["thing", "heads", "rows"] (spD G.K 3 sp_lrule64)) (df : Df G "_law_is_scheme" s_law_is_scheme ["thing"]) : Fn G (G.k + 1) "_law_is_scheme" ["thing"] (spD G.K 1 sp_scheme64) := by
  apply DW.Shut.out
  simp (disch := with_unfolding_all
  refine fn_pure df hg sc_law_is_scheme ok_law_is_scheme rfl fun F hF ds Q0 hl hs => ?_
  obtain ⟨d, rfl, hw, hq⟩ := hs
  cases d
  all_goals
    repeat' (first | (guard_target = IsiD _ _ _; first | refine ⟨true, rfl, ?_⟩ | refine ⟨false, rfl, ?_⟩) | refine br1 rfl ?_ | refine br2 rfl ?_ | refine br3 rfl ?_ | refine br4 rfl ?_ | walk_at "st_law_is_scheme" | fail)
    try exact hq
  · rw [sch_len fun e => h (congrArg Nat.cast e)] at hq
    exact hq
  rename_i xs
  obtain ⟨x, y, z, u, rfl⟩ := four_at (Int.ofNat.inj h)
  have hwy := hw.mem (x := y) (by simp)
  have hwz := hw.mem (x := z) (by simp)
  have hwu := hw.mem (x := u) (by simp)
  repeat' (walk_at "st_law_is_scheme")
  cases x
  all_goals
    repeat' (first | (guard_target = IsiD _ _ _; first | refine ⟨true, rfl, ?_⟩ | refine ⟨false, rfl, ?_⟩) | refine br1 rfl ?_ | refine br2 rfl ?_ | refine br3 rfl ?_ | refine br4 rfl ?_ | walk_at "st_law_is_scheme" | fail)
    try (rw [sch_way (by intro s; exact PyData.noConfusion)] at hq; exact hq)
  rename_i w
  rw [sch_at] at hq
  refine d_inS2 ?_
  cases hb : decide (w ∈ (["usual", "strict"] : List Str)) with
  | false =>
    rw [hb, Bool.false_and] at hq
    refine ⟨fun z => (nomatch z), fun _ => ?_⟩
    repeat' (first | refine br1 rfl ?_ | refine br2 rfl ?_ | refine br3 rfl ?_ | refine br4 rfl ?_ | walk_at "st_law_is_scheme" | fail)
    exact hq
  | true =>
  rw [hb, Bool.true_and] at hq
  refine ⟨fun _ => ?_, fun z => (nomatch z)⟩
  repeat' (walk_at "st_law_is_scheme")
  refine ⟨rfl, y, 0, rfl, hwy, ?_⟩
  cases hy : sideB 0 y with
  | false =>
    rw [hy, Bool.false_and] at hq
    refine ⟨_, rfl, fun z => (nomatch z), fun _ => ?_⟩
    repeat' (first | refine br1 rfl ?_ | refine br2 rfl ?_ | refine br3 rfl ?_ | refine br4 rfl ?_ | walk_at "st_law_is_scheme" | fail)
    exact hq
  | true =>
  rw [hy, Bool.true_and] at hq
  refine ⟨_, rfl, fun _ => ?_, fun z => (nomatch z)⟩
  repeat' (walk_at "st_law_is_scheme")
  refine ⟨rfl, z, 1, rfl, hwz, ?_⟩
  cases hz : sideB 1 z with
  | false =>
    rw [hz, Bool.false_and] at hq
    refine ⟨_, rfl, fun _ => ?_, fun z => (nomatch z)⟩
    repeat' (walk_at "st_law_is_scheme")
    exact hq
  | true =>
  rw [hz, Bool.true_and] at hq
  obtain ⟨hs0, t1, rfl⟩ := side_shape hy
  obtain ⟨rs, t2, rfl⟩ := side_shape hz
  refine ⟨_, rfl, fun z => (nomatch z), fun _ => ?_⟩
  repeat' (walk_at "st_law_is_scheme")
  cases u
  all_goals
    repeat' (first | (guard_target = IsiD _ _ _; first | refine ⟨true, rfl, ?_⟩ | refine ⟨false, rfl, ?_⟩) | refine br1 rfl ?_ | refine br2 rfl ?_ | refine br3 rfl ?_ | refine br4 rfl ?_ | walk_at "st_law_is_scheme" | fail)
    try exact hq
  rename_i us
  refine wc_ftyp us (fun x => x) (fun x => !ruleB hs0.length rs.length x) (fun _ => .int 1) kd_law_is_scheme_0 gl_law_is_scheme_0 own_law_is_scheme_0 ?_ ?_
  · decide +kernel
  repeat' (walk_at "st_law_is_scheme")
  refine ⟨by rw [List.map_id'], fun x hx => ?_, ?_⟩
  · repeat' (walk_at "st_law_is_scheme")
    refine ⟨rfl, hs0.length, rs.length, x, rfl, (hwu.mem hx).sm, _, rfl, rfl, fun _ => ?_⟩
    repeat' (walk_at "st_law_is_scheme")
    rfl
  repeat' (walk_at "st_law_is_scheme")
  refine d_onesNil ?_
  rw [← List.all_eq_not_any_not]
  exact hq
   ) only [↓DW.shutI]
theorem p_law_some {G : Gd} (B : Blt G) (hg : G.grd = false) (hk : G.k = 1) (f_law_take : Fn G 1 "_law_take" ["bag", "many"] (spB G.K 2 sp_take)) (df : Df G "_law_some" s_law_some ["bag", "things"]) : Fn G (G.k + 1) "_law_some" ["bag", "things"] (spB G.K 2 sp_some64) := by
  apply DW.Shut.out
  simp (disch := with_unfolding_all
  refine fn_bag df hg sc_law_some ok_law_some rfl fun F bb hF ds Q0 hl hs => ?_
  obtain ⟨xs, he, hne, hl2, hq⟩ := hs
  have hl0 : 0 < xs.length := List.length_pos_iff.mpr hne
  rcases he with rfl | rfl
  all_goals
    repeat' (walk_at "st_law_some")
    refine ⟨rfl, _, rfl, by omega, by omega, fun n hn hm => ?_⟩
    have hlt : n.toNat < xs.length := by omega
    first
      | exact d_ixLn n.toNat (by omega) (List.getElem?_eq_getElem hlt) (hq _ (List.getElem_mem hlt))
      | exact d_ixTn n.toNat (by omega) (List.getElem?_eq_getElem hlt) (hq _ (List.getElem_mem hlt))
   ) only [↓DW.shutI]
theorem p_law_odd {G : Gd} (B : Blt G) (hg : G.grd = false) (hk : G.k = 2) (f_law_some : Fn G 2 "_law_some" ["bag", "things"] (spB G.K 2 sp_some64)) (df : Df G "_law_odd" s_law_odd ["bag"]) : Fn G (G.k + 1) "_law_odd" ["bag"] (spB G.K 1 sp_odd64) := by
  apply DW.Shut.out
  simp (disch := with_unfolding_all
  refine fn_bag df hg sc_law_odd ok_law_odd rfl fun F bb hF ds Q0 hl hs => ?_
  obtain ⟨rfl, hq⟩ := hs
  repeat' (walk_at "st_law_odd")
  · show 25 ≤ lim
    rw [lim_eq]; decide
  · show 28 ≤ lim
    rw [lim_eq]; decide
  · exact ⟨rfl, odd64, .inl rfl, by decide, by decide, hq⟩
   ) only [↓DW.shutI]
theorem p_law_numbers {G : Gd} (B : Blt G) (hg : G.grd = false) (hk : G.k = 2) (f_law_some : Fn G 2 "_law_some" ["bag", "things"] (spB G.K 2 sp_some64)) (df : Df G "_law_numbers" s_law_numbers ["bag", "many"]) : Fn G (G.k + 1) "_law_numbers" ["bag", "many"] (spB G.K 2 sp_numbers64) := by
  apply DW.Shut.out
  simp (disch := with_unfolding_all
  refine fn_bag df hg sc_law_numbers ok_law_numbers rfl fun F bb hF ds Q0 hl hs => ?_
  obtain ⟨m, rfl, hm, hq⟩ := hs
  repeat' (walk_at "st_law_numbers")
  refine wc_some kd_law_numbers_0 gl_law_numbers_0 own_law_numbers_0 ?_ (fun _ y => ∃ n : Int, (-1 ≤ n ∧ n ≤ 2) ∧ y = .int n) ?_
  · decide +kernel
  repeat' (walk_at "st_law_numbers")
  refine ⟨by omega, by omega, fun d hd => ?_, fun ys hl hy => ?_⟩
  · repeat' (walk_at "st_law_numbers")
    refine ⟨rfl, _, .inl rfl, by simp, by decide, fun x hx => ?_⟩
    simp only [List.mem_cons, List.not_mem_nil, or_false] at hx
    rcases hx with rfl | rfl | rfl | rfl | rfl | rfl <;> exact ⟨_, ⟨by decide, by decide⟩, rfl⟩
  · repeat' (walk_at "st_law_numbers")
    rw [rngD_len] at hl
    obtain ⟨ns, rfl, hp⟩ := ints_in (a := -1) (b := 2) fun y hz => (get_some_of_mem (P := fun _ y => ∃ n : Int, (-1 ≤ n ∧ n ≤ 2) ∧ y = .int n) (by rw [hl, rngD_len]) hy y hz).elim fun _ h => h.2
    refine hq ns ?_ hp
    rw [List.length_map] at hl
    rw [hl, Int.toNat_natCast]
   ) only [↓DW.shutI]
theorem p_law_table_cells {G : Gd} (B : Blt G) (hg : G.grd = false) (hk : G.k = 3) (f_law_stand : Fn G 3 "_law_stand" ["bag", "many"] (spB G.K 2 sp_stand)) (df : Df G "_law_table_cells" s_law_table_cells ["bag", "many"]) : Fn G (G.k + 1) "_law_table_cells" ["bag", "many"] (spB G.K 2 sp_tcells64) := by
  apply DW.Shut.out
  simp (disch := with_unfolding_all
  refine fn_bag df hg sc_law_table_cells ok_law_table_cells rfl fun F bb hF ds Q0 hl hs => ?_
  obtain ⟨m, rfl, hm, hq⟩ := hs
  repeat' (walk_at "st_law_table_cells")
  · exact ⟨rfl, m, rfl, by omega, hq⟩
  · exact hq [] (by show 0 = m; omega) (fun _ z => nomatch z)
   ) only [↓DW.shutI]
theorem p_law_stand {G : Gd} (B : Blt G) (hg : G.grd = false) (hk : G.k = 2) (f_law_some : Fn G 2 "_law_some" ["bag", "things"] (spB G.K 2 sp_some64)) (f_law_take : Fn G 1 "_law_take" ["bag", "many"] (spB G.K 2 sp_take)) (f_law_fr : Fn G 2 "_law_fr" ["num", "den"] (spD G.K 2 sp_fraction)) (df : Df G "_law_stand" s_law_stand ["bag", "many"]) : Fn G (G.k + 1) "_law_stand" ["bag", "many"] (spB G.K 2 sp_stand) := by
  apply DW.Shut.out
  simp (disch := with_unfolding_all
  refine fn_bag df hg sc_law_stand ok_law_stand rfl fun F bb hF ds Q0 hl hs => ?_
  obtain ⟨m, rfl, hm, hq⟩ := hs
  repeat' (walk_at "st_law_stand")
  refine ⟨rfl, _, .inl rfl, by simp, by decide, fun x hx => ?_⟩
  have hx' : ∃ k : Int, (0 < k ∧ k ≤ 3) ∧ x = .int k := by
    simp at hx
    rcases hx with rfl | rfl | rfl
    · exact ⟨1, by decide, rfl⟩
    · exact ⟨2, by decide, rfl⟩
    · exact ⟨3, by decide, rfl⟩
  obtain ⟨k, hk, rfl⟩ := hx'
  repeat' (walk_at "st_law_stand")
  refine wc_some kd_law_stand_0 gl_law_stand_0 own_law_stand_0 ?_ (fun _ y => ∃ q, RB 4 q ∧ y = fr q) ?_
  · decide +kernel
  repeat' (walk_at "st_law_stand")
  refine ⟨by omega, by omega, fun d hd => ?_, fun ys hl hy => ?_⟩
  · repeat' (walk_at "st_law_stand")
    refine ⟨rfl, _, rfl, by decide, by decide, fun n hn hm => ?_⟩
    repeat' (walk_at "st_law_stand")
    have h2 : NB 4 k := by unfold NB; omega
    refine ⟨rfl, _, _, rfl, h2.div (by decide) (by decide) (by omega), _, ?_, rfl⟩
    refine RB.of ?_ h2 (by omega)
    unfold NB; omega
  · repeat' (walk_at "st_law_stand")
    rw [rngD_len] at hl
    obtain ⟨ps, rfl, hp⟩ := all_fr fun y hz => (get_some_of_mem (P := fun _ y => ∃ q, RB 4 q ∧ y = fr q) (by rw [hl, rngD_len]) hy y hz).elim fun _ h => h.2
    refine hq ps ?_ hp
    rw [List.length_map] at hl
    rw [hl, Int.toNat_natCast]
   ) only [↓DW.shutI]
theorem p_law_any_table {G : Gd} (B : Blt G) (hg : G.grd = false) (hk : G.k = 4) (f_law_table_cells : Fn G 4 "_law_table_cells" ["bag", "many"] (spB G.K 2 sp_tcells64)) (df : Df G "_law_any_table" s_law_any_table ["bag", "scheme", "many"]) : Fn G (G.k + 1) "_law_any_table" ["bag", "scheme", "many"] (spB G.K 3 sp_anytable64) := by
  apply DW.Shut.out
  simp (disch := with_unfolding_all
  refine fn_bag df hg sc_law_any_table ok_law_any_table rfl fun F bb hF ds Q0 hl hs => ?_
  obtain ⟨w, r, ts, fr, gs, ts', fr', gs', m, rfl, h3, h3', hm, hq⟩ := hs
  repeat' (walk_at "st_law_any_table")
  refine wc_some kd_law_any_table_0 gl_law_any_table_0 own_law_any_table_0 ?_ (fun _ y => ∃ ps : List Rat, (ps.length = ts'.length ∧ VB 4 ps) ∧ y = vec ps) ?_
  · decide +kernel
  repeat' (walk_at "st_law_any_table")
  refine ⟨by omega, by omega, fun d hd => ?_, fun ys hl hy => ?_⟩
  · repeat' (walk_at "st_law_any_table")
    refine ⟨rfl, ts'.length, by rw [List.length_map], h3', fun ps hp hv => ⟨ps, ⟨hp, hv⟩, rfl⟩⟩
  · rw [rngD_len, Int.toNat_natCast] at hl
    obtain ⟨pss, rfl, hp⟩ := vecs_in (m := ts'.length) fun y hz => (get_some_of_mem (P := fun _ y => ∃ ps : List Rat, (ps.length = ts'.length ∧ VB 4 ps) ∧ y = vec ps) (by rw [hl, rngD_len, Int.toNat_natCast]) hy y hz).elim fun _ h => h.2
    rw [List.length_map] at hl
    repeat' (walk_at "st_law_any_table")
    refine ⟨rfl, ts.length, by rw [List.length_map], h3, fun ps hp0 hv => ?_⟩
    repeat' (walk_at "st_law_any_table")
    exact hq _ (whl_table (by omega) hv hp h3' (by omega))
   ) only [↓DW.shutI]
theorem p_law_scheme {G : Gd} (B : Blt G) (hg : G.grd = false) (hk : G.k = 3) (f_law_shape : Fn G 3 "_law_shape" ["bag", "names", "cells", "most"] (spB G.K 4 sp_shape64)) (f_law_some : Fn G 2 "_law_some" ["bag", "things"] (spB G.K 2 sp_some64)) (f_law_take : Fn G 1 "_law_take" ["bag", "many"] (spB G.K 2 sp_take)) (f_law_numbers : Fn G 3 "_law_numbers" ["bag", "many"] (spB G.K 2 sp_numbers64)) (df : Df G "_law_scheme" s_law_scheme ["bag", "head_cells", "row_cells", "most"]) : Fn G (G.k + 1) "_law_scheme" ["bag", "head_cells", "row_cells", "most"] (spB G.K 4 sp_lscheme64) := by
  apply DW.Shut.out
  simp (disch := with_unfolding_all
  refine fn_bag df hg sc_law_scheme ok_law_scheme rfl fun F bb hF ds Q0 hl hs => ?_
  obtain ⟨rfl, hq⟩ := hs
  repeat' (walk_at "st_law_scheme")
  refine ⟨rfl, _, rfl, by decide, by decide, fun c hc0 hc1 => ?_⟩
  obtain ⟨c, rfl⟩ := Int.eq_ofNat_of_zero_le hc0
  repeat' (walk_at "st_law_scheme")
  refine ⟨rfl, ["cap", "due", "top"], c, 2, rfl, rfl, by decide, by omega, by decide, by decide, fun ts fr gs o => ?_⟩
  repeat' (walk_at "st_law_scheme")
  refine ⟨rfl, _, rfl, by decide, by decide, fun c' hc0' hc1' => ?_⟩
  obtain ⟨c', rfl⟩ := Int.eq_ofNat_of_zero_le hc0'
  repeat' (walk_at "st_law_scheme")
  refine ⟨rfl, ["x", "y", "cap"], 1 + c', 3, by simp, rfl, by decide, by omega, by decide, by decide, fun ts' fr' gs' o' => ?_⟩
  repeat' (walk_at "st_law_scheme")
  refine w1_for (fun i Γ => ∃ (rs : List PyData) (t9 t10 t11 t12 : Bd), rs.length = i ∧ (∀ x, x ∈ rs → Whl 50 2 1118 5 x) ∧ Γ = [Bd.rw (.ref bb), Bd.im (.int 3), Bd.im (.int 3), Bd.im (.int 3), Bd.im (shD ts fr gs), Bd.im (shD ts' fr' gs'), Bd.im (.int (((ts.map PyData.str).length : Nat) : Int)), Bd.im (.int (((ts'.map PyData.str).length : Nat) : Int)), Bd.mu rs, t9, t10, t11, t12]) ?_
  repeat' (walk_at "st_law_scheme")
  refine ⟨rfl, _, .inl rfl, by simp, by decide, fun mm hmm => ?_⟩
  obtain ⟨n, hn, rfl⟩ : ∃ n : Nat, n ≤ 4 ∧ mm = .int (n : Int) := by
    simp only [List.mem_cons, List.not_mem_nil, or_false] at hmm
    rcases hmm with rfl | rfl | rfl | rfl
    · exact ⟨2, by decide, rfl⟩
    · exact ⟨3, by decide, rfl⟩
    · exact ⟨1, by decide, rfl⟩
    · exact ⟨4, by decide, rfl⟩
  repeat' (walk_at "st_law_scheme")
  refine ⟨by omega, by omega, ⟨[], _, _, _, _, rfl, (fun _ z => nomatch z), rfl⟩, ?_, ?_⟩
  · rintro i d Γ1 hd ⟨rs, t9, t10, t11, t12, hri, hrw, rfl⟩
    obtain ⟨hi, _⟩ := rngD_get hd
    rw [Int.toNat_natCast] at hi
    have lt := o.len
    have lt' := o'.len
    have l3 := o.c3
    have l3' := o'.c3
    have nxt : ∀ x, Whl 50 2 1118 5 x → ∀ y, y ∈ rs ++ [x] → Whl 50 2 1118 5 y := fun x hx y hy => by
      rcases List.mem_append.mp hy with h1 | h1
      · exact hrw y h1
      · rw [List.mem_singleton.mp h1]; exact hx
    repeat' (walk_at "st_law_scheme")
    refine ⟨rfl, _, rfl, by decide, by decide, fun way hw0 hw1 => ?_⟩
    repeat' (walk_at "st_law_scheme")
    refine ⟨rfl, _, .inl rfl, by simp, by decide, fun sg hsg => ?_⟩
    obtain ⟨sg, rfl, hsm⟩ : ∃ s : Str, sg = .str s ∧ strB s = true := by
      simp only [List.mem_cons, List.not_mem_nil, or_false] at hsg
      rcases hsg with rfl | rfl | rfl | rfl
      · exact ⟨_, rfl, by decide +kernel⟩
      · exact ⟨_, rfl, by decide +kernel⟩
      · exact ⟨_, rfl, by decide +kernel⟩
      · exact ⟨_, rfl, by decide +kernel⟩
    repeat' (first | refine br1 rfl ?_ | refine br2 rfl ?_ | refine br3 rfl ?_ | refine br4 rfl ?_ | walk_at "st_law_scheme" | fail)
    · refine ⟨rfl, ts.length, by rw [List.length_map], by omega, fun ns hns hnb => ?_⟩
      repeat' (walk_at "st_law_scheme")
      refine ⟨rfl, _, .inl rfl, by simp, by decide, fun b hb => ?_⟩
      obtain ⟨b, rfl, hbb⟩ : ∃ i : Int, b = .int i ∧ i.natAbs < 10 ^ 50 := by
        simp only [List.mem_cons, List.not_mem_nil, or_false] at hb
        rcases hb with rfl | rfl | rfl | rfl <;> exact ⟨_, rfl, by decide⟩
      repeat' (walk_at "st_law_scheme")
      refine ⟨lim_lt _ (by omega), ?_⟩
      repeat' (walk_at "st_law_scheme")
      exact ⟨rs ++ [_], _, _, _, _, by simp [hri], nxt _ (whl_r4 (by decide +kernel) (by decide +kernel) (whl_n hnb hns (by omega)) (whl_i hbb)), rfl⟩
    · refine ⟨rfl, ts'.length, by rw [List.length_map], by omega, fun ns hns hnb => ?_⟩
      repeat' (walk_at "st_law_scheme")
      refine ⟨lim_lt _ (by omega), ?_⟩
      repeat' (walk_at "st_law_scheme")
      exact ⟨rs ++ [_], _, _, _, _, by simp [hri], nxt _ (whl_r3 (by decide +kernel) hsm (whl_n hnb hns (by omega))), rfl⟩
    · refine ⟨rfl, _, .inl rfl, by simp, by decide, fun b hb => ?_⟩
      obtain ⟨b, rfl, hbb⟩ : ∃ i : Int, b = .int i ∧ i.natAbs < 10 ^ 50 := by
        simp only [List.mem_cons, List.not_mem_nil, or_false] at hb
        first
          | (rcases hb with rfl | rfl | rfl | rfl <;> exact ⟨_, rfl, by decide⟩)
          | (rcases hb with rfl | rfl | rfl <;> exact ⟨_, rfl, by decide⟩)
      repeat' (walk_at "st_law_scheme")
      refine ⟨rfl, ts.length, by rw [List.length_map], by omega, fun ns hns hnb => ?_⟩
      repeat' (walk_at "st_law_scheme")
      refine ⟨rfl, ts'.length, by rw [List.length_map], by omega, fun ns' hns' hnb' => ?_⟩
      repeat' (walk_at "st_law_scheme")
      refine ⟨lim_lt _ (by omega), ?_⟩
      repeat' (walk_at "st_law_scheme")
      exact ⟨rs ++ [_], _, _, _, _, by simp [hri], nxt _ (whl_r5 (by decide +kernel) hsm (whl_n hnb hns (by omega)) (whl_n hnb' hns' (by omega)) (whl_i hbb)), rfl⟩
    · refine ⟨rfl, _, .inl rfl, by simp, by decide, fun b hb => ?_⟩
      obtain ⟨b, rfl, hbb⟩ : ∃ i : Int, b = .int i ∧ i.natAbs < 10 ^ 50 := by
        simp only [List.mem_cons, List.not_mem_nil, or_false] at hb
        first
          | (rcases hb with rfl | rfl | rfl | rfl <;> exact ⟨_, rfl, by decide⟩)
          | (rcases hb with rfl | rfl | rfl <;> exact ⟨_, rfl, by decide⟩)
      repeat' (walk_at "st_law_scheme")
      refine ⟨rfl, ts.length, by rw [List.length_map], by omega, fun ns hns hnb => ?_⟩
      repeat' (walk_at "st_law_scheme")
      refine ⟨rfl, ts'.length, by rw [List.length_map], by omega, fun ns' hns' hnb' => ?_⟩
      repeat' (walk_at "st_law_scheme")
      refine ⟨lim_lt _ (by omega), ?_⟩
      repeat' (walk_at "st_law_scheme")
      exact ⟨rs ++ [_], _, _, _, _, by simp [hri], nxt _ (whl_r5 (by decide +kernel) hsm (whl_n hnb hns (by omega)) (whl_n hnb' hns' (by omega)) (whl_i hbb)), rfl⟩
    · refine ⟨rfl, ts'.length, by rw [List.length_map], by omega, fun ns hns hnb => ?_⟩
      repeat' (walk_at "st_law_scheme")
      refine ⟨lim_lt _ (by omega), ?_⟩
      repeat' (walk_at "st_law_scheme")
      exact ⟨rs ++ [_], _, _, _, _, by simp [hri], nxt _ (whl_r3 (by decide +kernel) hsm (whl_n hnb hns (by omega))), rfl⟩
    · refine ⟨rfl, _, .inl rfl, by simp, by decide, fun b hb => ?_⟩
      obtain ⟨b, rfl, hbb⟩ : ∃ i : Int, b = .int i ∧ i.natAbs < 10 ^ 50 := by
        simp only [List.mem_cons, List.not_mem_nil, or_false] at hb
        first
          | (rcases hb with rfl | rfl | rfl | rfl <;> exact ⟨_, rfl, by decide⟩)
          | (rcases hb with rfl | rfl | rfl <;> exact ⟨_, rfl, by decide⟩)
      repeat' (walk_at "st_law_scheme")
      refine ⟨rfl, ts.length, by rw [List.length_map], by omega, fun ns hns hnb => ?_⟩
      repeat' (walk_at "st_law_scheme")
      refine ⟨rfl, ts'.length, by rw [List.length_map], by omega, fun ns' hns' hnb' => ?_⟩
      repeat' (walk_at "st_law_scheme")
      refine ⟨lim_lt _ (by omega), ?_⟩
      repeat' (walk_at "st_law_scheme")
      exact ⟨rs ++ [_], _, _, _, _, by simp [hri], nxt _ (whl_r5 (by decide +kernel) hsm (whl_n hnb hns (by omega)) (whl_n hnb' hns' (by omega)) (whl_i hbb)), rfl⟩
    · refine ⟨rfl, _, .inl rfl, by simp, by decide, fun b hb => ?_⟩
      obtain ⟨b, rfl, hbb⟩ : ∃ i : Int, b = .int i ∧ i.natAbs < 10 ^ 50 := by
        simp only [List.mem_cons, List.not_mem_nil, or_false] at hb
        first
          | (rcases hb with rfl | rfl | rfl | rfl <;> exact ⟨_, rfl, by decide⟩)
          | (rcases hb with rfl | rfl | rfl <;> exact ⟨_, rfl, by decide⟩)
      repeat' (walk_at "st_law_scheme")
      refine ⟨rfl, ts.length, by rw [List.length_map], by omega, fun ns hns hnb => ?_⟩
      repeat' (walk_at "st_law_scheme")
      refine ⟨rfl, ts'.length, by rw [List.length_map], by omega, fun ns' hns' hnb' => ?_⟩
      repeat' (walk_at "st_law_scheme")
      refine ⟨lim_lt _ (by omega), ?_⟩
      repeat' (walk_at "st_law_scheme")
      exact ⟨rs ++ [_], _, _, _, _, by simp [hri], nxt _ (whl_r5 (by decide +kernel) hsm (whl_n hnb hns (by omega)) (whl_n hnb' hns' (by omega)) (whl_i hbb)), rfl⟩
  · rintro Γ1 ⟨rs, t9, t10, t11, t12, hri, hrw, rfl⟩
    rw [rngD_len, Int.toNat_natCast] at hri
    repeat' (walk_at "st_law_scheme")
    refine ⟨rfl, _, .inl rfl, by simp, by decide, fun w hw => ?_⟩
    obtain ⟨w, rfl, hww⟩ : ∃ s : Str, w = .str s ∧ s ∈ (["usual", "strict"] : List Str) := by
      simp only [List.mem_cons, List.not_mem_nil, or_false] at hw
      rcases hw with rfl | rfl | rfl <;> exact ⟨_, rfl, by decide⟩
    repeat' (walk_at "st_law_scheme")
    exact hq w _ ts fr gs _ ts' fr' gs' rs hww o o' hrw (by omega)
   ) only [↓DW.shutI]
theorem p_law_reworded {G : Gd} (B : Blt G) (hg : G.grd = false) (hk : G.k = 2) (f_law_some : Fn G 2 "_law_some" ["bag", "things"] (spB G.K 2 sp_some64)) (f_law_take : Fn G 1 "_law_take" ["bag", "many"] (spB G.K 2 sp_take)) (df : Df G "_law_reworded" s_law_reworded ["bag", "shape"]) : Fn G (G.k + 1) "_law_reworded" ["bag", "shape"] (spB G.K 2 sp_reworded64) := by
  apply DW.Shut.out
  simp (disch := with_unfolding_all
  refine fn_bag df hg sc_law_reworded ok_law_reworded rfl fun F bb hF ds Q0 hl hs => ?_
  obtain ⟨c, ts, fr, gs, rfl, o, hq⟩ := hs
  have lt := o.len
  have c3 := o.c3
  have gl := o.gl
  have fl := o.fl
  have cl : (cutD (ts.map PyData.str) none (some 1)).length ≤ 1 := by rw [cut1, List.length_take]; omega
  repeat' (walk_at "st_law_reworded")
  refine d_emp ?_
  cases he : (ts.map PyData.str).isEmpty with
  | true =>
    refine ⟨fun z => (nomatch z), fun _ => ?_⟩
    repeat' (first | refine br1 rfl ?_ | refine br2 rfl ?_ | refine br3 rfl ?_ | refine br4 rfl ?_ | walk_at "st_law_reworded" | fail)
    · exact lim_n _ (by rw [List.length_map]; show _ + 1 ≤ _; omega)
    · exact lim_n _ (by rw [List.length_map]; omega)
    · exact ⟨rfl, _, .inl rfl, by simp, by simp, fun x hx => hq x (rw_menu o x hx)⟩
  | false =>
    refine ⟨fun _ => ?_, fun z => (nomatch z)⟩
    repeat' (walk_at "st_law_reworded")
    refine ⟨rfl, _, rfl, by decide, by decide, fun k hk0 hk1 => ?_⟩
    repeat' (first | refine br1 rfl ?_ | refine br2 rfl ?_ | refine br3 rfl ?_ | refine br4 rfl ?_ | walk_at "st_law_reworded" | fail)
    · exact lim_n _ (by rw [List.length_map]; show _ + 1 ≤ _; omega)
    · exact lim_n _ (by rw [List.length_map]; omega)
    · exact ⟨rfl, _, .inl rfl, by simp, by simp, fun x hx => hq x (rw_menu o x hx)⟩
    refine ⟨rfl, words64, .inl rfl, by decide, by decide, fun word hwd => ?_⟩
    have hwo := whl_of (List.all_eq_true.mp words64_ok word hwd)
    repeat' (walk_at "st_law_reworded")
    refine ⟨rfl, ts.map PyData.str, .inr rfl, (fun e => by rw [e] at he; cases he), by rw [List.length_map]; omega, fun one hone => ?_⟩
    obtain ⟨one, ho, rfl⟩ := List.mem_map.mp hone
    repeat' (walk_at "st_law_reworded")
    refine wc_typ (ts :: fr :: gs) tstrs (fun l => rwd one word l) kd_law_reworded_0 gl_law_reworded_0 own_law_reworded_0 ?_ ?_
    · decide +kernel
    repeat' (walk_at "st_law_reworded")
    · exact lim_n _ (by rw [List.length_map]; show 2 + _ ≤ _; omega)
    refine ⟨rfl, fun l hl => ?_, ?_⟩
    · repeat' (walk_at "st_law_reworded")
      refine wc_typ l PyData.str (fun c => if c = one then word else .str c) kd_law_reworded_1 gl_law_reworded_1 own_law_reworded_1 ?_ ?_
      · decide +kernel
      repeat' (walk_at "st_law_reworded")
      refine ⟨rfl, fun c hc => ?_, ?_⟩
      · repeat' (walk_at "st_law_reworded")
        · rw [if_pos h]
        · rw [if_neg h]
      repeat' (walk_at "st_law_reworded")
      rfl
    repeat' (walk_at "st_law_reworded")
    rw [show cutD ((ts :: fr :: gs).map fun l => rwd one word l) (some 2) none = gs.map (rwd one word) from cutD_from _ 2]
    exact hq _ (rwd_whl o hwo)
   ) only [↓DW.shutI]
set_option hygiene false in
local macro_rules | `(tactic| walk_at "BT") => `(tactic| (
  repeat' (first | (guard_target = IsiD _ _ _; refine ⟨true, rfl, ?_⟩) | refine br1 rfl ?_ | refine br2 rfl ?_ | refine br3 rfl ?_ | refine br4 rfl ?_ | walk_at "st_law_bent" | fail)
  refine ⟨xs, rfl, ?_⟩
  repeat' (walk_at "st_law_bent")
  refine ⟨rfl, rfl, fun o ho => ?_⟩
  repeat' (walk_at "st_law_bent")
  · exact lim_n _ (by show _ + 1 ≤ _; omega)
  refine ⟨rfl, rfl, fun o2 ho2 => ?_⟩
  repeat' (walk_at "st_law_bent")
  refine ⟨rfl, _, .inl rfl, by simp, by simp, fun x hx => hq x ?_⟩
  simp only [List.mem_cons, List.not_mem_nil, or_false] at hx
  rcases hx with rfl | rfl | rfl | rfl
  · exact bent_list h50
  · exact bent_rev h50
  · exact bent_add h50 ho
  · exact bent_odd ho2))
theorem p_law_bent {G : Gd} (B : Blt G) (hg : G.grd = false) (nb : Nat) (hk : G.k = 4 + nb) (f_law_is_int : Fn G 1 "_law_is_int" ["thing"] (spD G.K 1 sp_isint68)) (f_law_odd : Fn G 3 "_law_odd" ["bag"] (spB G.K 1 sp_odd64)) (f_law_some : Fn G 2 "_law_some" ["bag", "things"] (spB G.K 2 sp_some64)) (f_law_take : Fn G 1 "_law_take" ["bag", "many"] (spB G.K 2 sp_take)) (f_law_bent : Fn G (4 + nb) "_law_bent" ["bag", "thing", "deep"] (spB G.K 3 (bentS nb))) (df : Df G "_law_bent" s_law_bent ["bag", "thing", "deep"]) : Fn G (G.k + 1) "_law_bent" ["bag", "thing", "deep"] (spB G.K 3 (bentS (nb + 1))) := by
  apply DW.Shut.out
  simp (disch := with_unfolding_all
  refine fn_bag df hg sc_law_bent ok_law_bent rfl fun F bb hF ds Q0 hl hs => ?_
  obtain ⟨d, m, rfl, hm, h50, hw, hwd, hq⟩ := hs
  cases d
  case int i =>
    simp only [smN, decide_eq_true_eq] at h50
    repeat' (first | (guard_target = IsiD _ _ _; first | refine ⟨true, rfl, ?_⟩ | refine ⟨false, rfl, ?_⟩) | refine br1 rfl ?_ | refine br2 rfl ?_ | refine br3 rfl ?_ | refine br4 rfl ?_ | walk_at "st_law_bent" | fail)
    refine ⟨rfl, _, rfl, true, rfl, fun _ => ?_, fun z => (nomatch z)⟩
    repeat' (walk_at "st_law_bent")
    refine ⟨Nat.lt_of_lt_of_le (log2_le200 (Nat.lt_trans h50 (by decide))) (by decide), ?_⟩
    repeat' (walk_at "st_law_bent")
    refine ⟨rfl, _, .inl rfl, by simp, by simp, fun x hx => hq x ?_⟩
    simp only [List.mem_cons, List.not_mem_nil, or_false] at hx
    have h60 : ∀ j : Int, j.natAbs ≤ i.natAbs + 1 → j.natAbs < 10 ^ 60 := fun j hj => by
      have : (10 : Nat) ^ 50 < 10 ^ 60 := by decide
      omega
    rcases hx with rfl | rfl | rfl | rfl | rfl | rfl | rfl
    · exact bent_int (h60 _ (by omega))
    · exact bent_int (h60 _ (by omega))
    · exact bent_small ⟨by simp only [smN], by simp [PyData.depth], by simp [wt], by simp [wid]⟩
    · exact bent_text h50
    · exact bent_int (h60 _ (by omega))
    · exact bent_small ⟨by simp only [smN], by simp [PyData.depth], by simp [wt], by simp [wid]⟩
    · exact bent_int (by decide)
  case tuple xs =>
    repeat' (first | (guard_target = IsiD _ _ _; first | refine ⟨true, rfl, ?_⟩ | refine ⟨false, rfl, ?_⟩) | refine br1 rfl ?_ | refine br2 rfl ?_ | refine br3 rfl ?_ | refine br4 rfl ?_ | walk_at "st_law_bent" | fail)
    have hlx : xs.length ≤ 20 := by simp only [wid] at hwd; omega
    refine d_emp ?_
    cases he : xs.isEmpty with
    | true =>
      refine ⟨fun z => (nomatch z), fun _ => ?_⟩
      walk_at "BT"
    | false =>
      have hx0 : 0 < xs.length := by cases xs with
        | nil => cases he
        | cons => exact Nat.succ_pos _
      refine ⟨fun _ => ?_, fun z => (nomatch z)⟩
      repeat' (first | refine br1 rfl ?_ | refine br2 rfl ?_ | refine br3 rfl ?_ | refine br4 rfl ?_ | walk_at "st_law_bent" | fail)
      rotate_left
      · walk_at "BT"
      refine ⟨rfl, _, rfl, by decide, by decide, fun k hk0 hk1 => ?_⟩
      repeat' (first | refine br1 rfl ?_ | refine br2 rfl ?_ | refine br3 rfl ?_ | refine br4 rfl ?_ | walk_at "st_law_bent" | fail)
      rotate_left
      · walk_at "BT"
      refine ⟨rfl, _, rfl, by omega, by omega, fun a ha0 ha1 => ?_⟩
      obtain ⟨a, rfl⟩ := Int.eq_ofNat_of_zero_le ha0
      have ha : a < xs.length := by omega
      repeat' (walk_at "st_law_bent")
      refine ⟨rfl, _, rfl, by decide, by decide, fun way hw0 hw1 => ?_⟩
      have c1 : cutD xs none (some (a : Int)) = xs.take a := cutD_to xs a
      have c2 : cutD xs (some ((a : Int) + 1)) none = xs.drop (a + 1) := cutD_from xs (a + 1)
      have c3 : cutD xs none (some ((a : Int) + 1)) = xs.take (a + 1) := cutD_to xs (a + 1)
      have c4 : cutD xs (some (a : Int)) none = xs.drop a := cutD_from xs a
      have hxa := List.getElem?_eq_getElem ha
      repeat' (walk_at "st_law_bent")
      · rw [c1, c2, List.length_take, List.length_drop]
        exact lim_n _ (by omega)
      · rw [c1, c2]
        exact hq _ (bent_cut h50)
      · rw [c3, c4, List.length_take, List.length_drop]
        exact lim_n _ (by omega)
      · rw [c3, c4]
        exact hq _ (bent_dup h50)
      refine d_ixTn a rfl hxa ?_
      repeat' (walk_at "st_law_bent")
      obtain ⟨nb', rfl⟩ : ∃ n, nb = n + 1 := ⟨nb - 1, by omega⟩
      have hmx := List.getElem_mem ha
      have h50' := smBs_iff.mp (by simpa only [smN] using h50) _ hmx
      refine ⟨rfl, xs[a], m - 1, by rw [show ((m : Int) - 1) = ((m - 1 : Nat) : Int) by omega], by omega, h50', ?_, ?_, fun y hy => ?_⟩
      · have := wts_mem hmx
        simp only [wt] at hw
        omega
      · have := wids_le.mp (Nat.le_refl (wids xs)) _ hmx
        simp only [wid] at hwd
        omega
      repeat' (walk_at "st_law_bent")
      · rw [c1, List.length_take]
        exact lim_n _ (by show _ + 1 ≤ _; omega)
      · rw [c1, c2, List.length_append, List.length_take, List.length_drop]
        exact lim_n _ (by show _ + 1 + _ ≤ _; omega)
      · rw [c1, c2]
        exact hq _ (bent_put h50 hxa hy)
  all_goals
    repeat' (first | (guard_target = IsiD _ _ _; first | refine ⟨true, rfl, ?_⟩ | refine ⟨false, rfl, ?_⟩) | refine br1 rfl ?_ | refine br2 rfl ?_ | refine br3 rfl ?_ | refine br4 rfl ?_ | walk_at "st_law_bent" | fail)
    refine ⟨rfl, _, rfl, false, rfl, (fun z => nomatch z), fun _ => ?_⟩
    repeat' (walk_at "st_law_bent")
    refine ⟨rfl, rfl, fun o ho => ?_⟩
    repeat' (walk_at "st_law_bent")
    refine ⟨rfl, _, .inl rfl, by simp, by simp, fun x hx => hq x ?_⟩
    simp only [List.mem_cons, List.not_mem_nil, or_false] at hx
    rcases hx with rfl | rfl | rfl | rfl | rfl
    · exact bent_odd ho
    all_goals exact bent_word (by decide +kernel)
   ) only [↓DW.shutI]
theorem p_law_bent0 {G : Gd} (hg : G.grd = false) (df : Df G "_law_bent" s_law_bent ["bag", "thing", "deep"]) : Fn G (G.k + 1) "_law_bent" ["bag", "thing", "deep"] (spB G.K 3 (bentS 0)) := by
  apply DW.Shut.out
  simp (disch := with_unfolding_all
  exact fn_bag df hg sc_law_bent ok_law_bent rfl fun F bb hF ds Q0 hl hs => hs.elim
   ) only [↓DW.shutI]
theorem p_law_shape {G : Gd} (B : Blt G) (hg : G.grd = false) (hk : G.k = 2) (f_law_take : Fn G 1 "_law_take" ["bag", "many"] (spB G.K 2 sp_take)) (f_law_mixed : Fn G 2 "_law_mixed" ["bag", "things"] (spB G.K 2 sp_mixed)) (df : Df G "_law_shape" s_law_shape ["bag", "names", "cells", "most"]) : Fn G (G.k + 1) "_law_shape" ["bag", "names", "cells", "most"] (spB G.K 4 sp_shape64) := by
  apply DW.Shut.out
  simp (disch := with_unfolding_all
  refine fn_bag df hg sc_law_shape ok_law_shape rfl fun F bb hF ds Q0 hl hs => ?_
  obtain ⟨ns, c, m, rfl, hn3, hnin, hc, hm1, hm3, hq⟩ := hs
  repeat' (walk_at "st_law_shape")
  refine ⟨rfl, _, rfl, by rw [List.length_map]; omega, fun ys hy => ?_⟩
  repeat' (walk_at "st_law_shape")
  obtain ⟨nms, hnp, rfl⟩ := perm_str (l := ns) hy
  have ec : cutD (nms.map PyData.str) none (some (c : Int)) = (nms.take c).map PyData.str := by rw [cutD_to, List.map_take]
  have hlt : (nms.take c).length = c := by
    have := hnp.length_eq
    rw [List.length_take]
    omega
  have hti : ∀ t, t ∈ nms.take c → t ∈ shNames := fun t ht => hnin t (hnp.mem_iff.mp (List.mem_of_mem_take ht))
  rw [ec]
  generalize nms.take c = ts at hlt hti
  refine w1_nest3 4 5 6 r_law_shape_groups r_law_shape_added t_law_shape_cell r_law_shape_cell (by decide) (by decide) (by decide) rfl rfl ?_ (by show 6 < 8; decide) ?_ (hW := fun F' Γ' as d D' h1 h2 h3 h4 => w1_append 5 r_law_shape_added h1 (we_var 6 r_law_shape_cell h2 ⟨h3, h4⟩))
  · intro j es hj
    match j, hj with
    | 4, _ => exact .inl rfl
    | 5, _ => exact .inr rfl
    | 0, z | 1, z | 2, z | 3, z | 6, z | 7, z => cases z
    | j + 8, z => cases z
  refine wi_seq ?_
  repeat' (walk_at "st_law_shape")
  have hall : ∀ {xs : List PyData} {dss : List (List PyData)} {as : List PyData}, Parts3 xs dss as → (∃ i : Nat, xs = (ts.map PyData.str).take i) → (∀ es, es ∈ dss → es.length ≤ 3 ∧ ∀ e, e ∈ es → e ∈ ts.map PyData.str) ∧ dss.length ≤ 3 := fun {xs dss as} hP ⟨i, hi⟩ => by
    have hx : xs.length ≤ 3 := by rw [hi, List.length_take, List.length_map]; omega
    refine ⟨fun es he => ⟨Nat.le_trans (hP.mem.1 es he).2.1 hx, fun e hee => ?_⟩, Nat.le_trans hP.mem.2.1 hx⟩
    have := (hP.mem.1 es he).2.2 e hee
    rw [hi] at this
    exact List.mem_of_mem_take this
  refine ⟨by rw [List.length_map]; omega, fun F' a vs dss as d xs hF' hna hv hvl hdp hP hxs hd hz => ⟨?_, ?_, fun hne => ?_⟩, fun dss as t hP => ?_⟩
  · have hF : F'.bag = some bb := hF'.trans hF
    repeat' (walk_at "st_law_shape")
    refine ⟨rfl, _, rfl, by decide, by decide, fun k hk0 hk1 => ?_⟩
    repeat' (walk_at "st_law_shape")
    all_goals trivial
  · have hF : F'.bag = some bb := hF'.trans hF
    have hsh := sh_shaped hti fun es he => ((hall hP hxs).1 es he).2
    refine wt_of_ww (ww_and ?_)
    refine wt_lt ?_
    refine wb_of (we_lenKept 4 B.len g_law_shape_len r_law_shape_groups rfl hv hna ?_)
    refine wb_of (we_var 3 r_law_shape_most rfl ?_)
    show (decide ((vs.length : Int) < (m : Int)) = true → _) ∧ (decide ((vs.length : Int) < (m : Int)) = false → _)
    refine ⟨fun _ => ?_, fun hlf => ?_⟩
    · refine ww_and1 (wt_of_ww (ww_or ?_))
      refine wt_eqKept 4 r_law_shape_groups rfl hdp hsh ⟨fun hx => ?_, fun hx => ?_⟩
      · have hne : dss ≠ [] := fun z => by subst z; cases hx
        repeat' (walk_at "st_law_shape")
        refine ⟨rfl, _, rfl, by decide, by decide, fun k hk0 hk1 => ?_⟩
        repeat' (walk_at "st_law_shape")
        all_goals exact fun _ => hne
      · exact fun z => nomatch z
    · intro _ e
      subst e
      have hv0 : vs.length = 0 := hvl
      rw [decide_eq_true (show (vs.length : Int) < (m : Int) by omega)] at hlf
      cases hlf
  · have hF : F'.bag = some bb := hF'.trans hF
    have hl0 : 0 < dss.length := List.length_pos_iff.mpr hne
    refine we_bag f_law_take g_law_shape__law_take (by omega) r_law_shape_bag rfl hF ?_
    refine wl_cons (we_lenKept 4 B.len g_law_shape_len r_law_shape_groups rfl hv hna (wl_nil ?_))
    exact ⟨rfl, (vs.length : Int), rfl, by omega, by omega, fun n hn0 hn1 => ⟨n.toNat, by rw [Int.toNat_of_nonneg hn0], by omega⟩⟩
  · repeat' (walk_at "st_law_shape")
    refine wc_typ dss PyData.list PyData.tuple kd_law_shape_0 gl_law_shape_0 own_law_shape_0 ?_ ?_
    · decide +kernel
    repeat' (walk_at "st_law_shape")
    refine ⟨rfl, fun es hes => ?_, ?_⟩
    · repeat' (walk_at "st_law_shape")
      rfl
    repeat' (walk_at "st_law_shape")
    have hP' := hall hP ⟨c, by rw [List.take_of_length_le (by rw [List.length_map]; omega)]⟩
    have hax : ∀ e, e ∈ as → e ∈ ts.map PyData.str := hP.mem.2.2.2
    have hal : as.length ≤ 3 := Nat.le_trans hP.mem.2.2.1 (by rw [List.length_map]; omega)
    obtain ⟨fr, rfl, hfr⟩ := strs_in hax
    obtain ⟨gs, rfl, hgs⟩ := strss_in hP'.1
    rw [List.length_map] at hal
    have hgl := hP'.2
    rw [List.length_map] at hgl
    have := hq ts fr gs ⟨hlt, hc, hti, hgl, hgs, hal, hfr⟩
    rw [List.map_map]
    exact this
   ) only [↓DW.shutI]
set_option hygiene false in
local macro_rules | `(tactic| walk_at "L") => `(tactic| repeat' (walk_at "st_law"))
theorem p_law {G : Gd} (B : Blt G) (hG : G.grd = true) (hc : G.cq = none) (hk : G.k = 12) (f_law_bag : Fn G 1 "_law_bag" ["script"] (spNew G.K)) (f_law_scheme : Fn G 4 "_law_scheme" ["bag", "head_cells", "row_cells", "most"] (spB G.K 4 sp_lscheme64)) (f_law_any_table : Fn G 5 "_law_any_table" ["bag", "scheme", "many"] (spB G.K 3 sp_anytable64)) (f_law_some : Fn G 2 "_law_some" ["bag", "things"] (spB G.K 2 sp_some64)) (f_law_take : Fn G 1 "_law_take" ["bag", "many"] (spB G.K 2 sp_take)) (f_law_odd : Fn G 3 "_law_odd" ["bag"] (spB G.K 1 sp_odd64)) (f_law_bent : Fn G 10 "_law_bent" ["bag", "thing", "deep"] (spB G.K 3 (bentS 6))) (f_law_reworded : Fn G 3 "_law_reworded" ["bag", "shape"] (spB G.K 2 sp_reworded64)) (f_is_scheme : Fn G 4 "is_scheme" ["thing"] (spD G.K 1 sp_scheme64)) (f_is_table : Fn G 4 "is_table" ["scheme", "thing"] (spD G.K 2 sp_table64)) (f_law_is_scheme : Fn G 4 "_law_is_scheme" ["thing"] (spD G.K 1 sp_scheme64)) (f_law_is_table : Fn G 4 "_law_is_table" ["scheme", "thing"] (spD G.K 2 sp_table64)) (f_law_alike : FnG G 1 "_law_alike" ["found", "due"] (spD G.K 2 sp_alike)) (df : Df G "law" s_law ["script"]) : FnG G (G.k + 1) "law" ["script"] (spD G.K 1 spLaw) := by
  apply DW.Shut.out
  simp (disch := with_unfolding_all
  refine fnG_pure hc df sc_law ok_law rfl fun F hF ds Q0 hl hs => ?_
  obtain ⟨ns, rfl, hz, hq⟩ := hs
  refine ws_new 1 f_law_bag hF g_law__law_bag (by omega) t_law_bag hz ?_ fun F b hF => ?_
  · walk_at "L"
    rfl
  refine ws_cons (w1_for (fun _ Γ => ∃ t0 t2 t3 t4 t5 t6 t7 t8 t9 t10 t11 t12 : Bd, Γ = [t0, Bd.rw (.ref b), t2, t3, t4, t5, t6, t7, t8, t9, t10, t11, t12]) ?_)
  walk_at "L"
  refine ⟨by decide, by decide, ⟨_, _, _, _, _, _, _, _, _, _, _, _, rfl⟩, ?_, ?_⟩
  · rintro i d Γ1 hd ⟨t0, t2, t3, t4, t5, t6, t7, t8, t9, t10, t11, t12, rfl⟩
    walk_at "L"
    refine ⟨rfl, rfl, fun w c ts fr gs c' ts' fr' gs' rs hw o o' hrs hrl => ?_⟩
    have hsch := sch_whl hw o o' hrs hrl
    have hitm := sch_items hw o o' hrs hrl
    have lt := o.len
    have l3 := o.c3
    have lt' := o'.len
    have l3' := o'.c3
    walk_at "L"
    refine ⟨rfl, _, .inl rfl, by simp, by simp, fun mm hmm => ?_⟩
    obtain ⟨m, hm, rfl⟩ : ∃ n : Nat, n ≤ 4 ∧ mm = .int (n : Int) := by
      simp only [List.mem_cons, List.not_mem_nil, or_false] at hmm
      rcases hmm with rfl | rfl | rfl | rfl
      · exact ⟨2, by decide, rfl⟩
      · exact ⟨0, by decide, rfl⟩
      · exact ⟨1, by decide, rfl⟩
      · exact ⟨4, by decide, rfl⟩
    walk_at "L"
    refine ⟨rfl, _, _, ts, fr, gs, ts', fr', gs', m, rfl, by omega, by omega, hm, fun tb htb => ?_⟩
    walk_at "L"
    refine ⟨rfl, rfl, fun od hod => ?_⟩
    walk_at "L"
    refine wc_some kd_law_0 gl_law_0 own_law_0 ?_ (fun _ y => Bent (schD w (shD ts fr gs) (shD ts' fr' gs') rs) y) ?_
    · decide +kernel
    walk_at "L"
    refine ⟨by omega, by omega, fun e he => ?_, fun ys hyl hy => ?_⟩
    · walk_at "L"
      exact ⟨rfl, _, 5, rfl, by decide, hsch.sm, Nat.le_trans hsch.wt (by decide), Nat.le_trans hsch.wid (by decide), fun e he => he⟩
    walk_at "L"
    · exact lim_n _ (by show 7 + ys.length ≤ _; rw [hyl, rngD_len]; decide)
    refine wc_some kd_law_1 gl_law_1 own_law_1 ?_ (fun _ y => Bent tb y) ?_
    · decide +kernel
    walk_at "L"
    refine ⟨by omega, by omega, fun e he => ?_, fun zs hzl hzy => ?_⟩
    · walk_at "L"
      exact ⟨rfl, _, 4, rfl, by decide, htb.sm, Nat.le_trans htb.wt (by decide), Nat.le_trans htb.wid (by decide), fun e he => he⟩
    rw [rngD_len] at hyl hzl
    have hys : ∀ y, y ∈ ys → W64 y := fun y hm => w64_bent hsch ((get_some_of_mem (P := fun _ y => Bent (schD w (shD ts fr gs) (shD ts' fr' gs') rs) y) (by rw [hyl, rngD_len]) hy y hm).elim fun _ h => h.2) (by decide) (by decide) (by decide)
    have hzs : ∀ y, y ∈ zs → W64 y := fun y hm => w64_bent htb ((get_some_of_mem (P := fun _ y => Bent tb y) (by rw [hzl, rngD_len]) hzy y hm).elim fun _ h => h.2) (by decide) (by decide) (by decide)
    walk_at "L"
    have e3 : cutD [PyData.str w, shD ts fr gs, shD ts' fr' gs', .tuple rs] none (some 3) = [PyData.str w, shD ts fr gs, shD ts' fr' gs'] := cutD_to _ 3
    have e1 : cutD [PyData.str w, shD ts fr gs, shD ts' fr' gs', .tuple rs] (some 1) none = [shD ts fr gs, shD ts' fr' gs', .tuple rs] := cutD_from _ 1
    refine ⟨_, _, rfl, rfl, ?_, ?_⟩
    · rw [List.length_append, hyl, hzl]
      exact lim_n _ (by show 7 + _ + _ ≤ _; decide)
    rw [e3, e1]
    have hall : ∀ x, x ∈ ([PyData.tuple [.str w, shD ts fr gs, shD ts' fr' gs', .tuple rs], tb, od, .tuple rs, .tuple [.str w, shD ts fr gs, shD ts' fr' gs'], .tuple [shD ts fr gs, shD ts' fr' gs', .tuple rs], .tuple [.str w, shD ts' fr' gs', shD ts fr gs, .tuple rs]] ++ ys) ++ zs → W64 x := fun x hx => by
      rcases List.mem_append.mp hx with hx | hx
      · rcases List.mem_append.mp hx with hx | hx
        · simp only [List.mem_cons, List.not_mem_nil, or_false] at hx
          rcases hx with rfl | rfl | rfl | rfl | rfl | rfl | rfl
          · exact w64_of hsch (by decide) (by decide) (by decide)
          · exact w64_of htb (by decide) (by decide) (by decide)
          · exact w64_of (odd64_whl hod) (by decide) (by decide) (by decide)
          · exact w64_of (rules_whl hrs hrl) (by decide) (by decide) (by decide)
          · exact w64_tuple (fun x hx => hitm x (by simp at hx ⊢; rcases hx with h | h | h <;> simp [h])) (by simp)
          · exact w64_tuple (fun x hx => hitm x (by simp at hx ⊢; rcases hx with h | h | h <;> simp [h])) (by simp)
          · exact w64_tuple (fun x hx => hitm x (by simp at hx ⊢; rcases hx with h | h | h | h <;> simp [h])) (by simp)
        · exact hys x hx
      · exact hzs x hx
    have hlen : (([PyData.tuple [.str w, shD ts fr gs, shD ts' fr' gs', .tuple rs], tb, od, .tuple rs, .tuple [.str w, shD ts fr gs, shD ts' fr' gs'], .tuple [shD ts fr gs, shD ts' fr' gs', .tuple rs], .tuple [.str w, shD ts' fr' gs', shD ts fr gs, .tuple rs]] ++ ys) ++ zs).length ≤ 19 := by
      rw [List.length_append, List.length_append, hyl, hzl]
      show 7 + _ + _ ≤ 19
      decide
    walk_at "L"
    refine w1_for (fun i Γ => ∃ (L : List PyData) (t0 t2 t7 t8 t9 t10 t11 t12 : Bd), (∀ x, x ∈ L → W64 x) ∧ L.length ≤ 19 + i ∧ Γ = [t0, Bd.rw (.ref b), t2, Bd.im (.tuple [.str w, shD ts fr gs, shD ts' fr' gs', .tuple rs]), Bd.im tb, Bd.im (.tuple [.str w, shD ts' fr' gs', shD ts fr gs, .tuple rs]), Bd.mu L, t7, t8, t9, t10, t11, t12]) ?_
    walk_at "L"
    refine ⟨by decide, by decide, ⟨_, _, _, _, _, _, _, _, _, hall, hlen, rfl⟩, ?_, ?_⟩
    · rintro i2 d2 Γ2 hd2 ⟨L, t0, t2, t7, t8, t9, t10, t11, t12, hL, hLl, rfl⟩
      obtain ⟨hi2, _⟩ := rngD_get hd2
      have hi2 : i2 < 4 := hi2
      walk_at "L"
      refine ⟨rfl, _, rfl, by decide, by decide, fun n hn0 hn1 => ?_⟩
      have put : ∀ y, W64 y → ∀ x, x ∈ L ++ [y] → W64 x := fun y hy x hx => by
        rcases List.mem_append.mp hx with h1 | h1
        · exact hL x h1
        · rw [List.mem_singleton.mp h1]; exact hy
      obtain rfl | rfl : n = 0 ∨ n = 1 := by omega
      · have d1 : cutD [PyData.str w, shD ts fr gs, shD ts' fr' gs', .tuple rs] none (some (1 + 0)) = [PyData.str w] := cutD_to _ 1
        have d2 : cutD [PyData.str w, shD ts fr gs, shD ts' fr' gs', .tuple rs] (some (1 + 0 + 1)) none = [shD ts' fr' gs', .tuple rs] := cutD_from _ 2
        walk_at "L"
        refine ⟨rfl, c, ts, fr, gs, rfl, o, fun y hy => ?_⟩
        walk_at "L"
        · rw [d1]
          exact lim_n _ (by simp)
        · rw [d1, d2]
          exact lim_n _ (by simp)
        rw [d1, d2]
        refine ⟨lim_lt _ (by omega), ?_⟩
        walk_at "L"
        refine ⟨L ++ [_], _, _, _, _, _, _, _, _, put _ (w64_tuple (fun x hx => ?_) (by simp)), by simp; omega, rfl⟩
        simp only [List.mem_append, List.mem_cons, List.not_mem_nil, or_false] at hx
        by_cases hxy : x = y
        · subst hxy
          exact hy.up (Nat.le_refl 4) (by decide) (Nat.le_refl 6)
        · exact hitm x (by simp only [List.mem_cons, List.not_mem_nil, or_false]; grind)
      · have d1 : cutD [PyData.str w, shD ts fr gs, shD ts' fr' gs', .tuple rs] none (some (1 + 1)) = [PyData.str w, shD ts fr gs] := cutD_to _ 2
        have d2 : cutD [PyData.str w, shD ts fr gs, shD ts' fr' gs', .tuple rs] (some (1 + 1 + 1)) none = [.tuple rs] := cutD_from _ 3
        walk_at "L"
        refine ⟨rfl, c', ts', fr', gs', rfl, o', fun y hy => ?_⟩
        walk_at "L"
        · rw [d1]
          exact lim_n _ (by simp)
        · rw [d1, d2]
          exact lim_n _ (by simp)
        rw [d1, d2]
        refine ⟨lim_lt _ (by omega), ?_⟩
        walk_at "L"
        refine ⟨L ++ [_], _, _, _, _, _, _, _, _, put _ (w64_tuple (fun x hx => ?_) (by simp)), by simp; omega, rfl⟩
        simp only [List.mem_append, List.mem_cons, List.not_mem_nil, or_false] at hx
        by_cases hxy : x = y
        · subst hxy
          exact hy.up (Nat.le_refl 4) (by decide) (Nat.le_refl 6)
        · exact hitm x (by simp only [List.mem_cons, List.not_mem_nil, or_false]; grind)
    rintro Γ2 ⟨L, t0, t2, t7, t8, t9, t10, t11, t12, hL, hLl, rfl⟩
    have hLl : L.length ≤ 23 := hLl
    refine ws_freeze 6 rfl ?_
    walk_at "L"
    refine w1_for (fun _ Γ => ∃ t0 t2 t7 t8 t9 t10 t11 t12 : Bd, Γ = [t0, Bd.rw (.ref b), t2, Bd.im (.tuple [.str w, shD ts fr gs, shD ts' fr' gs', .tuple rs]), Bd.im tb, Bd.im (.tuple [.str w, shD ts' fr' gs', shD ts fr gs, .tuple rs]), Bd.im (.list L), t7, t8, t9, t10, t11, t12]) ?_
    walk_at "L"
    refine ⟨⟨_, _, _, _, _, _, _, _, rfl⟩, ?_, ?_⟩
    · rintro j e Γ2 he ⟨t0, t2, t7, t8, t9, t10, t11, t12, rfl⟩
      have hwe := hL e (List.mem_of_getElem? he)
      clear he
      walk_at "L"
      refine any_reprA hwe (by decide) (by rw [lim_eq]; decide) ?_
      walk_at "L"
      refine ⟨rfl, e, rfl, hwe, ?_⟩
      walk_at "L"
      refine ⟨rfl, _, _, _, _, _, _, e, rfl, hwe.sm, ?_⟩
      walk_at "L"
      refine w1_if ?_
      walk_at "L"
      refine ⟨rfl, e, rfl, hwe, ?_⟩
      walk_at "L"
      refine ⟨rfl, _, _, _, _, _, _, e, rfl, hwe.sm, ?_⟩
      walk_at "L"
      refine ⟨rfl, _, 1, 17, rfl, tm_list (k := 0) (n := 5) (L := 2) (fun x hx => ?_) (by simp), by decide, by rw [lim_eq]; decide, ?_⟩
      · simp only [List.mem_cons, List.not_mem_nil, or_false] at hx
        rcases hx with rfl | rfl <;> exact tm_bool _
      walk_at "L"
      refine ⟨fun _ => ?_, fun z => (nomatch z)⟩
      walk_at "L"
      refine any_reprA hwe (by decide) (by rw [lim_eq]; decide) ?_
      walk_at "L"
      · exact absurd rfl h
      · exact ⟨_, _, _, _, _, _, _, _, rfl⟩
    rintro Γ2 ⟨t0, t2, t7, t8, t9, t10, t11, t12, rfl⟩
    walk_at "L"
    exact ⟨_, _, _, _, _, _, _, _, _, _, _, _, rfl⟩
  · rintro Γ1 ⟨t0, t2, t3, t4, t5, t6, t7, t8, t9, t10, t11, t12, rfl⟩
    walk_at "L"
    exact hq
   ) only [↓DW.shutI]
theorem all_law {P : Program} {w : World} {K : PySem.W.Frag} {mg : Str → Option Value} {fa : Addr} (hmg : mg "law" = some (.ref fa))
    (z_len : mg "len" = none)
    (z_tuple : mg "tuple" = none)
    (z_list : mg "list" = none)
    (z_int : mg "int" = none)
    (z_bool : mg "bool" = none)
    (z_abs : mg "abs" = none)
    (z_all : mg "all" = none)
    (z_sorted : mg "sorted" = none)
    (z_range : mg "range" = none)
    (z_repr : mg "repr" = none)
    (z_isinstance : mg "isinstance" = none)
    (z_set : mg "set" = none)
    (z_str : mg "str" = none)
    (z_LETTERS : ∃ tk, mg "LETTERS" = some (.str "abcdefghijklmnopqrstuvwxyz" tk))
    (z_gcd : mg "gcd" = some (.builtin "math.gcd"))
    (z_kt : ktOk K = true)
    (z_dg : dgOk K = true)
    (d_is_integer : DfX K mg "is_integer" s_is_integer ["thing"])
    (d_is_name : DfX K mg "is_name" s_is_name ["thing"])
    (d_is_fraction : DfX K mg "is_fraction" s_is_fraction ["thing"])
    (d_is_side : DfX K mg "is_side" s_is_side ["thing", "least"])
    (d_is_numbers : DfX K mg "is_numbers" s_is_numbers ["thing", "many"])
    (d_is_scheme_rule : DfX K mg "is_scheme_rule" s_is_scheme_rule ["head", "row", "thing"])
    (d_is_scheme : DfX K mg "is_scheme" s_is_scheme ["thing"])
    (d_is_row : DfX K mg "is_row" s_is_row ["thing", "many"])
    (d_is_table : DfX K mg "is_table" s_is_table ["scheme", "thing"])
    (d_law_bag : DfX K mg "_law_bag" s_law_bag ["script"])
    (d_law_take : DfX K mg "_law_take" s_law_take ["bag", "many"])
    (d_law_some : DfX K mg "_law_some" s_law_some ["bag", "things"])
    (d_law_mixed : DfX K mg "_law_mixed" s_law_mixed ["bag", "things"])
    (d_law_alike : DfX K mg "_law_alike" s_law_alike ["found", "due"])
    (d_law_is_int : DfX K mg "_law_is_int" s_law_is_int ["thing"])
    (d_law_gcd : DfX K mg "_law_gcd" s_law_gcd ["one", "other"])
    (d_law_fr : DfX K mg "_law_fr" s_law_fr ["num", "den"])
    (d_law_stand : DfX K mg "_law_stand" s_law_stand ["bag", "many"])
    (d_law_is_vector : DfX K mg "_law_is_vector" s_law_is_vector ["many", "thing"])
    (d_law_shape : DfX K mg "_law_shape" s_law_shape ["bag", "names", "cells", "most"])
    (d_law_numbers : DfX K mg "_law_numbers" s_law_numbers ["bag", "many"])
    (d_law_scheme : DfX K mg "_law_scheme" s_law_scheme ["bag", "head_cells", "row_cells", "most"])
    (d_law_table_cells : DfX K mg "_law_table_cells" s_law_table_cells ["bag", "many"])
    (d_law_any_table : DfX K mg "_law_any_table" s_law_any_table ["bag", "scheme", "many"])
    (d_law_is_table : DfX K mg "_law_is_table" s_law_is_table ["scheme", "thing"])
    (d_law_is_name : DfX K mg "_law_is_name" s_law_is_name ["thing"])
    (d_law_is_shape : DfX K mg "_law_is_shape" s_law_is_shape ["thing", "least"])
    (d_law_are_integers : DfX K mg "_law_are_integers" s_law_are_integers ["thing", "many"])
    (d_law_is_rule_of : DfX K mg "_law_is_rule_of" s_law_is_rule_of ["thing", "heads", "rows"])
    (d_law_is_scheme : DfX K mg "_law_is_scheme" s_law_is_scheme ["thing"])
    (d_law_odd : DfX K mg "_law_odd" s_law_odd ["bag"])
    (d_law_bent : DfX K mg "_law_bent" s_law_bent ["bag", "thing", "deep"])
    (d_law_reworded : DfX K mg "_law_reworded" s_law_reworded ["bag", "shape"])
    (d_law : DfX K mg "law" s_law ["script"])
    (base : Heap) : ∃ fd : FuncData, Binds K fd ["script"] [] ∧ FnOkG P w K mg base 13 fa fd ["script"] (spD K 1 spLaw) := by
  have B : ∀ k g, Blt (gz P w K mg base k g) := fun _ _ => ⟨z_len, z_tuple, z_list, z_int, z_bool, z_abs, z_all, z_sorted, z_range, z_repr, z_isinstance, z_set, z_str, z_LETTERS, z_gcd, z_kt, z_dg⟩
  have q_is_integer := p_is_integer (G := gz P w K mg base 0 false) (B _ _) rfl rfl  ⟨d_is_integer⟩
  have q_is_name := p_is_name (G := gz P w K mg base 0 false) (B _ _) rfl rfl  ⟨d_is_name⟩
  have q_law_bag := p_law_bag (G := gz P w K mg base 0 false) (B _ _) rfl rfl  ⟨d_law_bag⟩
  have q_law_take := p_law_take (G := gz P w K mg base 0 false) (B _ _) rfl rfl  ⟨d_law_take⟩
  have q_law_alike := p_law_alike (G := gz P w K mg base 0 true) (B _ _) rfl rfl rfl  ⟨d_law_alike⟩
  have q_law_is_int := p_law_is_int (G := gz P w K mg base 0 false) (B _ _) rfl rfl  ⟨d_law_is_int⟩
  have q_law_gcd := p_law_gcd (G := gz P w K mg base 0 false) (B _ _) rfl rfl  ⟨d_law_gcd⟩
  have q_law_is_name := p_law_is_name (G := gz P w K mg base 0 false) (B _ _) rfl rfl  ⟨d_law_is_name⟩
  have q_is_fraction := p_is_fraction (G := gz P w K mg base 1 false) (B _ _) rfl rfl ⟨q_is_integer.ex⟩ ⟨d_is_fraction⟩
  have q_is_numbers := p_is_numbers (G := gz P w K mg base 1 false) (B _ _) rfl rfl ⟨q_is_integer.ex⟩ ⟨d_is_numbers⟩
  have q_law_some := p_law_some (G := gz P w K mg base 1 false) (B _ _) rfl rfl ⟨q_law_take.ex⟩ ⟨d_law_some⟩
  have q_law_mixed := p_law_mixed (G := gz P w K mg base 1 false) (B _ _) rfl rfl ⟨q_law_take.ex⟩ ⟨d_law_mixed⟩
  have q_law_fr := p_law_fr (G := gz P w K mg base 1 false) (B _ _) rfl rfl ⟨q_law_gcd.ex⟩ ⟨d_law_fr⟩
  have q_law_are_integers := p_law_are_integers (G := gz P w K mg base 1 false) (B _ _) rfl rfl ⟨q_law_is_int.ex⟩ ⟨d_law_are_integers⟩
  have q_is_side := p_is_side (G := gz P w K mg base 2 false) (B _ _) rfl rfl ⟨q_is_name.ex⟩ ⟨d_is_side⟩
  have q_is_scheme_rule := p_is_scheme_rule (G := gz P w K mg base 2 false) (B _ _) rfl rfl ⟨q_is_integer.ex⟩ ⟨q_is_numbers.ex⟩ ⟨d_is_scheme_rule⟩
  have q_is_row := p_is_row (G := gz P w K mg base 2 false) (B _ _) rfl rfl ⟨q_is_fraction.ex⟩ ⟨d_is_row⟩
  have q_law_stand := p_law_stand (G := gz P w K mg base 2 false) (B _ _) rfl rfl ⟨q_law_some.ex⟩ ⟨q_law_take.ex⟩ ⟨q_law_fr.ex⟩ ⟨d_law_stand⟩
  have q_law_is_vector := p_law_is_vector (G := gz P w K mg base 2 false) (B _ _) rfl rfl ⟨q_law_is_int.ex⟩ ⟨q_law_gcd.ex⟩ ⟨d_law_is_vector⟩
  have q_law_shape := p_law_shape (G := gz P w K mg base 2 false) (B _ _) rfl rfl ⟨q_law_take.ex⟩ ⟨q_law_mixed.ex⟩ ⟨d_law_shape⟩
  have q_law_numbers := p_law_numbers (G := gz P w K mg base 2 false) (B _ _) rfl rfl ⟨q_law_some.ex⟩ ⟨d_law_numbers⟩
  have q_law_is_shape := p_law_is_shape (G := gz P w K mg base 2 false) (B _ _) rfl rfl ⟨q_law_is_name.ex⟩ ⟨d_law_is_shape⟩
  have q_law_is_rule_of := p_law_is_rule_of (G := gz P w K mg base 2 false) (B _ _) rfl rfl ⟨q_law_are_integers.ex⟩ ⟨q_law_is_int.ex⟩ ⟨d_law_is_rule_of⟩
  have q_law_odd := p_law_odd (G := gz P w K mg base 2 false) (B _ _) rfl rfl ⟨q_law_some.ex⟩ ⟨d_law_odd⟩
  have q_law_reworded := p_law_reworded (G := gz P w K mg base 2 false) (B _ _) rfl rfl ⟨q_law_some.ex⟩ ⟨q_law_take.ex⟩ ⟨d_law_reworded⟩
  have q_is_scheme := p_is_scheme (G := gz P w K mg base 3 false) (B _ _) rfl rfl ⟨q_is_side.ex⟩ ⟨q_is_scheme_rule.ex⟩ ⟨d_is_scheme⟩
  have q_is_table := p_is_table (G := gz P w K mg base 3 false) (B _ _) rfl rfl ⟨q_is_row.ex⟩ ⟨d_is_table⟩
  have q_law_scheme := p_law_scheme (G := gz P w K mg base 3 false) (B _ _) rfl rfl ⟨q_law_shape.ex⟩ ⟨q_law_some.ex⟩ ⟨q_law_take.ex⟩ ⟨q_law_numbers.ex⟩ ⟨d_law_scheme⟩
  have q_law_table_cells := p_law_table_cells (G := gz P w K mg base 3 false) (B _ _) rfl rfl ⟨q_law_stand.ex⟩ ⟨d_law_table_cells⟩
  have q_law_is_table := p_law_is_table (G := gz P w K mg base 3 false) (B _ _) rfl rfl ⟨q_law_is_vector.ex⟩ ⟨d_law_is_table⟩
  have q_law_is_scheme := p_law_is_scheme (G := gz P w K mg base 3 false) (B _ _) rfl rfl ⟨q_law_is_shape.ex⟩ ⟨q_law_is_rule_of.ex⟩ ⟨d_law_is_scheme⟩
  have q_law_any_table := p_law_any_table (G := gz P w K mg base 4 false) (B _ _) rfl rfl ⟨q_law_table_cells.ex⟩ ⟨d_law_any_table⟩
  have qb0 := p_law_bent0 (G := gz P w K mg base 3 false) rfl ⟨d_law_bent⟩
  have qb1 := p_law_bent (G := gz P w K mg base 4 false) (B _ _) rfl 0 rfl ⟨q_law_is_int.ex⟩ ⟨q_law_odd.ex⟩ ⟨q_law_some.ex⟩ ⟨q_law_take.ex⟩ ⟨qb0.ex⟩ ⟨d_law_bent⟩
  have qb2 := p_law_bent (G := gz P w K mg base 5 false) (B _ _) rfl 1 rfl ⟨q_law_is_int.ex⟩ ⟨q_law_odd.ex⟩ ⟨q_law_some.ex⟩ ⟨q_law_take.ex⟩ ⟨qb1.ex⟩ ⟨d_law_bent⟩
  have qb3 := p_law_bent (G := gz P w K mg base 6 false) (B _ _) rfl 2 rfl ⟨q_law_is_int.ex⟩ ⟨q_law_odd.ex⟩ ⟨q_law_some.ex⟩ ⟨q_law_take.ex⟩ ⟨qb2.ex⟩ ⟨d_law_bent⟩
  have qb4 := p_law_bent (G := gz P w K mg base 7 false) (B _ _) rfl 3 rfl ⟨q_law_is_int.ex⟩ ⟨q_law_odd.ex⟩ ⟨q_law_some.ex⟩ ⟨q_law_take.ex⟩ ⟨qb3.ex⟩ ⟨d_law_bent⟩
  have qb5 := p_law_bent (G := gz P w K mg base 8 false) (B _ _) rfl 4 rfl ⟨q_law_is_int.ex⟩ ⟨q_law_odd.ex⟩ ⟨q_law_some.ex⟩ ⟨q_law_take.ex⟩ ⟨qb4.ex⟩ ⟨d_law_bent⟩
  have qb6 := p_law_bent (G := gz P w K mg base 9 false) (B _ _) rfl 5 rfl ⟨q_law_is_int.ex⟩ ⟨q_law_odd.ex⟩ ⟨q_law_some.ex⟩ ⟨q_law_take.ex⟩ ⟨qb5.ex⟩ ⟨d_law_bent⟩
  have q_law_bent := qb6
  have q_law := p_law (G := gz P w K mg base 12 true) (B _ _) rfl rfl rfl ⟨q_law_bag.ex⟩ ⟨q_law_scheme.ex⟩ ⟨q_law_any_table.ex⟩ ⟨q_law_some.ex⟩ ⟨q_law_take.ex⟩ ⟨q_law_odd.ex⟩ ⟨q_law_bent.ex⟩ ⟨q_law_reworded.ex⟩ ⟨q_is_scheme.ex⟩ ⟨q_is_table.ex⟩ ⟨q_law_is_scheme.ex⟩ ⟨q_law_is_table.ex⟩ ⟨q_law_alike.ex⟩ ⟨d_law⟩
  obtain ⟨f, fd, h1, _, h3, h4⟩ := q_law.ex
  cases hmg.symm.trans h1
  exact ⟨fd, h3, h4⟩
end K64
open PySem PySem.W PyProof.Rows
set_option maxHeartbeats 0 in
theorem PySem.Challenge.cw_heldthrough_k64_schemes_and_tables_of_an_holds : PySem.Challenge.rw_heldthrough_k64_schemes_and_tables_of_an.Holds := by
  w_on; o_law; k_head; (case hw => w_witness2)
  k_fill
  refine DW.law_end (k := 13) (x := "script") rfl rfl ⟨rfl, by decide, by decide⟩ (fun w h Y => PySem.W.kIn_of Y) ?F
  case F =>
    intro w mg fa h KX G hmg base
    refine' K64.all_law hmg ?z_len ?z_tuple ?z_list ?z_int ?z_bool ?z_abs ?z_all ?z_sorted ?z_range ?z_repr ?z_isinstance ?z_set ?z_str ?z_LETTERS ?z_gcd ?z_kt ?z_dg
      (DW.df_mk KX G ?a_is_integer ?l_is_integer ?c_is_integer ?k_is_integer (fun _ _ _ _ _ _ us hl => match us, hl with | [_], _ => rfl))
      (DW.df_mk KX G ?a_is_name ?l_is_name ?c_is_name ?k_is_name (fun _ _ _ _ _ _ us hl => match us, hl with | [_], _ => rfl))
      (DW.df_mk KX G ?a_is_fraction ?l_is_fraction ?c_is_fraction ?k_is_fraction (fun _ _ _ _ _ _ us hl => match us, hl with | [_], _ => rfl))
      (DW.df_mk KX G ?a_is_side ?l_is_side ?c_is_side ?k_is_side (fun _ _ _ _ _ _ us hl => match us, hl with | [_, _], _ => rfl))
      (DW.df_mk KX G ?a_is_numbers ?l_is_numbers ?c_is_numbers ?k_is_numbers (fun _ _ _ _ _ _ us hl => match us, hl with | [_, _], _ => rfl))
      (DW.df_mk KX G ?a_is_scheme_rule ?l_is_scheme_rule ?c_is_scheme_rule ?k_is_scheme_rule (fun _ _ _ _ _ _ us hl => match us, hl with | [_, _, _], _ => rfl))
      (DW.df_mk KX G ?a_is_scheme ?l_is_scheme ?c_is_scheme ?k_is_scheme (fun _ _ _ _ _ _ us hl => match us, hl with | [_], _ => rfl))
      (DW.df_mk KX G ?a_is_row ?l_is_row ?c_is_row ?k_is_row (fun _ _ _ _ _ _ us hl => match us, hl with | [_, _], _ => rfl))
      (DW.df_mk KX G ?a_is_table ?l_is_table ?c_is_table ?k_is_table (fun _ _ _ _ _ _ us hl => match us, hl with | [_, _], _ => rfl))
      (DW.df_mk KX G ?a_law_bag ?l_law_bag ?c_law_bag ?k_law_bag (fun _ _ _ _ _ _ us hl => match us, hl with | [_], _ => rfl))
      (DW.df_mk KX G ?a_law_take ?l_law_take ?c_law_take ?k_law_take (fun _ _ _ _ _ _ us hl => match us, hl with | [_, _], _ => rfl))
      (DW.df_mk KX G ?a_law_some ?l_law_some ?c_law_some ?k_law_some (fun _ _ _ _ _ _ us hl => match us, hl with | [_, _], _ => rfl))
      (DW.df_mk KX G ?a_law_mixed ?l_law_mixed ?c_law_mixed ?k_law_mixed (fun _ _ _ _ _ _ us hl => match us, hl with | [_, _], _ => rfl))
      (DW.df_mk KX G ?a_law_alike ?l_law_alike ?c_law_alike ?k_law_alike (fun _ _ _ _ _ _ us hl => match us, hl with | [_, _], _ => rfl))
      (DW.df_mk KX G ?a_law_is_int ?l_law_is_int ?c_law_is_int ?k_law_is_int (fun _ _ _ _ _ _ us hl => match us, hl with | [_], _ => rfl))
      (DW.df_mk KX G ?a_law_gcd ?l_law_gcd ?c_law_gcd ?k_law_gcd (fun _ _ _ _ _ _ us hl => match us, hl with | [_, _], _ => rfl))
      (DW.df_mk KX G ?a_law_fr ?l_law_fr ?c_law_fr ?k_law_fr (fun _ _ _ _ _ _ us hl => match us, hl with | [_, _], _ => rfl))
      (DW.df_mk KX G ?a_law_stand ?l_law_stand ?c_law_stand ?k_law_stand (fun _ _ _ _ _ _ us hl => match us, hl with | [_, _], _ => rfl))
      (DW.df_mk KX G ?a_law_is_vector ?l_law_is_vector ?c_law_is_vector ?k_law_is_vector (fun _ _ _ _ _ _ us hl => match us, hl with | [_, _], _ => rfl))
      (DW.df_mk KX G ?a_law_shape ?l_law_shape ?c_law_shape ?k_law_shape (fun _ _ _ _ _ _ us hl => match us, hl with | [_, _, _, _], _ => rfl))
      (DW.df_mk KX G ?a_law_numbers ?l_law_numbers ?c_law_numbers ?k_law_numbers (fun _ _ _ _ _ _ us hl => match us, hl with | [_, _], _ => rfl))
      (DW.df_mk KX G ?a_law_scheme ?l_law_scheme ?c_law_scheme ?k_law_scheme (fun _ _ _ _ _ _ us hl => match us, hl with | [_, _, _, _], _ => rfl))
      (DW.df_mk KX G ?a_law_table_cells ?l_law_table_cells ?c_law_table_cells ?k_law_table_cells (fun _ _ _ _ _ _ us hl => match us, hl with | [_, _], _ => rfl))
      (DW.df_mk KX G ?a_law_any_table ?l_law_any_table ?c_law_any_table ?k_law_any_table (fun _ _ _ _ _ _ us hl => match us, hl with | [_, _, _], _ => rfl))
      (DW.df_mk KX G ?a_law_is_table ?l_law_is_table ?c_law_is_table ?k_law_is_table (fun _ _ _ _ _ _ us hl => match us, hl with | [_, _], _ => rfl))
      (DW.df_mk KX G ?a_law_is_name ?l_law_is_name ?c_law_is_name ?k_law_is_name (fun _ _ _ _ _ _ us hl => match us, hl with | [_], _ => rfl))
      (DW.df_mk KX G ?a_law_is_shape ?l_law_is_shape ?c_law_is_shape ?k_law_is_shape (fun _ _ _ _ _ _ us hl => match us, hl with | [_, _], _ => rfl))
      (DW.df_mk KX G ?a_law_are_integers ?l_law_are_integers ?c_law_are_integers ?k_law_are_integers (fun _ _ _ _ _ _ us hl => match us, hl with | [_, _], _ => rfl))
      (DW.df_mk KX G ?a_law_is_rule_of ?l_law_is_rule_of ?c_law_is_rule_of ?k_law_is_rule_of (fun _ _ _ _ _ _ us hl => match us, hl with | [_, _, _], _ => rfl))
      (DW.df_mk KX G ?a_law_is_scheme ?l_law_is_scheme ?c_law_is_scheme ?k_law_is_scheme (fun _ _ _ _ _ _ us hl => match us, hl with | [_], _ => rfl))
      (DW.df_mk KX G ?a_law_odd ?l_law_odd ?c_law_odd ?k_law_odd (fun _ _ _ _ _ _ us hl => match us, hl with | [_], _ => rfl))
      (DW.df_mk KX G ?a_law_bent ?l_law_bent ?c_law_bent ?k_law_bent (fun _ _ _ _ _ _ us hl => match us, hl with | [_, _, _], _ => rfl))
      (DW.df_mk KX G ?a_law_reworded ?l_law_reworded ?c_law_reworded ?k_law_reworded (fun _ _ _ _ _ _ us hl => match us, hl with | [_, _], _ => rfl))
      (DW.df_mk KX G ?a_law ?l_law ?c_law ?k_law (fun _ _ _ _ _ _ us hl => match us, hl with | [_], _ => rfl)) base
    (case a_is_integer => k_is); (case l_is_integer => k_is); (case c_is_integer => k_is); (case k_is_integer => k_is)
    (case a_is_name => k_is); (case l_is_name => k_is); (case c_is_name => k_is); (case k_is_name => k_is)
    (case a_is_fraction => k_is); (case l_is_fraction => k_is); (case c_is_fraction => k_is); (case k_is_fraction => k_is)
    (case a_is_side => k_is); (case l_is_side => k_is); (case c_is_side => k_is); (case k_is_side => k_is)
    (case a_is_numbers => k_is); (case l_is_numbers => k_is); (case c_is_numbers => k_is); (case k_is_numbers => k_is)
    (case a_is_scheme_rule => k_is); (case l_is_scheme_rule => k_is); (case c_is_scheme_rule => k_is); (case k_is_scheme_rule => k_is)
    (case a_is_scheme => k_is); (case l_is_scheme => k_is); (case c_is_scheme => k_is); (case k_is_scheme => k_is)
    (case a_is_row => k_is); (case l_is_row => k_is); (case c_is_row => k_is); (case k_is_row => k_is)
    (case a_is_table => k_is); (case l_is_table => k_is); (case c_is_table => k_is); (case k_is_table => k_is)
    (case a_law_bag => k_is); (case l_law_bag => k_is); (case c_law_bag => k_is); (case k_law_bag => k_is)
    (case a_law_take => k_is); (case l_law_take => k_is); (case c_law_take => k_is); (case k_law_take => k_is)
    (case a_law_some => k_is); (case l_law_some => k_is); (case c_law_some => k_is); (case k_law_some => k_is)
    (case a_law_mixed => k_is); (case l_law_mixed => k_is); (case c_law_mixed => k_is); (case k_law_mixed => k_is)
    (case a_law_alike => k_is); (case l_law_alike => k_is); (case c_law_alike => k_is); (case k_law_alike => k_is)
    (case a_law_is_int => k_is); (case l_law_is_int => k_is); (case c_law_is_int => k_is); (case k_law_is_int => k_is)
    (case a_law_gcd => k_is); (case l_law_gcd => k_is); (case c_law_gcd => k_is); (case k_law_gcd => k_is)
    (case a_law_fr => k_is); (case l_law_fr => k_is); (case c_law_fr => k_is); (case k_law_fr => k_is)
    (case a_law_stand => k_is); (case l_law_stand => k_is); (case c_law_stand => k_is); (case k_law_stand => k_is)
    (case a_law_is_vector => k_is); (case l_law_is_vector => k_is); (case c_law_is_vector => k_is); (case k_law_is_vector => k_is)
    (case a_law_shape => k_is); (case l_law_shape => k_is); (case c_law_shape => k_is); (case k_law_shape => k_is)
    (case a_law_numbers => k_is); (case l_law_numbers => k_is); (case c_law_numbers => k_is); (case k_law_numbers => k_is)
    (case a_law_scheme => k_is); (case l_law_scheme => k_is); (case c_law_scheme => k_is); (case k_law_scheme => k_is)
    (case a_law_table_cells => k_is); (case l_law_table_cells => k_is); (case c_law_table_cells => k_is); (case k_law_table_cells => k_is)
    (case a_law_any_table => k_is); (case l_law_any_table => k_is); (case c_law_any_table => k_is); (case k_law_any_table => k_is)
    (case a_law_is_table => k_is); (case l_law_is_table => k_is); (case c_law_is_table => k_is); (case k_law_is_table => k_is)
    (case a_law_is_name => k_is); (case l_law_is_name => k_is); (case c_law_is_name => k_is); (case k_law_is_name => k_is)
    (case a_law_is_shape => k_is); (case l_law_is_shape => k_is); (case c_law_is_shape => k_is); (case k_law_is_shape => k_is)
    (case a_law_are_integers => k_is); (case l_law_are_integers => k_is); (case c_law_are_integers => k_is); (case k_law_are_integers => k_is)
    (case a_law_is_rule_of => k_is); (case l_law_is_rule_of => k_is); (case c_law_is_rule_of => k_is); (case k_law_is_rule_of => k_is)
    (case a_law_is_scheme => k_is); (case l_law_is_scheme => k_is); (case c_law_is_scheme => k_is); (case k_law_is_scheme => k_is)
    (case a_law_odd => k_is); (case l_law_odd => k_is); (case c_law_odd => k_is); (case k_law_odd => k_is)
    (case a_law_bent => k_is); (case l_law_bent => k_is); (case c_law_bent => k_is); (case k_law_bent => k_is)
    (case a_law_reworded => k_is); (case l_law_reworded => k_is); (case c_law_reworded => k_is); (case k_law_reworded => k_is)
    (case a_law => k_is); (case l_law => k_is); (case c_law => k_is); (case k_law => k_is)
    case z_len => refine PySem.W.mg_none_of KX G ?zz_len; k_is
    case z_tuple => refine PySem.W.mg_none_of KX G ?zz_tuple; k_is
    case z_list => refine PySem.W.mg_none_of KX G ?zz_list; k_is
    case z_int => refine PySem.W.mg_none_of KX G ?zz_int; k_is
    case z_bool => refine PySem.W.mg_none_of KX G ?zz_bool; k_is
    case z_abs => refine PySem.W.mg_none_of KX G ?zz_abs; k_is
    case z_all => refine PySem.W.mg_none_of KX G ?zz_all; k_is
    case z_sorted => refine PySem.W.mg_none_of KX G ?zz_sorted; k_is
    case z_range => refine PySem.W.mg_none_of KX G ?zz_range; k_is
    case z_repr => refine PySem.W.mg_none_of KX G ?zz_repr; k_is
    case z_isinstance => refine PySem.W.mg_none_of KX G ?zz_isinstance; k_is
    case z_set => refine PySem.W.mg_none_of KX G ?zz_set; k_is
    case z_str => refine PySem.W.mg_none_of KX G ?zz_str; k_is
    case z_LETTERS =>
      refine' DW.mg_text KX G ?zz_LETTERS ?yy_LETTERS
      case zz_LETTERS => k_is
      case yy_LETTERS => kernel_rfl
    case z_gcd => refine PySem.W.mg_of KX G ?zz_gcd; k_is
    case z_kt => kernel_rfl
    case z_dg => kernel_rfl
