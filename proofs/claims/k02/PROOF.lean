import PyProof.Rows.All
import Wide.All
import OpenK.AllK
import Wide.FinOn
import HandS.ForMost
import HandS.ForExc
import HandS.Wide
import HandS.EndBits
import HandS.IsInst
import HandS.MakeKw
import HandS.Style
import HandS.MakeKwOnly
import HandS.OwnEq
import KE.KOpsOwn
import KE.KCallOwn
import PySem.Challenge.RW_strayfiles_k02_spans_multiplied
set_option Elab.async false
set_option linter.all false
set_option maxRecDepth 100000
set_option maxHeartbeats 4000000
/-! Sx: a walker by weakest conditions over the hand layer: each judgement is a structure over the syntax, the slots and the heap; one rule a construct. -/
namespace Sx
open PySem L2
open PyProof.Rows (subscriptTail)

/-! ### the judgements -/
structure E (X : Cx) (e : Expr) (σ : St) (H : Hp) (Q : VK) : Prop where
  run : ∀ (pins : List (Addr × Obj)) (s : Shared), Inv X pins σ H s → wpAny (model X.prog X.w) X.A (eval e X.env) (EP X pins σ Q) X.xe s
structure T (X : Cx) (e : Expr) (σ : St) (H : Hp) (Q : Bool → Hp → Prop) : Prop where
  run : ∀ (pins : List (Addr × Obj)) (s : Shared), Inv X pins σ H s → wpAny (model X.prog X.w) X.A (isTrue e X.env (eval e X.env)) (TP X pins σ Q) X.xe s
structure W (X : Cx) (e : Expr) (σ : St) (H : Hp) (Q : Bool → Hp → Prop) : Prop where
  run : ∀ (whole : Sem Value) (pins : List (Addr × Obj)) (s : Shared), Inv X pins σ H s → wpAny (model X.prog X.w) X.A (isTrue e X.env whole) (TP X pins σ Q) X.xe s
structure As (X : Cx) (es : List Expr) (σ : St) (H : Hp) (Q : List V → Hp → Prop) : Prop where
  run : ∀ (pos : Pos) (pins : List (Addr × Obj)) (s : Shared), Inv X pins σ H s → wpAny (model X.prog X.w) X.A (spliced (backTo pos (starEach es X.env))) (AP X pins σ Q) X.xe s
structure S (X : Cx) (st : Stmt) (nx : St → Hp → Prop) (rt : VK) (bk ct : St → Hp → Prop) (σ : St) (H : Hp) : Prop where
  run : ∀ (pins : List (Addr × Obj)) (s : Shared), Inv X pins σ H s → wpAny (model X.prog X.w) X.A (exec st X.env) (SP X pins ⟨nx, rt, bk, ct⟩) X.xe s
structure Ss (X : Cx) (st : List Stmt) (nx : St → Hp → Prop) (rt : VK) (bk ct : St → Hp → Prop) (σ : St) (H : Hp) : Prop where
  run : ∀ (pins : List (Addr × Obj)) (s : Shared), Inv X pins σ H s → wpAny (model X.prog X.w) X.A (execs st X.env) (SP X pins ⟨nx, rt, bk, ct⟩) X.xe s
structure G (X : Cx) (tg : Expr) (v : V) (σ : St) (H : Hp) (Q : St → Hp → Prop) : Prop where
  run : ∀ (pins : List (Addr × Obj)) (s : Shared) (u : Value), Inv X pins σ H s → RelV v u → wpAny (model X.prog X.w) X.A (assign tg X.env u) (fun _ s' => ∃ σ' H', Inv X pins σ' H' s' ∧ Q σ' H') X.xe s
structure Gs (X : Cx) (ts : List Expr) (vs : List V) (σ : St) (H : Hp) (Q : St → Hp → Prop) : Prop where
  run : ∀ (pins : List (Addr × Obj)) (s : Shared) (us : List Value), Inv X pins σ H s → Vals vs us → wpAny (model X.prog X.w) X.A (assignInOrder ((assignEach ts X.env).map (·.2)) us) (fun _ s' => ∃ σ' H', Inv X pins σ' H' s' ∧ Q σ' H') X.xe s
/-- an operation of two, of one, by values; a call by values; truth by value; a subscript by values; a store by values -/
structure B2 (X : Cx) (f : Value → Value → Sem Value) (x y : V) (H : Hp) (Q : VK) : Prop where
  run : ∀ (pins : List (Addr × Obj)) (s : Shared) (σ : St) (v u : Value), Inv X pins σ H s → RelV x v → RelV y u → wpAny (model X.prog X.w) X.A (f v u) (EP X pins σ Q) X.xe s
structure Bo (X : Cx) (op : Operator) (x y : V) (H : Hp) (Q : VK) : Prop where
  run : ∀ (pins : List (Addr × Obj)) (s : Shared) (σ : St) (v u : Value), Inv X pins σ H s → RelV x v → RelV y u → wpAny (model X.prog X.w) X.A (binaryOp op v u) (EP X pins σ Q) X.xe s
structure Co (X : Cx) (op : CmpOp) (x y : V) (H : Hp) (Q : VK) : Prop where
  run : ∀ (pins : List (Addr × Obj)) (s : Shared) (σ : St) (v u : Value), Inv X pins σ H s → RelV x v → RelV y u → wpAny (model X.prog X.w) X.A (compareOp op v u) (EP X pins σ Q) X.xe s
structure Io (X : Cx) (op : Operator) (x y : V) (H : Hp) (Q : VK) : Prop where
  run : ∀ (pins : List (Addr × Obj)) (s : Shared) (σ : St) (v u : Value), Inv X pins σ H s → RelV x v → RelV y u → wpAny (model X.prog X.w) X.A (inplaceOp op v u) (EP X pins σ Q) X.xe s
structure Uo (X : Cx) (op : UnaryOp) (x : V) (H : Hp) (Q : VK) : Prop where
  run : ∀ (pins : List (Addr × Obj)) (s : Shared) (σ : St) (v : Value), Inv X pins σ H s → RelV x v → wpAny (model X.prog X.w) X.A (unaryOp op v) (EP X pins σ Q) X.xe s
structure U1 (X : Cx) (f : Value → Sem Value) (x : V) (H : Hp) (Q : VK) : Prop where
  run : ∀ (pins : List (Addr × Obj)) (s : Shared) (σ : St) (v : Value), Inv X pins σ H s → RelV x v → wpAny (model X.prog X.w) X.A (f v) (EP X pins σ Q) X.xe s
structure C (X : Cx) (f : Value) (vs : List V) (H : Hp) (Q : VK) : Prop where
  run : ∀ (pins : List (Addr × Obj)) (s : Shared) (σ : St) (us : List Value), Inv X pins σ H s → Vals vs us → wpAny (model X.prog X.w) X.A (call f us) (EP X pins σ Q) X.xe s
structure Tr (X : Cx) (x : V) (H : Hp) (Q : Bool → Hp → Prop) : Prop where
  run : ∀ (pins : List (Addr × Obj)) (s : Shared) (σ : St) (u : Value), Inv X pins σ H s → RelV x u → wpAny (model X.prog X.w) X.A (truthy u) (TP X pins σ Q) X.xe s
structure Ix (X : Cx) (a b : Expr) (x y : V) (H : Hp) (Q : VK) : Prop where
  run : ∀ (pins : List (Addr × Obj)) (s : Shared) (σ : St) (v u : Value), Inv X pins σ H s → RelV x v → RelV y u → wpAny (model X.prog X.w) X.A (subscriptTail a b v u) (EP X pins σ Q) X.xe s
structure St3 (X : Cx) (o i v : V) (H : Hp) (Q : Hp → Prop) : Prop where
  run : ∀ (pins : List (Addr × Obj)) (s : Shared) (σ : St) (ov iv u : Value), Inv X pins σ H s → RelV o ov → RelV i iv → RelV v u → wpAny (model X.prog X.w) X.A (setItem ov iv u) (fun _ s' => ∃ H', Inv X pins σ H' s' ∧ Q H') X.xe s
/-- a method of a built-in type, by values -/
structure Mt (X : Cx) (id : String) (x : V) (xs : List V) (H : Hp) (Q : VK) : Prop where
  run : ∀ (pins : List (Addr × Obj)) (s : Shared) (σ : St) (v : Value) (us : List Value), Inv X pins σ H s → RelV x v → Vals xs us → wpAny (model X.prog X.w) X.A (call (.builtin id) (v :: us)) (EP X pins σ Q) X.xe s

section
variable {X : Cx} {e a b : Expr} {es : List Expr} {σ : St} {H : Hp} {Q : VK} {st : Stmt} {sts : List Stmt} {pos : Pos}
theorem pe : PE X e (fun σ H Q => E X e σ H Q) := ⟨fun pins s _ _ _ I h => h.run pins s I⟩
theorem pt : PT X e (fun σ H Q => T X e σ H Q) := ⟨fun pins s _ _ _ I h => h.run pins s I⟩
theorem pw : PW X e (fun σ H Q => W X e σ H Q) := ⟨fun w pins s _ _ _ I h => h.run w pins s I⟩
theorem pa : PA X es (fun σ H Q => As X es σ H Q) := ⟨fun pos pins s _ _ _ I h => h.run pos pins s I⟩
theorem ps : PS X st (fun D σ H => S X st D.nx D.rt D.bk D.ct σ H) := ⟨fun pins s _ _ _ I h => h.run pins s I⟩
theorem pss : PSs X sts (fun D σ H => Ss X sts D.nx D.rt D.bk D.ct σ H) := ⟨fun pins s _ _ _ I h => h.run pins s I⟩
theorem pg : PG X e (fun v σ H Q => G X e v σ H Q) := ⟨fun pins s _ _ _ u _ I r h => h.run pins s u I r⟩
theorem pgs : PGs X es (fun vs σ H Q => Gs X es vs σ H Q) := ⟨fun pins s _ _ _ us _ I r h => h.run pins s us I r⟩
theorem pop {f : Value → Value → Sem Value} : OpR X f (fun x y H Q => B2 X f x y H Q) := fun pins s σ _ _ _ v u _ I rx ry h => h.run pins s σ v u I rx ry
theorem pBo {op : Operator} : OpR X (binaryOp op) (fun x y H Q => Bo X op x y H Q) := fun pins s σ _ _ _ v u _ I rx ry h => h.run pins s σ v u I rx ry
theorem Bo.of {op : Operator} {r : R2} {x y : V} (h : OpR X (binaryOp op) r) (q : r x y H Q) : Bo X op x y H Q := ⟨fun pins s σ v u I rx ry => h pins s σ H x y v u Q I rx ry q⟩
theorem Bo.mono {op : Operator} {x y : V} {Q' : VK} (h : Bo X op x y H Q) (i : ∀ v H, Q v H → Q' v H) : Bo X op x y H Q' := ⟨fun pins s σ v u I r1 r2 => wpAny_mono (h.run pins s σ v u I r1 r2) (fun _ _ ⟨v, H', I', r, q⟩ => ⟨v, H', I', r, i _ _ q⟩) fun _ _ z => z⟩
theorem pCo {op : CmpOp} : OpR X (compareOp op) (fun x y H Q => Co X op x y H Q) := fun pins s σ _ _ _ v u _ I rx ry h => h.run pins s σ v u I rx ry
theorem Co.of {op : CmpOp} {r : R2} {x y : V} (h : OpR X (compareOp op) r) (q : r x y H Q) : Co X op x y H Q := ⟨fun pins s σ v u I rx ry => h pins s σ H x y v u Q I rx ry q⟩
theorem Co.mono {op : CmpOp} {x y : V} {Q' : VK} (h : Co X op x y H Q) (i : ∀ v H, Q v H → Q' v H) : Co X op x y H Q' := ⟨fun pins s σ v u I r1 r2 => wpAny_mono (h.run pins s σ v u I r1 r2) (fun _ _ ⟨v, H', I', r, q⟩ => ⟨v, H', I', r, i _ _ q⟩) fun _ _ z => z⟩
theorem pIo {op : Operator} : OpR X (inplaceOp op) (fun x y H Q => Io X op x y H Q) := fun pins s σ _ _ _ v u _ I rx ry h => h.run pins s σ v u I rx ry
theorem Io.of {op : Operator} {r : R2} {x y : V} (h : OpR X (inplaceOp op) r) (q : r x y H Q) : Io X op x y H Q := ⟨fun pins s σ v u I rx ry => h pins s σ H x y v u Q I rx ry q⟩
theorem Io.mono {op : Operator} {x y : V} {Q' : VK} (h : Io X op x y H Q) (i : ∀ v H, Q v H → Q' v H) : Io X op x y H Q' := ⟨fun pins s σ v u I r1 r2 => wpAny_mono (h.run pins s σ v u I r1 r2) (fun _ _ ⟨v, H', I', r, q⟩ => ⟨v, H', I', r, i _ _ q⟩) fun _ _ z => z⟩
theorem pUo {op : UnaryOp} : UnR X (unaryOp op) (fun x H Q => Uo X op x H Q) := fun pins s σ _ _ v _ I rx h => h.run pins s σ v I rx
theorem Uo.of {op : UnaryOp} {r : V → Hp → VK → Prop} {x : V} (h : UnR X (unaryOp op) r) (q : r x H Q) : Uo X op x H Q := ⟨fun pins s σ v I rx => h pins s σ H x v Q I rx q⟩
theorem pun {f : Value → Sem Value} : UnR X f (fun x H Q => U1 X f x H Q) := fun pins s σ _ _ v _ I rx h => h.run pins s σ v I rx
theorem pcall {f : Value} : CallR X f (fun vs H Q => C X f vs H Q) := fun pins s σ _ _ us _ I r h => h.run pins s σ us I r
theorem pmt {id : String} : MtR X id (fun x xs H Q => Mt X id x xs H Q) := fun pins s σ _ _ _ v us _ I r rs h => h.run pins s σ v us I r rs
theorem pset : PSet X (fun o i v H Q => St3 X o i v H Q) := fun pins s σ _ _ _ _ ov iv u _ I ro ri rv h => h.run pins s σ ov iv u I ro ri rv
theorem E.of {t : TE} (h : PE X e t) (q : t σ H Q) : E X e σ H Q := ⟨fun pins s I => h.run pins s σ H Q I q⟩
theorem T.of {t : TT} {Q : Bool → Hp → Prop} (h : PT X e t) (q : t σ H Q) : T X e σ H Q := ⟨fun pins s I => h.run pins s σ H Q I q⟩
theorem W.of {t : TT} {Q : Bool → Hp → Prop} (h : PW X e t) (q : t σ H Q) : W X e σ H Q := ⟨fun w pins s I => h.run w pins s σ H Q I q⟩
theorem As.of {t : TA} {Q : List V → Hp → Prop} (h : PA X es t) (q : t σ H Q) : As X es σ H Q := ⟨fun pos pins s I => h.run pos pins s σ H Q I q⟩
theorem S.of {t : TS} {nx : St → Hp → Prop} {rt : VK} {bk ct : St → Hp → Prop} (h : PS X st t) (q : t ⟨nx, rt, bk, ct⟩ σ H) : S X st nx rt bk ct σ H := ⟨fun pins s I => h.run pins s σ H _ I q⟩
theorem Ss.of {t : TS} {nx : St → Hp → Prop} {rt : VK} {bk ct : St → Hp → Prop} (h : PSs X sts t) (q : t ⟨nx, rt, bk, ct⟩ σ H) : Ss X sts nx rt bk ct σ H := ⟨fun pins s I => h.run pins s σ H _ I q⟩
theorem G.of {t : TG} {v : V} {Q : St → Hp → Prop} (h : PG X e t) (q : t v σ H Q) : G X e v σ H Q := ⟨fun pins s u I r => h.run pins s σ H v u Q I r q⟩
theorem Gs.of {t : TGs} {vs : List V} {Q : St → Hp → Prop} (h : PGs X es t) (q : t vs σ H Q) : Gs X es vs σ H Q := ⟨fun pins s us I r => h.run pins s σ H vs us Q I r q⟩
theorem B2.of {f : Value → Value → Sem Value} {r : R2} {x y : V} (h : OpR X f r) (q : r x y H Q) : B2 X f x y H Q := ⟨fun pins s σ v u I rx ry => h pins s σ H x y v u Q I rx ry q⟩
theorem U1.of {f : Value → Sem Value} {r : V → Hp → VK → Prop} {x : V} (h : UnR X f r) (q : r x H Q) : U1 X f x H Q := ⟨fun pins s σ v I rx => h pins s σ H x v Q I rx q⟩
theorem C.of {f : Value} {r : List V → Hp → VK → Prop} {vs : List V} (h : CallR X f r) (q : r vs H Q) : C X f vs H Q := ⟨fun pins s σ us I rv => h pins s σ H vs us Q I rv q⟩
theorem Mt.of {id : String} {r : V → List V → Hp → VK → Prop} {x : V} {xs : List V} (h : MtR X id r) (q : r x xs H Q) : Mt X id x xs H Q := ⟨fun pins s σ v us I rx rs => h pins s σ H x xs v us Q I rx rs q⟩
theorem Ix.of {r : R2} {x y : V} (h : IxR X r) (hs : PlainIx b) (q : r x y H Q) : Ix X a b x y H Q := ⟨fun pins s σ v u I rx ry => h a b pins s σ H x y v u Q I rx ry q (hs _ _)⟩
theorem St3.of {t : TSet} {o i v : V} {Q : Hp → Prop} (h : PSet X t) (q : t o i v H Q) : St3 X o i v H Q := ⟨fun pins s σ ov iv u I ro ri rv => h pins s σ H o i v ov iv u Q I ro ri rv q⟩
theorem Tr.of {x : V} {k : Bool} {Q : Bool → Hp → Prop} (h : TruV X.K x H k) (q : Q k H) : Tr X x H Q := ⟨fun pins s σ u I rx => tru_ok pins s σ H x u Q I rx ⟨k, h, q⟩⟩
end

/-! ### heaps: what is kept -/
/-- all but what stands at the addresses ws is kept -/
def Kp (ws : List Addr) (H H' : Hp) : Prop := ∀ a o, H a = some o → a ∉ ws → H' a = some o
theorem Kp.refl {ws : List Addr} {H : Hp} : Kp ws H H := fun _ _ h _ => h
theorem Kp.trans {ws : List Addr} {H H1 H2 : Hp} (a : Kp ws H H1) (b : Kp ws H1 H2) : Kp ws H H2 := fun c o h n => b c o (a c o h n) n
theorem ne_fresh {H : Hp} {a b : Addr} {o : HO} (h' : H b = none) (h : H a = some o) : a ≠ b := ne_of_none h h'
theorem Kp.getC {b : Addr} {ws : List Addr} {H H1 : Hp} {a : Addr} {o : HO} (k : Kp (b :: ws) H H1) (h : H a = some o) (n : a ∉ b :: ws) : H1 a = some o := k a o h n
theorem Kp.trC {b : Addr} {ws : List Addr} {H H1 H2 : Hp} (k : Kp [] H1 H2) (a : Kp (b :: ws) H H1) : Kp (b :: ws) H H2 := fun c o h n => k c o (a c o h n) (fun z => nomatch z)
theorem Kp.tr {ws : List Addr} {H H1 H2 : Hp} (b : Kp ws H1 H2) (a : Kp ws H H1) : Kp ws H H2 := a.trans b
theorem Kp.mono {ws us : List Addr} {H H1 : Hp} (a : Kp ws H H1) (h : ∀ x, x ∈ ws → x ∈ us) : Kp us H H1 := fun c o q n => a c o q fun z => n (h c z)
theorem Kp.get {ws : List Addr} {H H1 : Hp} {a : Addr} {o : HO} (k : Kp ws H H1) (h : H a = some o) (n : a ∉ ws) : H1 a = some o := k a o h n
theorem Kp.get0 {H H1 : Hp} {a : Addr} {o : HO} (k : Kp [] H H1) (h : H a = some o) : H1 a = some o := k a o h (fun z => nomatch z)
theorem Kp.same {H H1 : Hp} (k : Kp [] H H1) : Same H H1 := fun _ _ h => k.get0 h
theorem Kp.of_same {H H1 : Hp} (k : Same H H1) : Kp [] H H1 := fun a o h _ => k a o h
theorem Kp.any {ws : List Addr} {H H1 : Hp} (k : Kp [] H H1) : Kp ws H H1 := k.mono fun _ z => nomatch z
theorem Kp.seqL {K : PySem.W.Frag} {ws : List Addr} {H H1 : Hp} {a : Addr} {xs : List V} (k : Kp ws H H1) (h : SqL K H a xs) (n : a ∉ ws) : SqL K H1 a xs := by
  rcases h with (h | ⟨o, h⟩) | h
  · exact .inl (.inl (k _ _ h n))
  · exact .inl (.inr ⟨o, k _ _ h n⟩)
  · exact .inr h
theorem Kp.seqT {K : PySem.W.Frag} {ws : List Addr} {H H1 : Hp} {a : Addr} {xs : List V} (k : Kp ws H H1) (h : SqT K H a xs) (n : a ∉ ws) : SqT K H1 a xs := by
  rcases h with (h | ⟨o, h⟩) | h
  · exact .inl (.inl (k _ _ h n))
  · exact .inl (.inr ⟨o, k _ _ h n⟩)
  · exact .inr h
theorem Kp.seqL0 {K : PySem.W.Frag} {H H1 : Hp} {a : Addr} {xs : List V} (k : Kp [] H H1) (h : SqL K H a xs) : SqL K H1 a xs := k.seqL h fun z => nomatch z
theorem Kp.seqT0 {K : PySem.W.Frag} {H H1 : Hp} {a : Addr} {xs : List V} (k : Kp [] H H1) (h : SqT K H a xs) : SqT K H1 a xs := k.seqT h fun z => nomatch z
theorem Kp.seqLC {K : PySem.W.Frag} {b : Addr} {ws : List Addr} {H H1 : Hp} {a : Addr} {xs : List V} (k : Kp (b :: ws) H H1) (h : SqL K H a xs) (n : a ∉ b :: ws) : SqL K H1 a xs := k.seqL h n
theorem Kp.seqTC {K : PySem.W.Frag} {b : Addr} {ws : List Addr} {H H1 : Hp} {a : Addr} {xs : List V} (k : Kp (b :: ws) H H1) (h : SqT K H a xs) (n : a ∉ b :: ws) : SqT K H1 a xs := k.seqT h n
theorem kp_new {H : Hp} {p : Addr} {o : HO} (h : H p = none) : Kp [] H (upd H p o) := fun a u e _ => by rw [upd_ne (ne_of_none e h)]; exact e
theorem kp_mut {H : Hp} {p : Addr} {o : HO} : Kp [p] H (upd H p o) := fun a u e n => by rw [upd_ne (fun z => n (by rw [z]; exact List.mem_singleton.mpr rfl))]; exact e
theorem Kp.free {ws : List Addr} {H H1 : Hp} {p : Addr} (k : Kp ws H H1) (h : H1 p = none) (n : p ∉ ws) : H p = none := by
  cases q : H p with
  | none => rfl
  | some o => rw [k p o q n] at h; cases h
/-- a new object: the new heap is a letter -/
theorem new_heap {H : Hp} {p : Addr} {o : HO} {R : Hp → Prop} (h : H p = none) (k : ∀ H', Kp [] H H' → H' p = some o → R H') : R (upd H p o) := k _ (kp_new h) upd_same
theorem mut_heap {H : Hp} {p : Addr} {o : HO} {R : Hp → Prop} (k : ∀ H', Kp [p] H H' → H' p = some o → R H') : R (upd H p o) := k _ kp_mut upd_same

/-! ### names and slots -/
inductive Get : List Str → St → Str → V → Prop where
  | here {N : List Str} {σ : St} {x : Str} {v : V} : Get (x :: N) (some v :: σ) x v
  | there {N : List Str} {σ : St} {x y : Str} {v : V} {o : Option V} (h : Get N σ x v) : Get (y :: N) (o :: σ) x v
inductive SetF : List Str → St → Str → (V → St) → Prop where
  | here {N : List Str} {σ : St} {x : Str} {o : Option V} : SetF (x :: N) (o :: σ) x (fun v => some v :: σ)
  | there {N : List Str} {σ : St} {x y : Str} {o : Option V} {f : V → St} (h : SetF N σ x f) : SetF (y :: N) (o :: σ) x (fun v => o :: f v)
theorem Get.ix {N : List Str} {σ : St} {x : Str} {v : V} (g : Get N σ x v) : ∃ i : Nat, N[i]? = some x ∧ σ[i]? = some (some v) := by
  induction g with
  | here => exact ⟨0, rfl, rfl⟩
  | there _ ih => obtain ⟨i, h1, h2⟩ := ih; exact ⟨i + 1, by simpa using h1, by simpa using h2⟩
theorem SetF.ix {N : List Str} {σ : St} {x : Str} {f : V → St} (g : SetF N σ x f) : ∃ i : Nat, N[i]? = some x ∧ ∀ v, σ.set i (some v) = f v := by
  induction g with
  | here => exact ⟨0, rfl, fun _ => rfl⟩
  | there _ ih => obtain ⟨i, h1, h2⟩ := ih; exact ⟨i + 1, by simpa using h1, fun v => by rw [List.set_cons_succ, h2]⟩
theorem Get.mem {N : List Str} {σ : St} {x : Str} {v : V} (g : Get N σ x v) : x ∈ N := by
  obtain ⟨i, h, _⟩ := g.ix
  exact List.mem_of_getElem? h
theorem SetF.mem {N : List Str} {σ : St} {x : Str} {f : V → St} (g : SetF N σ x f) : x ∈ N := by
  obtain ⟨i, h, _⟩ := g.ix
  exact List.mem_of_getElem? h

/-- a def's names are its own, its globals are global: by one look at the scope -/
def okNames (N GL : List Str) (sc : Scope) : Bool :=
  (N.all fun x => (decide (sc.names.lookup x = some .local) || decide (sc.names.lookup x = some .cell)) && !(x == ("__debug__" : Str)) && !(x == ("__classdict__" : Str))) &&
  (GL.all fun x => decide (sc.names.lookup x = some .globalImplicit) && !(x == ("__debug__" : Str)) && decide (x ≠ ("__name__" : Str)))
/-- where one stands -/
structure Xk (X : Cx) (P : Program) (w : World) (K : PySem.W.Frag) (mg : Str → Option Value) (base : Heap) (sc : Scope) (N GL : List Str) (k : Nat) (E : XK) : Prop where
  prog : X.prog = P
  w : X.w = w
  K : X.K = K
  mg : X.mg = mg
  base : X.base = base
  n : X.N = N
  nd : N.Nodup
  loc : ∀ x ∈ N, Loc X.env.scope x ∧ (x == ("__debug__" : Str)) = false ∧ (x == ("__classdict__" : Str)) = false
  gl : ∀ x ∈ GL, Gl X x ∧ (x == ("__debug__" : Str)) = false ∧ x ≠ ("__name__" : Str)
  fn : ∀ x, X.fn x = true
  room : Room k X.A
  calm : X.calm = true
  tk : Takes X (fun c d _ H => E c d H)
  po : PassesOwn (model X.prog X.w) X.A X.env X.xe
  ev : ∃ (q : Str) (L f : Addr) (cd : Value), X.env = PyProof.Rows.envOfC q sc L f cd
section
variable {P : Program} {w : World} {K : PySem.W.Frag} {mg : Str → Option Value} {base : Heap}
theorem names_ok {X : Cx} {N GL : List Str} (h : okNames N GL X.env.scope = true) :
    (∀ x ∈ N, Loc X.env.scope x ∧ (x == ("__debug__" : Str)) = false ∧ (x == ("__classdict__" : Str)) = false) ∧ ∀ x ∈ GL, Gl X x ∧ (x == ("__debug__" : Str)) = false ∧ x ≠ ("__name__" : Str) := by
  unfold okNames at h
  rw [Bool.and_eq_true, List.all_eq_true, List.all_eq_true] at h
  refine ⟨fun x hx => ?_, fun x hx => ?_⟩
  · have q := h.1 x hx
    simp only [Bool.and_eq_true, Bool.or_eq_true, decide_eq_true_eq, Bool.not_eq_true'] at q
    exact ⟨q.1.1, q.1.2, q.2⟩
  · have q := h.2 x hx
    simp only [Bool.and_eq_true, decide_eq_true_eq, Bool.not_eq_true'] at q
    exact ⟨q.1.1, q.1.2, q.2⟩
/-- THE RULE for a def: its body walked -/
theorem fun_go {x qual : Str} {st : Stmt} {f : Addr} {fd : FuncData} {N ps : List Str} (GL : List Str) {k : Nat} {sp : Sp} (F : Fun K x qual st f fd) (S : FnScope N ps (defScope st)) (hok : okNames N GL (defScope st) = true) (len : ∀ vs H Q E, sp vs H Q E → vs.length = ps.length)
    (body : ∀ (X : Cx) (H : Hp) (vs : List V) (Q : VK) (E : XK), Xk X P w K mg base (defScope st) N GL k E → sp vs H Q E → Ss X (defBody st) (fun _ H' => Q .non H') Q (fun _ _ => False) (fun _ _ => False) (start N vs) H) :
    FnOk P w K mg base (L2.CX P w) (k + 1) f fd ps sp := by
  refine F.okX S len fun cdv A outer s H vs Q E hr h => ⟨_, pss, ?_⟩
  have q := names_ok (X := cxOf (L2.CX P w) P w K mg base N qual (defScope st) f cdv A outer s H E) (N := N) (GL := GL) hok
  exact body _ H vs Q E ⟨rfl, rfl, rfl, rfl, rfl, rfl, S.nd, q.1, q.2, fun _ => rfl, hr, rfl, takes_of rfl rfl rfl rfl, passes_of rfl, _, _, _, _, rfl⟩ h
end
end Sx
set_option Elab.async false
set_option linter.all false
set_option maxRecDepth 100000
set_option maxHeartbeats 4000000
/-! SxR: the walker's rules. -/
namespace Sx
open PySem L2
open PyProof.Rows (subscriptTail)

/-- a def that stands at its name: callable with positional arguments -/
def Df (P : Program) (w : World) (K : PySem.W.Frag) (mg : Str → Option Value) (base : Heap) (x : Str) (j : Nat) (sp : Sp) : Prop :=
  ∃ (f : Addr) (fd : FuncData) (ps : List Str), FnOk P w K mg base (L2.CX P w) j f fd ps sp ∧ mg x = some (.ref f) ∧ PySem.W.keepIn K (.ref f) = true ∧ Binds K fd ps []
/-- a class that stands at its name, made by its __init__ -/
def Dc (P : Program) (w : World) (K : PySem.W.Frag) (mg : Str → Option Value) (base : Heap) (x : Str) (Cl : Addr) (j : Nat) (sp : Sp) : Prop :=
  ∃ (f : Addr) (fd : FuncData) (ps : List Str), FnOk P w K mg base (L2.CX P w) j f fd ps sp ∧ mg x = some (.ref Cl) ∧ Mk K Cl f ∧ Binds K fd ps []
/-- a method of the class at C -/
def Dm (P : Program) (w : World) (K : PySem.W.Frag) (mg : Str → Option Value) (base : Heap) (Cl : Addr) (m : Str) (j : Nat) (sp : Sp) : Prop :=
  ∃ (f : Addr) (fd : FuncData) (ps : List Str), FnOk P w K mg base (L2.CX P w) j f fd ps sp ∧ Meth K Cl m f ∧ Binds K fd ps []
/-- a built-in name -/
def Bi (mg : Str → Option Value) (x : Str) (u : Value) : Prop := mg x = none ∧ bootBuiltins x = some u

/-- two ways -/
def Br (c : Bool) (A B : Prop) : Prop := (c = true → A) ∧ (c = false → B)
theorem Br.ite {c : Bool} {A B : Prop} (h : Br c A B) : if c = true then A else B := by
  cases c with
  | true => rw [if_pos rfl]; exact h.1 rfl
  | false => rw [if_neg Bool.false_ne_true]; exact h.2 rfl
theorem br_t {A B : Prop} (h : A) : Br true A B := ⟨fun _ => h, (fun z => nomatch z)⟩
theorem br_f {A B : Prop} (h : B) : Br false A B := ⟨(fun z => nomatch z), fun _ => h⟩
theorem br_d {p : Prop} [Decidable p] {A B : Prop} (h1 : p → A) (h2 : ¬ p → B) : Br (decide p) A B := ⟨fun z => h1 (of_decide_eq_true z), fun z => h2 (of_decide_eq_false z)⟩
theorem br_dt {p : Prop} [Decidable p] {A B : Prop} (hp : p) (h1 : A) : Br (decide p) A B := br_d (fun _ => h1) fun z => absurd hp z
theorem br_df {p : Prop} [Decidable p] {A B : Prop} (hp : ¬ p) (h1 : B) : Br (decide p) A B := br_d (fun z => absurd z hp) fun _ => h1
theorem br_n {c : Bool} {A B : Prop} (h : Br c B A) : Br (!c) A B := by
  cases c with
  | true => exact br_f (h.1 rfl)
  | false => exact br_t (h.2 rfl)
theorem br_any {c : Bool} {A B : Prop} (h1 : c = true → A) (h2 : c = false → B) : Br c A B := ⟨h1, h2⟩

/-! ### an instance's fields, as a list -/
inductive PutR : Str → V → List (Str × V) → List (Str × V) → Prop where
  | nil {f : Str} {v : V} : PutR f v [] [(f, v)]
  | here {f : Str} {v y : V} {r : List (Str × V)} : PutR f v ((f, y) :: r) ((f, v) :: r)
  | there {f g : Str} {v y : V} {r r' : List (Str × V)} (n : g ≠ f) (h : PutR f v r r') : PutR f v ((g, y) :: r) ((g, y) :: r')
theorem PutR.eq {f : Str} {v : V} {fs fs' : List (Str × V)} (h : PutR f v fs fs') : putF f v fs = fs' := by
  induction h with
  | nil => rfl
  | here => show (if _ = _ then _ else _) = _; rw [if_pos rfl]
  | there n _ ih => show (if _ = _ then _ else _) = _; rw [if_neg n, ih]
theorem lk_here {f : Str} {v : V} {r : List (Str × V)} : ((f, v) :: r).lookup f = some v := by simp [List.lookup]
theorem lk_there {f g : Str} {v y : V} {r : List (Str × V)} (n : f ≠ g) (h : r.lookup f = some v) : ((g, y) :: r).lookup f = some v := by
  have e : (f == g) = false := beq_eq_false_iff_ne.mpr n
  simp only [List.lookup, e]
  exact h
theorem lkn_nil {f : Str} : ([] : List (Str × V)).lookup f = none := rfl
theorem lkn_there {f g : Str} {y : V} {r : List (Str × V)} (n : f ≠ g) (h : r.lookup f = none) : ((g, y) :: r).lookup f = none := by
  have e : (f == g) = false := beq_eq_false_iff_ne.mpr n
  simp only [List.lookup, e]
  exact h

theorem mem_hd {x : Str} {r : List Str} : x ∈ x :: r := List.mem_cons_self
theorem mem_tl {x y : Str} {r : List Str} (h : x ∈ r) : x ∈ y :: r := List.mem_cons_of_mem _ h
theorem ni_nil {a : Addr} : a ∉ ([] : List Addr) := fun z => nomatch z
theorem ni_cons {a b : Addr} {ws : List Addr} (h : a ≠ b) (n : a ∉ ws) : a ∉ b :: ws := fun z => (List.mem_cons.mp z).elim h n
inductive LSet : List V → Nat → V → List V → Prop where
  | here {x v : V} {r : List V} : LSet (x :: r) 0 v (v :: r)
  | there {x v : V} {r r' : List V} {j : Nat} (h : LSet r j v r') : LSet (x :: r) (j + 1) v (x :: r')
theorem LSet.eq {xs xs' : List V} {j : Nat} {v : V} (h : LSet xs j v xs') : xs.set j v = xs' := by
  induction h with
  | here => rfl
  | there _ ih => rw [List.set_cons_succ, ih]
/-- the slots at a def's beginning -/
inductive Start : List Str → List V → St → Prop where
  | done : Start [] [] []
  | non {x : Str} {N : List Str} {σ : St} (h : Start N [] σ) : Start (x :: N) [] (none :: σ)
  | val {x : Str} {v : V} {N : List Str} {vs : List V} {σ : St} (h : Start N vs σ) : Start (x :: N) (v :: vs) (some v :: σ)
theorem Start.eq {N : List Str} {vs : List V} {σ : St} (h : Start N vs σ) : L2.start N vs = σ := by
  induction h with
  | done => rfl
  | @non x N σ h ih =>
    unfold L2.start at ih ⊢
    rw [← ih]
    show List.replicate (N.length + 1) none = none :: List.replicate N.length none
    rfl
  | @val x v N vs σ h ih =>
    unfold L2.start at ih ⊢
    rw [← ih]
    simp
theorem start_go {X : Cx} {N : List Str} {vs : List V} {σ : St} {H : Hp} {sts : List Stmt} {nx bk ct : St → Hp → Prop} {rt : VK} (h : Start N vs σ) (q : Ss X sts nx rt bk ct σ H) : Ss X sts nx rt bk ct (L2.start N vs) H := by
  rw [h.eq]
  exact q

/-- a new tuple, a new list -/
structure NewT (xs : List V) (H : Hp) (Q : VK) : Prop where
  len : xs.length ≤ sizeLine
  q : ∀ p H', H p = none → Kp [] H H' → H' p = some (.tup xs) → Q (.ref p) H'
structure NewL (xs : List V) (H : Hp) (Q : VK) : Prop where
  len : xs.length ≤ sizeLine
  q : ∀ p H', H p = none → Kp [] H H' → H' p = some (.lst xs) → Q (.ref p) H'
/-- a field read, stored -/
structure FldR (K : PySem.W.Frag) (x : V) (f : Str) (H : Hp) (Q : VK) : Prop where
  ex : ∃ a Cl dx fs v, x = .ref a ∧ H a = some (.ins Cl dx fs) ∧ Cls K Cl ∧ NoAttr K Cl f ∧ fs.lookup f = some v ∧ Q v H
structure FldS (K : PySem.W.Frag) (x : V) (f : Str) (y : V) (H : Hp) (R : Hp → Prop) : Prop where
  ex : ∃ a Cl dx fs fs', x = .ref a ∧ H a = some (.ins Cl dx fs) ∧ Cls K Cl ∧ NoAttr K Cl f ∧ fs.length < 1000 ∧ PutR f y fs fs' ∧ ∀ H3, Kp [a] H H3 → H3 a = some (.ins Cl dx fs') → R H3
section
variable {X : Cx} {P : Program} {w : World} {K : PySem.W.Frag} {mg : Str → Option Value} {base : Heap} {sc : Scope} {N GL : List Str} {k : Nat} {EX : XK}
variable {e a b c o : Expr} {es rest : List Expr} {σ : St} {H : Hp} {Q : VK} {TQ : Bool → Hp → Prop} {pos pos' apos p : Pos} {x m : Str} {v : V}

/-! ### names, constants -/
theorem e_var (xk : Xk X P w K mg base sc N GL k EX) (g : Get N σ x v) (q : Q v H) : E X (.Name x pos) σ H Q := by
  obtain ⟨i, h1, h2⟩ := g.ix
  have z := xk.loc x g.mem
  have vis : Vis X.env.scope x := by rcases z.1 with y | y; exact .inl y; exact .inr (.inl y)
  exact .of (pe_var (i := i) (by rw [xk.n]; exact h1) vis z.2.1 z.2.2) ⟨v, h2, q⟩
theorem e_glob {u : Value} (xk : Xk X P w K mg base sc N GL k EX) (hg : x ∈ GL) (hm : mg x = some u) (r : RelV v u) (q : Q v H) : E X (.Name x pos) σ H Q :=
  .of (pe_glob (xk.gl x hg).1 (by rw [xk.mg]; exact hm) r (xk.gl x hg).2.1) q
theorem e_bltn {u : Value} (xk : Xk X P w K mg base sc N GL k EX) (hg : x ∈ GL) (hb : Bi mg x u) (r : RelV v u) (q : Q v H) : E X (.Name x pos) σ H Q :=
  .of (pe_bltn (xk.gl x hg).1 (by rw [xk.mg]; exact hb.1) hb.2 r (xk.gl x hg).2.2 (xk.gl x hg).2.1) q
theorem e_int {i : Int} {j : Nat} (q : Q (.int i) H) : E X (.Constant (.int i) j pos) σ H Q := .of pe_int q
theorem e_bl {i : Bool} {j : Nat} (q : Q (.bl i) H) : E X (.Constant (.bool i) j pos) σ H Q := .of pe_bl q
theorem e_non {j : Nat} (q : Q .non H) : E X (.Constant .none j pos) σ H Q := .of pe_non q
theorem e_str {i : Str} {j : Nat} (q : Q (.str i) H) : E X (.Constant (.str i) j pos) σ H Q := .of pe_str q

/-! ### operators -/
theorem e_bin {op : Operator} (h : E X a σ H fun x H1 => E X b σ H1 fun y H2 => Bo X op x y H2 Q) : E X (.BinOp a op b pos) σ H Q := .of (pe_op pBo pe pe) h
theorem e_neg (h : E X a σ H fun x H1 => Uo X .USub x H1 Q) : E X (.UnaryOp .USub a pos) σ H Q := .of (pe_un pUo pe) h
theorem e_cmp {op : CmpOp} (hm : behindInMarks op b = false) (h : E X a σ H fun x H1 => E X b σ H1 fun y H2 => Co X op x y H2 Q) : E X (.Compare a [op] [b] pos) σ H Q := .of (pe_cmpR pCo pe pe hm) h
theorem e_one {op : BoolOp} (h : E X a σ H Q) : E X (.BoolOp op [a] pos) σ H Q := .of (pe_one pe) h
theorem E.mono {Q' : VK} (h : E X e σ H Q) (i : ∀ v H, Q v H → Q' v H) : E X e σ H Q' := ⟨fun pins s I => wpAny_mono (h.run pins s I) (fun _ _ ⟨v, H', I', r, q⟩ => ⟨v, H', I', r, i _ _ q⟩) fun _ _ z => z⟩
theorem T.mono {Q' : Bool → Hp → Prop} (h : T X e σ H TQ) (i : ∀ v H, TQ v H → Q' v H) : T X e σ H Q' := ⟨fun pins s I => wpAny_mono (h.run pins s I) (fun _ _ ⟨H', I', q⟩ => ⟨H', I', i _ _ q⟩) fun _ _ z => z⟩
theorem As.mono {R R' : List V → Hp → Prop} (h : As X es σ H R) (i : ∀ v H, R v H → R' v H) : As X es σ H R' := ⟨fun pos pins s I => wpAny_mono (h.run pos pins s I) (fun _ _ ⟨v, H', I', r, q⟩ => ⟨v, H', I', r, i _ _ q⟩) fun _ _ z => z⟩
theorem C.mono {f : Value} {vs : List V} {Q' : VK} (h : C X f vs H Q) (i : ∀ v H, Q v H → Q' v H) : C X f vs H Q' := ⟨fun pins s σ us I r => wpAny_mono (h.run pins s σ us I r) (fun _ _ ⟨v, H', I', r, q⟩ => ⟨v, H', I', r, i _ _ q⟩) fun _ _ z => z⟩
theorem B2.mono {f : Value → Value → Sem Value} {x y : V} {Q' : VK} (h : B2 X f x y H Q) (i : ∀ v H, Q v H → Q' v H) : B2 X f x y H Q' := ⟨fun pins s σ v u I r1 r2 => wpAny_mono (h.run pins s σ v u I r1 r2) (fun _ _ ⟨v, H', I', r, q⟩ => ⟨v, H', I', r, i _ _ q⟩) fun _ _ z => z⟩
theorem e_and (h : E X a σ H fun x H1 => ∃ q, x = .bl q ∧ Br q (E X (.BoolOp .And (b :: rest) pos) σ H1 Q) (Q (.bl false) H1)) : E X (.BoolOp .And (a :: b :: rest) pos) σ H Q :=
  .of (pe_and pe pe) (h.mono fun _ _ ⟨q, e, z⟩ => ⟨q, e, z.ite⟩)
theorem e_or (h : E X a σ H fun x H1 => ∃ q, x = .bl q ∧ Br q (Q (.bl true) H1) (E X (.BoolOp .Or (b :: rest) pos) σ H1 Q)) : E X (.BoolOp .Or (a :: b :: rest) pos) σ H Q :=
  .of (pe_or pe pe) (h.mono fun _ _ ⟨q, e, z⟩ => ⟨q, e, z.ite⟩)
theorem e_notV (h : E X a σ H fun x H1 => ∃ q, x = .bl q ∧ Q (.bl (!q)) H1) : E X (.UnaryOp .Not a pos) σ H Q := .of (pe_not pe) h
theorem e_if (h : T X c σ H fun q H1 => Br q (E X a σ H1 Q) (E X b σ H1 Q)) : E X (.IfExp c a b pos) σ H Q := .of (pe_ifExp pt pe pe) (h.mono fun _ _ z => z.ite)

/-! ### tests -/
theorem t_cmp {op : CmpOp} (hm : behindInMarks op b = false) (h : E X a σ H fun x H1 => E X b σ H1 fun y H2 => Co X op x y H2 fun z H3 => ∃ q, z = .bl q ∧ TQ q H3) : T X (.Compare a [op] [b] pos) σ H TQ := .of (pt_cmpR pCo pe pe hm) h
theorem e_chain {op op' : CmpOp} (h : E X a σ H fun x H1 => E X b σ H1 fun y H2 => Co X op x y H2 fun z H3 => ∃ q, z = .bl q ∧ Br q (E X c σ H3 fun z' H4 => Co X op' y z' H4 Q) (Q (.bl false) H3))
    (hm : lastMarks [op, op'] [b, c] = false := by with_unfolding_all rfl) : E X (.Compare a [op, op'] [b, c] pos) σ H Q :=
  .of (pe_chain pCo pCo pe pe pe hm) (h.mono fun _ _ h => h.mono fun _ _ h => h.mono fun _ _ ⟨q, ez, z⟩ => ⟨q, ez, z.ite⟩)
theorem t_chain {op op' : CmpOp} (h : E X a σ H fun x H1 => E X b σ H1 fun y H2 => Co X op x y H2 fun z H3 => ∃ q, z = .bl q ∧ Br q (E X c σ H3 fun z' H4 => Co X op' y z' H4 fun z H3 => ∃ q, z = .bl q ∧ TQ q H3) (TQ false H3))
    (hm : lastMarks [op, op'] [b, c] = false := by with_unfolding_all rfl) : T X (.Compare a [op, op'] [b, c] pos) σ H TQ :=
  .of (pt_chain pCo pCo pe pe pe hm) (h.mono fun _ _ h => h.mono fun _ _ h => h.mono fun _ _ ⟨q, ez, z⟩ => ⟨q, ez, (show Br q _ _ from ⟨z.1, fun e => ⟨false, rfl, z.2 e⟩⟩).ite⟩)
theorem t_and1 (h : T X a σ H TQ) : T X (.BoolOp .And [a] pos) σ H TQ := .of (PW.pt (pw_and1 pt)) h
theorem t_or1 (h : T X a σ H TQ) : T X (.BoolOp .Or [a] pos) σ H TQ := .of (PW.pt (pw_or1 pt)) h
theorem w_and1 (h : T X a σ H TQ) : W X (.BoolOp .And [a] pos) σ H TQ := .of (pw_and1 pt) h
theorem w_or1 (h : T X a σ H TQ) : W X (.BoolOp .Or [a] pos) σ H TQ := .of (pw_or1 pt) h
theorem w_and (h : T X a σ H fun q H1 => Br q (W X (.BoolOp .And (b :: rest) pos) σ H1 TQ) (TQ false H1)) : W X (.BoolOp .And (a :: b :: rest) pos) σ H TQ := .of (pw_and pt pw) (h.mono fun _ _ z => z.ite)
theorem w_or (h : T X a σ H fun q H1 => Br q (TQ true H1) (W X (.BoolOp .Or (b :: rest) pos) σ H1 TQ)) : W X (.BoolOp .Or (a :: b :: rest) pos) σ H TQ := .of (pw_or pt pw) (h.mono fun _ _ z => z.ite)
theorem t_and (h : T X a σ H fun q H1 => Br q (W X (.BoolOp .And (b :: rest) pos) σ H1 TQ) (TQ false H1)) : T X (.BoolOp .And (a :: b :: rest) pos) σ H TQ := .of (PW.pt (pw_and pt pw)) (h.mono fun _ _ z => z.ite)
theorem t_or (h : T X a σ H fun q H1 => Br q (TQ true H1) (W X (.BoolOp .Or (b :: rest) pos) σ H1 TQ)) : T X (.BoolOp .Or (a :: b :: rest) pos) σ H TQ := .of (PW.pt (pw_or pt pw)) (h.mono fun _ _ z => z.ite)
theorem t_not (h : T X a σ H fun q H1 => TQ (!q) H1) : T X (.UnaryOp .Not a pos) σ H TQ := .of (pt_not pt) h
theorem t_val (h : E X e σ H fun x H1 => Tr X x H1 TQ) (he : ∀ whole, isTrue e X.env whole = (do let v ← whole; standAt e.pos; holding [v] (truthy v)) := by intro _; rfl) : T X e σ H TQ := by
  refine ⟨fun pins s I => PyProof.Rows.isTrue_plain (wpAny_mono (h.run pins s I) (fun v s1 ⟨x, H1, I1, r1, q1⟩ => ?_) fun _ _ z => z) (he _)⟩
  exact q1.run pins s1 σ v I1 r1
theorem tr_bl {q : Bool} (h : TQ q H) : Tr X (.bl q) H TQ := .of (k := q) rfl h

/-! ### operations by values -/
theorem b_add {i j : Int} (h : Q (.int (i + j)) H) : Bo X .Add (.int i) (.int j) H Q := .of op_add ⟨i, j, rfl, rfl, h⟩
theorem b_sub {i j : Int} (h : Q (.int (i - j)) H) : Bo X .Sub (.int i) (.int j) H Q := .of op_sub ⟨i, j, rfl, rfl, h⟩
theorem b_mul {i j : Int} (hc : IntMulOk i j) (h : Q (.int (i * j)) H) : Bo X .Mult (.int i) (.int j) H Q := ⟨fun pins s σ v u I r1 r2 => by
  obtain ⟨t, rfl⟩ := r1
  obtain ⟨t', rfl⟩ := r2
  exact PyProof.Rows.mul_int ⟨.int _, H, I.tok _, ⟨_, rfl⟩, h⟩ hc⟩
theorem b_mod {i j : Int} (hj : 0 < j) (h : Q (.int (i % j)) H) : Bo X .Mod (.int i) (.int j) H Q := .of op_mod ⟨i, j, rfl, rfl, hj, h⟩
theorem b_modN {i j : Int} (hj : j ≠ 0) (h : Q (.int (i.fmod j)) H) : Bo X .Mod (.int i) (.int j) H Q := .of op_modN ⟨i, j, rfl, rfl, hj, h⟩
theorem b_fdiv {i j : Int} (hj : CDivW i j) (h : Q (.int (i / j)) H) : Bo X .FloorDiv (.int i) (.int j) H Q := .of op_fdivW ⟨i, j, rfl, rfl, hj, h⟩
theorem b_pow {i j : Int} (hj : CPow i j) (h : Q (.int (i ^ j.toNat)) H) : Bo X .Pow (.int i) (.int j) H Q := .of op_pow ⟨i, j, rfl, rfl, hj, h⟩
theorem b_pow18 (h : Q (.int 1000000000000000000) H) : Bo X .Pow (.int 10) (.int 18) H Q := b_pow ⟨by decide, by decide, by decide⟩ h
theorem b_pow9 (h : Q (.int 1000000000) H) : Bo X .Pow (.int 10) (.int 9) H Q := b_pow ⟨by decide, by decide, by decide⟩ h
theorem b_pow30 (h : Q (.int 1000000000000000000000000000000) H) : Bo X .Pow (.int 10) (.int 30) H Q := b_pow ⟨by decide, by decide, by decide⟩ h
theorem mul_ok_r {i j : Int} (h : -(2 ^ 64) < j ∧ j < 2 ^ 64) : IntMulOk i j := CMul.ok (.inr h)
theorem mul_ok_l {i j : Int} (h : -(2 ^ 64) < i ∧ i < 2 ^ 64) : IntMulOk i j := CMul.ok (.inl h)
theorem b_addS {i j : Str} (hl : i.length + j.length ≤ sizeLine) (h : Q (.str (i ++ j)) H) : Bo X .Add (.str i) (.str j) H Q := .of op_add_str ⟨i, j, rfl, rfl, hl, h⟩
theorem c_lt {i j : Int} (h : Q (.bl (decide (i < j))) H) : Co X .Lt (.int i) (.int j) H Q := .of op_lt ⟨i, j, rfl, rfl, h⟩
theorem c_le {i j : Int} (h : Q (.bl (decide (i ≤ j))) H) : Co X .LtE (.int i) (.int j) H Q := .of op_le ⟨i, j, rfl, rfl, h⟩
theorem c_gt {i j : Int} (h : Q (.bl (decide (j < i))) H) : Co X .Gt (.int i) (.int j) H Q := .of op_gt ⟨i, j, rfl, rfl, h⟩
theorem c_ge {i j : Int} (h : Q (.bl (decide (j ≤ i))) H) : Co X .GtE (.int i) (.int j) H Q := .of op_ge ⟨i, j, rfl, rfl, h⟩
theorem dec_int' {i j : Int} : decide (V.int i = V.int j) = decide (i = j) := by
  by_cases h : i = j
  · subst h; simp
  · rw [decide_eq_false h, decide_eq_false fun z => h (V.int.inj z)]
theorem c_eqI {i j : Int} (h : Q (.bl (decide (i = j))) H) : Co X .Eq (.int i) (.int j) H Q := .of op_eq ⟨rfl, by rw [dec_int']; exact h⟩
theorem c_neI {i j : Int} (h : Q (.bl (!decide (i = j))) H) : Co X .NotEq (.int i) (.int j) H Q := .of op_ne ⟨rfl, by rw [dec_int']; exact h⟩
theorem c_eq {x y : V} (hs : scal x y = true) (h : Q (.bl (decide (x = y))) H) : Co X .Eq x y H Q := .of op_eq ⟨hs, h⟩
theorem c_ne {x y : V} (hs : scal x y = true) (h : Q (.bl (!decide (x = y))) H) : Co X .NotEq x y H Q := .of op_ne ⟨hs, h⟩
theorem c_isN {x : V} (h : Q (.bl (decide (x = .non))) H) : Co X .Is x .non H Q := .of op_isN ⟨rfl, h⟩
theorem c_notN {x : V} (h : Q (.bl (!decide (x = .non))) H) : Co X .IsNot x .non H Q := .of op_notN ⟨rfl, h⟩
theorem u_neg {i : Int} (h : Q (.int (-i)) H) : Uo X .USub (.int i) H Q := .of un_neg ⟨i, rfl, h⟩

/-! ### arguments, displays -/
theorem as_nil {R : List V → Hp → Prop} (h : R [] H) : As X [] σ H R := .of pa_nil h
theorem as_cons {R : List V → Hp → Prop} (h : E X e σ H fun x H1 => As X es σ H1 fun xs H2 => R (x :: xs) H2) (hs : starEach (e :: es) X.env = (false, eval e X.env) :: starEach es X.env := by rfl) : As X (e :: es) σ H R := .of (pa_cons pe pa hs) h
theorem e_tup {j} (h : As X es σ H fun xs H1 => NewT xs H1 Q) : E X (.Tuple es j pos) σ H Q :=
  .of (pe_tup pa) (h.mono fun _ _ ⟨l, z⟩ => ⟨l, fun p np => z p _ np (kp_new np) upd_same⟩)
theorem e_lst (h : As X es σ H fun xs H1 => NewL xs H1 Q) : E X (.List es pos) σ H Q :=
  .of (pe_lst pa) (h.mono fun _ _ ⟨l, z⟩ => ⟨l, fun p np => z p _ np (kp_new np) upd_same⟩)

/-! ### calls -/
theorem e_call {j : Nat} {sp : Sp} (xk : Xk X P w K mg base sc N GL k EX) (hg : x ∈ GL) (D : Df P w K mg base x j sp) (hj : j ≤ k) (h : As X (e :: es) σ H fun vs H1 => sp vs H1 Q EX)
    (he : starEach (e :: es) X.env = (false, eval e X.env) :: starEach es X.env := by rfl) (hpl : (backTo pos (starEach es X.env)).any (·.1) = false := by rfl) : E X (.Call (.Name x p) (e :: es) [] pos) σ H Q := by
  obtain ⟨f, fd, ps, F, hm, kp, b⟩ := D
  obtain ⟨rfl, rfl, rfl, rfl, rfl, -, -, -, gl, -, room, -, tk, -, -⟩ := xk
  refine .of (pe_call F (room.mono hj) (gl x hg).1 hm kp b .nil (passes_call tk fun _ _ _ _ z => z) pa (gl x hg).2.1 he hpl) (h.mono fun vs H1 z => ?_)
  show sp (vs ++ []) H1 Q EX
  rw [List.append_nil]
  exact z
theorem e_call0 {j : Nat} {sp : Sp} (xk : Xk X P w K mg base sc N GL k EX) (hg : x ∈ GL) (D : Df P w K mg base x j sp) (hj : j ≤ k) (h : sp [] H Q EX) : E X (.Call (.Name x p) [] [] pos) σ H Q := by
  obtain ⟨f, fd, ps, F, hm, kp, b⟩ := D
  obtain ⟨rfl, rfl, rfl, rfl, rfl, -, -, -, gl, -, room, -, tk, -, -⟩ := xk
  exact .of (pe_call0 F (room.mono hj) (gl x hg).1 hm kp b .nil (passes_call tk fun _ _ _ _ z => z) (gl x hg).2.1) h
theorem e_make {j : Nat} {sp : Sp} {Cl : Addr} (xk : Xk X P w K mg base sc N GL k EX) (hg : x ∈ GL) (D : Dc P w K mg base x Cl j sp) (hj : j + 1 ≤ k)
    (h : As X (e :: es) σ H fun vs H1 => ∀ x dx H2, H1 x = none → H1 dx = none → dx ≠ x → Kp [] H1 H2 → H2 x = some (.ins Cl dx []) → sp (.ref x :: vs) H2 (fun v H3 => v = .non ∧ Q (.ref x) H3) EX)
    (he : starEach (e :: es) X.env = (false, eval e X.env) :: starEach es X.env := by rfl) (hpl : (backTo pos (starEach es X.env)).any (·.1) = false := by rfl) : E X (.Call (.Name x p) (e :: es) [] pos) σ H Q := by
  obtain ⟨f, fd, ps, F, hm, M, b⟩ := D
  obtain ⟨rfl, rfl, rfl, rfl, rfl, -, -, -, gl, -, room, -, tk, -, -⟩ := xk
  refine .of (pe_make M F (room.mono hj) (gl x hg).1 hm b .nil (passes_call tk fun _ _ _ _ z => z) pa (gl x hg).2.1 he hpl) (h.mono fun vs H1 z => ?_)
  intro x dx n1 n2 n3
  rw [List.append_nil]
  refine z x dx _ n1 n2 n3 ?_ upd_same
  exact (kp_new n2).trans (kp_new (by rw [upd_ne n3.symm]; exact n1))
theorem e_make0 {j : Nat} {sp : Sp} {Cl : Addr} (xk : Xk X P w K mg base sc N GL k EX) (hg : x ∈ GL) (D : Dc P w K mg base x Cl j sp) (hj : j + 1 ≤ k)
    (h : ∀ x dx H2, H x = none → H dx = none → dx ≠ x → Kp [] H H2 → H2 x = some (.ins Cl dx []) → sp [.ref x] H2 (fun v H3 => v = .non ∧ Q (.ref x) H3) EX) : E X (.Call (.Name x p) [] [] pos) σ H Q := by
  obtain ⟨f, fd, ps, F, hm, M, b⟩ := D
  obtain ⟨rfl, rfl, rfl, rfl, rfl, -, -, -, gl, -, room, -, tk, -, -⟩ := xk
  refine .of (pe_make0 M F (room.mono hj) (gl x hg).1 hm b .nil (passes_call tk fun _ _ _ _ z => z) (gl x hg).2.1) ?_
  intro x dx n1 n2 n3
  refine h x dx _ n1 n2 n3 ?_ upd_same
  exact (kp_new n2).trans (kp_new (by rw [upd_ne n3.symm]; exact n1))
theorem e_callB {id : String} (xk : Xk X P w K mg base sc N GL k EX) (hg : x ∈ GL) (hb : Bi mg x (.builtin id)) (h : As X (e :: es) σ H fun vs H1 => C X (.builtin id) vs H1 Q)
    (he : starEach (e :: es) X.env = (false, eval e X.env) :: starEach es X.env := by rfl) (hpl : (backTo pos (starEach es X.env)).any (·.1) = false := by rfl) : E X (.Call (.Name x p) (e :: es) [] pos) σ H Q :=
  .of (pe_callB pcall (xk.gl x hg).1 (by rw [xk.mg]; exact hb.1) hb.2 pa (xk.gl x hg).2.2 (xk.gl x hg).2.1 he hpl) h
theorem e_callT {id : String} (xk : Xk X P w K mg base sc N GL k EX) (hg : x ∈ GL) (hb : Bi mg x (.type id)) (h : As X (e :: es) σ H fun vs H1 => C X (.type id) vs H1 Q)
    (he : starEach (e :: es) X.env = (false, eval e X.env) :: starEach es X.env := by rfl) (hpl : (backTo pos (starEach es X.env)).any (·.1) = false := by rfl) : E X (.Call (.Name x p) (e :: es) [] pos) σ H Q :=
  .of (pe_callTy pcall (xk.gl x hg).1 (by rw [xk.mg]; exact hb.1) hb.2 pa (xk.gl x hg).2.2 (xk.gl x hg).2.1 he hpl) h
theorem e_meth {j : Nat} {sp : Sp} {Cl : Addr} (xk : Xk X P w K mg base sc N GL k EX) (cl : Cls K Cl) (D : Dm P w K mg base Cl m j sp) (hj : j ≤ k)
    (h : E X o σ H fun x H1 => ∃ a dx fs, x = .ref a ∧ H1 a = some (.ins Cl dx fs) ∧ fs.lookup m = none ∧ As X (e :: es) σ H1 fun vs H2 => sp (.ref a :: vs) H2 Q EX) {pl : Sem Bool}
    (hst : starEach (e :: es) X.env = (false, eval e X.env) :: starEach es X.env := by rfl) (hpl : (backTo pos (starEach es X.env)).any (·.1) = false := by rfl)
    (ht : eval (.Call (.Attribute o m apos) (e :: es) [] pos) X.env = (do
      let ov ← eval o X.env
      standAt apos.atName
      let (f, first) ← holding [ov] (getMethod ov m pl)
      callWith pos f first (backTo pos (starEach (e :: es) X.env)) (backToKw pos (keywordEach [] X.env))) := by rfl) : E X (.Call (.Attribute o m apos) (e :: es) [] pos) σ H Q := by
  obtain ⟨f, fd, ps, F, hm, b⟩ := D
  obtain ⟨rfl, rfl, rfl, rfl, rfl, -, -, -, gl, -, room, -, tk, -, -⟩ := xk
  refine .of (pe_meth pe cl hm F (room.mono hj) b .nil (passes_call tk fun _ _ _ _ z => z) pa hst hpl ht) (h.mono fun x H1 ⟨a, dx, fs, e1, e2, e3, z⟩ => ⟨a, dx, fs, e1, e2, e3, z.mono fun vs H2 q => ?_⟩)
  rw [List.append_nil, e1]
  exact q
theorem e_meth0 {j : Nat} {sp : Sp} {Cl : Addr} (xk : Xk X P w K mg base sc N GL k EX) (cl : Cls K Cl) (D : Dm P w K mg base Cl m j sp) (hj : j ≤ k)
    (h : E X o σ H fun x H1 => ∃ a dx fs, x = .ref a ∧ H1 a = some (.ins Cl dx fs) ∧ fs.lookup m = none ∧ sp [.ref a] H1 Q EX) {pl : Sem Bool}
    (ht : eval (.Call (.Attribute o m apos) [] [] pos) X.env = (do
      let ov ← eval o X.env
      standAt apos.atName
      let (f, first) ← holding [ov] (getMethod ov m pl)
      callWith pos f first (backTo pos (starEach [] X.env)) (backToKw pos (keywordEach [] X.env))) := by rfl) : E X (.Call (.Attribute o m apos) [] [] pos) σ H Q := by
  obtain ⟨f, fd, ps, F, hm, b⟩ := D
  obtain ⟨rfl, rfl, rfl, rfl, rfl, -, -, -, gl, -, room, -, tk, -, -⟩ := xk
  refine .of (pe_meth0 pe cl hm F (room.mono hj) b .nil (passes_call tk fun _ _ _ _ z => z) ht) (h.mono fun x H1 ⟨a, dx, fs, e1, e2, e3, z⟩ => ⟨a, dx, fs, e1, e2, e3, ?_⟩)
  subst e1
  exact z
/-- x.f of an instance -/
theorem e_fld {f : Str} (xk : Xk X P w K mg base sc N GL k EX) (h : E X e σ H fun x H1 => FldR K x f H1 Q)
    (hb : attributeBase e f X.env (eval e X.env) = eval e X.env := by rfl) : E X (.Attribute e f pos) σ H Q := by
  obtain ⟨-, -, rfl, -⟩ := xk
  exact .of (pe_fld pe hb) (h.mono fun _ _ z => z.ex)
/-- a[b] -/
theorem e_sub (h : E X a σ H fun x H1 => E X b σ H1 fun y H2 => Ix X a b x y H2 Q) : E X (.Subscript a b pos) σ H Q :=
  ⟨fun pins s I => PyProof.Rows.Subscript_ (binT pe pe I h fun v u s2 x y H2 I2 rx ry q => q.run pins s2 σ v u I2 rx ry)⟩
theorem ix_l {q : Addr} {xs : List V} {i : Int} (xk : Xk X P w K mg base sc N GL k EX) (hs : PlainIx b) (hq : SqL K H q xs) (hi : atI xs i = some v) (h : Q v H) : Ix X a b (.ref q) (.int i) H Q := .of ix_list hs ⟨q, xs, i, v, rfl, rfl, by rw [xk.K]; exact hq, hi, h⟩
theorem ix_t {q : Addr} {xs : List V} {i : Int} (xk : Xk X P w K mg base sc N GL k EX) (hs : PlainIx b) (hq : SqT K H q xs) (hi : atI xs i = some v) (h : Q v H) : Ix X a b (.ref q) (.int i) H Q := .of ix_tup hs ⟨q, xs, i, v, rfl, rfl, by rw [xk.K]; exact hq, hi, h⟩

/-! ### built-ins by values -/
theorem k_abs {i : Int} (h : Q (.int (if i < 0 then -i else i)) H) : C X (.builtin "abs") [.int i] H Q := .of call_abs ⟨i, rfl, h⟩
theorem k_max {i j : Int} (xk : Xk X P w K mg base sc N GL k EX) (h : Q (.int (if j > i then j else i)) H) : C X (.builtin "max") [.int i, .int j] H Q := .of (call_max2 xk.calm) ⟨i, j, rfl, h⟩
theorem k_min {i j : Int} (xk : Xk X P w K mg base sc N GL k EX) (h : Q (.int (if j < i then j else i)) H) : C X (.builtin "min") [.int i, .int j] H Q := .of (call_min2 xk.calm) ⟨i, j, rfl, h⟩
theorem k_int {i : Int} (h : Q (.int i) H) : C X (.type "int") [.int i] H Q := .of call_int1 (.inl ⟨i, rfl, h⟩)
theorem k_intB {q : Bool} (h : Q (.int (if q then 1 else 0)) H) : C X (.type "int") [.bl q] H Q := .of call_int1 (.inr ⟨q, rfl, h⟩)
theorem k_boolB {q : Bool} (h : Q (.bl q) H) : C X (.type "bool") [.bl q] H Q := .of call_bool1 (.inr ⟨q, rfl, h⟩)
theorem k_lenL {q : Addr} {xs : List V} (xk : Xk X P w K mg base sc N GL k EX) (hq : SqL K H q xs) (h : Q (.int xs.length) H) : C X (.builtin "len") [.ref q] H Q := .of call_len_seq ⟨q, xs, rfl, .inl (by rw [xk.K]; exact hq), h⟩
theorem k_lenT {q : Addr} {xs : List V} (xk : Xk X P w K mg base sc N GL k EX) (hq : SqT K H q xs) (h : Q (.int xs.length) H) : C X (.builtin "len") [.ref q] H Q := .of call_len_seq ⟨q, xs, rfl, .inr (by rw [xk.K]; exact hq), h⟩
theorem k_isi {x c : V} {t u : Value} {r : Bool} (xk : Xk X P w K mg base sc N GL k EX) (hc : ClsV c u) (hx : TyX K H x t) (hk : PySem.W.kitOne K t u = some r) (h : Q (.bl r) H) : C X (.builtin "isinstance") [x, c] H Q := .of call_isi ⟨x, c, t, u, r, rfl, hc, by rw [xk.K]; exact hx, by rw [xk.K]; exact hk, h⟩

/-! ### statements -/
variable {st : Stmt} {sts bd el : List Stmt} {nx bk ct : St → Hp → Prop} {rt : VK}
theorem ss_nil (h : nx σ H) : Ss X [] nx rt bk ct σ H := .of pss_nil h
theorem ss_cons (h : S X st (fun σ' H' => Ss X sts nx rt bk ct σ' H') rt bk ct σ H) : Ss X (st :: sts) nx rt bk ct σ H := .of (pss_cons ps pss) h
theorem ss_one (h : S X st nx rt bk ct σ H) : Ss X [st] nx rt bk ct σ H := .of (pss_one ps) h
theorem s_expr (h : E X e σ H fun _ H1 => nx σ H1) (hs : swapsWith e none pos.line X.env = pure false := by rfl) : S X (.Expr e pos) nx rt bk ct σ H := .of (ps_expr pe hs) h
theorem s_ret (h : E X e σ H rt) : S X (.Return (some e) pos) nx rt bk ct σ H := .of (ps_ret pe) h
theorem s_retN (h : rt .non H) : S X (.Return none pos) nx rt bk ct σ H := .of ps_retN h
theorem s_pass (h : nx σ H) : S X (.Pass pos) nx rt bk ct σ H := .of ps_pass h
theorem s_if (h : T X c σ H fun q H1 => Br q (Ss X bd nx rt bk ct σ H1) (Ss X el nx rt bk ct σ H1)) : S X (.If c bd el pos) nx rt bk ct σ H := .of (ps_if pt pss pss) (h.mono fun _ _ z => z.ite)
theorem s_set {f : V → St} (xk : Xk X P w K mg base sc N GL k EX) (g : SetF N σ x f) (h : E X e σ H fun v H1 => nx (f v) H1) (hs : swapsWith e (some (.Name x pos')) pos.line X.env = pure false := by rfl) : S X (.Assign [.Name x pos'] e pos) nx rt bk ct σ H := by
  obtain ⟨i, h1, h2⟩ := g.ix
  refine .of (L2.ps_set (i := i) (by rw [xk.n]; exact xk.nd) (by rw [xk.n]; exact h1) (xk.loc x g.mem).1 pe hs (.inl (xk.fn x))) (h.mono fun v H1 q => ?_)
  show nx (σ.set i (some v)) H1
  rw [h2]
  exact q
theorem s_asg {tg : Expr} (h : E X e σ H fun v H1 => G X tg v σ H1 nx) (hs : swapsWithSole [tg] e pos.line X.env = pure false := by rfl) (hw : swappedStores [tg] e X.env = pure none := by rfl)
    (h1 : (assignEach [tg] X.env).map (·.2) = [assign tg X.env] := by rfl) : S X (.Assign [tg] e pos) nx rt bk ct σ H := .of (ps_asg pe pg hs hw h1) h
theorem g_name {f : V → St} {R : St → Hp → Prop} (xk : Xk X P w K mg base sc N GL k EX) (g : SetF N σ x f) (h : R (f v) H) : G X (.Name x pos) v σ H R := by
  obtain ⟨i, h1, h2⟩ := g.ix
  refine .of (pg_name (i := i) (by rw [xk.n]; exact xk.nd) (by rw [xk.n]; exact h1) (xk.loc x g.mem).1 (.inl (xk.fn x))) ?_
  show R (σ.set i (some v)) H
  rw [h2]
  exact h
theorem g_tup {j n : Nat} {R : St → Hp → Prop} {q : Addr} {xs : List V} (xk : Xk X P w K mg base sc N GL k EX) (hq : SqT K H q xs) (hl : xs.length = n) (h : Gs X es xs σ H R)
    (hn : (assignEach es X.env).length = n := by rfl) (hst : (assignEach es X.env).findIdx? (·.1) = none := by rfl) : G X (.Tuple es j pos) (.ref q) σ H R := .of (pg_tup xk.calm pgs hn hst) ⟨q, xs, rfl, by rw [xk.K]; exact hq, hl, h⟩
theorem gs_nil {R : St → Hp → Prop} (h : R σ H) : Gs X [] [] σ H R := .of pgs_nil ⟨rfl, h⟩
theorem gs_cons {R : St → Hp → Prop} {vs : List V} (h : G X e v σ H fun σ' H' => Gs X es vs σ' H' R) (hs : (assignEach (e :: es) X.env).map (·.2) = assign e X.env :: (assignEach es X.env).map (·.2) := by rfl) : Gs X (e :: es) (v :: vs) σ H R :=
  .of (pgs_cons pg pgs hs) ⟨v, vs, rfl, h⟩
theorem g_sub {R : St → Hp → Prop} {i : Expr} (h : E X o σ H fun ov H1 => E X i σ H1 fun iv H2 => St3 X ov iv v H2 fun H3 => R σ H3)
    (ha : ∀ v, assign (.Subscript o i pos) X.env v = (do
      let ov ← holding [v] (eval o X.env)
      let iv ← holding [v, ov] (eval i X.env)
      standAt pos
      holding [v, ov, iv] (setItem ov iv v)
      release [v, ov, iv] []) := by intro _; rfl) : G X (.Subscript o i pos) v σ H R := .of (pg_sub pe pe pset ha) h
theorem st_l {q : Addr} {xs : List V} {i : Int} {j : Nat} {R : Hp → Prop} (hq : H q = some (.lst xs)) (hi : ixN xs.length i = some j) (h : ∀ H', Kp [q] H H' → H' q = some (.lst (xs.set j v)) → R H') : St3 X (.ref q) (.int i) v H R :=
  .of set_list ⟨q, xs, i, j, rfl, rfl, hq, hi, mut_heap h⟩
/-- o.f = e -/
theorem s_fld {f : Str} (xk : Xk X P w K mg base sc N GL k EX) (h : E X e σ H fun y H1 => E X o σ H1 fun x H2 => FldS K x f y H2 fun H3 => nx σ H3)
    (hs : swapsWith e (some (.Attribute o f pos')) pos.line X.env = pure false := by rfl) : S X (.Assign [.Attribute o f pos'] e pos) nx rt bk ct σ H := by
  obtain ⟨-, -, rfl, -⟩ := xk
  refine .of (ps_fld pe pe hs) (h.mono fun y H1 z => z.mono fun x H2 ⟨⟨a, Cl, dx, fs, fs', e1, e2, e3, e4, e5, e6, q⟩⟩ => ⟨a, Cl, dx, fs, e1, e2, e3, e4, e5, by rw [e6.eq]; exact mut_heap q⟩)
/-- for over a list that stands still -/
theorem s_for {tg iter : Expr} (xk : Xk X P w K mg base sc N GL k EX)
    (h : E X iter σ H fun v H1 => ∃ q xs, v = .ref q ∧ SqL K H1 q xs ∧ ∃ Pv : Nat → St → Hp → Prop, Pv 0 σ H1 ∧ (∀ i σ' H', i ≤ xs.length → Pv i σ' H' → SqL K H' q xs) ∧
      (∀ i y σ' H', xs[i]? = some y → Pv i σ' H' → G X tg y σ' H' fun σ2 H2 => Ss X bd (Pv (i + 1)) rt nx (Pv (i + 1)) σ2 H2) ∧ ∀ σ' H', Pv xs.length σ' H' → nx σ' H')
    (hs : ∀ x, foldedSetIterable iter X.env x = pure x := by intro _; rfl) : S X (.For tg iter bd [] pos) nx rt bk ct σ H := by
  obtain ⟨-, -, rfl, -, -, -, -, -, -, -, -, calm, -, po, -⟩ := xk
  refine .of (ps_for po calm (pi_list pe) pg pss hs) (h.mono fun v H1 ⟨q, xs, e1, e2, Pv, p0, p1, p2, p3⟩ => ⟨q, e1, ⟨xs, e2⟩, for_list (g := fun v σ H Q => G X tg v σ H Q) (tb := fun D σ H => Ss X bd D.nx D.rt D.bk D.ct σ H) (D := ⟨nx, rt, bk, ct⟩) Pv p0 p1 (fun i y σ' H' hy hp => p2 i y σ' H' hy hp) p3⟩)
theorem s_forT {tg iter : Expr} (xk : Xk X P w K mg base sc N GL k EX)
    (h : E X iter σ H fun v H1 => ∃ q xs, v = .ref q ∧ SqT K H1 q xs ∧ ∃ Pv : Nat → St → Hp → Prop, Pv 0 σ H1 ∧ (∀ i σ' H', i ≤ xs.length → Pv i σ' H' → SqT K H' q xs) ∧
      (∀ i y σ' H', xs[i]? = some y → Pv i σ' H' → G X tg y σ' H' fun σ2 H2 => Ss X bd (Pv (i + 1)) rt nx (Pv (i + 1)) σ2 H2) ∧ ∀ σ' H', Pv xs.length σ' H' → nx σ' H')
    (hs : ∀ x, foldedSetIterable iter X.env x = pure x := by intro _; rfl) : S X (.For tg iter bd [] pos) nx rt bk ct σ H := by
  obtain ⟨-, -, rfl, -, -, -, -, -, -, -, -, calm, -, po, -⟩ := xk
  refine .of (ps_for po calm (pi_tup pe) pg pss hs) (h.mono fun v H1 ⟨q, xs, e1, e2, Pv, p0, p1, p2, p3⟩ => ⟨q, e1, ⟨xs, e2⟩, for_tup (g := fun v σ H Q => G X tg v σ H Q) (tb := fun D σ H => Ss X bd D.nx D.rt D.bk D.ct σ H) (D := ⟨nx, rt, bk, ct⟩) Pv p0 p1 (fun i y σ' H' hy hp => p2 i y σ' H' hy hp) p3⟩)
theorem s_forR {tg a : Expr} {pr : Pos} (xk : Xk X P w K mg base sc N GL k EX) (hg : ("range" : Str) ∈ GL) (hm : mg "range" = none)
    (h : E X a σ H fun v H1 => ∃ n : Int, v = .int n ∧ -(2 ^ 62) ≤ n ∧ n < 2 ^ 62 ∧ ∃ Pv : Nat → St → Hp → Prop, Pv 0 σ H1 ∧
      (∀ (i : Nat) σ' H', (i : Int) < n → Pv i σ' H' → G X tg (.int (i : Int)) σ' H' fun σ2 H2 => Ss X bd (Pv (i + 1)) rt nx (Pv (i + 1)) σ2 H2) ∧ ∀ σ' H', Pv n.toNat σ' H' → nx σ' H')
    (hse : starEach [a] X.env = [(false, eval a X.env)] := by rfl) (hs : ∀ x, foldedSetIterable (.Call (.Name "range" pr) [a] [] pos') X.env x = pure x := by intro _; rfl) :
    S X (.For tg (.Call (.Name "range" pr) [a] [] pos') bd [] pos) nx rt bk ct σ H := by
  obtain ⟨-, -, -, rfl, -, -, -, -, gl, -, -, calm, -, po, -⟩ := xk
  refine .of (ps_for po calm (pi_range1 (gl _ hg).1 hm pa hse) pg pss hs) (?_ : As X [a] σ H _)
  refine as_cons (h.mono fun v H1 z => as_nil ?_) (by rw [hse]; rfl)
  obtain ⟨n, rfl, n1, n2, Pv, p0, p2, p3⟩ := z
  refine ⟨n, rfl, n1, n2, for_range (lo := 0) (n := n.toNat) (g := fun v σ H Q => G X tg v σ H Q) (tb := fun D σ H => Ss X bd D.nx D.rt D.bk D.ct σ H) (D := ⟨nx, rt, bk, ct⟩) Pv p0 (fun i σ' H' hi hp => ?_) p3⟩
  rw [Int.zero_add]
  exact p2 i σ' H' (by omega) hp
theorem ex_bl {q : Bool} {R : Bool → Prop} (h : R q) : ∃ c, V.bl q = .bl c ∧ R c := ⟨q, rfl, h⟩
theorem ex_in {i : Int} {R : Int → Prop} (h : R i) : ∃ c, V.int i = .int c ∧ R c := ⟨i, rfl, h⟩
theorem ex_an {A B : Prop} (ha : A) (hb : B) : A ∧ B := ⟨ha, hb⟩
/-- a, b = e1, e2 -/
theorem s_par {x y : Str} {px py pt pt2 : Pos} {kt k2 : Nat} {f : V → St} {g : V → V → St} (xk : Xk X P w K mg base sc N GL k EX) (gx : SetF N σ x f) (gy : ∀ v, SetF N (f v) y (g v)) (hxy : x ≠ y)
    (lx : sc.names.lookup x = some .local) (ly : sc.names.lookup y = some .local)
    (hw : ∀ (q : Str) (L f : Addr) (cd : Value), swappedStores [.Tuple [.Name x px, .Name y py] kt pt] (.Tuple [a, b] k2 pt2) (PyProof.Rows.envOfC q sc L f cd) = pure (some [x, y]))
    (h : E X a σ H fun v H1 => E X b σ H1 fun u H2 => nx (g v u) H2) (hs : starEach [a, b] X.env = [(false, eval a X.env), (false, eval b X.env)] := by rfl) (hs2 : starEach [b] X.env = [(false, eval b X.env)] := by rfl) :
    S X (.Assign [.Tuple [.Name x px, .Name y py] kt pt] (.Tuple [a, b] k2 pt2) pos) nx rt bk ct σ H := by
  obtain ⟨i, h1, h2⟩ := gx.ix
  have z := fun v => (gy v).ix
  obtain ⟨q, L, fa, cd, ev⟩ := xk.ev
  have esc : X.env.scope = sc := by rw [ev]; rfl
  obtain ⟨j, j1⟩ : ∃ j : Nat, N[j]? = some y := let ⟨j, j1, _⟩ := z .non; ⟨j, j1⟩
  have hj : ∀ v u, ((σ.set i (some v)).set j (some u)) = g v u := fun v u => by
    obtain ⟨j', j2, j3⟩ := z v
    have e : j = j' := nd_ix xk.nd j1 j2
    rw [h2, e, j3]
  refine .of (ps_par (i := i) (j := j) xk.calm (by rw [xk.n]; exact xk.nd) (by rw [xk.n]; exact h1) (by rw [xk.n]; exact j1) (fun e => hxy (by
    rw [e, j1] at h1
    exact (Option.some.inj h1).symm)) (by rw [esc]; exact lx) (by rw [esc]; exact ly) pa (by rw [ev]; exact hw _ _ _ _) rfl) ?_
  refine as_cons (h.mono fun v H1 h => as_cons (h.mono fun u H2 h => as_nil ⟨v, u, rfl, ?_⟩) (by rw [hs2]; rfl)) (by rw [hs, hs2])
  rw [hj]
  exact h
/-- a, b, c = e1, e2, e3 -/
theorem s_par3 {x y z : Str} {px py pz pt pt2 : Pos} {kt k2 : Nat} {f : V → St} {g : V → V → St} {g3 : V → V → V → St} (xk : Xk X P w K mg base sc N GL k EX) (gx : SetF N σ x f) (gy : ∀ v, SetF N (f v) y (g v)) (gz : ∀ v u, SetF N (g v u) z (g3 v u)) (hxy : x ≠ y) (hxz : x ≠ z) (hyz : y ≠ z)
    (lx : sc.names.lookup x = some .local) (ly : sc.names.lookup y = some .local) (lz : sc.names.lookup z = some .local)
    (hw : ∀ (q : Str) (L f : Addr) (cd : Value), swappedStores [.Tuple [.Name x px, .Name y py, .Name z pz] kt pt] (.Tuple [a, b, c] k2 pt2) (PyProof.Rows.envOfC q sc L f cd) = pure (some [x, y, z]))
    (h : E X a σ H fun v H1 => E X b σ H1 fun u H2 => E X c σ H2 fun t H3 => nx (g3 v u t) H3) (hs : starEach [a, b, c] X.env = (false, eval a X.env) :: starEach [b, c] X.env := by rfl) (hs2 : starEach [b, c] X.env = (false, eval b X.env) :: starEach [c] X.env := by rfl) (hs3 : starEach [c] X.env = (false, eval c X.env) :: starEach [] X.env := by rfl) :
    S X (.Assign [.Tuple [.Name x px, .Name y py, .Name z pz] kt pt] (.Tuple [a, b, c] k2 pt2) pos) nx rt bk ct σ H := by
  obtain ⟨i, h1, h2⟩ := gx.ix
  obtain ⟨q, L, fa, cd, ev⟩ := xk.ev
  have esc : X.env.scope = sc := by rw [ev]; rfl
  obtain ⟨j, j1⟩ : ∃ j : Nat, N[j]? = some y := let ⟨j, j1, _⟩ := (gy .non).ix; ⟨j, j1⟩
  obtain ⟨l, l1⟩ : ∃ j : Nat, N[j]? = some z := let ⟨j, j1, _⟩ := (gz .non .non).ix; ⟨j, j1⟩
  have hj : ∀ v u t, (((σ.set i (some v)).set j (some u)).set l (some t)) = g3 v u t := fun v u t => by
    obtain ⟨j', j2, j3⟩ := (gy v).ix
    obtain ⟨l', l2, l3⟩ := (gz v u).ix
    have e : j = j' := nd_ix xk.nd j1 j2
    have e' : l = l' := nd_ix xk.nd l1 l2
    rw [h2, e, j3, e', l3]
  have ne : ∀ {i j : Nat} {x y : Str}, N[i]? = some x → N[j]? = some y → x ≠ y → i ≠ j := fun {i j x y} a b n e => n (by
    rw [e, b] at a
    exact (Option.some.inj a).symm)
  refine .of (ps_par3 (i := i) (j := j) (l := l) xk.calm (by rw [xk.n]; exact xk.nd) (by rw [xk.n]; exact h1) (by rw [xk.n]; exact j1) (by rw [xk.n]; exact l1) (ne h1 j1 hxy) (ne h1 l1 hxz) (ne j1 l1 hyz)
    (by rw [esc]; exact lx) (by rw [esc]; exact ly) (by rw [esc]; exact lz) pa (by rw [ev]; exact hw _ _ _ _) rfl) ?_
  refine as_cons (h.mono fun v H1 h => as_cons (h.mono fun u H2 h => as_cons (h.mono fun t H3 h => as_nil ⟨v, u, t, rfl, ?_⟩) hs3) hs2) hs
  rw [hj]
  exact h
/-- a list with a place changed -/
theorem st_lL {q : Addr} {xs xs' : List V} {i : Int} {j : Nat} {R : Hp → Prop} (hq : H q = some (.lst xs)) (hi : ixN xs.length i = some j) (hs : LSet xs j v xs') (h : ∀ H', Kp [q] H H' → H' q = some (.lst xs') → R H') : St3 X (.ref q) (.int i) v H R :=
  st_l hq hi (by rw [hs.eq]; exact h)
theorem b_modG {i j : Int} (hj : 0 < j) (h : ∀ r : Int, 0 ≤ r → r < j → Q (.int r) H) : Bo X .Mod (.int i) (.int j) H Q := b_mod hj (h _ (Int.emod_nonneg _ (by omega)) (Int.emod_lt_of_pos _ hj))
theorem cdiv_of {i n : Int} (h0 : 0 < n) (h1 : n ≤ 10000000000000000000000000000000) : CDivW i n := wide_div (b := 200) h0 (by
  have e : (2 : Nat) ^ 200 = 1606938044258990275541962092341162602522202993782792835301376 := by decide
  rw [e]; omega) (by decide) (by decide)
theorem Kp.fresh {H H1 H2 : Hp} {x : Addr} (a : Kp [] H H1) (b : Kp [x] H1 H2) (n : H x = none) : Kp [] H H2 := fun c o h z => b c o (a c o h z) (ni_cons (ne_of_none h n) ni_nil)
theorem Nat.lt_of_ble_eq_true' {n m : Nat} (h : Nat.ble (n + 1) m = true) : n < m := Nat.le_of_ble_eq_true h
theorem ex_fld {q Cl dx : Addr} {fs : List (Str × V)} {f : Str} {u : V} (h1 : H q = some (.ins Cl dx fs)) (h2 : Cls K Cl) (h3 : NoAttr K Cl f) (h4 : fs.lookup f = some u) (h : Q u H) : FldR K (.ref q) f H Q := ⟨q, Cl, dx, fs, u, rfl, h1, h2, h3, h4, h⟩
theorem ex_put {q Cl dx : Addr} {fs fs' : List (Str × V)} {f : Str} {y : V} {R : Hp → Prop} (h1 : H q = some (.ins Cl dx fs)) (h2 : Cls K Cl) (h3 : NoAttr K Cl f) (h4 : fs.length < 1000) (h5 : PutR f y fs fs') (h : ∀ H3, Kp [q] H H3 → H3 q = some (.ins Cl dx fs') → R H3) :
    FldS K (.ref q) f y H R := ⟨q, Cl, dx, fs, fs', rfl, h1, h2, h3, h4, h5, h⟩
theorem new_tup {xs : List V} {H1 : Hp} (l : xs.length ≤ sizeLine) (h : ∀ p H', H1 p = none → Kp [] H1 H' → H' p = some (.tup xs) → Q (.ref p) H') : NewT xs H1 Q := ⟨l, h⟩
theorem new_lst {xs : List V} {H1 : Hp} (l : xs.length ≤ sizeLine) (h : ∀ p H', H1 p = none → Kp [] H1 H' → H' p = some (.lst xs) → Q (.ref p) H') : NewL xs H1 Q := ⟨l, h⟩
theorem e_cls {q : Addr} (xk : Xk X P w K mg base sc N GL k EX) (hg : x ∈ GL) (hm : mg x = some (.ref q)) (h : Q (.ref q) H) : E X (.Name x pos) σ H Q := e_glob (v := .ref q) xk hg hm rfl h
theorem e_bty {n : String} (xk : Xk X P w K mg base sc N GL k EX) (hg : x ∈ GL) (hb : Bi mg x (.type n)) (h : Q (.ty n) H) : E X (.Name x pos) σ H Q := e_bltn (v := .ty n) xk hg hb rfl h
theorem k_ii {i : Int} (xk : Xk X P w K mg base sc N GL k EX) (h : Q (.bl true) H) : C X (.builtin "isinstance") [.int i, .ty "int"] H Q := k_isi xk (.ty _) (.base (.int i)) (kit_ty (by decide +kernel)) h
theorem k_ib {i : Int} (xk : Xk X P w K mg base sc N GL k EX) (h : Q (.bl false) H) : C X (.builtin "isinstance") [.int i, .ty "bool"] H Q := k_isi xk (.ty _) (.base (.int i)) (kit_ty (by decide +kernel)) h
theorem k_minG {i j : Int} (xk : Xk X P w K mg base sc N GL k EX) (h : ∀ r : Int, (r = i ∨ r = j) → r ≤ i → r ≤ j → Q (.int r) H) : C X (.builtin "min") [.int i, .int j] H Q := k_min xk (h _ (by split <;> omega) (by split <;> omega) (by split <;> omega))
theorem k_maxG {i j : Int} (xk : Xk X P w K mg base sc N GL k EX) (h : ∀ r : Int, (r = i ∨ r = j) → i ≤ r → j ≤ r → Q (.int r) H) : C X (.builtin "max") [.int i, .int j] H Q := k_max xk (h _ (by split <;> omega) (by split <;> omega) (by split <;> omega))
theorem k_absG {i : Int} (h : ∀ r : Int, 0 ≤ r → Q (.int r) H) : C X (.builtin "abs") [.int i] H Q := k_abs (h _ (by split <;> omega))
/-- list + list -/
theorem b_cat {p q : Addr} {xs ys : List V} (xk : Xk X P w K mg base sc N GL k EX) (hp : H p = some (.lst xs)) (hq : H q = some (.lst ys)) (hl : xs.length + ys.length ≤ sizeLine) (h : ∀ r H', H r = none → Kp [] H H' → H' r = some (.lst (xs ++ ys)) → Q (.ref r) H') : Bo X .Add (.ref p) (.ref q) H Q :=
  .of op_cat (by
    refine ⟨p, q, xs, ys, rfl, rfl, ?_, ?_, ?_, ?_⟩
    all_goals first | exact hp | exact hq | exact hl | (intro r nr; exact h r _ nr (kp_new nr) upd_same))
/-- an argument list all of whose values are good -/
def NoSt : Expr → Bool
  | .Starred .. => false
  | _ => true
theorem star_cons {env : Env} (h : NoSt e = true) : starEach (e :: es) env = (false, eval e env) :: starEach es env := by
  cases e <;> first | rfl | cases h
def AllE (Pd : Expr → Prop) : List Expr → Prop
  | [] => True
  | e :: es => Pd e ∧ AllE Pd es
theorem AllE.imp {Pd Pd' : Expr → Prop} (i : ∀ e, Pd e → Pd' e) : ∀ {es : List Expr}, AllE Pd es → AllE Pd' es
  | [], _ => trivial
  | _ :: _, h => ⟨i _ h.1, AllE.imp i h.2⟩
theorem as_all {D : Hp → V → Prop} {R : List V → Hp → Prop} (mon : ∀ H H' v, Kp [] H H' → D H v → D H' v) : ∀ {es : List Expr} {H : Hp}, es.all NoSt = true → (∀ xs H', xs.length = es.length → Kp [] H H' → (∀ v ∈ xs, D H' v) → R xs H') →
    AllE (fun e => ∀ H1, Kp [] H H1 → ∀ Q : VK, (∀ v H2, Kp [] H1 H2 → D H2 v → Q v H2) → E X e σ H1 Q) es → As X es σ H R
  | [], H, _, k, _ => as_nil (k [] H rfl .refl fun _ z => nomatch z)
  | e :: es, H, n, k, h => by
    rw [List.all_cons, Bool.and_eq_true] at n
    refine as_cons (h.1 H .refl _ fun v H1 k1 d1 => ?_) (star_cons n.1)
    refine as_all mon n.2 (fun xs H2 l k2 d2 => k (v :: xs) H2 (by rw [List.length_cons, List.length_cons, l]) (k1.trans k2) fun u hu => ?_) (h.2.imp fun e' m H2 k2 Q q => m H2 (k1.trans k2) Q q)
    rcases List.mem_cons.mp hu with rfl | hu
    · exact mon _ _ _ k2 d1
    · exact d2 u hu
/-! ### guards: which judgement, which construct -/
theorem gE {e : Expr} (h : E X e σ H Q) : E X e σ H Q := h
theorem gT {e : Expr} (h : T X e σ H TQ) : T X e σ H TQ := h
theorem gW {e : Expr} (h : W X e σ H TQ) : W X e σ H TQ := h
theorem gAs {R : List V → Hp → Prop} (h : As X es σ H R) : As X es σ H R := h
theorem gS (h : S X st nx rt bk ct σ H) : S X st nx rt bk ct σ H := h
theorem gSs (h : Ss X sts nx rt bk ct σ H) : Ss X sts nx rt bk ct σ H := h
theorem gG {tg : Expr} {R : St → Hp → Prop} (h : G X tg v σ H R) : G X tg v σ H R := h
theorem gGs {ts : List Expr} {vs : List V} {R : St → Hp → Prop} (h : Gs X ts vs σ H R) : Gs X ts vs σ H R := h
theorem gB {op : Operator} {x y : V} (h : Bo X op x y H Q) : Bo X op x y H Q := h
theorem gC {op : CmpOp} {x y : V} (h : Co X op x y H Q) : Co X op x y H Q := h
theorem gU {op : UnaryOp} {x : V} (h : Uo X op x H Q) : Uo X op x H Q := h
theorem gK {f : Value} {vs : List V} (h : C X f vs H Q) : C X f vs H Q := h
theorem gKlen {x : V} (h : C X (.builtin "len") [x] H Q) : C X (.builtin "len") [x] H Q := h
theorem gGt {ts : List Expr} {j : Nat} {q : Addr} {R : St → Hp → Prop} (h : G X (.Tuple ts j pos) (.ref q) σ H R) : G X (.Tuple ts j pos) (.ref q) σ H R := h
theorem gGs2 {i : Expr} {R : St → Hp → Prop} (h : G X (.Subscript o i pos) v σ H R) : G X (.Subscript o i pos) v σ H R := h
theorem gFr {x : V} {f : Str} (h : FldR K x f H Q) : FldR K x f H Q := h
theorem gFs {x y : V} {f : Str} {R : Hp → Prop} (h : FldS K x f y H R) : FldS K x f y H R := h
theorem gBrr {op : Operator} {a b : Addr} (h : Bo X op (.ref a) (.ref b) H Q) : Bo X op (.ref a) (.ref b) H Q := h
theorem gBrrA {a b : Addr} (h : Bo X .Add (.ref a) (.ref b) H Q) : Bo X .Add (.ref a) (.ref b) H Q := h
theorem gBrrS {a b : Addr} (h : Bo X .Sub (.ref a) (.ref b) H Q) : Bo X .Sub (.ref a) (.ref b) H Q := h
theorem gUr {op : UnaryOp} {a : Addr} (h : Uo X op (.ref a) H Q) : Uo X op (.ref a) H Q := h
theorem gKr {f : Value} {a : Addr} {vs : List V} (h : C X f (.ref a :: vs) H Q) : C X f (.ref a :: vs) H Q := h
theorem gKisi {a c : Addr} (h : C X (.builtin "isinstance") [.ref a, .ref c] H Q) : C X (.builtin "isinstance") [.ref a, .ref c] H Q := h
theorem gKabs {a : Addr} (h : C X (.builtin "abs") [.ref a] H Q) : C X (.builtin "abs") [.ref a] H Q := h
theorem gTr {x : V} (h : Tr X x H TQ) : Tr X x H TQ := h
theorem gIx {x y : V} (h : Ix X a b x y H Q) : Ix X a b x y H Q := h
theorem gSt {o i u : V} {R : Hp → Prop} (h : St3 X o i u H R) : St3 X o i u H R := h
theorem gMt {id : String} {x : V} {xs : List V} (h : Mt X id x xs H Q) : Mt X id x xs H Q := h
theorem gBr {q : Bool} {A B : Prop} (h : Br q A B) : Br q A B := h
theorem gName (h : E X (.Name x pos) σ H Q) : E X (.Name x pos) σ H Q := h
theorem gCall {fe : Expr} {kws : List Keyword} (h : E X (.Call fe es kws pos) σ H Q) : E X (.Call fe es kws pos) σ H Q := h
theorem gCallN {kws : List Keyword} (h : E X (.Call (.Name x p) es kws pos) σ H Q) : E X (.Call (.Name x p) es kws pos) σ H Q := h
theorem gCallA {f : Str} {kws : List Keyword} (h : E X (.Call (.Attribute e f p) es kws pos) σ H Q) : E X (.Call (.Attribute e f p) es kws pos) σ H Q := h
theorem gAttr {f : Str} (h : E X (.Attribute e f pos) σ H Q) : E X (.Attribute e f pos) σ H Q := h
theorem gCmp {ops : List CmpOp} (h : E X (.Compare e ops es pos) σ H Q) : E X (.Compare e ops es pos) σ H Q := h
theorem gCmpT {ops : List CmpOp} (h : T X (.Compare e ops es pos) σ H TQ) : T X (.Compare e ops es pos) σ H TQ := h
theorem gAsg {tgs : List Expr} (h : S X (.Assign tgs e pos) nx rt bk ct σ H) : S X (.Assign tgs e pos) nx rt bk ct σ H := h
theorem gAsgN {pos' : Pos} (h : S X (.Assign [.Name x pos'] e pos) nx rt bk ct σ H) : S X (.Assign [.Name x pos'] e pos) nx rt bk ct σ H := h
theorem gAsgA {f : Str} {pos' : Pos} (h : S X (.Assign [.Attribute o f pos'] e pos) nx rt bk ct σ H) : S X (.Assign [.Attribute o f pos'] e pos) nx rt bk ct σ H := h
theorem gAsgP {ts vs : List Expr} {j j' : Nat} {p' p'' : Pos} (h : S X (.Assign [.Tuple ts j p'] (.Tuple vs j' p'') pos) nx rt bk ct σ H) : S X (.Assign [.Tuple ts j p'] (.Tuple vs j' p'') pos) nx rt bk ct σ H := h
theorem sq_l {q : Addr} {xs : List V} (h : H q = some (.lst xs)) : SqL K H q xs := .inl (.inl h)
theorem sq_t {q : Addr} {xs : List V} (h : H q = some (.tup xs)) : SqT K H q xs := .inl (.inl h)
end
end Sx
set_option Elab.async false
set_option linter.all false
set_option maxRecDepth 100000
set_option maxHeartbeats 4000000
/-! SxO: operators of the text's own classes. -/
namespace Sx
open PySem L2

section
variable {X : Cx} {P : Program} {w : World} {K : PySem.W.Frag} {mg : Str → Option Value} {base : Heap} {sc : Scope} {N GL : List Str} {k : Nat} {EX : XK}
variable {σ : St} {H : Hp} {Q : VK} {TQ : Bool → Hp → Prop} {a b Cl dx dy : Addr} {fs gs : List (Str × V)} {j : Nat} {sp : Sp} {m : Str}

/-- a callee runs somewhere below the body -/
theorem run_at {CX : CXT} {f : Addr} {fd : FuncData} {ps : List Str} {E : XK} {pins : List (Addr × Obj)} {s : Shared} {us : List Value} {vs : List V} {A : Around} (F : FnOk X.prog X.w X.K X.mg X.base CX j f fd ps sp) (hr : Room j A) (fr : A.frames = X.A.frames)
    (hb : Binds X.K fd ps []) (hx : Passes CX X E) (I : L2.Inv X pins σ H s) (r : Vals vs us) (h : sp vs H Q E) : wpAny (model X.prog X.w) A (call (.ref f) us) (EP X pins σ Q) X.xe s := by
  have hl : us.length = ps.length := by rw [← r.length]; exact F.len _ _ _ _ h
  have e0 : Env0 X.prog X.w X.K X.mg X.base A X.stack s H := by
    have e := I.env0
    exact ⟨by rw [fr]; exact e.frames, e.mod, e.bs, e.bsz, e.funs, e.frf, e.hok, e.bare⟩
  refine wpAny_call (codeAny_mono (F.run A X.stack s H ⟨us, []⟩ us vs Q E hr e0 (by
    have := hb s us I.kIn (by simpa using hl)
    simpa using this) r h) fun r s' hq => ?_)
  cases r with
  | error e => exact hx pins σ H s e s' I hq
  | ok fl =>
    cases fl with
    | ret u => exact I.after hq
    | next => exact False.elim hq
    | brk => exact False.elim hq
    | cont => exact False.elim hq
theorem ep_cmp {pins : List (Addr × Obj)} {u : Value} {s' : Shared} (h : EP X pins σ Q u s') : PySem.W.CmpBack (EP X pins σ Q) u s' := by
  obtain ⟨v, H', I, r, q⟩ := id h
  cases v with
  | non => cases r; exact h
  | bl b => cases r; exact h
  | int i => obtain ⟨t, rfl⟩ := r; exact h
  | str i => obtain ⟨t, rfl⟩ := r; exact h
  | byt i => obtain ⟨t, rfl⟩ := r; exact h
  | flt i => obtain ⟨t, rfl⟩ := r; exact h
  | ref i => cases r; exact h
  | ty i => cases r; exact h
/-- an instance of the heap, for the library's rules -/
theorem inst_at {pins : List (Addr × Obj)} {s : Shared} (I : L2.Inv X pins σ H s) (h : H a = some (.ins Cl dx fs)) : ∃ od, PySem.W.InstAt s.heap a (PySem.W.instObj Cl dx) Cl (some od) := by
  obtain ⟨mA, J, _⟩ := ins_get I.hok h
  obtain ⟨od, J, _⟩ := J.look
  exact ⟨od, J⟩
/-- a op b, both instances of one class -/
theorem b_own {op : Operator} (xk : Xk X P w K mg base sc N GL k EX) (D : Dm P w K mg base Cl m j sp) (hj : j ≤ k) (hc : PySem.W.selfFirst K Cl = true) (ha : H a = some (.ins Cl dx fs)) (hb : H b = some (.ins Cl dy gs)) (h : sp [.ref a, .ref b] H Q EX)
    (hn : PySem.dunder op.info.2 = m := by rfl) : Bo X op (.ref a) (.ref b) H Q := by
  obtain ⟨f, fd, ps, F, hm, bb⟩ := D
  obtain ⟨rfl, rfl, rfl, rfl, rfl, -, -, -, gl, -, room, -, tk, -, -⟩ := xk
  refine ⟨fun pins s σ v u I rx ry => ?_⟩
  cases rx
  cases ry
  obtain ⟨m', hF⟩ := I.fr
  obtain ⟨od, J⟩ := inst_at I ha
  obtain ⟨od', J'⟩ := inst_at I hb
  refine PySem.W.binop_K hF I.ok.mod.kin J J'.type hc (by rw [hn]; exact hm.at_) hm.fn ?_
  exact wpAny_mono (run_at F (room.mono hj) rfl bb (passes_call tk fun _ _ _ _ z => z) I (vs := [.ref a, .ref b]) (.cons rfl (.cons rfl .nil)) h) (fun _ _ z => ep_cmp z) fun _ _ z => z
theorem u_own_neg (xk : Xk X P w K mg base sc N GL k EX) (D : Dm P w K mg base Cl "__neg__" j sp) (hj : j ≤ k) (ha : H a = some (.ins Cl dx fs)) (h : sp [.ref a] H Q EX) : Uo X .USub (.ref a) H Q := by
  obtain ⟨f, fd, ps, F, hm, bb⟩ := D
  obtain ⟨rfl, rfl, rfl, rfl, rfl, -, -, -, gl, -, room, -, tk, -, -⟩ := xk
  refine ⟨fun pins s σ v I rx => ?_⟩
  cases rx
  obtain ⟨m', hF⟩ := I.fr
  obtain ⟨od, J⟩ := inst_at I ha
  exact PySem.W.ksp_neg hF I.ok.mod.kin J hm.at_ hm.fn (run_at F (room.mono hj) rfl bb (passes_call tk fun _ _ _ _ z => z) I (vs := [.ref a]) (.cons rfl .nil) h)
theorem k_own_abs (xk : Xk X P w K mg base sc N GL k EX) (D : Dm P w K mg base Cl "__abs__" j sp) (hj : j + 1 ≤ k) (ha : H a = some (.ins Cl dx fs)) (h : sp [.ref a] H Q EX) : C X (.builtin "abs") [.ref a] H Q := by
  obtain ⟨f, fd, ps, F, hm, bb⟩ := D
  obtain ⟨rfl, rfl, rfl, rfl, rfl, -, -, -, gl, -, room, -, tk, -, -⟩ := xk
  refine ⟨fun pins s σ us I r => ?_⟩
  obtain ⟨u, rfl, rx⟩ := vals1 r
  cases rx
  obtain ⟨m', hF⟩ := I.fr
  obtain ⟨od, J⟩ := inst_at I ha
  refine Calls.call_function_entry PyProof.Rows.kind_abs PyProof.Rows.plain_abs PyProof.Rows.entry_abs (PyProof.Rows.args_abs _) ?_
  unfold Builtin.«abs»
  refine wpAny_bind (m := oneArg "abs" _) (wpAny_pure ?_)
  refine wpAny_bind (m := callSpecial? (.ref a) (Str.ofString "__abs__")) (PySem.W.special_fn I.kIn J hm.at_ (beq_iff_eq.mp hm.fn) (wpAny_mono (run_at F (room.mono hj).in1 rfl bb (passes_call tk fun _ _ _ _ z => z) I (vs := [.ref a]) (.cons rfl .nil) h) (fun v s' z => ?_) fun _ _ z => z))
  exact wpAny_pure ⟨_, rfl, z⟩
/-! ### keywords -/
structure Ks (X : Cx) (kws : List Keyword) (σ : St) (H : Hp) (R : List V → Hp → Prop) : Prop where
  run : ∀ (pos : Pos) (pins : List (Addr × Obj)) (s : Shared), L2.Inv X pins σ H s → wpAny (model X.prog X.w) X.A (evalAll ((backToKw pos (keywordEach kws X.env)).map (·.2))) (AP X pins σ R) X.xe s
theorem pks {kws : List Keyword} : PK X kws (fun σ H Q => Ks X kws σ H Q) := ⟨fun pos pins s _ _ _ I h => h.run pos pins s I⟩
theorem Ks.of {kws : List Keyword} {t : TA} {R : List V → Hp → Prop} (h : PK X kws t) (q : t σ H R) : Ks X kws σ H R := ⟨fun pos pins s I => h.run pos pins s σ H R I q⟩
theorem ks_nil {R : List V → Hp → Prop} (h : R [] H) : Ks X [] σ H R := .of pk_nil h
theorem ks_cons {e : Expr} {nm : Option Str} {kpos : Pos} {kws : List Keyword} {R : List V → Hp → Prop} (h : E X e σ H fun x H1 => Ks X kws σ H1 fun xs H2 => R (x :: xs) H2) : Ks X (⟨nm, e, kpos⟩ :: kws) σ H R := .of (pk_cons pe pks) h
theorem Ks.mono {kws : List Keyword} {R R' : List V → Hp → Prop} (h : Ks X kws σ H R) (i : ∀ v H, R v H → R' v H) : Ks X kws σ H R' := ⟨fun pos pins s I => wpAny_mono (h.run pos pins s I) (fun _ _ ⟨v, H', I', r, q⟩ => ⟨v, H', I', r, i _ _ q⟩) fun _ _ z => z⟩
/-- a class that is made by keywords alone -/
def Dck (P : Program) (w : World) (K : PySem.W.Frag) (mg : Str → Option Value) (base : Heap) (x : Str) (Cl : Addr) (ks : List Str) (j : Nat) (sp : Sp) : Prop :=
  ∃ (f : Addr) (fd : FuncData) (ps : List Str), FnOk P w K mg base (L2.CX P w) j f fd ps sp ∧ mg x = some (.ref Cl) ∧ Mk K Cl f ∧ KBn K fd ps 1 ks (fun us ws => us ++ ws) (fun vs zs => vs ++ zs)
theorem kb_of {x qual : Str} {st : Stmt} {f : Addr} {fd : FuncData} {ps ks : List Str} (F : Fun K x qual st f fd)
    (h : ∀ (kV doc pm : Value) (an : Option Addr) (cdv ct : Value) (us ws : List Value), us.length = 1 → ws.length = ks.length → bindArgs (PySem.W.fnOf x qual (defArgs st) (defBody st) (defScope st) .none kV doc pm an cdv ct) ⟨us, ks.zip ws⟩ = pure (ps.zip (us ++ ws))) :
    KBn K fd ps 1 ks (fun us ws => us ++ ws) (fun vs zs => vs ++ zs) := by
  obtain ⟨oc, od, kV, doc, pm, an, cdv, ct, osl, rfl, lk, hcd⟩ := F.ex
  exact ⟨fun s us ws _ l1 l2 => .of_eq (h kV doc pm an cdv ct us ws l1 l2), fun r1 r2 => r1.append r2⟩
theorem e_makeK {x : Str} {p pos : Pos} {kws : List Keyword} {ks : List Str} (xk : Xk X P w K mg base sc N GL k EX) (hg : x ∈ GL) (D : Dck P w K mg base x Cl ks j sp) (hj : j + 1 ≤ k)
    (h : Ks X kws σ H fun zs H1 => zs.length = ks.length ∧ ∀ x dx H2, H1 x = none → H1 dx = none → dx ≠ x → Kp [] H1 H2 → H2 x = some (.ins Cl dx []) → sp (.ref x :: zs) H2 (fun v H3 => v = .non ∧ Q (.ref x) H3) EX)
    (hall : (backToKw pos (keywordEach kws X.env)).all (·.1.isSome) = true := by rfl) (hks : (backToKw pos (keywordEach kws X.env)).filterMap (·.1) = ks := by rfl)
    (hpl : ((backTo pos (starEach [] X.env)).any (·.1) || (backToKw pos (keywordEach kws X.env)).any (·.1.isNone)) = false := by rfl) : E X (.Call (.Name x p) [] kws pos) σ H Q := by
  obtain ⟨f, fd, ps, F, hm, M, b⟩ := D
  obtain ⟨rfl, rfl, rfl, rfl, rfl, -, -, -, gl, -, room, -, tk, -, -⟩ := xk
  refine .of (pe_makeK0 M F (room.mono hj) (gl x hg).1 hm b (passes_call tk fun _ _ _ _ z => z) pks hall hks (gl x hg).2.1 hpl) (h.mono fun zs H1 ⟨l, z⟩ => ?_)
  refine ⟨rfl, l, fun x dx n1 n2 n3 => z x dx _ n1 n2 n3 ?_ upd_same⟩
  exact (kp_new n2).trans (kp_new (by rw [upd_ne n3.symm]; exact n1))
end
end Sx
set_option Elab.async false
set_option linter.all false
set_option maxRecDepth 100000
set_option maxHeartbeats 4000000
/-! SxM: own times int, int times own. -/
namespace Sx
open PySem L2


section
variable {X : Cx} {P : Program} {w : World} {K : PySem.W.Frag} {mg : Str → Option Value} {base : Heap} {sc : Scope} {N GL : List Str} {k : Nat} {EX : XK}
variable {σ : St} {H : Hp} {Q : VK} {TQ : Bool → Hp → Prop} {a b Cl dx dy : Addr} {fs gs : List (Str × V)} {j : Nat} {sp : Sp} {m : Str}

/-- own * int -/
theorem b_ownT {op : Operator} {i : Int} {fo ro rc : Option Value} (xk : Xk X P w K mg base sc N GL k EX) (D : Dm P w K mg base Cl m j sp) (hj : j ≤ k) (hc : PySem.W.selfFirst K Cl = true) (hr : PySem.W.findIn K (.ref Cl) (PySem.dunderR op.info.2) = some rc) (hp : rc = none ∨ ∃ g : Addr, rc = some (.ref g))
    (h1 : PySem.W.findIn K (.type "int") (PySem.dunder op.info.2) = some fo) (h2 : PySem.W.findIn K (.type "int") (PySem.dunderR op.info.2) = some ro) (hsub : PySem.W.subIn K (.type "int") (.ref Cl) = some false)
    (ha : H a = some (.ins Cl dx fs)) (h : sp [.ref a, .int i] H Q EX) (hn : PySem.dunder op.info.2 = m := by rfl) : Bo X op (.ref a) (.int i) H Q := by
  obtain ⟨f, fd, ps, F, hm, bb⟩ := D
  obtain ⟨rfl, rfl, rfl, rfl, rfl, -, -, -, gl, -, room, -, tk, -, -⟩ := xk
  refine ⟨fun pins s σ v u I rx ry => ?_⟩
  cases rx
  obtain ⟨t, rfl⟩ := id ry
  obtain ⟨m', hF⟩ := I.fr
  obtain ⟨od, J⟩ := inst_at I ha
  refine PySem.W.ksp_binT (T := "int") hF I.ok.mod.kin J rfl hc (by rw [hn]; exact hm.at_) hm.fn hr hp h1 h2 hsub ?_
  exact wpAny_mono (run_at F (room.mono hj) rfl bb (passes_call tk fun _ _ _ _ z => z) I (vs := [.ref a, .int i]) (.cons rfl (.cons ry .nil)) h) (fun _ _ z => ep_cmp z) fun _ _ z => z
theorem int_mul_inst (i : Int) (t : Tok) (x C d0 : Addr) : Meets (Builtin.«int.__mul__» ⟨[.int i t, .ref x], []⟩) (fun _ R s => s.heap.get? x = some (PySem.W.instObj C d0) ∧ R (.ok (.ret Value.notImplemented)) s) :=
  .of_wp fun prog w A R s h => by obtain ⟨hp, g, d, tk, os⟩ := s; obtain ⟨hl, h⟩ := h; simp only [PySem.W.instObj] at hl; wp_walk; exact ⟨_, rfl, h⟩
/-- int * own -/
theorem b_ownR {i : Int} {g : Addr} (xk : Xk X P w K mg base sc N GL k EX) (D : Dm P w K mg base Cl "__rmul__" j sp) (hj : j ≤ k) (hc : PySem.W.selfFirst K Cl = true) (hg : PySem.W.findIn K (.ref Cl) "__mul__" = some (some (.ref g)))
    (h1 : PySem.W.findIn K (.type "int") "__mul__" = some (some (.builtin "int.__mul__"))) (h2 : PySem.W.findIn K (.type "int") "__rmul__" = some (some (.builtin "int.__rmul__"))) (hsub : PySem.W.subIn K (.ref Cl) (.type "int") = some false)
    (ha : H a = some (.ins Cl dx fs)) (h : sp [.ref a, .int i] H Q EX) : Bo X .Mult (.int i) (.ref a) H Q := by
  obtain ⟨f, fd, ps, F, hm, bb⟩ := D
  obtain ⟨rfl, rfl, rfl, rfl, rfl, -, -, -, gl, -, room, -, tk, -, -⟩ := xk
  refine ⟨fun pins s σ v u I rx ry => ?_⟩
  cases ry
  obtain ⟨t, rfl⟩ := id rx
  have hx := (ins_get I.hok ha).choose_spec.1.obj
  obtain ⟨m', hF⟩ := I.fr
  obtain ⟨od, J⟩ := inst_at I ha
  have run := wpAny_mono (run_at F (room.mono hj) rfl bb (passes_call tk fun _ _ _ _ z => z) I (vs := [.ref a, .int i]) (.cons rfl (.cons rx .nil)) h) (fun _ _ z => ep_cmp z) fun _ _ z => z
  have one := PySem.W.ksp_try I.kIn J hm.at_ hm.fn run
  have X' := I.kIn
  obtain ⟨cd, rest, hcd, hmr⟩ := PySem.W.ksp_first hc
  have e1 : PySem.dunder "mul" = ("__mul__" : Str) := by decide +kernel
  have e2 : PySem.dunderR "mul" = ("__rmul__" : Str) := by decide +kernel
  obtain ⟨hh, gg, d, tt, os⟩ := s
  have L1 : PySem.W.Looks (model X.prog X.w) hh (typeOf (.int i t)) (.type "int") := PySem.W.Looks.of_pure rfl
  have L2 : PySem.W.Looks (model X.prog X.w) hh (typeOf (.ref a)) (.ref Cl) := J.type
  have L3 : PySem.W.Looks (model X.prog X.w) hh (fillsNumberSlot (.type "int") "mul") true := PySem.W.ksp_fillsT X' (by rw [e1]; exact h1) (by rw [e2]; exact h2)
  have L4 : PySem.W.Looks (model X.prog X.w) hh (fillsNumberSlot (.ref Cl) "mul") true := PySem.W.fills_K X' hcd hmr (by rw [e1]; exact hg)
  have L5 : PySem.W.Looks (model X.prog X.w) hh (isSubtype (.ref Cl) (.type "int")) false := PySem.W.looks_subIn X' hsub
  have L6 : PySem.W.Looks (model X.prog X.w) hh (numberSlotInPython (.type "int") "mul") false := PySem.W.Looks.of_pure rfl
  have hne : (Value.type "int" == Value.ref Cl) = false := Bool.eq_false_iff.mpr fun q => by cases beq_iff_eq.mp q
  unfold binaryOp
  refine wpAny_holding (wpAny_bind ?_)
  show wpAny _ _ (binaryOp1 "mul" _ _) _ _ _
  unfold binaryOp1
  refine wpAny_bind (L1.at (wpAny_bind (L2.at (wpAny_bind (L3.at ?_)))))
  simp only [hne, Bool.false_eq_true, if_false]
  refine wpAny_bind (L4.at ?_)
  ksp_lk
  have sl : Slot "int" (PySem.dunder "mul") "int.__mul__" := by rw [e1]; exact PySem.F.slot_int_mul
  have key : wpAny (model X.prog X.w) X.A (call (.builtin "int.__mul__") [.int i t, .ref a]) (fun v s' => v = .notImplemented ∧ s' = ⟨hh, gg, d, tt, os⟩) X.xe ⟨hh, gg, d, tt, os⟩ :=
    call_meets PySem.F.slot_int_mul (typeIs_int _ _ _) PySem.F.entry_int_mul (PySem.F.args_int_mul_2 _ _) (int_mul_inst i t a Cl dx) ⟨hx, rfl, rfl⟩
  have step : ∀ Q0 : Option Value → Shared → Prop, Q0 none ⟨hh, gg, d, tt, os⟩ → wpAny (model X.prog X.w) X.A (tryMethod (.int i t) (PySem.dunder "mul") (.ref a)) Q0 X.xe ⟨hh, gg, d, tt, os⟩ := fun Q0 h0 => by
    refine wpAny_tryMethod_declines (T := "int") (id := "int.__mul__") ?_ ?_ ?_
    · exact typeIs_int _ _ _
    · exact sl
    · exact wpAny_mono key (fun v s' hv => ⟨hv.1, by rw [hv.2]; exact h0⟩) fun _ _ e => e
  refine step _ ?_
  ksp_lk
  rw [e2]
  refine wpAny_mono one (fun r s' hr' => ?_) fun _ _ e => e
  obtain ⟨v, rfl, hq⟩ := hr'
  ksp_lk
  exact hq
end
end Sx
namespace Sx
open PySem L2
/-! ### the walker's words -/
local macro_rules | `(tactic| wtm_at "ne") => `(tactic| first
  | with_reducible assumption
  | exact Ne.symm (by with_reducible assumption)
  | exact ne_fresh (by with_reducible assumption) (by wtm_at "look")
  | exact Ne.symm (ne_fresh (by with_reducible assumption) (by wtm_at "look"))
  | fail)
local macro_rules | `(tactic| wtm_at "ni") => `(tactic| first
  | with_reducible assumption
  | exact ni_nil
  | exact ni_cons (by wtm_at "ne") (by wtm_at "ni")
  | fail)
local macro_rules | `(tactic| wtm_at "look") => `(tactic| first
  | with_reducible assumption
  | exact Kp.get0 (by with_reducible assumption) (by wtm_at "look")
  | exact Kp.getC (by with_reducible assumption) (by wtm_at "look") (by wtm_at "ni")
  | fail)
local macro_rules | `(tactic| wtm_at "sql") => `(tactic| first
  | with_reducible assumption
  | exact sq_l (by wtm_at "look")
  | exact Kp.seqL0 (by with_reducible assumption) (by wtm_at "sql")
  | exact Kp.seqLC (by with_reducible assumption) (by wtm_at "sql") (by wtm_at "ni")
  | fail)
local macro_rules | `(tactic| wtm_at "sqt") => `(tactic| first
  | with_reducible assumption
  | exact sq_t (by wtm_at "look")
  | exact Kp.seqT0 (by with_reducible assumption) (by wtm_at "sqt")
  | exact Kp.seqTC (by with_reducible assumption) (by wtm_at "sqt") (by wtm_at "ni")
  | fail)
local macro_rules | `(tactic| wtm_at "kp") => `(tactic| first
  | exact Kp.refl
  | with_reducible assumption
  | exact Kp.tr (by with_reducible assumption) (by wtm_at "kp")
  | exact Kp.trC (by with_reducible assumption) (by wtm_at "kp")
  | fail)
local macro_rules | `(tactic| wtm_at "mem") => `(tactic| first
  | with_reducible exact mem_hd
  | (with_reducible refine mem_tl ?_; wtm_at "mem")
  | fail)
local macro_rules | `(tactic| wtm_at "get") => `(tactic| first
  | with_reducible exact Get.here
  | (with_reducible apply Get.there; wtm_at "get")
  | fail)
local macro_rules | `(tactic| wtm_at "set") => `(tactic| first
  | with_reducible exact SetF.here
  | (with_reducible apply SetF.there; wtm_at "set")
  | fail)
local macro_rules | `(tactic| wtm_at "put") => `(tactic| first
  | with_reducible exact PutR.nil
  | with_reducible exact PutR.here
  | (with_reducible apply PutR.there (by decide +kernel); wtm_at "put")
  | fail)
local macro_rules | `(tactic| wtm_at "lk") => `(tactic| first
  | with_reducible exact lk_here
  | (with_reducible apply lk_there (by decide +kernel); wtm_at "lk")
  | fail)
local macro_rules | `(tactic| wtm_at "lkn") => `(tactic| first
  | exact lkn_nil
  | (with_reducible apply lkn_there (by decide +kernel); wtm_at "lkn")
  | fail)
local macro_rules | `(tactic| wtm_at "lset") => `(tactic| first
  | exact LSet.here
  | (apply LSet.there; wtm_at "lset")
  | fail)
local macro_rules | `(tactic| wtm_at "start") => `(tactic| first
  | exact Start.done
  | (apply Start.val; wtm_at "start")
  | (apply Start.non; wtm_at "start")
  | fail)
local macro_rules | `(tactic| wtm_at "sz") => `(tactic| first
  | exact Nat.le_of_ble_eq_true rfl
  | omega
  | fail)
local macro_rules | `(tactic| wtm_at "sN") => `(tactic| first
  | refine e_var (by with_reducible assumption) (by wtm_at "get") ?_
  | refine e_cls (by with_reducible assumption) (by wtm_at "mem") (by with_reducible assumption) ?_
  | refine e_bty (by with_reducible assumption) (by wtm_at "mem") (by with_reducible assumption) ?_
  | fail)
local macro_rules | `(tactic| wtm_at "sF") => `(tactic| first
  | refine e_callB (by with_reducible assumption) (by wtm_at "mem") (by with_reducible assumption) ?_
  | refine e_callT (by with_reducible assumption) (by wtm_at "mem") (by with_reducible assumption) ?_
  | refine e_call (by with_reducible assumption) (by wtm_at "mem") (by with_reducible assumption) (by decide) ?_
  | fail)
local macro_rules | `(tactic| wtm_at "sM") => `(tactic| fail)
local macro_rules | `(tactic| wtm_at "sE") => `(tactic| first
  | (refine gName ?_; wtm_at "sN")
  | refine e_int ?_
  | refine e_sub ?_
  | refine e_bin ?_
  | (refine gCallN ?_; wtm_at "sF")
  | (refine gCallA ?_; wtm_at "sM")
  | (refine gAttr ?_; refine e_fld (by with_reducible assumption) ?_)
  | refine e_str ?_
  | refine e_bl ?_
  | refine e_non ?_
  | refine e_neg ?_
  | refine e_notV ?_
  | refine e_if ?_
  | refine e_lst ?_
  | refine e_tup ?_
  | (refine gCmp ?_; first | refine e_cmp (nomark _) ?_ | refine e_cmp rfl ?_ | refine e_chain ?_)
  | refine e_one ?_
  | refine e_and ?_
  | refine e_or ?_
  | fail)
local macro_rules | `(tactic| wtm_at "sT") => `(tactic| first
  | (refine gCmpT ?_; first | refine t_cmp (nomark _) ?_ | refine t_cmp rfl ?_ | refine t_chain ?_)
  | refine t_not ?_
  | refine t_and ?_
  | refine t_or ?_
  | refine t_val ?_
  | fail)
local macro_rules | `(tactic| wtm_at "sW") => `(tactic| first
  | refine w_and ?_
  | refine w_or ?_
  | refine w_and1 ?_
  | refine w_or1 ?_
  | fail)
local macro_rules | `(tactic| wtm_at "sB") => `(tactic| first
  | refine b_add ?_
  | refine b_sub ?_
  | refine b_mul (by first | exact mul_ok_r ⟨by omega, by omega⟩ | exact mul_ok_l ⟨by omega, by omega⟩) ?_
  | refine b_mod (by omega) ?_
  | refine b_pow18 ?_
  | refine b_pow9 ?_
  | refine b_pow30 ?_
  | refine b_fdiv (cdiv_of (by omega) (by omega)) ?_
  | fail)
local macro_rules | `(tactic| wtm_at "sC") => `(tactic| first
  | refine c_lt ?_
  | refine c_le ?_
  | refine c_gt ?_
  | refine c_ge ?_
  | refine c_eqI ?_
  | refine c_neI ?_
  | refine c_isN ?_
  | refine c_notN ?_
  | fail)
local macro_rules | `(tactic| wtm_at "sK") => `(tactic| first
  | refine k_int ?_
  | refine k_intB ?_
  | refine k_boolB ?_
  | refine k_abs ?_
  | (refine gKlen ?_; first | refine k_lenL (by with_reducible assumption) (by wtm_at "sql") ?_ | refine k_lenT (by with_reducible assumption) (by wtm_at "sqt") ?_)
  | refine k_ii (by with_reducible assumption) ?_
  | refine k_ib (by with_reducible assumption) ?_
  | fail)
local macro_rules | `(tactic| wtm_at "sS") => `(tactic| first
  | refine s_ret ?_
  | refine s_if ?_
  | (refine gAsgN ?_; refine s_set (by with_reducible assumption) (by wtm_at "set") ?_)
  | (refine gAsgA ?_; refine s_fld (by with_reducible assumption) ?_)
  | (refine gAsgP ?_; refine s_par (by with_reducible assumption) (by wtm_at "set") (by intro _; wtm_at "set") (by decide +kernel) (by decide +kernel) (by decide +kernel) (fun _ _ _ _ => rfl) ?_)
  | (refine gAsgP ?_; refine s_par3 (by with_reducible assumption) (by wtm_at "set") (by intro _; wtm_at "set") (by intro _ _; wtm_at "set") (by decide +kernel) (by decide +kernel) (by decide +kernel) (by decide +kernel) (by decide +kernel) (by decide +kernel) (fun _ _ _ _ => rfl) ?_)
  | (refine gAsg ?_; refine s_asg ?_)
  | refine s_expr ?_
  | refine s_pass ?_
  | fail)
local macro_rules | `(tactic| wtm_at "sG") => `(tactic| first
  | refine g_name (by with_reducible assumption) (by wtm_at "set") ?_
  | (refine gGt ?_; refine g_tup (by with_reducible assumption) (by wtm_at "sqt") rfl ?_)
  | (refine gGs2 ?_; refine g_sub ?_)
  | fail)
local macro_rules | `(tactic| wtm_at "sI") => `(tactic| first
  | refine ix_l (by with_reducible assumption) (fun _ _ => rfl) (by wtm_at "sql") (by first | with_reducible assumption | rfl) ?_
  | refine ix_t (by with_reducible assumption) (fun _ _ => rfl) (by wtm_at "sqt") (by first | with_reducible assumption | rfl) ?_
  | fail)
local macro_rules | `(tactic| wtm_at "sR") => `(tactic| first
  | refine br_t ?_
  | refine br_f ?_
  | refine br_n ?_
  | fail)
local macro_rules | `(tactic| wtm_at "sX") => `(tactic| first
  | (refine gFr ?_; refine ex_fld (by wtm_at "look") (by with_reducible assumption) (by with_reducible assumption) (by wtm_at "lk") ?_)
  | (refine gFs ?_; refine ex_put (by wtm_at "look") (by with_reducible assumption) (by with_reducible assumption) (Nat.lt_of_ble_eq_true' rfl) (by wtm_at "put") (fun _ _ _ => ?_))
  | refine new_tup (by wtm_at "sz") (fun _ _ _ _ _ => ?_)
  | refine new_lst (by wtm_at "sz") (fun _ _ _ _ _ => ?_)
  | refine ex_bl ?_
  | fail)
local macro_rules | `(tactic| wtm_at "s") => `(tactic| first
  | (refine gE ?_; wtm_at "sE")
  | (refine gAs ?_; first | refine as_nil ?_ | refine as_cons ?_)
  | (refine gB ?_; wtm_at "sB")
  | (refine gK ?_; with_reducible wtm_at "sK")
  | (refine gIx ?_; wtm_at "sI")
  | (refine gT ?_; wtm_at "sT")
  | (refine gC ?_; wtm_at "sC")
  | (refine gS ?_; wtm_at "sS")
  | (refine gSs ?_; first | refine ss_one ?_ | refine ss_cons ?_ | refine ss_nil ?_)
  | (refine gBr ?_; wtm_at "sR")
  | (refine gW ?_; wtm_at "sW")
  | (refine gU ?_; refine u_neg ?_)
  | (refine gG ?_; wtm_at "sG")
  | (refine gGs ?_; first | refine gs_cons ?_ | refine gs_nil ?_)
  | (refine gSt ?_; refine st_lL (by wtm_at "look") rfl (by wtm_at "lset") (fun _ _ _ => ?_))
  | (refine gTr ?_; refine tr_bl ?_)
  | wtm_at "sX"
  | fail)
local macro_rules | `(tactic| wtm_at "go") => `(tactic| repeat' (wtm_at "s"))
def topS (i : Nat) : Stmt := PySem.Challenge.pw_strayfiles_k02_spans_multiplied.main.body.getD i (.Pass ⟨0, 0, 0, 0⟩)
/-! ### the law's draws -/
abbrev sBag : Stmt := topS 4
abbrev sTake : Stmt := topS 5
abbrev sNum : Stmt := topS 6
abbrev sIsN : Stmt := topS 7
abbrev sIsS : Stmt := topS 8
abbrev sRight : Stmt := topS 9
abbrev sLaw : Stmt := topS 10
theorem sc_bag : FnScope ["_law_script", "_law_at", "_law_cell"] ["_law_script", "_law_at"] (defScope sBag) := ⟨rfl, rfl, rfl, by decide +kernel, rfl, by decide +kernel, by decide +kernel⟩
theorem sc_take : FnScope ["_law_bag_here", "_law_many", "_law_digit", "_law_mixed"] ["_law_bag_here", "_law_many"] (defScope sTake) := ⟨rfl, rfl, rfl, by decide +kernel, rfl, by decide +kernel, by decide +kernel⟩
theorem sc_num : FnScope ["_law_bag_here", "_law_size", "_law_number_here"] ["_law_bag_here"] (defScope sNum) := ⟨rfl, rfl, rfl, by decide +kernel, rfl, by decide +kernel, by decide +kernel⟩
theorem sc_isN : FnScope ["_law_thing", "_law_due"] ["_law_thing", "_law_due"] (defScope sIsN) := ⟨rfl, rfl, rfl, by decide +kernel, rfl, by decide +kernel, by decide +kernel⟩
theorem sc_isS : FnScope ["_law_thing", "_law_due"] ["_law_thing", "_law_due"] (defScope sIsS) := ⟨rfl, rfl, rfl, by decide +kernel, rfl, by decide +kernel, by decide +kernel⟩
def Bag (H : Hp) (b : Addr) : Prop := ∃ x y z : Int, H b = some (.lst [.int x, .int y, .int z])
def spBag (K : PySem.W.Frag) : Sp := fun vs H Q _ => ∃ (a : Addr) (i : Int) (ns : List Int), vs = [.ref a, .int i] ∧ SqL K H a (ns.map V.int) ∧ 0 ≤ i ∧ ∀ p H', H p = none → Kp [] H H' → Bag H' p → Q (.ref p) H'
def spTake : Sp := fun vs H Q _ => ∃ (b : Addr) (n : Int), vs = [.ref b, .int n] ∧ Bag H b ∧ 0 < n ∧ n ≤ 10000000000000000000000000000000 ∧ ∀ (r : Int) (H' : Hp), 0 ≤ r → r < n → Kp [b] H H' → Bag H' b → Q (.int r) H'
def spNum : Sp := fun vs H Q _ => ∃ (b : Addr), vs = [.ref b] ∧ Bag H b ∧ ∀ (r : Int) (H' : Hp), -1000000000000000000000000000000 < r → r < 1000000000000000000000000000000 → Kp [b] H H' → Bag H' b → Q (.int r) H'
def spIsN : Sp := fun vs H Q _ => ∃ (n m : Int), vs = [.int n, .int m] ∧ Q (.bl (decide (n = m))) H
section
variable {P : Program} {w : World} {K : PySem.W.Frag} {mg : Str → Option Value} {base : Heap}
theorem at_ints {ns : List Int} {i : Int} (h0 : 0 ≤ i) (h1 : i < (ns.length : Int)) : ∃ c : Int, atI (ns.map V.int) i = some (.int c) := by
  have hl : i.toNat < ns.length := by omega
  refine ⟨ns[i.toNat], ?_⟩
  refine at_of (j := i.toNat) (by omega) ?_
  rw [List.getElem?_map, List.getElem?_eq_getElem hl]
  rfl
theorem ok_bag {f : Addr} {fd : FuncData} (F : Fun K "_law_bag" "_law_bag" sBag f fd) (b_len : Bi mg "len" (.builtin "len")) (b_abs : Bi mg "abs" (.builtin "abs")) (b_int : Bi mg "int" (.type "int")) :
    FnOk P w K mg base (L2.CX P w) 1 f fd ["_law_script", "_law_at"] (spBag K) := by
  refine fun_go ["len", "abs", "int"] F sc_bag (by decide +kernel) (fun vs H Q E h => ?_) fun X H vs Q E xk h => ?_
  · obtain ⟨a, i, ns, rfl, _⟩ := h
    rfl
  · obtain ⟨a, i, ns, rfl, hS, h0, q⟩ := h
    refine start_go (by wtm_at "start") ?_
    wtm_at "s"; wtm_at "s"
    refine Sx.E.mono (Q := fun v H' => (∃ c : Int, v = .int c) ∧ H' = H) ?_ fun v H1 hv => ?_
    · wtm_at "go"
      refine br_d (fun hi => ?_) (fun hi => ?_)
      · wtm_at "go"
        rw [List.length_map] at hi
        obtain ⟨c, hc⟩ := at_ints h0 hi
        wtm_at "go"
        exact ⟨⟨c, rfl⟩, rfl⟩
      · wtm_at "go"
        exact ⟨⟨i, rfl⟩, rfl⟩
    · obtain ⟨⟨c, rfl⟩, rfl⟩ := hv
      wtm_at "s"; wtm_at "s"; wtm_at "s"; wtm_at "s"
      refine Sx.E.mono (Q := fun v H' => (∃ c : Int, v = .int c) ∧ H' = H1) ?_ fun v H2 hv => ?_
      · wtm_at "go"
        refine br_any (fun hi => ?_) (fun hi => ?_)
        · wtm_at "go"
          exact ⟨⟨_, rfl⟩, rfl⟩
        · wtm_at "go"
          exact ⟨⟨_, rfl⟩, rfl⟩
      · obtain ⟨⟨d, rfl⟩, rfl⟩ := hv
        wtm_at "go"
        exact q _ _ (by assumption) (by wtm_at "kp") ⟨_, _, _, by assumption⟩
theorem ok_take {f : Addr} {fd : FuncData} (F : Fun K "_law_take" "_law_take" sTake f fd) (b_int : Bi mg "int" (.type "int")) : FnOk P w K mg base (L2.CX P w) 1 f fd ["_law_bag_here", "_law_many"] spTake := by
  refine fun_go ["int"] F sc_take (by decide +kernel) (fun vs H Q E h => ?_) fun X H vs Q E xk h => ?_
  · obtain ⟨b, n, rfl, _⟩ := h
    rfl
  · obtain ⟨b, n, rfl, ⟨x, y, z, hb⟩, h0, h1, q⟩ := h
    refine start_go (by wtm_at "start") ?_
    wtm_at "go"
    refine br_d (fun hx => ?_) (fun hx => ?_)
    · wtm_at "go"
      exact q _ _ (Int.emod_nonneg _ (by omega)) (Int.emod_lt_of_pos _ h0) (by wtm_at "kp") ⟨_, _, _, by assumption⟩
    · wtm_at "go"
      exact q _ _ (Int.emod_nonneg _ (by omega)) (Int.emod_lt_of_pos _ h0) (by wtm_at "kp") ⟨_, _, _, by assumption⟩
theorem pick4 {r : Int} (h0 : 0 ≤ r) (h1 : r < 4) : ∃ s : Int, atI [V.int 4, V.int 100, V.int 1000000000, V.int 1000000000000000000000000000000] r = some (.int s) ∧ 0 < s ∧ s ≤ 1000000000000000000000000000000 := by
  have e : r = 0 ∨ r = 1 ∨ r = 2 ∨ r = 3 := by omega
  rcases e with rfl | rfl | rfl | rfl
  · exact ⟨4, rfl, by decide, by decide⟩
  · exact ⟨100, rfl, by decide, by decide⟩
  · exact ⟨1000000000, rfl, by decide, by decide⟩
  · exact ⟨1000000000000000000000000000000, rfl, by decide, by decide⟩
theorem call_take {b : Addr} {n : Int} {H : Hp} {Q : VK} {EX : XK} (hb : Bag H b) (h0 : 0 < n) (h1 : n ≤ 10000000000000000000000000000000) (h : ∀ (r : Int) (H' : Hp), 0 ≤ r → r < n → Kp [b] H H' → Bag H' b → Q (.int r) H') : spTake [.ref b, .int n] H Q EX :=
  ⟨b, n, rfl, hb, h0, h1, h⟩
theorem Bag.kp {H H' : Hp} {b : Addr} (h : Bag H b) (k : Kp [] H H') : Bag H' b := let ⟨x, y, z, h⟩ := h; ⟨x, y, z, k.get0 h⟩
theorem ok_num {f : Addr} {fd : FuncData} (F : Fun K "_law_number" "_law_number" sNum f fd) (d_take : Df P w K mg base "_law_take" 1 spTake) : FnOk P w K mg base (L2.CX P w) 2 f fd ["_law_bag_here"] spNum := by
  refine fun_go ["_law_take"] F sc_num (by decide +kernel) (fun vs H Q E h => ?_) fun X H vs Q E xk h => ?_
  · obtain ⟨b, rfl, _⟩ := h
    rfl
  · obtain ⟨b, rfl, hb, q⟩ := h
    refine start_go (by wtm_at "start") ?_
    wtm_at "go"
    rename_i p H1 np k1 hp
    have npb : p ≠ b := by
      obtain ⟨_, _, _, h⟩ := hb
      exact (ne_of_none h np).symm
    refine call_take (hb.kp k1) (by decide) (by decide) fun r H2 r0 r1 k2 b2 => ?_
    obtain ⟨s, hs, s0, s1⟩ := pick4 r0 r1
    wtm_at "go"
    refine call_take b2 s0 (by omega) fun r' H3 r0' r1' k3 b3 => ?_
    wtm_at "go"
    refine call_take b3 (by decide) (by decide) fun r2 H4 r20 r21 k4 b4 => ?_
    wtm_at "go"
    refine br_any (fun hi => ?_) (fun hi => ?_)
    · wtm_at "go"
      exact q _ _ (by omega) (by omega) (by wtm_at "kp") b4
    · wtm_at "go"
      exact q _ _ (by omega) (by omega) (by wtm_at "kp") b4
theorem ok_isN {f : Addr} {fd : FuncData} (F : Fun K "_law_is_number" "_law_is_number" sIsN f fd) (b_isi : Bi mg "isinstance" (.builtin "isinstance")) (b_int : Bi mg "int" (.type "int")) (b_bool : Bi mg "bool" (.type "bool")) : FnOk P w K mg base (L2.CX P w) 1 f fd ["_law_thing", "_law_due"] spIsN := by
  refine fun_go ["isinstance", "int", "bool"] F sc_isN (by decide +kernel) (fun vs H Q E h => ?_) fun X H vs Q E xk h => ?_
  · obtain ⟨n, m, rfl, _⟩ := h
    rfl
  · obtain ⟨n, m, rfl, q⟩ := h
    refine start_go (by wtm_at "start") ?_
    wtm_at "go"
    exact q
theorem call_num {b : Addr} {H : Hp} {Q : VK} {EX : XK} (hb : Bag H b) (h : ∀ (r : Int) (H' : Hp), -1000000000000000000000000000000 < r → r < 1000000000000000000000000000000 → Kp [b] H H' → Bag H' b → Q (.int r) H') : spNum [.ref b] H Q EX := ⟨b, rfl, hb, h⟩
theorem call_bag {a : Addr} {i : Int} {ns : List Int} {H : Hp} {Q : VK} {EX : XK} (hS : SqL K H a (ns.map V.int)) (h0 : 0 ≤ i) (h : ∀ p H', H p = none → Kp [] H H' → Bag H' p → Q (.ref p) H') : spBag K [.ref a, .int i] H Q EX := ⟨a, i, ns, rfl, hS, h0, h⟩
theorem call_isN {n m : Int} {H : Hp} {Q : VK} {EX : XK} (h : Q (.bl (decide (n = m))) H) : spIsN [.int n, .int m] H Q EX := ⟨n, m, rfl, h⟩
end
/-! ### spans -/
abbrev sSInit : Stmt := inClass (topS 1) 0
abbrev sSAdd : Stmt := inClass (topS 1) 1
abbrev sSSub : Stmt := inClass (topS 1) 2
abbrev sSNeg : Stmt := inClass (topS 1) 3
abbrev sSAbs : Stmt := inClass (topS 1) 4
theorem sc_sinit : FnScope ["self", "ticks"] ["self", "ticks"] (defScope sSInit) := ⟨rfl, rfl, rfl, by decide +kernel, rfl, by decide +kernel, by decide +kernel⟩
theorem sc_sadd : FnScope ["self", "other"] ["self", "other"] (defScope sSAdd) := ⟨rfl, rfl, rfl, by decide +kernel, rfl, by decide +kernel, by decide +kernel⟩
theorem sc_ssub : FnScope ["self", "other"] ["self", "other"] (defScope sSSub) := ⟨rfl, rfl, rfl, by decide +kernel, rfl, by decide +kernel, by decide +kernel⟩
theorem sc_sneg : FnScope ["self"] ["self"] (defScope sSNeg) := ⟨rfl, rfl, rfl, by decide +kernel, rfl, by decide +kernel, by decide +kernel⟩
theorem sc_sabs : FnScope ["self"] ["self"] (defScope sSAbs) := ⟨rfl, rfl, rfl, by decide +kernel, rfl, by decide +kernel, by decide +kernel⟩
/-- what the top has made of the class -/
structure SpT (K : PySem.W.Frag) (mg : Str → Option Value) (Cs : Addr) : Prop where
  cl : Cls K Cs
  nt : NoAttr K Cs "ticks"
  mgC : mg "Span" = some (.ref Cs)
  ha : PySem.W.findIn K (.ref Cs) "__class__" = some (some (.builtin "object.__class__"))
  hn : PySem.W.specialIn K (.builtin "object.__class__") "__get__" = some (some (.builtin "getset_descriptor.__get__"))
  htk : PySem.W.takesIn K (.builtin "object.__class__") = some true
  hm : PySem.W.mroIn K Cs (.type "object") = some true
  sf : PySem.W.selfFirst K Cs = true
theorem kit_same {K : PySem.W.Frag} {t : Value} : PySem.W.kitOne K t t = some true := by
  unfold PySem.W.kitOne
  rw [if_pos (beq_self_eq_true t)]
/-- a span of n ticks stands at p -/
def IsSp (Cs : Addr) (H : Hp) (p : Addr) (n : Int) : Prop := ∃ dx, H p = some (.ins Cs dx [("ticks", .int n)])
theorem IsSp.kp {Cs p : Addr} {H H' : Hp} {n : Int} (h : IsSp Cs H p n) (k : Kp [] H H') : IsSp Cs H' p n := let ⟨dx, h⟩ := h; ⟨dx, k.get0 h⟩
theorem IsSp.kpr {Cs p : Addr} {H H' : Hp} {n : Int} (k : Kp [] H H') (h : IsSp Cs H p n) : IsSp Cs H' p n := h.kp k
def spSInit (Cs : Addr) : Sp := fun vs H Q _ => ∃ (p dx : Addr) (v : V), vs = [.ref p, v] ∧ H p = some (.ins Cs dx []) ∧ ∀ H', Kp [p] H H' → H' p = some (.ins Cs dx [("ticks", v)]) → Q .non H'
def spS2 (Cs : Addr) (g : Int → Int → Int) : Sp := fun vs H Q _ => ∃ (p q : Addr) (i j : Int), vs = [.ref p, .ref q] ∧ IsSp Cs H p i ∧ IsSp Cs H q j ∧ ∀ r H', H r = none → Kp [] H H' → IsSp Cs H' r (g i j) → Q (.ref r) H'
def spS1 (Cs : Addr) (g : Int → Int) : Sp := fun vs H Q _ => ∃ (p : Addr) (i : Int), vs = [.ref p] ∧ IsSp Cs H p i ∧ ∀ r H', H r = none → Kp [] H H' → IsSp Cs H' r (g i) → Q (.ref r) H'
def zabs (i : Int) : Int := if i < 0 then -i else i
section
variable {P : Program} {w : World} {K : PySem.W.Frag} {mg : Str → Option Value} {base : Heap} {Cs : Addr}
theorem ok_sinit {f : Addr} {fd : FuncData} (F : Fun K "__init__" "Span.__init__" sSInit f fd) (T : SpT K mg Cs) : FnOk P w K mg base (L2.CX P w) 1 f fd ["self", "ticks"] (spSInit Cs) := by
  refine fun_go [] F sc_sinit (by decide +kernel) (fun vs H Q E h => ?_) fun X H vs Q E xk h => ?_
  · obtain ⟨p, dx, v, rfl, _⟩ := h
    rfl
  · obtain ⟨p, dx, v, rfl, hp, q⟩ := h
    have cl := T.cl
    have nt := T.nt
    refine start_go (by wtm_at "start") ?_
    wtm_at "go"
    exact q _ (by assumption) (by assumption)
section
variable {X : Cx} {sc : Scope} {N GL : List Str} {k : Nat} {EX : XK} {e : Expr} {σ : St} {H : Hp} {Q : VK} {pos p : Pos}
/-- Span(e) -/
theorem e_span {nm : Str} (xk : Xk X P w K mg base sc N GL k EX) (hg : nm ∈ GL) (D : Dc P w K mg base nm Cs 1 (spSInit Cs)) (hj : 2 ≤ k) (hs : NoSt e = true) (h : E X e σ H fun v H1 => ∀ p H' dx, H1 p = none → Kp [] H1 H' → H' p = some (.ins Cs dx [("ticks", v)]) → Q (.ref p) H') : E X (.Call (.Name nm p) [e] [] pos) σ H Q := by
  refine e_make xk hg D hj (as_cons (h.mono fun v H1 q => as_nil ?_) (star_cons hs)) (star_cons hs) rfl
  intro x dx H2 n1 n2 n3 k1 h1
  exact ⟨x, dx, v, rfl, h1, fun H' k2 h2 => ⟨rfl, q x H' dx n1 (k1.fresh k2 n1) h2⟩⟩
/-- Span(ticks=e) -/
theorem e_spanK {nm : Str} {kn : Option Str} {kp : Pos} (xk : Xk X P w K mg base sc N GL k EX) (hg : nm ∈ GL) (D : Dck P w K mg base nm Cs ["ticks"] 1 (spSInit Cs)) (hj : 2 ≤ k) (h : E X e σ H fun v H1 => ∀ p H' dx, H1 p = none → Kp [] H1 H' → H' p = some (.ins Cs dx [("ticks", v)]) → Q (.ref p) H')
    (hall : (backToKw pos (keywordEach [⟨kn, e, kp⟩] X.env)).all (·.1.isSome) = true := by rfl) (hks : (backToKw pos (keywordEach [⟨kn, e, kp⟩] X.env)).filterMap (·.1) = [("ticks" : Str)] := by rfl)
    (hpl : ((backTo pos (starEach [] X.env)).any (·.1) || (backToKw pos (keywordEach [⟨kn, e, kp⟩] X.env)).any (·.1.isNone)) = false := by rfl) : E X (.Call (.Name nm p) [] [⟨kn, e, kp⟩] pos) σ H Q := by
  refine e_makeK xk hg D hj (ks_cons (h.mono fun v H1 q => ks_nil ⟨rfl, ?_⟩)) hall hks hpl
  intro x dx H2 n1 n2 n3 k1 h1
  exact ⟨x, dx, v, rfl, h1, fun H' k2 h2 => ⟨rfl, q x H' dx n1 (k1.fresh k2 n1) h2⟩⟩
theorem k_isSp {q dx : Addr} {fs : List (Str × V)} (xk : Xk X P w K mg base sc N GL k EX) (T : SpT K mg Cs) (hq : H q = some (.ins Cs dx fs)) (h : Q (.bl true) H) : C X (.builtin "isinstance") [.ref q, .ref Cs] H Q :=
  k_isi xk (.own _) (.base (.ins hq T.cl T.ha T.hn T.htk T.hm)) kit_same h
theorem b_sp {op : Operator} {m : Str} {j : Nat} {g : Int → Int → Int} {a b : Addr} {x y : Int} (xk : Xk X P w K mg base sc N GL k EX) (T : SpT K mg Cs) (D : Dm P w K mg base Cs m j (spS2 Cs g)) (hj : j ≤ k) (hn : PySem.dunder op.info.2 = m) (ha : IsSp Cs H a x) (hb : IsSp Cs H b y)
    (h : ∀ r H', H r = none → Kp [] H H' → IsSp Cs H' r (g x y) → Q (.ref r) H') : Bo X op (.ref a) (.ref b) H Q := by
  obtain ⟨dx, h1⟩ := id ha
  obtain ⟨dy, h2⟩ := id hb
  exact b_own xk D hj T.sf h1 h2 ⟨a, b, x, y, rfl, ha, hb, h⟩ hn
theorem b_spA {a b : Addr} {x y : Int} (xk : Xk X P w K mg base sc N GL k EX) (T : SpT K mg Cs) (D : Dm P w K mg base Cs "__add__" 3 (spS2 Cs (· + ·))) (hj : 3 ≤ k) (ha : IsSp Cs H a x) (hb : IsSp Cs H b y)
    (h : ∀ r H', H r = none → Kp [] H H' → IsSp Cs H' r (x + y) → Q (.ref r) H') : Bo X .Add (.ref a) (.ref b) H Q := b_sp xk T D hj (by decide +kernel) ha hb h
theorem b_spS {a b : Addr} {x y : Int} (xk : Xk X P w K mg base sc N GL k EX) (T : SpT K mg Cs) (D : Dm P w K mg base Cs "__sub__" 3 (spS2 Cs (· - ·))) (hj : 3 ≤ k) (ha : IsSp Cs H a x) (hb : IsSp Cs H b y)
    (h : ∀ r H', H r = none → Kp [] H H' → IsSp Cs H' r (x - y) → Q (.ref r) H') : Bo X .Sub (.ref a) (.ref b) H Q := b_sp xk T D hj (by decide +kernel) ha hb h
theorem u_sp {a : Addr} {x : Int} (xk : Xk X P w K mg base sc N GL k EX) (D : Dm P w K mg base Cs "__neg__" 3 (spS1 Cs (- ·))) (hj : 3 ≤ k) (ha : IsSp Cs H a x)
    (h : ∀ r H', H r = none → Kp [] H H' → IsSp Cs H' r (-x) → Q (.ref r) H') : Uo X .USub (.ref a) H Q := by
  obtain ⟨dx, h1⟩ := id ha
  exact u_own_neg xk D hj h1 ⟨a, x, rfl, ha, h⟩
theorem k_sp_abs {a : Addr} {x : Int} (xk : Xk X P w K mg base sc N GL k EX) (D : Dm P w K mg base Cs "__abs__" 3 (spS1 Cs zabs)) (hj : 4 ≤ k) (ha : IsSp Cs H a x)
    (h : ∀ r H', H r = none → Kp [] H H' → IsSp Cs H' r (zabs x) → Q (.ref r) H') : C X (.builtin "abs") [.ref a] H Q := by
  obtain ⟨dx, h1⟩ := id ha
  exact k_own_abs xk D hj h1 ⟨a, x, rfl, ha, h⟩
end
local macro_rules | `(tactic| wtm_at "sF") => `(tactic| refine e_span (by with_reducible assumption) (by wtm_at "mem") (by with_reducible assumption) (by decide) rfl ?_)
local macro_rules | `(tactic| wtm_at "sK") => `(tactic| (refine gKisi ?_; refine k_isSp (by with_reducible assumption) (by with_reducible assumption) (by wtm_at "look") ?_))
theorem ok_sadd {f : Addr} {fd : FuncData} (F : Fun K "__add__" "Span.__add__" sSAdd f fd) (T : SpT K mg Cs) (b_isi : Bi mg "isinstance" (.builtin "isinstance")) (d_span : Dc P w K mg base "Span" Cs 1 (spSInit Cs)) : FnOk P w K mg base (L2.CX P w) 3 f fd ["self", "other"] (spS2 Cs (· + ·)) := by
  refine fun_go ["isinstance", "Span"] F sc_sadd (by decide +kernel) (fun vs H Q E h => ?_) fun X H vs Q E xk h => ?_
  · obtain ⟨p, q, i, j, rfl, _⟩ := h
    rfl
  · obtain ⟨p, q, i, j, rfl, ⟨dx, hp⟩, ⟨dy, hq⟩, k⟩ := h
    have cl := T.cl
    have nt := T.nt
    have mgC := T.mgC
    refine start_go (by wtm_at "start") ?_
    wtm_at "go"
    intro r H1 dz nr k1 hr
    exact k r H1 nr k1 ⟨dz, hr⟩
theorem ok_ssub {f : Addr} {fd : FuncData} (F : Fun K "__sub__" "Span.__sub__" sSSub f fd) (T : SpT K mg Cs) (b_isi : Bi mg "isinstance" (.builtin "isinstance")) (d_span : Dc P w K mg base "Span" Cs 1 (spSInit Cs)) : FnOk P w K mg base (L2.CX P w) 3 f fd ["self", "other"] (spS2 Cs (· - ·)) := by
  refine fun_go ["isinstance", "Span"] F sc_ssub (by decide +kernel) (fun vs H Q E h => ?_) fun X H vs Q E xk h => ?_
  · obtain ⟨p, q, i, j, rfl, _⟩ := h
    rfl
  · obtain ⟨p, q, i, j, rfl, ⟨dx, hp⟩, ⟨dy, hq⟩, k⟩ := h
    have cl := T.cl
    have nt := T.nt
    have mgC := T.mgC
    refine start_go (by wtm_at "start") ?_
    wtm_at "go"
    intro r H1 dz nr k1 hr
    exact k r H1 nr k1 ⟨dz, hr⟩
theorem ok_sneg {f : Addr} {fd : FuncData} (F : Fun K "__neg__" "Span.__neg__" sSNeg f fd) (T : SpT K mg Cs) (d_span : Dc P w K mg base "Span" Cs 1 (spSInit Cs)) : FnOk P w K mg base (L2.CX P w) 3 f fd ["self"] (spS1 Cs (- ·)) := by
  refine fun_go ["Span"] F sc_sneg (by decide +kernel) (fun vs H Q E h => ?_) fun X H vs Q E xk h => ?_
  · obtain ⟨p, i, rfl, _⟩ := h
    rfl
  · obtain ⟨p, i, rfl, ⟨dx, hp⟩, k⟩ := h
    have cl := T.cl
    have nt := T.nt
    refine start_go (by wtm_at "start") ?_
    wtm_at "go"
    intro r H1 dz nr k1 hr
    exact k r H1 nr k1 ⟨dz, hr⟩
theorem ok_sabs {f : Addr} {fd : FuncData} (F : Fun K "__abs__" "Span.__abs__" sSAbs f fd) (T : SpT K mg Cs) (b_abs : Bi mg "abs" (.builtin "abs")) (d_span : Dc P w K mg base "Span" Cs 1 (spSInit Cs)) : FnOk P w K mg base (L2.CX P w) 3 f fd ["self"] (spS1 Cs zabs) := by
  refine fun_go ["Span", "abs"] F sc_sabs (by decide +kernel) (fun vs H Q E h => ?_) fun X H vs Q E xk h => ?_
  · obtain ⟨p, i, rfl, _⟩ := h
    rfl
  · obtain ⟨p, i, rfl, ⟨dx, hp⟩, k⟩ := h
    have cl := T.cl
    have nt := T.nt
    refine start_go (by wtm_at "start") ?_
    wtm_at "go"
    intro r H1 dz nr k1 hr
    exact k r H1 nr k1 ⟨dz, hr⟩
end
/-! ### is_span, pairs of spans and ticks -/
def spIsS (Cs : Addr) : Sp := fun vs H Q _ => ∃ (p : Addr) (n m : Int), vs = [.ref p, .int m] ∧ IsSp Cs H p n ∧ Q (.bl (decide (n = m))) H
def spLaw (K : PySem.W.Frag) : Sp := fun vs H Q _ => ∃ (a : Addr) (ns : List Int), vs = [.ref a] ∧ SqL K H a (ns.map V.int) ∧ ns.length ≤ 63 ∧ ∀ H', Q (.bl true) H'
section
variable {P : Program} {w : World} {K : PySem.W.Frag} {mg : Str → Option Value} {base : Heap} {Cs : Addr}
theorem call_isS {p : Addr} {n m : Int} {H : Hp} {Q : VK} {EX : XK} (hp : IsSp Cs H p n) (h : Q (.bl (decide (n = m))) H) : spIsS Cs [.ref p, .int m] H Q EX := ⟨p, n, m, rfl, hp, h⟩
local macro_rules | `(tactic| wtm_at "sK") => `(tactic| (refine gKisi ?_; refine k_isSp (by with_reducible assumption) (by with_reducible assumption) (by wtm_at "look") ?_))
theorem ok_isS {f : Addr} {fd : FuncData} (F : Fun K "_law_is_span" "_law_is_span" sIsS f fd) (T : SpT K mg Cs) (b_isi : Bi mg "isinstance" (.builtin "isinstance")) (d_isN : Df P w K mg base "_law_is_number" 1 spIsN) : FnOk P w K mg base (L2.CX P w) 2 f fd ["_law_thing", "_law_due"] (spIsS Cs) := by
  refine fun_go ["isinstance", "Span", "_law_is_number"] F sc_isS (by decide +kernel) (fun vs H Q E h => ?_) fun X H vs Q E xk h => ?_
  · obtain ⟨p, n, m, rfl, _⟩ := h
    rfl
  · obtain ⟨p, n, m, rfl, ⟨dx, hp⟩, q⟩ := h
    have cl := T.cl
    have nt := T.nt
    have mgC := T.mgC
    refine start_go (by wtm_at "start") ?_
    wtm_at "go"
    refine call_isN ?_
    exact q
/-- a pair of a span and its ticks -/
def GP (Cs : Addr) (H : Hp) (v : V) : Prop := ∃ (t s : Addr) (d : Int), v = .ref t ∧ H t = some (.tup [.ref s, .int d]) ∧ IsSp Cs H s d
theorem gp_mk {H : Hp} {t s : Addr} {d d' : Int} (h : H t = some (.tup [.ref s, .int d'])) (hs : IsSp Cs H s d) (e : d = d') : GP Cs H (.ref t) := ⟨t, s, d', rfl, h, e ▸ hs⟩
theorem gp_mon (H H' : Hp) (v : V) (k : Kp [] H H') (h : GP Cs H v) : GP Cs H' v := let ⟨t, s, d, e, h1, h2⟩ := h; ⟨t, s, d, e, k.get0 h1, h2.kp k⟩
end
/-! ### k02: products and quotients of spans -/
abbrev sSMul : Stmt := inClass (topS 1) 5
abbrev sSRmul : Stmt := inClass (topS 1) 6
abbrev sSDiv : Stmt := inClass (topS 1) 7
abbrev sSMod : Stmt := inClass (topS 1) 8
theorem sc_smul : FnScope ["self", "other"] ["self", "other"] (defScope sSMul) := ⟨rfl, rfl, rfl, by decide +kernel, rfl, by decide +kernel, by decide +kernel⟩
theorem sc_srmul : FnScope ["self", "other"] ["self", "other"] (defScope sSRmul) := ⟨rfl, rfl, rfl, by decide +kernel, rfl, by decide +kernel, by decide +kernel⟩
theorem sc_sdiv : FnScope ["self", "other"] ["self", "other"] (defScope sSDiv) := ⟨rfl, rfl, rfl, by decide +kernel, rfl, by decide +kernel, by decide +kernel⟩
theorem sc_smod : FnScope ["self", "other"] ["self", "other"] (defScope sSMod) := ⟨rfl, rfl, rfl, by decide +kernel, rfl, by decide +kernel, by decide +kernel⟩
def CDivG (j : Int) : Prop := j ≠ 0 ∧ j.natAbs.log2 < 9000
def Sm (k : Nat) (i : Int) : Prop := i.natAbs < 2 ^ k
theorem Sm.mono {k l : Nat} {i : Int} (h : Sm k i) (hl : k ≤ l) : Sm l i := Nat.lt_of_lt_of_le h (Nat.pow_le_pow_right (by decide) hl)
theorem Sm.mul {k l : Nat} {i j : Int} (a : Sm k i) (b : Sm l j) : Sm (k + l) (i * j) := wide_lt a b
theorem Sm.neg {k : Nat} {i : Int} (a : Sm k i) : Sm k (-i) := by unfold Sm at *; rw [Int.natAbs_neg]; exact a
theorem Sm.add {k : Nat} {i j : Int} (a : Sm k i) (b : Sm k j) : Sm (k + 1) (i + j) := by
  unfold Sm at *
  have e : 2 ^ (k + 1) = 2 * 2 ^ k := by rw [Nat.pow_succ]; omega
  have h := Int.natAbs_add_le i j
  omega
theorem Sm.sub {k : Nat} {i j : Int} (a : Sm k i) (b : Sm k j) : Sm (k + 1) (i - j) := by
  rw [Int.sub_eq_add_neg]
  exact a.add b.neg
theorem Sm.ok {k l : Nat} {i j : Int} (a : Sm k i) (b : Sm l j) (hk : 0 < k) (hl : 0 < l) (h : k + l ≤ 1000000) : IntMulOk i j := (wide_mul a b hk hl h).ok
theorem Sm.one {i : Int} (h : i = 0 ∨ i = 1 ∨ i = -1) : Sm 1 i := by
  unfold Sm
  rcases h with rfl | rfl | rfl <;> decide
theorem Sm.div {k : Nat} {j : Int} (h : Sm k j) (h0 : j ≠ 0) (hk : 0 < k) (h9 : k ≤ 9000) : CDivG j := ⟨h0, Nat.lt_of_lt_of_le (PySem.Flt.log2_lt_of hk h) h9⟩
theorem fdiv_id (i j : Int) : i = j * i.fdiv j + i.fmod j := (Int.mul_fdiv_add_fmod i j).symm
theorem Sm.fdiv {k : Nat} {i j : Int} (a : Sm k i) (b : Sm k j) (h0 : j ≠ 0) : Sm (k + 1) (i.fdiv j) := by
  unfold Sm at *
  have e : 2 ^ (k + 1) = 2 * 2 ^ k := by rw [Nat.pow_succ]; omega
  have h1 := fdiv_id i j
  have h2 : (i.fmod j).natAbs ≤ j.natAbs := by
    by_cases hj : 0 < j
    · have z1 := Int.fmod_nonneg_of_pos i hj
      have z2 := Int.fmod_lt_of_pos i hj
      omega
    · have hj' : j < 0 := by omega
      have z1 : i.fmod j = - ((-i).fmod (-j)) := by
        have := Int.neg_fmod_neg (a := i) (b := j)
        omega
      have z2 := Int.fmod_nonneg_of_pos (-i) (b := -j) (by omega)
      have z3 := Int.fmod_lt_of_pos (-i) (b := -j) (by omega)
      omega
  have h3 : (j * i.fdiv j).natAbs = j.natAbs * (i.fdiv j).natAbs := Int.natAbs_mul _ _
  have h4 : (i.fdiv j).natAbs ≤ j.natAbs * (i.fdiv j).natAbs := Nat.le_mul_of_pos_left _ (by omega)
  have h5 : (j * i.fdiv j).natAbs ≤ i.natAbs + (i.fmod j).natAbs := by
    generalize j * i.fdiv j = u at h1
    omega
  omega
def spSMul (Cs : Addr) : Sp := fun vs H Q _ => ∃ (p : Addr) (n i : Int), vs = [.ref p, .int n] ∧ IsSp Cs H p i ∧ IntMulOk i n ∧ ∀ r H', H r = none → Kp [] H H' → IsSp Cs H' r (i * n) → Q (.ref r) H'
def spSDiv (Cs : Addr) : Sp := fun vs H Q _ => ∃ (p q : Addr) (i j : Int), vs = [.ref p, .ref q] ∧ IsSp Cs H p i ∧ IsSp Cs H q j ∧ CDivG j ∧ Q (.int (i.fdiv j)) H
def spSMod (Cs : Addr) : Sp := fun vs H Q _ => ∃ (p q : Addr) (i j : Int), vs = [.ref p, .ref q] ∧ IsSp Cs H p i ∧ IsSp Cs H q j ∧ CDivG j ∧ IntMulOk (i.fdiv j) j ∧ ∀ r H', H r = none → Kp [] H H' → IsSp Cs H' r (i - i.fdiv j * j) → Q (.ref r) H'
section
variable {P : Program} {w : World} {K : PySem.W.Frag} {mg : Str → Option Value} {base : Heap} {Cs : Addr}
theorem b_fdivG {X : Cx} {H : Hp} {Q : VK} {i j : Int} (hj : CDivG j) (h : Q (.int (i.fdiv j)) H) : Bo X .FloorDiv (.int i) (.int j) H Q := ⟨fun pins s σ v u I r1 r2 => by
  obtain ⟨t, rfl⟩ := r1
  obtain ⟨t', rfl⟩ := r2
  exact PyProof.Rows.floordiv_int hj.1 ⟨.int _, H, I.tok _, ⟨_, rfl⟩, h⟩ (.inl (PyProof.noPylong_of_log2 hj.2))⟩
theorem gBFd {X : Cx} {H : Hp} {Q : VK} {i j : Int} (h : Bo X .FloorDiv (.int i) (.int j) H Q) : Bo X .FloorDiv (.int i) (.int j) H Q := h
theorem gBMu {X : Cx} {H : Hp} {Q : VK} {i j : Int} (h : Bo X .Mult (.int i) (.int j) H Q) : Bo X .Mult (.int i) (.int j) H Q := h
local macro_rules | `(tactic| wtm_at "sB") => `(tactic| first
  | (refine gBFd ?_; refine b_fdivG (by with_reducible assumption) ?_)
  | (refine gBMu ?_; refine b_mul (by with_reducible assumption) ?_)
  | fail)
local macro_rules | `(tactic| wtm_at "sF") => `(tactic| refine e_span (by with_reducible assumption) (by wtm_at "mem") (by with_reducible assumption) (by decide) rfl ?_)
local macro_rules | `(tactic| wtm_at "sK") => `(tactic| (refine gKisi ?_; refine k_isSp (by with_reducible assumption) (by with_reducible assumption) (by wtm_at "look") ?_))
theorem ok_smul {f : Addr} {fd : FuncData} (F : Fun K "__mul__" "Span.__mul__" sSMul f fd) (T : SpT K mg Cs) (b_isi : Bi mg "isinstance" (.builtin "isinstance")) (b_int : Bi mg "int" (.type "int")) (d_span : Dc P w K mg base "Span" Cs 1 (spSInit Cs)) : FnOk P w K mg base (L2.CX P w) 3 f fd ["self", "other"] (spSMul Cs) := by
  refine fun_go ["isinstance", "int", "Span"] F sc_smul (by decide +kernel) (fun vs H Q E h => ?_) fun X H vs Q E xk h => ?_
  · obtain ⟨p, n, i, rfl, _⟩ := h
    rfl
  · obtain ⟨p, n, i, rfl, ⟨dx, hp⟩, hm, k⟩ := h
    have cl := T.cl
    have nt := T.nt
    refine start_go (by wtm_at "start") ?_
    wtm_at "go"
    intro r H1 dz nr k1 hr
    exact k r H1 nr k1 ⟨dz, hr⟩
theorem ok_srmul {f : Addr} {fd : FuncData} (F : Fun K "__rmul__" "Span.__rmul__" sSRmul f fd) (T : SpT K mg Cs) (b_isi : Bi mg "isinstance" (.builtin "isinstance")) (b_int : Bi mg "int" (.type "int")) (d_span : Dc P w K mg base "Span" Cs 1 (spSInit Cs)) : FnOk P w K mg base (L2.CX P w) 3 f fd ["self", "other"] (spSMul Cs) := by
  refine fun_go ["isinstance", "int", "Span"] F sc_srmul (by decide +kernel) (fun vs H Q E h => ?_) fun X H vs Q E xk h => ?_
  · obtain ⟨p, n, i, rfl, _⟩ := h
    rfl
  · obtain ⟨p, n, i, rfl, ⟨dx, hp⟩, hm, k⟩ := h
    have cl := T.cl
    have nt := T.nt
    refine start_go (by wtm_at "start") ?_
    wtm_at "go"
    intro r H1 dz nr k1 hr
    exact k r H1 nr k1 ⟨dz, hr⟩
theorem ok_sdiv {f : Addr} {fd : FuncData} (F : Fun K "__floordiv__" "Span.__floordiv__" sSDiv f fd) (T : SpT K mg Cs) (b_isi : Bi mg "isinstance" (.builtin "isinstance")) : FnOk P w K mg base (L2.CX P w) 1 f fd ["self", "other"] (spSDiv Cs) := by
  refine fun_go ["isinstance", "Span"] F sc_sdiv (by decide +kernel) (fun vs H Q E h => ?_) fun X H vs Q E xk h => ?_
  · obtain ⟨p, q, i, j, rfl, _⟩ := h
    rfl
  · obtain ⟨p, q, i, j, rfl, ⟨dx, hp⟩, ⟨dy, hq⟩, hj, k⟩ := h
    have cl := T.cl
    have nt := T.nt
    have mgC := T.mgC
    refine start_go (by wtm_at "start") ?_
    wtm_at "go"
    exact k
theorem ok_smod {f : Addr} {fd : FuncData} (F : Fun K "__mod__" "Span.__mod__" sSMod f fd) (T : SpT K mg Cs) (b_isi : Bi mg "isinstance" (.builtin "isinstance")) (d_span : Dc P w K mg base "Span" Cs 1 (spSInit Cs)) : FnOk P w K mg base (L2.CX P w) 3 f fd ["self", "other"] (spSMod Cs) := by
  refine fun_go ["isinstance", "Span"] F sc_smod (by decide +kernel) (fun vs H Q E h => ?_) fun X H vs Q E xk h => ?_
  · obtain ⟨p, q, i, j, rfl, _⟩ := h
    rfl
  · obtain ⟨p, q, i, j, rfl, ⟨dx, hp⟩, ⟨dy, hq⟩, hj, hm, k⟩ := h
    have cl := T.cl
    have nt := T.nt
    have mgC := T.mgC
    refine start_go (by wtm_at "start") ?_
    wtm_at "go"
    intro r H1 dz nr k1 hr
    exact k r H1 nr k1 ⟨dz, hr⟩
end
theorem sc_right : FnScope ["_law_one", "_law_factor", "_law_divisor", "_law_a", "_law_b", "_law_made", "_law_due", "_law_quotient", "_law_rest"] ["_law_one", "_law_factor", "_law_divisor"] (defScope sRight) := ⟨rfl, rfl, rfl, by decide +kernel, rfl, by decide +kernel, by decide +kernel⟩
theorem sc_law : FnScope ["_law_script", "_law_place", "_law_bag_here", "_law_one", "_law_factor", "_law_divisor"] ["_law_script"] (defScope sLaw) := ⟨rfl, rfl, rfl, by decide +kernel, rfl, by decide +kernel, by decide +kernel⟩
structure SpM (K : PySem.W.Frag) (Cs gm gr : Addr) : Prop where
  m : PySem.W.findIn K (.ref Cs) "__mul__" = some (some (.ref gm))
  r : PySem.W.findIn K (.ref Cs) "__rmul__" = some (some (.ref gr))
  i1 : PySem.W.findIn K (.type "int") "__mul__" = some (some (.builtin "int.__mul__"))
  i2 : PySem.W.findIn K (.type "int") "__rmul__" = some (some (.builtin "int.__rmul__"))
  s1 : PySem.W.subIn K (.type "int") (.ref Cs) = some false
  s2 : PySem.W.subIn K (.ref Cs) (.type "int") = some false
def spRight : Sp := fun vs H Q _ => ∃ (n m d : Int), vs = [.int n, .int m, .int d] ∧ Sm 221 n ∧ Sm 110 m ∧ Sm 110 d ∧ d ≠ 0 ∧ ∀ H', Kp [] H H' → Q (.bl true) H'
section
variable {P : Program} {w : World} {K : PySem.W.Frag} {mg : Str → Option Value} {base : Heap} {Cs gm gr : Addr}
section
variable {X : Cx} {sc : Scope} {N GL : List Str} {k : Nat} {EX : XK} {e : Expr} {σ : St} {H : Hp} {Q : VK} {a b : Addr} {x y n : Int}
theorem b_spM (xk : Xk X P w K mg base sc N GL k EX) (T : SpT K mg Cs) (M : SpM K Cs gm gr) (D : Dm P w K mg base Cs "__mul__" 3 (spSMul Cs)) (hj : 3 ≤ k) (ha : IsSp Cs H a x) (hm : IntMulOk x n) (h : ∀ r H', H r = none → Kp [] H H' → IsSp Cs H' r (x * n) → Q (.ref r) H') : Bo X .Mult (.ref a) (.int n) H Q := by
  obtain ⟨dx, h1⟩ := id ha
  have e1 : PySem.dunder "mul" = ("__mul__" : Str) := by decide +kernel
  have e2 : PySem.dunderR "mul" = ("__rmul__" : Str) := by decide +kernel
  exact b_ownT (op := .Mult) xk D hj T.sf (by show PySem.W.findIn K _ (PySem.dunderR "mul") = _; rw [e2]; exact M.r) (.inr ⟨_, rfl⟩) (by show PySem.W.findIn K _ (PySem.dunder "mul") = _; rw [e1]; exact M.i1) (by show PySem.W.findIn K _ (PySem.dunderR "mul") = _; rw [e2]; exact M.i2) M.s1 h1 ⟨a, n, x, rfl, ha, hm, h⟩ e1
theorem b_spR (xk : Xk X P w K mg base sc N GL k EX) (T : SpT K mg Cs) (M : SpM K Cs gm gr) (D : Dm P w K mg base Cs "__rmul__" 3 (spSMul Cs)) (hj : 3 ≤ k) (ha : IsSp Cs H a x) (hm : IntMulOk x n) (h : ∀ r H', H r = none → Kp [] H H' → IsSp Cs H' r (x * n) → Q (.ref r) H') : Bo X .Mult (.int n) (.ref a) H Q := by
  obtain ⟨dx, h1⟩ := id ha
  exact b_ownR xk D hj T.sf M.m M.i1 M.i2 M.s2 h1 ⟨a, n, x, rfl, ha, hm, h⟩
theorem b_spD (xk : Xk X P w K mg base sc N GL k EX) (T : SpT K mg Cs) (D : Dm P w K mg base Cs "__floordiv__" 1 (spSDiv Cs)) (hj : 1 ≤ k) (ha : IsSp Cs H a x) (hb : IsSp Cs H b y) (hy : CDivG y) (h : Q (.int (x.fdiv y)) H) : Bo X .FloorDiv (.ref a) (.ref b) H Q := by
  obtain ⟨dx, h1⟩ := id ha
  obtain ⟨dy, h2⟩ := id hb
  exact b_own xk D hj T.sf h1 h2 ⟨a, b, x, y, rfl, ha, hb, hy, h⟩ (by decide +kernel)
theorem b_spO (xk : Xk X P w K mg base sc N GL k EX) (T : SpT K mg Cs) (D : Dm P w K mg base Cs "__mod__" 3 (spSMod Cs)) (hj : 3 ≤ k) (ha : IsSp Cs H a x) (hb : IsSp Cs H b y) (hy : CDivG y) (hm : IntMulOk (x.fdiv y) y) (h : ∀ r H', H r = none → Kp [] H H' → IsSp Cs H' r (x - x.fdiv y * y) → Q (.ref r) H') : Bo X .Mod (.ref a) (.ref b) H Q := by
  obtain ⟨dx, h1⟩ := id ha
  obtain ⟨dy, h2⟩ := id hb
  exact b_own xk D hj T.sf h1 h2 ⟨a, b, x, y, rfl, ha, hb, hy, hm, h⟩ (by decide +kernel)
theorem gM1 (h : Bo X .Mult (.ref a) (.int n) H Q) : Bo X .Mult (.ref a) (.int n) H Q := h
theorem gM2 (h : Bo X .Mult (.int n) (.ref a) H Q) : Bo X .Mult (.int n) (.ref a) H Q := h
theorem gM3 (h : Bo X .FloorDiv (.ref a) (.ref b) H Q) : Bo X .FloorDiv (.ref a) (.ref b) H Q := h
theorem gM4 (h : Bo X .Mod (.ref a) (.ref b) H Q) : Bo X .Mod (.ref a) (.ref b) H Q := h
end
local macro_rules | `(tactic| wtm_at "isp") => `(tactic| first
  | with_reducible assumption
  | exact IsSp.kpr (by with_reducible assumption) (by wtm_at "isp")
  | fail)
local macro_rules | `(tactic| wtm_at "sF") => `(tactic| first
  | refine e_span (by with_reducible assumption) (by wtm_at "mem") (by with_reducible assumption) (by decide) rfl (?_)
  | refine e_spanK (by with_reducible assumption) (by wtm_at "mem") (by with_reducible assumption) (by decide) ?_
  | fail)
local macro_rules | `(tactic| wtm_at "sB") => `(tactic| first
  | (refine gBrrA ?_; refine b_spA (by with_reducible assumption) (by with_reducible assumption) (by with_reducible assumption) (by decide) (by wtm_at "isp") (by wtm_at "isp") (fun _ _ _ _ _ => ?_))
  | (refine gBrrS ?_; refine b_spS (by with_reducible assumption) (by with_reducible assumption) (by with_reducible assumption) (by decide) (by wtm_at "isp") (by wtm_at "isp") (fun _ _ _ _ _ => ?_))
  | fail)
local macro_rules | `(tactic| wtm_at "pair") => `(tactic| (
  intro H3 k3 Q' q'
  wtm_at "go"
  exact q' _ _ (by wtm_at "kp") (gp_mk (by with_reducible assumption) (by wtm_at "isp") (by first | rfl | omega))))
local macro_rules | `(tactic| wtm_at "s") => `(tactic| (refine gUr ?_; refine u_sp (by with_reducible assumption) (by with_reducible assumption) (by decide) (by wtm_at "isp") (fun _ _ _ _ _ => ?_)))
local macro_rules | `(tactic| wtm_at "sK") => `(tactic| (refine gKabs ?_; refine k_sp_abs (by with_reducible assumption) (by with_reducible assumption) (by decide) (by wtm_at "isp") (fun _ _ _ _ _ => ?_)))
local macro_rules | `(tactic| wtm_at "sm") => `(tactic| first
  | with_reducible assumption
  | exact Sm.ok (by with_reducible assumption) (by with_reducible assumption) (by decide) (by decide) (by decide)
  | exact Sm.ok (by with_reducible assumption) (Sm.one (by omega)) (by decide) (by decide) (by decide)
  | fail)
local macro_rules | `(tactic| wtm_at "sB") => `(tactic| first
  | (refine gBFd ?_; refine b_fdivG (by with_reducible assumption) ?_)
  | (refine gBMu ?_; refine b_mul (by wtm_at "sm") ?_)
  | (refine gM1 ?_; refine b_spM (by with_reducible assumption) (by with_reducible assumption) (by with_reducible assumption) (by with_reducible assumption) (by decide) (by wtm_at "isp") (by wtm_at "sm") (fun _ _ _ _ _ => ?_))
  | (refine gM2 ?_; refine b_spR (by with_reducible assumption) (by with_reducible assumption) (by with_reducible assumption) (by with_reducible assumption) (by decide) (by wtm_at "isp") (by wtm_at "sm") (fun _ _ _ _ _ => ?_))
  | (refine gM3 ?_; refine b_spD (by with_reducible assumption) (by with_reducible assumption) (by with_reducible assumption) (by decide) (by wtm_at "isp") (by wtm_at "isp") (by with_reducible assumption) ?_)
  | (refine gM4 ?_; refine b_spO (by with_reducible assumption) (by with_reducible assumption) (by with_reducible assumption) (by decide) (by wtm_at "isp") (by wtm_at "isp") (by with_reducible assumption) (by wtm_at "sm") (fun _ _ _ _ _ => ?_))
  | fail)
theorem ok_right {f : Addr} {fd : FuncData} (F : Fun K "_law_right" "_law_right" sRight f fd) (T : SpT K mg Cs) (M : SpM K Cs gm gr) (d_isN : Df P w K mg base "_law_is_number" 1 spIsN) (d_isS : Df P w K mg base "_law_is_span" 2 (spIsS Cs))
    (d_span : Dc P w K mg base "Span" Cs 1 (spSInit Cs)) (d_add : Dm P w K mg base Cs "__add__" 3 (spS2 Cs (· + ·))) (d_sub : Dm P w K mg base Cs "__sub__" 3 (spS2 Cs (· - ·)))
    (d_mul : Dm P w K mg base Cs "__mul__" 3 (spSMul Cs)) (d_rmul : Dm P w K mg base Cs "__rmul__" 3 (spSMul Cs)) (d_div : Dm P w K mg base Cs "__floordiv__" 1 (spSDiv Cs)) (d_mod : Dm P w K mg base Cs "__mod__" 3 (spSMod Cs)) :
    FnOk P w K mg base (L2.CX P w) 5 f fd ["_law_one", "_law_factor", "_law_divisor"] spRight := by
  refine fun_go ["Span", "_law_is_span", "_law_is_number"] F sc_right (by decide +kernel) (fun vs H Q E h => ?_) fun X H vs Q E xk h => ?_
  · obtain ⟨n, m, d, rfl, _⟩ := h
    rfl
  · obtain ⟨n, m, d, rfl, sn, sm, sd, d0, q⟩ := h
    have cd : CDivG d := sd.div d0 (by decide) (by decide)
    have sq : Sm 222 (n.fdiv d) := sn.fdiv (sd.mono (by decide)) d0
    have sdd : Sm 111 (d.fdiv d) := sd.fdiv sd d0
    refine start_go (by wtm_at "start") ?_
    wtm_at "go"
    intro p H1 dx np k1 hp
    wtm_at "go"
    intro p' H2 dy np' k2 hp'
    have sa : IsSp Cs H2 p n := ⟨dx, k2.get0 hp⟩
    have sb : IsSp Cs H2 p' d := ⟨dy, hp'⟩
    have k02 : Kp [] H H2 := k1.trans k2
    clear hp hp' k1 k2 np np'
    wtm_at "s"
    refine s_for xk ?_
    wtm_at "s"
    refine as_all (D := GP Cs) gp_mon rfl (fun ps H3 l3 k3 d3 => ?_) ⟨?_, ?_, ?_, ?_, ?_, trivial⟩
    rotate_left
    iterate 5 (· wtm_at "pair")
    refine new_lst (by rw [l3]; decide) fun l HA nl k4 hr2 => ?_
    have k4' : Kp [] H2 HA := k3.trans k4
    have dA : ∀ v ∈ ps, GP Cs HA v := fun v hv => gp_mon (Cs := Cs) _ _ v k4 (d3 v hv)
    refine ⟨_, ps, rfl, sq_l hr2, fun i σ' H' => ∃ v1 v2, σ' = [some (.int n), some (.int m), some (.int d), some (.ref p), some (.ref p'), v1, v2, none, none] ∧ Kp [] HA H', ⟨none, none, rfl, .refl⟩, fun i σ' H' _ ⟨_, _, _, k⟩ => sq_l (k.get0 hr2), ?_, ?_⟩
    · rintro i y σ' H' hy ⟨v1, v2, rfl, k⟩
      obtain ⟨t, s, d, rfl, ht, hs⟩ := gp_mon (Cs := Cs) _ _ y k (dA y (List.mem_of_getElem? hy))
      wtm_at "go"
      refine call_isS hs ?_
      rw [decide_eq_true rfl]
      wtm_at "go"
      exact ⟨_, _, rfl, k⟩
    · rintro σ' H' ⟨v1, v2, rfl, k⟩
      have kA : Kp [] H H' := (k02.trans k4').trans k
      replace sa := sa.kp (k4'.trans k)
      replace sb := sb.kp (k4'.trans k)
      clear dA d3 hr2 k3 k4 k4' k02 k
      wtm_at "go"
      rename_i r H4 nr k4 sr
      have sa4 := sa.kp k4
      have sb4 := sb.kp k4
      refine call_isN ?_
      rw [decide_eq_true rfl]
      wtm_at "go"
      refine call_isS sr ?_
      rw [decide_eq_true rfl]
      wtm_at "go"
      rename_i a1 H5 n5 k5 s5 a2 H6 n6 k6 s6
      refine call_isS s6 ?_
      rw [decide_eq_true (show d * n.fdiv d + (n - n.fdiv d * d) = n by rw [Int.mul_comm d]; omega)]
      wtm_at "go"
      refine call_isN ?_
      rw [decide_eq_true (show (n - (n - n.fdiv d * d)).fdiv d = n.fdiv d by
        rw [show n - (n - n.fdiv d * d) = n.fdiv d * d by omega]
        exact Int.mul_fdiv_cancel _ d0)]
      wtm_at "go"
      refine call_isN ?_
      have ed : d.fdiv d = 1 := Int.fdiv_self d0
      rw [decide_eq_true ed]
      wtm_at "go"
      rename_i a3 H7 n7 k7 s7 a4 H8 n8 k8 s8
      refine call_isS s8 ?_
      rw [decide_eq_true (show d - d.fdiv d * d = 0 by rw [ed]; omega)]
      wtm_at "go"
      refine call_isS (show IsSp Cs H8 p n by wtm_at "isp") ?_
      rw [decide_eq_true rfl]
      wtm_at "go"
      refine call_isS (show IsSp Cs H8 p' d by wtm_at "isp") ?_
      rw [decide_eq_true rfl]
      exact q _ (by wtm_at "kp")
theorem call_right {n m d : Int} {H : Hp} {Q : VK} {EX : XK} (h1 : Sm 221 n) (h2 : Sm 110 m) (h3 : Sm 110 d) (h0 : d ≠ 0) (h : ∀ H', Kp [] H H' → Q (.bl true) H') : spRight [.int n, .int m, .int d] H Q EX := ⟨n, m, d, rfl, h1, h2, h3, h0, h⟩
theorem sm30 {r : Int} (h0 : -1000000000000000000000000000000 < r) (h1 : r < 1000000000000000000000000000000) : Sm 110 r := by
  unfold Sm
  have e : (2 : Nat) ^ 110 = 1298074214633706907132624082305024 := by decide
  rw [e]
  omega
theorem ok_law {f : Addr} {fd : FuncData} (F : Fun K "law" "law" sLaw f fd) (b_range : mg "range" = none) (b_max : Bi mg "max" (.builtin "max")) (b_min : Bi mg "min" (.builtin "min")) (b_len : Bi mg "len" (.builtin "len"))
    (d_bag : Df P w K mg base "_law_bag" 1 (spBag K)) (d_num : Df P w K mg base "_law_number" 2 spNum) (d_right : Df P w K mg base "_law_right" 5 spRight) : FnOk P w K mg base (L2.CX P w) 6 f fd ["_law_script"] (spLaw K) := by
  refine fun_go ["range", "max", "min", "len", "_law_bag", "_law_number", "_law_right"] F sc_law (by decide +kernel) (fun vs H Q E h => ?_) fun X H vs Q E xk h => ?_
  · obtain ⟨a, ns, rfl, _⟩ := h
    rfl
  · obtain ⟨a, ns, rfl, hS, hl, q⟩ := h
    refine start_go (by wtm_at "start") ?_
    wtm_at "s"
    refine s_forR xk (by wtm_at "mem") b_range ?_
    wtm_at "go"
    refine k_minG xk fun r hr r1 r2 => ?_
    wtm_at "go"
    refine k_maxG xk fun r' hr' r1' r2' => ?_
    refine ⟨r', rfl, by omega, by omega, fun i σ' H' => ∃ v1 v2 v3 v4 v5, σ' = [some (.ref a), v1, v2, v3, v4, v5] ∧ Kp [] H H', ⟨none, none, none, none, none, rfl, .refl⟩, ?_, ?_⟩
    · rintro i σ' H' hi ⟨v1, v2, v3, v4, v5, rfl, k⟩
      have hS' : SqL K H' a (ns.map V.int) := k.seqL hS ni_nil
      wtm_at "go"
      refine call_bag hS' (by omega) fun p H1 np k1 b1 => ?_
      have hp : H p = none := k.free np ni_nil
      wtm_at "go"
      refine call_num b1 fun n H2 n0 n1 k2 b2 => ?_
      wtm_at "go"
      refine call_num b2 fun m H3 m0 m1 k3 b3 => ?_
      wtm_at "go"
      refine call_num b3 fun d H4 d0 d1 k4 b4 => ?_
      have k04 : Kp [] H H4 := (k.trans k1).fresh ((k2.trans k3).trans k4) hp
      have sn := sm30 n0 n1
      have sm := sm30 m0 m1
      wtm_at "s"; wtm_at "s"
      refine Sx.E.mono (Q := fun v H' => (∃ c : Int, v = .int c ∧ c ≠ 0 ∧ Sm 110 c) ∧ H' = H4) ?_ fun v H5 hv => ?_
      · wtm_at "go"
        refine br_d (fun hi => ?_) (fun hi => ?_)
        · wtm_at "go"
          exact ⟨⟨1, rfl, by decide, (Sm.one (by omega)).mono (by decide)⟩, rfl⟩
        · wtm_at "go"
          exact ⟨⟨d, rfl, hi, sm30 d0 d1⟩, rfl⟩
      · obtain ⟨⟨d, rfl, dn, sd⟩, rfl⟩ := hv
        have sdm : Sm 220 (d * m) := sd.mul sm
        wtm_at "go"
        refine call_right (sn.mono (by decide)) sm sd dn fun H6 k6 => ?_
        wtm_at "go"
        refine call_right (sdm.mono (by decide)) sm sd dn fun H7 k7 => ?_
        wtm_at "go"
        refine call_right (sm.mono (by decide)) sn sd.neg (by omega) fun H8 k8 => ?_
        wtm_at "go"
        refine call_right ?_ sn sd.neg (by omega) fun H9 k9 => ?_
        · exact sdm.sub ((Sm.one (i := 1) (by omega)).mono (show 1 ≤ 220 by decide))
        wtm_at "go"
        exact ⟨_, _, _, _, _, rfl, ((k04.trans k6).trans k7).trans (k8.trans k9)⟩
    · rintro σ' H' ⟨v1, v2, v3, v4, v5, rfl, k⟩
      wtm_at "go"
      exact q _
end
theorem cx_false {P : Program} {w : World} (H : Hp) (s : Shared) (e : Value) (s' : Shared) (h : L2.CX P w [] H s (fun _ _ _ => False) e s') : False := by
  obtain ⟨_, _, _, _, _, _, _, _, _, _, _, _, z⟩ := h
  exact z.elim
theorem all_mk {l : PySem.W.OpenLaw} {w : World} {K : PySem.W.Frag} {h : Heap} {mg : Str → Option Value} {fa C_S f_sinit f_sadd f_ssub f_smul f_srmul f_sdiv f_smod f_bag f_take f_num f_isN f_isS f_right f_law : Addr} (X : K.In h) (G : h.Ns mainGlobals mg) (hfa : mg "law" = some (.ref fa))
    {od_sinit an_sinit od_sadd an_sadd od_ssub an_ssub od_smul an_smul od_srmul an_srmul od_sdiv an_sdiv od_smod an_smod od_bag an_bag od_take an_take od_num an_num od_isN an_isN od_isS an_isS od_right an_right od_law an_law : Option Addr} {sl_sinit sl_sadd sl_ssub sl_smul sl_srmul sl_sdiv sl_smod sl_bag sl_take sl_num sl_isN sl_isS sl_right sl_law : Array (Option Value)} {oc_sinit kV_sinit dc_sinit pm_sinit cd_sinit ct_sinit oc_sadd kV_sadd dc_sadd pm_sadd cd_sadd ct_sadd oc_ssub kV_ssub dc_ssub pm_ssub cd_ssub ct_ssub oc_smul kV_smul dc_smul pm_smul cd_smul ct_smul oc_srmul kV_srmul dc_srmul pm_srmul cd_srmul ct_srmul oc_sdiv kV_sdiv dc_sdiv pm_sdiv cd_sdiv ct_sdiv oc_smod kV_smod dc_smod pm_smod cd_smod ct_smod oc_bag kV_bag dc_bag pm_bag cd_bag ct_bag oc_take kV_take dc_take pm_take cd_take ct_take oc_num kV_num dc_num pm_num cd_num ct_num oc_isN kV_isN dc_isN pm_isN cd_isN ct_isN oc_isS kV_isS dc_isS pm_isS cd_isS ct_isS oc_right kV_right dc_right pm_right cd_right ct_right oc_law kV_law dc_law pm_law cd_law ct_law : Value}
    (aC_S : PySem.W.nsIn K mainGlobals "Span" = some (some (.ref C_S)))
    (a_sinit : PySem.W.findIn K (.ref C_S) "__init__" = some (some (.ref f_sinit)))
    (i_sinit : PySem.W.isFn K (.ref f_sinit) = true)
    (l_sinit : K.lookup f_sinit = some ⟨oc_sinit, od_sinit, .func (PySem.W.fnOf "__init__" "Span.__init__" (defArgs sSInit) (defBody sSInit) (defScope sSInit) .none kV_sinit dc_sinit pm_sinit an_sinit cd_sinit ct_sinit), sl_sinit⟩)
    (c_sinit : PySem.W.codeIn K cd_sinit "Span.__init__" = true)
    (k_sinit : PySem.W.keepIn K (.ref f_sinit) = true)
    (a_sadd : PySem.W.findIn K (.ref C_S) "__add__" = some (some (.ref f_sadd)))
    (i_sadd : PySem.W.isFn K (.ref f_sadd) = true)
    (l_sadd : K.lookup f_sadd = some ⟨oc_sadd, od_sadd, .func (PySem.W.fnOf "__add__" "Span.__add__" (defArgs sSAdd) (defBody sSAdd) (defScope sSAdd) .none kV_sadd dc_sadd pm_sadd an_sadd cd_sadd ct_sadd), sl_sadd⟩)
    (c_sadd : PySem.W.codeIn K cd_sadd "Span.__add__" = true)
    (k_sadd : PySem.W.keepIn K (.ref f_sadd) = true)
    (a_ssub : PySem.W.findIn K (.ref C_S) "__sub__" = some (some (.ref f_ssub)))
    (i_ssub : PySem.W.isFn K (.ref f_ssub) = true)
    (l_ssub : K.lookup f_ssub = some ⟨oc_ssub, od_ssub, .func (PySem.W.fnOf "__sub__" "Span.__sub__" (defArgs sSSub) (defBody sSSub) (defScope sSSub) .none kV_ssub dc_ssub pm_ssub an_ssub cd_ssub ct_ssub), sl_ssub⟩)
    (c_ssub : PySem.W.codeIn K cd_ssub "Span.__sub__" = true)
    (k_ssub : PySem.W.keepIn K (.ref f_ssub) = true)
    (a_smul : PySem.W.findIn K (.ref C_S) "__mul__" = some (some (.ref f_smul)))
    (i_smul : PySem.W.isFn K (.ref f_smul) = true)
    (l_smul : K.lookup f_smul = some ⟨oc_smul, od_smul, .func (PySem.W.fnOf "__mul__" "Span.__mul__" (defArgs sSMul) (defBody sSMul) (defScope sSMul) .none kV_smul dc_smul pm_smul an_smul cd_smul ct_smul), sl_smul⟩)
    (c_smul : PySem.W.codeIn K cd_smul "Span.__mul__" = true)
    (k_smul : PySem.W.keepIn K (.ref f_smul) = true)
    (a_srmul : PySem.W.findIn K (.ref C_S) "__rmul__" = some (some (.ref f_srmul)))
    (i_srmul : PySem.W.isFn K (.ref f_srmul) = true)
    (l_srmul : K.lookup f_srmul = some ⟨oc_srmul, od_srmul, .func (PySem.W.fnOf "__rmul__" "Span.__rmul__" (defArgs sSRmul) (defBody sSRmul) (defScope sSRmul) .none kV_srmul dc_srmul pm_srmul an_srmul cd_srmul ct_srmul), sl_srmul⟩)
    (c_srmul : PySem.W.codeIn K cd_srmul "Span.__rmul__" = true)
    (k_srmul : PySem.W.keepIn K (.ref f_srmul) = true)
    (a_sdiv : PySem.W.findIn K (.ref C_S) "__floordiv__" = some (some (.ref f_sdiv)))
    (i_sdiv : PySem.W.isFn K (.ref f_sdiv) = true)
    (l_sdiv : K.lookup f_sdiv = some ⟨oc_sdiv, od_sdiv, .func (PySem.W.fnOf "__floordiv__" "Span.__floordiv__" (defArgs sSDiv) (defBody sSDiv) (defScope sSDiv) .none kV_sdiv dc_sdiv pm_sdiv an_sdiv cd_sdiv ct_sdiv), sl_sdiv⟩)
    (c_sdiv : PySem.W.codeIn K cd_sdiv "Span.__floordiv__" = true)
    (k_sdiv : PySem.W.keepIn K (.ref f_sdiv) = true)
    (a_smod : PySem.W.findIn K (.ref C_S) "__mod__" = some (some (.ref f_smod)))
    (i_smod : PySem.W.isFn K (.ref f_smod) = true)
    (l_smod : K.lookup f_smod = some ⟨oc_smod, od_smod, .func (PySem.W.fnOf "__mod__" "Span.__mod__" (defArgs sSMod) (defBody sSMod) (defScope sSMod) .none kV_smod dc_smod pm_smod an_smod cd_smod ct_smod), sl_smod⟩)
    (c_smod : PySem.W.codeIn K cd_smod "Span.__mod__" = true)
    (k_smod : PySem.W.keepIn K (.ref f_smod) = true)
    (pg_S : PySem.W.plainGet K C_S Str.empty = true)
    (hd_S : PySem.W.hasDictIn K C_S = true)
    (po_S : PySem.W.plainOver K C_S = true)
    (sa_S : PySem.W.findIn K (.ref C_S) "__setattr__" = some (some (.builtin "object.__setattr__")))
    (mk_S : PySem.W.makesIn K C_S = true)
    (kc_S : PySem.W.keepIn K (.ref C_S) = true)
    (nt_S : PySem.W.findIn K (.ref C_S) "ticks" = some none)
    (ha_S : PySem.W.findIn K (.ref C_S) "__class__" = some (some (.builtin "object.__class__")))
    (hn_S : PySem.W.specialIn K (.builtin "object.__class__") "__get__" = some (some (.builtin "getset_descriptor.__get__")))
    (htk_S : PySem.W.takesIn K (.builtin "object.__class__") = some true)
    (hm_S : PySem.W.mroIn K C_S (.type "object") = some true)
    (sf_S : PySem.W.selfFirst K C_S = true)
    (i1 : PySem.W.findIn K (.type "int") "__mul__" = some (some (.builtin "int.__mul__")))
    (i2 : PySem.W.findIn K (.type "int") "__rmul__" = some (some (.builtin "int.__rmul__")))
    (s1 : PySem.W.subIn K (.type "int") (.ref C_S) = some false)
    (s2 : PySem.W.subIn K (.ref C_S) (.type "int") = some false)
    (a_bag : PySem.W.nsIn K mainGlobals "_law_bag" = some (some (.ref f_bag)))
    (l_bag : K.lookup f_bag = some ⟨oc_bag, od_bag, .func (PySem.W.fnOf "_law_bag" "_law_bag" (defArgs sBag) (defBody sBag) (defScope sBag) .none kV_bag dc_bag pm_bag an_bag cd_bag ct_bag), sl_bag⟩)
    (c_bag : PySem.W.codeIn K cd_bag "_law_bag" = true)
    (k_bag : PySem.W.keepIn K (.ref f_bag) = true)
    (a_take : PySem.W.nsIn K mainGlobals "_law_take" = some (some (.ref f_take)))
    (l_take : K.lookup f_take = some ⟨oc_take, od_take, .func (PySem.W.fnOf "_law_take" "_law_take" (defArgs sTake) (defBody sTake) (defScope sTake) .none kV_take dc_take pm_take an_take cd_take ct_take), sl_take⟩)
    (c_take : PySem.W.codeIn K cd_take "_law_take" = true)
    (k_take : PySem.W.keepIn K (.ref f_take) = true)
    (a_num : PySem.W.nsIn K mainGlobals "_law_number" = some (some (.ref f_num)))
    (l_num : K.lookup f_num = some ⟨oc_num, od_num, .func (PySem.W.fnOf "_law_number" "_law_number" (defArgs sNum) (defBody sNum) (defScope sNum) .none kV_num dc_num pm_num an_num cd_num ct_num), sl_num⟩)
    (c_num : PySem.W.codeIn K cd_num "_law_number" = true)
    (k_num : PySem.W.keepIn K (.ref f_num) = true)
    (a_isN : PySem.W.nsIn K mainGlobals "_law_is_number" = some (some (.ref f_isN)))
    (l_isN : K.lookup f_isN = some ⟨oc_isN, od_isN, .func (PySem.W.fnOf "_law_is_number" "_law_is_number" (defArgs sIsN) (defBody sIsN) (defScope sIsN) .none kV_isN dc_isN pm_isN an_isN cd_isN ct_isN), sl_isN⟩)
    (c_isN : PySem.W.codeIn K cd_isN "_law_is_number" = true)
    (k_isN : PySem.W.keepIn K (.ref f_isN) = true)
    (a_isS : PySem.W.nsIn K mainGlobals "_law_is_span" = some (some (.ref f_isS)))
    (l_isS : K.lookup f_isS = some ⟨oc_isS, od_isS, .func (PySem.W.fnOf "_law_is_span" "_law_is_span" (defArgs sIsS) (defBody sIsS) (defScope sIsS) .none kV_isS dc_isS pm_isS an_isS cd_isS ct_isS), sl_isS⟩)
    (c_isS : PySem.W.codeIn K cd_isS "_law_is_span" = true)
    (k_isS : PySem.W.keepIn K (.ref f_isS) = true)
    (a_right : PySem.W.nsIn K mainGlobals "_law_right" = some (some (.ref f_right)))
    (l_right : K.lookup f_right = some ⟨oc_right, od_right, .func (PySem.W.fnOf "_law_right" "_law_right" (defArgs sRight) (defBody sRight) (defScope sRight) .none kV_right dc_right pm_right an_right cd_right ct_right), sl_right⟩)
    (c_right : PySem.W.codeIn K cd_right "_law_right" = true)
    (k_right : PySem.W.keepIn K (.ref f_right) = true)
    (a_law : PySem.W.nsIn K mainGlobals "law" = some (some (.ref f_law)))
    (l_law : K.lookup f_law = some ⟨oc_law, od_law, .func (PySem.W.fnOf "law" "law" (defArgs sLaw) (defBody sLaw) (defScope sLaw) .none kV_law dc_law pm_law an_law cd_law ct_law), sl_law⟩)
    (c_law : PySem.W.codeIn K cd_law "law" = true)
    (k_law : PySem.W.keepIn K (.ref f_law) = true)
    (z_len : PySem.W.nsIn K mainGlobals "len" = some none)
    (z_abs : PySem.W.nsIn K mainGlobals "abs" = some none)
    (z_int : PySem.W.nsIn K mainGlobals "int" = some none)
    (z_bool : PySem.W.nsIn K mainGlobals "bool" = some none)
    (z_isinstance : PySem.W.nsIn K mainGlobals "isinstance" = some none)
    (z_range : PySem.W.nsIn K mainGlobals "range" = some none)
    (z_max : PySem.W.nsIn K mainGlobals "max" = some none)
    (z_min : PySem.W.nsIn K mainGlobals "min" = some none)
    : ∃ fd : FuncData, (∀ (s : Shared) (v : Value), BindsTo s fd ⟨[v], []⟩ [("_law_script", v)]) ∧ ∀ base : Heap, K.In base → base.Ns mainGlobals mg → FnOk l.prog w K mg base (L2.CX l.prog w) 6 fa fd ["_law_script"] (spLaw K) := by
  have e := hfa.symm.trans (PySem.W.mg_of X G a_law)
  cases e
  have F_sinit := fun_mk (st := sSInit) l_sinit c_sinit k_sinit
  have b_sinit := F_sinit.binds (ps := ["self", "ticks"]) fun _ _ _ _ _ _ us hl => match us, hl with | [_, _], _ => rfl
  have F_sadd := fun_mk (st := sSAdd) l_sadd c_sadd k_sadd
  have b_sadd := F_sadd.binds (ps := ["self", "other"]) fun _ _ _ _ _ _ us hl => match us, hl with | [_, _], _ => rfl
  have F_ssub := fun_mk (st := sSSub) l_ssub c_ssub k_ssub
  have b_ssub := F_ssub.binds (ps := ["self", "other"]) fun _ _ _ _ _ _ us hl => match us, hl with | [_, _], _ => rfl
  have F_smul := fun_mk (st := sSMul) l_smul c_smul k_smul
  have b_smul := F_smul.binds (ps := ["self", "other"]) fun _ _ _ _ _ _ us hl => match us, hl with | [_, _], _ => rfl
  have F_srmul := fun_mk (st := sSRmul) l_srmul c_srmul k_srmul
  have b_srmul := F_srmul.binds (ps := ["self", "other"]) fun _ _ _ _ _ _ us hl => match us, hl with | [_, _], _ => rfl
  have F_sdiv := fun_mk (st := sSDiv) l_sdiv c_sdiv k_sdiv
  have b_sdiv := F_sdiv.binds (ps := ["self", "other"]) fun _ _ _ _ _ _ us hl => match us, hl with | [_, _], _ => rfl
  have F_smod := fun_mk (st := sSMod) l_smod c_smod k_smod
  have b_smod := F_smod.binds (ps := ["self", "other"]) fun _ _ _ _ _ _ us hl => match us, hl with | [_, _], _ => rfl
  have cl_S : Cls K C_S := ⟨pg_S, hd_S, po_S, sa_S⟩
  have mgC_S := PySem.W.mg_of X G aC_S
  have F_bag := fun_mk (st := sBag) l_bag c_bag k_bag
  have b_bag := F_bag.binds (ps := ["_law_script", "_law_at"]) fun _ _ _ _ _ _ us hl => match us, hl with | [_, _], _ => rfl
  have mg_bag := PySem.W.mg_of X G a_bag
  have F_take := fun_mk (st := sTake) l_take c_take k_take
  have b_take := F_take.binds (ps := ["_law_bag_here", "_law_many"]) fun _ _ _ _ _ _ us hl => match us, hl with | [_, _], _ => rfl
  have mg_take := PySem.W.mg_of X G a_take
  have F_num := fun_mk (st := sNum) l_num c_num k_num
  have b_num := F_num.binds (ps := ["_law_bag_here"]) fun _ _ _ _ _ _ us hl => match us, hl with | [_], _ => rfl
  have mg_num := PySem.W.mg_of X G a_num
  have F_isN := fun_mk (st := sIsN) l_isN c_isN k_isN
  have b_isN := F_isN.binds (ps := ["_law_thing", "_law_due"]) fun _ _ _ _ _ _ us hl => match us, hl with | [_, _], _ => rfl
  have mg_isN := PySem.W.mg_of X G a_isN
  have F_isS := fun_mk (st := sIsS) l_isS c_isS k_isS
  have b_isS := F_isS.binds (ps := ["_law_thing", "_law_due"]) fun _ _ _ _ _ _ us hl => match us, hl with | [_, _], _ => rfl
  have mg_isS := PySem.W.mg_of X G a_isS
  have F_right := fun_mk (st := sRight) l_right c_right k_right
  have b_right := F_right.binds (ps := ["_law_one", "_law_factor", "_law_divisor"]) fun _ _ _ _ _ _ us hl => match us, hl with | [_, _, _], _ => rfl
  have mg_right := PySem.W.mg_of X G a_right
  have F_law := fun_mk (st := sLaw) l_law c_law k_law
  have mg_law := PySem.W.mg_of X G a_law
  have bi_len : Bi mg "len" (.builtin "len") := ⟨PySem.W.mg_none_of X G z_len, by decide +kernel⟩
  have bi_abs : Bi mg "abs" (.builtin "abs") := ⟨PySem.W.mg_none_of X G z_abs, by decide +kernel⟩
  have bi_int : Bi mg "int" (.type "int") := ⟨PySem.W.mg_none_of X G z_int, by decide +kernel⟩
  have bi_bool : Bi mg "bool" (.type "bool") := ⟨PySem.W.mg_none_of X G z_bool, by decide +kernel⟩
  have bi_isinstance : Bi mg "isinstance" (.builtin "isinstance") := ⟨PySem.W.mg_none_of X G z_isinstance, by decide +kernel⟩
  have bi_range := PySem.W.mg_none_of X G z_range
  have bi_max : Bi mg "max" (.builtin "max") := ⟨PySem.W.mg_none_of X G z_max, by decide +kernel⟩
  have bi_min : Bi mg "min" (.builtin "min") := ⟨PySem.W.mg_none_of X G z_min, by decide +kernel⟩
  have T : SpT K mg C_S := ⟨cl_S, nt_S, mgC_S, ha_S, hn_S, htk_S, hm_S, sf_S⟩
  refine ⟨PySem.W.fnOf "law" "law" (defArgs sLaw) (defBody sLaw) (defScope sLaw) .none kV_law dc_law pm_law an_law cd_law ct_law, fun s v => .of_eq rfl, fun base _ _ => ?_⟩
  have d_take : Df l.prog w K mg base "_law_take" 1 spTake := ⟨_, _, _, ok_take F_take bi_int, mg_take, k_take, b_take⟩
  have d_bag : Df l.prog w K mg base "_law_bag" 1 (spBag K) := ⟨_, _, _, ok_bag F_bag bi_len bi_abs bi_int, mg_bag, k_bag, b_bag⟩
  have d_num : Df l.prog w K mg base "_law_number" 2 spNum := ⟨_, _, _, ok_num F_num d_take, mg_num, k_num, b_num⟩
  have d_isN : Df l.prog w K mg base "_law_is_number" 1 spIsN := ⟨_, _, _, ok_isN F_isN bi_isinstance bi_int bi_bool, mg_isN, k_isN, b_isN⟩
  have d_isS : Df l.prog w K mg base "_law_is_span" 2 (spIsS C_S) := ⟨_, _, _, ok_isS F_isS T bi_isinstance d_isN, mg_isS, k_isS, b_isS⟩
  have Mi : Mk K C_S f_sinit := ⟨mk_S, a_sinit, i_sinit, kc_S⟩
  have d_span : Dc l.prog w K mg base "Span" C_S 1 (spSInit C_S) := ⟨_, _, _, ok_sinit F_sinit T, mgC_S, Mi, b_sinit⟩
  have d_add : Dm l.prog w K mg base C_S "__add__" 3 (spS2 C_S (· + ·)) := ⟨_, _, _, ok_sadd F_sadd T bi_isinstance d_span, ⟨a_sadd, i_sadd, k_sadd⟩, b_sadd⟩
  have d_sub : Dm l.prog w K mg base C_S "__sub__" 3 (spS2 C_S (· - ·)) := ⟨_, _, _, ok_ssub F_ssub T bi_isinstance d_span, ⟨a_ssub, i_ssub, k_ssub⟩, b_ssub⟩
  have d_mul : Dm l.prog w K mg base C_S "__mul__" 3 (spSMul C_S) := ⟨_, _, _, ok_smul F_smul T bi_isinstance bi_int d_span, ⟨a_smul, i_smul, k_smul⟩, b_smul⟩
  have d_rmul : Dm l.prog w K mg base C_S "__rmul__" 3 (spSMul C_S) := ⟨_, _, _, ok_srmul F_srmul T bi_isinstance bi_int d_span, ⟨a_srmul, i_srmul, k_srmul⟩, b_srmul⟩
  have d_div : Dm l.prog w K mg base C_S "__floordiv__" 1 (spSDiv C_S) := ⟨_, _, _, ok_sdiv F_sdiv T bi_isinstance, ⟨a_sdiv, i_sdiv, k_sdiv⟩, b_sdiv⟩
  have d_mod : Dm l.prog w K mg base C_S "__mod__" 3 (spSMod C_S) := ⟨_, _, _, ok_smod F_smod T bi_isinstance d_span, ⟨a_smod, i_smod, k_smod⟩, b_smod⟩
  have M : SpM K C_S f_smul f_srmul := ⟨a_smul, a_srmul, i1, i2, s1, s2⟩
  have d_right : Df l.prog w K mg base "_law_right" 5 spRight := ⟨_, _, _, ok_right F_right T M d_isN d_isS d_span d_add d_sub d_mul d_rmul d_div d_mod, mg_right, k_right, b_right⟩
  exact ok_law F_law bi_range bi_max bi_min bi_len d_bag d_num d_right
end Sx

open PySem PySem.W PyProof.Rows
set_option maxRecDepth 100000 in
set_option maxHeartbeats 0 in
theorem PySem.Challenge.cw_strayfiles_k02_spans_multiplied_holds : PySem.Challenge.rw_strayfiles_k02_spans_multiplied.Holds := by
  w_on; o_law; k_head; (case hw => w_witness2)
  k_fill
  refine L2.walk_of (l := PySem.Challenge.rw_strayfiles_k02_spans_multiplied) (n := 63) (k := 6) (x := "_law_script") (CX := fun w => L2.CX PySem.Challenge.pw_strayfiles_k02_spans_multiplied w) (sp := fun w => Sx.spLaw _) rfl (by decide) rfl ⟨rfl, by decide, by decide⟩ (fun w h Y => PySem.W.kIn_of Y) ?F (fun _ _ a ns hl _ hS => ⟨a, ns, rfl, hS, hl, fun _ => rfl⟩) (fun _ _ _ _ _ h => Sx.cx_false _ _ _ _ h)
  case F =>
    intro w mg fa h KX G hmg
    refine' Sx.all_mk (l := PySem.Challenge.rw_strayfiles_k02_spans_multiplied) KX G hmg ?aC_S ?a_sinit ?i_sinit ?l_sinit ?c_sinit ?k_sinit ?a_sadd ?i_sadd ?l_sadd ?c_sadd ?k_sadd ?a_ssub ?i_ssub ?l_ssub ?c_ssub ?k_ssub ?a_smul ?i_smul ?l_smul ?c_smul ?k_smul ?a_srmul ?i_srmul ?l_srmul ?c_srmul ?k_srmul ?a_sdiv ?i_sdiv ?l_sdiv ?c_sdiv ?k_sdiv ?a_smod ?i_smod ?l_smod ?c_smod ?k_smod ?pg_S ?hd_S ?po_S ?sa_S ?mk_S ?kc_S ?nt_S ?ha_S ?hn_S ?htk_S ?hm_S ?sf_S ?i1 ?i2 ?s1 ?s2 ?a_bag ?l_bag ?c_bag ?k_bag ?a_take ?l_take ?c_take ?k_take ?a_num ?l_num ?c_num ?k_num ?a_isN ?l_isN ?c_isN ?k_isN ?a_isS ?l_isS ?c_isS ?k_isS ?a_right ?l_right ?c_right ?k_right ?a_law ?l_law ?c_law ?k_law ?z_len ?z_abs ?z_int ?z_bool ?z_isinstance ?z_range ?z_max ?z_min
    (case aC_S => k_is)
    (case a_sinit => k_is)
    (case i_sinit => k_is)
    (case l_sinit => k_is)
    (case c_sinit => k_is)
    (case k_sinit => k_is)
    (case a_sadd => k_is)
    (case i_sadd => k_is)
    (case l_sadd => k_is)
    (case c_sadd => k_is)
    (case k_sadd => k_is)
    (case a_ssub => k_is)
    (case i_ssub => k_is)
    (case l_ssub => k_is)
    (case c_ssub => k_is)
    (case k_ssub => k_is)
    (case a_smul => k_is)
    (case i_smul => k_is)
    (case l_smul => k_is)
    (case c_smul => k_is)
    (case k_smul => k_is)
    (case a_srmul => k_is)
    (case i_srmul => k_is)
    (case l_srmul => k_is)
    (case c_srmul => k_is)
    (case k_srmul => k_is)
    (case a_sdiv => k_is)
    (case i_sdiv => k_is)
    (case l_sdiv => k_is)
    (case c_sdiv => k_is)
    (case k_sdiv => k_is)
    (case a_smod => k_is)
    (case i_smod => k_is)
    (case l_smod => k_is)
    (case c_smod => k_is)
    (case k_smod => k_is)
    (case pg_S => k_is)
    (case hd_S => k_is)
    (case po_S => k_is)
    (case sa_S => k_is)
    (case mk_S => k_is)
    (case kc_S => k_is)
    (case nt_S => k_is)
    (case ha_S => k_is)
    (case hn_S => k_is)
    (case htk_S => k_is)
    (case hm_S => k_is)
    (case sf_S => k_is)
    (case i1 => k_is)
    (case i2 => k_is)
    (case s1 => k_is)
    (case s2 => k_is)
    (case a_bag => k_is)
    (case l_bag => k_is)
    (case c_bag => k_is)
    (case k_bag => k_is)
    (case a_take => k_is)
    (case l_take => k_is)
    (case c_take => k_is)
    (case k_take => k_is)
    (case a_num => k_is)
    (case l_num => k_is)
    (case c_num => k_is)
    (case k_num => k_is)
    (case a_isN => k_is)
    (case l_isN => k_is)
    (case c_isN => k_is)
    (case k_isN => k_is)
    (case a_isS => k_is)
    (case l_isS => k_is)
    (case c_isS => k_is)
    (case k_isS => k_is)
    (case a_right => k_is)
    (case l_right => k_is)
    (case c_right => k_is)
    (case k_right => k_is)
    (case a_law => k_is)
    (case l_law => k_is)
    (case c_law => k_is)
    (case k_law => k_is)
    (case z_len => k_is)
    (case z_abs => k_is)
    (case z_int => k_is)
    (case z_bool => k_is)
    (case z_isinstance => k_is)
    (case z_range => k_is)
    (case z_max => k_is)
    (case z_min => k_is)
#print axioms PySem.Challenge.cw_strayfiles_k02_spans_multiplied_holds
