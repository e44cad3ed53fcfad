import PyProof.Rows.All
import Wide.All
import OpenK.AllK
import Wide.FinOn
import HandS.ForMost
import HandS.ForExc
import HandS.Wide
import HandS.EndBits
import HandS.IsInst
import HandS.MakeKw
import HandS.Style
import HandS.MakeKwOnly
import HandS.OwnEq
import KE.KOpsOwn
import KE.KCallOwn
import HandS.FStr
import HandS.Zip
import HandS.Flow
import HandS.RaiseMore
import PySem.Challenge.RW_strayfiles_k04_moments
set_option Elab.async false
set_option linter.all false
set_option maxRecDepth 100000
set_option maxHeartbeats 4000000
/-! Sx: a walker by weakest conditions over the hand layer: each judgement is a structure over the syntax, the slots and the heap; one rule a construct. -/
namespace Sx
open PySem L2
open PyProof.Rows (subscriptTail)

/-! ### the judgements -/
structure E (X : Cx) (e : Expr) (σ : St) (H : Hp) (Q : VK) : Prop where
  run : ∀ (pins : List (Addr × Obj)) (s : Shared), Inv X pins σ H s → wpAny (model X.prog X.w) X.A (eval e X.env) (EP X pins σ Q) X.xe s
structure T (X : Cx) (e : Expr) (σ : St) (H : Hp) (Q : Bool → Hp → Prop) : Prop where
  run : ∀ (pins : List (Addr × Obj)) (s : Shared), Inv X pins σ H s → wpAny (model X.prog X.w) X.A (isTrue e X.env (eval e X.env)) (TP X pins σ Q) X.xe s
structure W (X : Cx) (e : Expr) (σ : St) (H : Hp) (Q : Bool → Hp → Prop) : Prop where
  run : ∀ (whole : Sem Value) (pins : List (Addr × Obj)) (s : Shared), Inv X pins σ H s → wpAny (model X.prog X.w) X.A (isTrue e X.env whole) (TP X pins σ Q) X.xe s
structure As (X : Cx) (es : List Expr) (σ : St) (H : Hp) (Q : List V → Hp → Prop) : Prop where
  run : ∀ (pos : Pos) (pins : List (Addr × Obj)) (s : Shared), Inv X pins σ H s → wpAny (model X.prog X.w) X.A (spliced (backTo pos (starEach es X.env))) (AP X pins σ Q) X.xe s
structure S (X : Cx) (st : Stmt) (nx : St → Hp → Prop) (rt : VK) (bk ct : St → Hp → Prop) (σ : St) (H : Hp) : Prop where
  run : ∀ (pins : List (Addr × Obj)) (s : Shared), Inv X pins σ H s → wpAny (model X.prog X.w) X.A (exec st X.env) (SP X pins ⟨nx, rt, bk, ct⟩) X.xe s
structure Ss (X : Cx) (st : List Stmt) (nx : St → Hp → Prop) (rt : VK) (bk ct : St → Hp → Prop) (σ : St) (H : Hp) : Prop where
  run : ∀ (pins : List (Addr × Obj)) (s : Shared), Inv X pins σ H s → wpAny (model X.prog X.w) X.A (execs st X.env) (SP X pins ⟨nx, rt, bk, ct⟩) X.xe s
structure G (X : Cx) (tg : Expr) (v : V) (σ : St) (H : Hp) (Q : St → Hp → Prop) : Prop where
  run : ∀ (pins : List (Addr × Obj)) (s : Shared) (u : Value), Inv X pins σ H s → RelV v u → wpAny (model X.prog X.w) X.A (assign tg X.env u) (fun _ s' => ∃ σ' H', Inv X pins σ' H' s' ∧ Q σ' H') X.xe s
structure Gs (X : Cx) (ts : List Expr) (vs : List V) (σ : St) (H : Hp) (Q : St → Hp → Prop) : Prop where
  run : ∀ (pins : List (Addr × Obj)) (s : Shared) (us : List Value), Inv X pins σ H s → Vals vs us → wpAny (model X.prog X.w) X.A (assignInOrder ((assignEach ts X.env).map (·.2)) us) (fun _ s' => ∃ σ' H', Inv X pins σ' H' s' ∧ Q σ' H') X.xe s
/-- an operation of two, of one, by values; a call by values; truth by value; a subscript by values; a store by values -/
structure B2 (X : Cx) (f : Value → Value → Sem Value) (x y : V) (H : Hp) (Q : VK) : Prop where
  run : ∀ (pins : List (Addr × Obj)) (s : Shared) (σ : St) (v u : Value), Inv X pins σ H s → RelV x v → RelV y u → wpAny (model X.prog X.w) X.A (f v u) (EP X pins σ Q) X.xe s
structure Bo (X : Cx) (op : Operator) (x y : V) (H : Hp) (Q : VK) : Prop where
  run : ∀ (pins : List (Addr × Obj)) (s : Shared) (σ : St) (v u : Value), Inv X pins σ H s → RelV x v → RelV y u → wpAny (model X.prog X.w) X.A (binaryOp op v u) (EP X pins σ Q) X.xe s
structure Co (X : Cx) (op : CmpOp) (x y : V) (H : Hp) (Q : VK) : Prop where
  run : ∀ (pins : List (Addr × Obj)) (s : Shared) (σ : St) (v u : Value), Inv X pins σ H s → RelV x v → RelV y u → wpAny (model X.prog X.w) X.A (compareOp op v u) (EP X pins σ Q) X.xe s
structure Io (X : Cx) (op : Operator) (x y : V) (H : Hp) (Q : VK) : Prop where
  run : ∀ (pins : List (Addr × Obj)) (s : Shared) (σ : St) (v u : Value), Inv X pins σ H s → RelV x v → RelV y u → wpAny (model X.prog X.w) X.A (inplaceOp op v u) (EP X pins σ Q) X.xe s
structure Uo (X : Cx) (op : UnaryOp) (x : V) (H : Hp) (Q : VK) : Prop where
  run : ∀ (pins : List (Addr × Obj)) (s : Shared) (σ : St) (v : Value), Inv X pins σ H s → RelV x v → wpAny (model X.prog X.w) X.A (unaryOp op v) (EP X pins σ Q) X.xe s
structure U1 (X : Cx) (f : Value → Sem Value) (x : V) (H : Hp) (Q : VK) : Prop where
  run : ∀ (pins : List (Addr × Obj)) (s : Shared) (σ : St) (v : Value), Inv X pins σ H s → RelV x v → wpAny (model X.prog X.w) X.A (f v) (EP X pins σ Q) X.xe s
structure C (X : Cx) (f : Value) (vs : List V) (H : Hp) (Q : VK) : Prop where
  run : ∀ (pins : List (Addr × Obj)) (s : Shared) (σ : St) (us : List Value), Inv X pins σ H s → Vals vs us → wpAny (model X.prog X.w) X.A (call f us) (EP X pins σ Q) X.xe s
structure Tr (X : Cx) (x : V) (H : Hp) (Q : Bool → Hp → Prop) : Prop where
  run : ∀ (pins : List (Addr × Obj)) (s : Shared) (σ : St) (u : Value), Inv X pins σ H s → RelV x u → wpAny (model X.prog X.w) X.A (truthy u) (TP X pins σ Q) X.xe s
structure Ix (X : Cx) (a b : Expr) (x y : V) (H : Hp) (Q : VK) : Prop where
  run : ∀ (pins : List (Addr × Obj)) (s : Shared) (σ : St) (v u : Value), Inv X pins σ H s → RelV x v → RelV y u → wpAny (model X.prog X.w) X.A (subscriptTail a b v u) (EP X pins σ Q) X.xe s
structure St3 (X : Cx) (o i v : V) (H : Hp) (Q : Hp → Prop) : Prop where
  run : ∀ (pins : List (Addr × Obj)) (s : Shared) (σ : St) (ov iv u : Value), Inv X pins σ H s → RelV o ov → RelV i iv → RelV v u → wpAny (model X.prog X.w) X.A (setItem ov iv u) (fun _ s' => ∃ H', Inv X pins σ H' s' ∧ Q H') X.xe s
/-- a method of a built-in type, by values -/
structure Mt (X : Cx) (id : String) (x : V) (xs : List V) (H : Hp) (Q : VK) : Prop where
  run : ∀ (pins : List (Addr × Obj)) (s : Shared) (σ : St) (v : Value) (us : List Value), Inv X pins σ H s → RelV x v → Vals xs us → wpAny (model X.prog X.w) X.A (call (.builtin id) (v :: us)) (EP X pins σ Q) X.xe s

section
variable {X : Cx} {e a b : Expr} {es : List Expr} {σ : St} {H : Hp} {Q : VK} {st : Stmt} {sts : List Stmt} {pos : Pos}
theorem pe : PE X e (fun σ H Q => E X e σ H Q) := ⟨fun pins s _ _ _ I h => h.run pins s I⟩
theorem pt : PT X e (fun σ H Q => T X e σ H Q) := ⟨fun pins s _ _ _ I h => h.run pins s I⟩
theorem pw : PW X e (fun σ H Q => W X e σ H Q) := ⟨fun w pins s _ _ _ I h => h.run w pins s I⟩
theorem pa : PA X es (fun σ H Q => As X es σ H Q) := ⟨fun pos pins s _ _ _ I h => h.run pos pins s I⟩
theorem ps : PS X st (fun D σ H => S X st D.nx D.rt D.bk D.ct σ H) := ⟨fun pins s _ _ _ I h => h.run pins s I⟩
theorem pss : PSs X sts (fun D σ H => Ss X sts D.nx D.rt D.bk D.ct σ H) := ⟨fun pins s _ _ _ I h => h.run pins s I⟩
theorem pg : PG X e (fun v σ H Q => G X e v σ H Q) := ⟨fun pins s _ _ _ u _ I r h => h.run pins s u I r⟩
theorem pgs : PGs X es (fun vs σ H Q => Gs X es vs σ H Q) := ⟨fun pins s _ _ _ us _ I r h => h.run pins s us I r⟩
theorem pop {f : Value → Value → Sem Value} : OpR X f (fun x y H Q => B2 X f x y H Q) := fun pins s σ _ _ _ v u _ I rx ry h => h.run pins s σ v u I rx ry
theorem pBo {op : Operator} : OpR X (binaryOp op) (fun x y H Q => Bo X op x y H Q) := fun pins s σ _ _ _ v u _ I rx ry h => h.run pins s σ v u I rx ry
theorem Bo.of {op : Operator} {r : R2} {x y : V} (h : OpR X (binaryOp op) r) (q : r x y H Q) : Bo X op x y H Q := ⟨fun pins s σ v u I rx ry => h pins s σ H x y v u Q I rx ry q⟩
theorem Bo.mono {op : Operator} {x y : V} {Q' : VK} (h : Bo X op x y H Q) (i : ∀ v H, Q v H → Q' v H) : Bo X op x y H Q' := ⟨fun pins s σ v u I r1 r2 => wpAny_mono (h.run pins s σ v u I r1 r2) (fun _ _ ⟨v, H', I', r, q⟩ => ⟨v, H', I', r, i _ _ q⟩) fun _ _ z => z⟩
theorem pCo {op : CmpOp} : OpR X (compareOp op) (fun x y H Q => Co X op x y H Q) := fun pins s σ _ _ _ v u _ I rx ry h => h.run pins s σ v u I rx ry
theorem Co.of {op : CmpOp} {r : R2} {x y : V} (h : OpR X (compareOp op) r) (q : r x y H Q) : Co X op x y H Q := ⟨fun pins s σ v u I rx ry => h pins s σ H x y v u Q I rx ry q⟩
theorem Co.mono {op : CmpOp} {x y : V} {Q' : VK} (h : Co X op x y H Q) (i : ∀ v H, Q v H → Q' v H) : Co X op x y H Q' := ⟨fun pins s σ v u I r1 r2 => wpAny_mono (h.run pins s σ v u I r1 r2) (fun _ _ ⟨v, H', I', r, q⟩ => ⟨v, H', I', r, i _ _ q⟩) fun _ _ z => z⟩
theorem pIo {op : Operator} : OpR X (inplaceOp op) (fun x y H Q => Io X op x y H Q) := fun pins s σ _ _ _ v u _ I rx ry h => h.run pins s σ v u I rx ry
theorem Io.of {op : Operator} {r : R2} {x y : V} (h : OpR X (inplaceOp op) r) (q : r x y H Q) : Io X op x y H Q := ⟨fun pins s σ v u I rx ry => h pins s σ H x y v u Q I rx ry q⟩
theorem Io.mono {op : Operator} {x y : V} {Q' : VK} (h : Io X op x y H Q) (i : ∀ v H, Q v H → Q' v H) : Io X op x y H Q' := ⟨fun pins s σ v u I r1 r2 => wpAny_mono (h.run pins s σ v u I r1 r2) (fun _ _ ⟨v, H', I', r, q⟩ => ⟨v, H', I', r, i _ _ q⟩) fun _ _ z => z⟩
theorem pUo {op : UnaryOp} : UnR X (unaryOp op) (fun x H Q => Uo X op x H Q) := fun pins s σ _ _ v _ I rx h => h.run pins s σ v I rx
theorem Uo.of {op : UnaryOp} {r : V → Hp → VK → Prop} {x : V} (h : UnR X (unaryOp op) r) (q : r x H Q) : Uo X op x H Q := ⟨fun pins s σ v I rx => h pins s σ H x v Q I rx q⟩
theorem pun {f : Value → Sem Value} : UnR X f (fun x H Q => U1 X f x H Q) := fun pins s σ _ _ v _ I rx h => h.run pins s σ v I rx
theorem pcall {f : Value} : CallR X f (fun vs H Q => C X f vs H Q) := fun pins s σ _ _ us _ I r h => h.run pins s σ us I r
theorem pmt {id : String} : MtR X id (fun x xs H Q => Mt X id x xs H Q) := fun pins s σ _ _ _ v us _ I r rs h => h.run pins s σ v us I r rs
theorem pset : PSet X (fun o i v H Q => St3 X o i v H Q) := fun pins s σ _ _ _ _ ov iv u _ I ro ri rv h => h.run pins s σ ov iv u I ro ri rv
theorem E.of {t : TE} (h : PE X e t) (q : t σ H Q) : E X e σ H Q := ⟨fun pins s I => h.run pins s σ H Q I q⟩
theorem T.of {t : TT} {Q : Bool → Hp → Prop} (h : PT X e t) (q : t σ H Q) : T X e σ H Q := ⟨fun pins s I => h.run pins s σ H Q I q⟩
theorem W.of {t : TT} {Q : Bool → Hp → Prop} (h : PW X e t) (q : t σ H Q) : W X e σ H Q := ⟨fun w pins s I => h.run w pins s σ H Q I q⟩
theorem As.of {t : TA} {Q : List V → Hp → Prop} (h : PA X es t) (q : t σ H Q) : As X es σ H Q := ⟨fun pos pins s I => h.run pos pins s σ H Q I q⟩
theorem S.of {t : TS} {nx : St → Hp → Prop} {rt : VK} {bk ct : St → Hp → Prop} (h : PS X st t) (q : t ⟨nx, rt, bk, ct⟩ σ H) : S X st nx rt bk ct σ H := ⟨fun pins s I => h.run pins s σ H _ I q⟩
theorem Ss.of {t : TS} {nx : St → Hp → Prop} {rt : VK} {bk ct : St → Hp → Prop} (h : PSs X sts t) (q : t ⟨nx, rt, bk, ct⟩ σ H) : Ss X sts nx rt bk ct σ H := ⟨fun pins s I => h.run pins s σ H _ I q⟩
theorem G.of {t : TG} {v : V} {Q : St → Hp → Prop} (h : PG X e t) (q : t v σ H Q) : G X e v σ H Q := ⟨fun pins s u I r => h.run pins s σ H v u Q I r q⟩
theorem Gs.of {t : TGs} {vs : List V} {Q : St → Hp → Prop} (h : PGs X es t) (q : t vs σ H Q) : Gs X es vs σ H Q := ⟨fun pins s us I r => h.run pins s σ H vs us Q I r q⟩
theorem B2.of {f : Value → Value → Sem Value} {r : R2} {x y : V} (h : OpR X f r) (q : r x y H Q) : B2 X f x y H Q := ⟨fun pins s σ v u I rx ry => h pins s σ H x y v u Q I rx ry q⟩
theorem U1.of {f : Value → Sem Value} {r : V → Hp → VK → Prop} {x : V} (h : UnR X f r) (q : r x H Q) : U1 X f x H Q := ⟨fun pins s σ v I rx => h pins s σ H x v Q I rx q⟩
theorem C.of {f : Value} {r : List V → Hp → VK → Prop} {vs : List V} (h : CallR X f r) (q : r vs H Q) : C X f vs H Q := ⟨fun pins s σ us I rv => h pins s σ H vs us Q I rv q⟩
theorem Mt.of {id : String} {r : V → List V → Hp → VK → Prop} {x : V} {xs : List V} (h : MtR X id r) (q : r x xs H Q) : Mt X id x xs H Q := ⟨fun pins s σ v us I rx rs => h pins s σ H x xs v us Q I rx rs q⟩
theorem Ix.of {r : R2} {x y : V} (h : IxR X r) (hs : PlainIx b) (q : r x y H Q) : Ix X a b x y H Q := ⟨fun pins s σ v u I rx ry => h a b pins s σ H x y v u Q I rx ry q (hs _ _)⟩
theorem St3.of {t : TSet} {o i v : V} {Q : Hp → Prop} (h : PSet X t) (q : t o i v H Q) : St3 X o i v H Q := ⟨fun pins s σ ov iv u I ro ri rv => h pins s σ H o i v ov iv u Q I ro ri rv q⟩
theorem Tr.of {x : V} {k : Bool} {Q : Bool → Hp → Prop} (h : TruV X.K x H k) (q : Q k H) : Tr X x H Q := ⟨fun pins s σ u I rx => tru_ok pins s σ H x u Q I rx ⟨k, h, q⟩⟩
end

/-! ### heaps: what is kept -/
/-- all but what stands at the addresses ws is kept -/
def Kp (ws : List Addr) (H H' : Hp) : Prop := ∀ a o, H a = some o → a ∉ ws → H' a = some o
theorem Kp.refl {ws : List Addr} {H : Hp} : Kp ws H H := fun _ _ h _ => h
theorem Kp.trans {ws : List Addr} {H H1 H2 : Hp} (a : Kp ws H H1) (b : Kp ws H1 H2) : Kp ws H H2 := fun c o h n => b c o (a c o h n) n
theorem ne_fresh {H : Hp} {a b : Addr} {o : HO} (h' : H b = none) (h : H a = some o) : a ≠ b := ne_of_none h h'
theorem Kp.getC {b : Addr} {ws : List Addr} {H H1 : Hp} {a : Addr} {o : HO} (k : Kp (b :: ws) H H1) (h : H a = some o) (n : a ∉ b :: ws) : H1 a = some o := k a o h n
theorem Kp.trC {b : Addr} {ws : List Addr} {H H1 H2 : Hp} (k : Kp [] H1 H2) (a : Kp (b :: ws) H H1) : Kp (b :: ws) H H2 := fun c o h n => k c o (a c o h n) (fun z => nomatch z)
theorem Kp.tr {ws : List Addr} {H H1 H2 : Hp} (b : Kp ws H1 H2) (a : Kp ws H H1) : Kp ws H H2 := a.trans b
theorem Kp.mono {ws us : List Addr} {H H1 : Hp} (a : Kp ws H H1) (h : ∀ x, x ∈ ws → x ∈ us) : Kp us H H1 := fun c o q n => a c o q fun z => n (h c z)
theorem Kp.get {ws : List Addr} {H H1 : Hp} {a : Addr} {o : HO} (k : Kp ws H H1) (h : H a = some o) (n : a ∉ ws) : H1 a = some o := k a o h n
theorem Kp.get0 {H H1 : Hp} {a : Addr} {o : HO} (k : Kp [] H H1) (h : H a = some o) : H1 a = some o := k a o h (fun z => nomatch z)
theorem Kp.same {H H1 : Hp} (k : Kp [] H H1) : Same H H1 := fun _ _ h => k.get0 h
theorem Kp.of_same {H H1 : Hp} (k : Same H H1) : Kp [] H H1 := fun a o h _ => k a o h
theorem Kp.any {ws : List Addr} {H H1 : Hp} (k : Kp [] H H1) : Kp ws H H1 := k.mono fun _ z => nomatch z
theorem Kp.seqL {K : PySem.W.Frag} {ws : List Addr} {H H1 : Hp} {a : Addr} {xs : List V} (k : Kp ws H H1) (h : SqL K H a xs) (n : a ∉ ws) : SqL K H1 a xs := by
  rcases h with (h | ⟨o, h⟩) | h
  · exact .inl (.inl (k _ _ h n))
  · exact .inl (.inr ⟨o, k _ _ h n⟩)
  · exact .inr h
theorem Kp.seqT {K : PySem.W.Frag} {ws : List Addr} {H H1 : Hp} {a : Addr} {xs : List V} (k : Kp ws H H1) (h : SqT K H a xs) (n : a ∉ ws) : SqT K H1 a xs := by
  rcases h with (h | ⟨o, h⟩) | h
  · exact .inl (.inl (k _ _ h n))
  · exact .inl (.inr ⟨o, k _ _ h n⟩)
  · exact .inr h
theorem Kp.seqL0 {K : PySem.W.Frag} {H H1 : Hp} {a : Addr} {xs : List V} (k : Kp [] H H1) (h : SqL K H a xs) : SqL K H1 a xs := k.seqL h fun z => nomatch z
theorem Kp.seqT0 {K : PySem.W.Frag} {H H1 : Hp} {a : Addr} {xs : List V} (k : Kp [] H H1) (h : SqT K H a xs) : SqT K H1 a xs := k.seqT h fun z => nomatch z
theorem Kp.seqLC {K : PySem.W.Frag} {b : Addr} {ws : List Addr} {H H1 : Hp} {a : Addr} {xs : List V} (k : Kp (b :: ws) H H1) (h : SqL K H a xs) (n : a ∉ b :: ws) : SqL K H1 a xs := k.seqL h n
theorem Kp.seqTC {K : PySem.W.Frag} {b : Addr} {ws : List Addr} {H H1 : Hp} {a : Addr} {xs : List V} (k : Kp (b :: ws) H H1) (h : SqT K H a xs) (n : a ∉ b :: ws) : SqT K H1 a xs := k.seqT h n
theorem kp_new {H : Hp} {p : Addr} {o : HO} (h : H p = none) : Kp [] H (upd H p o) := fun a u e _ => by rw [upd_ne (ne_of_none e h)]; exact e
theorem kp_mut {H : Hp} {p : Addr} {o : HO} : Kp [p] H (upd H p o) := fun a u e n => by rw [upd_ne (fun z => n (by rw [z]; exact List.mem_singleton.mpr rfl))]; exact e
theorem Kp.free {ws : List Addr} {H H1 : Hp} {p : Addr} (k : Kp ws H H1) (h : H1 p = none) (n : p ∉ ws) : H p = none := by
  cases q : H p with
  | none => rfl
  | some o => rw [k p o q n] at h; cases h
/-- a new object: the new heap is a letter -/
theorem new_heap {H : Hp} {p : Addr} {o : HO} {R : Hp → Prop} (h : H p = none) (k : ∀ H', Kp [] H H' → H' p = some o → R H') : R (upd H p o) := k _ (kp_new h) upd_same
theorem mut_heap {H : Hp} {p : Addr} {o : HO} {R : Hp → Prop} (k : ∀ H', Kp [p] H H' → H' p = some o → R H') : R (upd H p o) := k _ kp_mut upd_same

/-! ### names and slots -/
inductive Get : List Str → St → Str → V → Prop where
  | here {N : List Str} {σ : St} {x : Str} {v : V} : Get (x :: N) (some v :: σ) x v
  | there {N : List Str} {σ : St} {x y : Str} {v : V} {o : Option V} (h : Get N σ x v) : Get (y :: N) (o :: σ) x v
inductive SetF : List Str → St → Str → (V → St) → Prop where
  | here {N : List Str} {σ : St} {x : Str} {o : Option V} : SetF (x :: N) (o :: σ) x (fun v => some v :: σ)
  | there {N : List Str} {σ : St} {x y : Str} {o : Option V} {f : V → St} (h : SetF N σ x f) : SetF (y :: N) (o :: σ) x (fun v => o :: f v)
theorem Get.ix {N : List Str} {σ : St} {x : Str} {v : V} (g : Get N σ x v) : ∃ i : Nat, N[i]? = some x ∧ σ[i]? = some (some v) := by
  induction g with
  | here => exact ⟨0, rfl, rfl⟩
  | there _ ih => obtain ⟨i, h1, h2⟩ := ih; exact ⟨i + 1, by simpa using h1, by simpa using h2⟩
theorem SetF.ix {N : List Str} {σ : St} {x : Str} {f : V → St} (g : SetF N σ x f) : ∃ i : Nat, N[i]? = some x ∧ ∀ v, σ.set i (some v) = f v := by
  induction g with
  | here => exact ⟨0, rfl, fun _ => rfl⟩
  | there _ ih => obtain ⟨i, h1, h2⟩ := ih; exact ⟨i + 1, by simpa using h1, fun v => by rw [List.set_cons_succ, h2]⟩
theorem Get.mem {N : List Str} {σ : St} {x : Str} {v : V} (g : Get N σ x v) : x ∈ N := by
  obtain ⟨i, h, _⟩ := g.ix
  exact List.mem_of_getElem? h
theorem SetF.mem {N : List Str} {σ : St} {x : Str} {f : V → St} (g : SetF N σ x f) : x ∈ N := by
  obtain ⟨i, h, _⟩ := g.ix
  exact List.mem_of_getElem? h

/-- a def's names are its own, its globals are global: by one look at the scope -/
def okNames (N GL : List Str) (sc : Scope) : Bool :=
  (N.all fun x => (decide (sc.names.lookup x = some .local) || decide (sc.names.lookup x = some .cell)) && !(x == ("__debug__" : Str)) && !(x == ("__classdict__" : Str))) &&
  (GL.all fun x => decide (sc.names.lookup x = some .globalImplicit) && !(x == ("__debug__" : Str)) && decide (x ≠ ("__name__" : Str)))
/-- where one stands -/
structure Xk (X : Cx) (P : Program) (w : World) (K : PySem.W.Frag) (mg : Str → Option Value) (base : Heap) (sc : Scope) (N GL : List Str) (k : Nat) (E : XK) : Prop where
  prog : X.prog = P
  w : X.w = w
  K : X.K = K
  mg : X.mg = mg
  base : X.base = base
  n : X.N = N
  nd : N.Nodup
  loc : ∀ x ∈ N, Loc X.env.scope x ∧ (x == ("__debug__" : Str)) = false ∧ (x == ("__classdict__" : Str)) = false
  gl : ∀ x ∈ GL, Gl X x ∧ (x == ("__debug__" : Str)) = false ∧ x ≠ ("__name__" : Str)
  fn : ∀ x, X.fn x = true
  room : Room k X.A
  calm : X.calm = true
  tk : Takes X (fun c d _ H => E c d H)
  po : PassesOwn (model X.prog X.w) X.A X.env X.xe
  ev : ∃ (q : Str) (L f : Addr) (cd : Value), X.env = PyProof.Rows.envOfC q sc L f cd
section
variable {P : Program} {w : World} {K : PySem.W.Frag} {mg : Str → Option Value} {base : Heap}
theorem names_ok {X : Cx} {N GL : List Str} (h : okNames N GL X.env.scope = true) :
    (∀ x ∈ N, Loc X.env.scope x ∧ (x == ("__debug__" : Str)) = false ∧ (x == ("__classdict__" : Str)) = false) ∧ ∀ x ∈ GL, Gl X x ∧ (x == ("__debug__" : Str)) = false ∧ x ≠ ("__name__" : Str) := by
  unfold okNames at h
  rw [Bool.and_eq_true, List.all_eq_true, List.all_eq_true] at h
  refine ⟨fun x hx => ?_, fun x hx => ?_⟩
  · have q := h.1 x hx
    simp only [Bool.and_eq_true, Bool.or_eq_true, decide_eq_true_eq, Bool.not_eq_true'] at q
    exact ⟨q.1.1, q.1.2, q.2⟩
  · have q := h.2 x hx
    simp only [Bool.and_eq_true, decide_eq_true_eq, Bool.not_eq_true'] at q
    exact ⟨q.1.1, q.1.2, q.2⟩
/-- THE RULE for a def: its body walked -/
theorem fun_go {x qual : Str} {st : Stmt} {f : Addr} {fd : FuncData} {N ps : List Str} (GL : List Str) {k : Nat} {sp : Sp} (F : Fun K x qual st f fd) (S : FnScope N ps (defScope st)) (hok : okNames N GL (defScope st) = true) (len : ∀ vs H Q E, sp vs H Q E → vs.length = ps.length)
    (body : ∀ (X : Cx) (H : Hp) (vs : List V) (Q : VK) (E : XK), Xk X P w K mg base (defScope st) N GL k E → sp vs H Q E → Ss X (defBody st) (fun _ H' => Q .non H') Q (fun _ _ => False) (fun _ _ => False) (start N vs) H) :
    FnOk P w K mg base (L2.CX P w) (k + 1) f fd ps sp := by
  refine F.okX S len fun cdv A outer s H vs Q E hr h => ⟨_, pss, ?_⟩
  have q := names_ok (X := cxOf (L2.CX P w) P w K mg base N qual (defScope st) f cdv A outer s H E) (N := N) (GL := GL) hok
  exact body _ H vs Q E ⟨rfl, rfl, rfl, rfl, rfl, rfl, S.nd, q.1, q.2, fun _ => rfl, hr, rfl, takes_of rfl rfl rfl rfl, passes_of rfl, _, _, _, _, rfl⟩ h
end
end Sx
set_option Elab.async false
set_option linter.all false
set_option maxRecDepth 100000
set_option maxHeartbeats 4000000
/-! SxR: the walker's rules. -/
namespace Sx
open PySem L2
open PyProof.Rows (subscriptTail)

/-- a def that stands at its name: callable with positional arguments -/
def Df (P : Program) (w : World) (K : PySem.W.Frag) (mg : Str → Option Value) (base : Heap) (x : Str) (j : Nat) (sp : Sp) : Prop :=
  ∃ (f : Addr) (fd : FuncData) (ps : List Str), FnOk P w K mg base (L2.CX P w) j f fd ps sp ∧ mg x = some (.ref f) ∧ PySem.W.keepIn K (.ref f) = true ∧ Binds K fd ps []
/-- a class that stands at its name, made by its __init__ -/
def Dc (P : Program) (w : World) (K : PySem.W.Frag) (mg : Str → Option Value) (base : Heap) (x : Str) (Cl : Addr) (j : Nat) (sp : Sp) : Prop :=
  ∃ (f : Addr) (fd : FuncData) (ps : List Str), FnOk P w K mg base (L2.CX P w) j f fd ps sp ∧ mg x = some (.ref Cl) ∧ Mk K Cl f ∧ Binds K fd ps []
/-- a method of the class at C -/
def Dm (P : Program) (w : World) (K : PySem.W.Frag) (mg : Str → Option Value) (base : Heap) (Cl : Addr) (m : Str) (j : Nat) (sp : Sp) : Prop :=
  ∃ (f : Addr) (fd : FuncData) (ps : List Str), FnOk P w K mg base (L2.CX P w) j f fd ps sp ∧ Meth K Cl m f ∧ Binds K fd ps []
/-- a built-in name -/
def Bi (mg : Str → Option Value) (x : Str) (u : Value) : Prop := mg x = none ∧ bootBuiltins x = some u

/-- two ways -/
def Br (c : Bool) (A B : Prop) : Prop := (c = true → A) ∧ (c = false → B)
theorem Br.ite {c : Bool} {A B : Prop} (h : Br c A B) : if c = true then A else B := by
  cases c with
  | true => rw [if_pos rfl]; exact h.1 rfl
  | false => rw [if_neg Bool.false_ne_true]; exact h.2 rfl
theorem br_t {A B : Prop} (h : A) : Br true A B := ⟨fun _ => h, (fun z => nomatch z)⟩
theorem br_f {A B : Prop} (h : B) : Br false A B := ⟨(fun z => nomatch z), fun _ => h⟩
theorem br_d {p : Prop} [Decidable p] {A B : Prop} (h1 : p → A) (h2 : ¬ p → B) : Br (decide p) A B := ⟨fun z => h1 (of_decide_eq_true z), fun z => h2 (of_decide_eq_false z)⟩
theorem br_dt {p : Prop} [Decidable p] {A B : Prop} (hp : p) (h1 : A) : Br (decide p) A B := br_d (fun _ => h1) fun z => absurd hp z
theorem br_df {p : Prop} [Decidable p] {A B : Prop} (hp : ¬ p) (h1 : B) : Br (decide p) A B := br_d (fun z => absurd z hp) fun _ => h1
theorem br_n {c : Bool} {A B : Prop} (h : Br c B A) : Br (!c) A B := by
  cases c with
  | true => exact br_f (h.1 rfl)
  | false => exact br_t (h.2 rfl)
theorem br_any {c : Bool} {A B : Prop} (h1 : c = true → A) (h2 : c = false → B) : Br c A B := ⟨h1, h2⟩

/-! ### an instance's fields, as a list -/
inductive PutR : Str → V → List (Str × V) → List (Str × V) → Prop where
  | nil {f : Str} {v : V} : PutR f v [] [(f, v)]
  | here {f : Str} {v y : V} {r : List (Str × V)} : PutR f v ((f, y) :: r) ((f, v) :: r)
  | there {f g : Str} {v y : V} {r r' : List (Str × V)} (n : g ≠ f) (h : PutR f v r r') : PutR f v ((g, y) :: r) ((g, y) :: r')
theorem PutR.eq {f : Str} {v : V} {fs fs' : List (Str × V)} (h : PutR f v fs fs') : putF f v fs = fs' := by
  induction h with
  | nil => rfl
  | here => show (if _ = _ then _ else _) = _; rw [if_pos rfl]
  | there n _ ih => show (if _ = _ then _ else _) = _; rw [if_neg n, ih]
theorem lk_here {f : Str} {v : V} {r : List (Str × V)} : ((f, v) :: r).lookup f = some v := by simp [List.lookup]
theorem lk_there {f g : Str} {v y : V} {r : List (Str × V)} (n : f ≠ g) (h : r.lookup f = some v) : ((g, y) :: r).lookup f = some v := by
  have e : (f == g) = false := beq_eq_false_iff_ne.mpr n
  simp only [List.lookup, e]
  exact h
theorem lkn_nil {f : Str} : ([] : List (Str × V)).lookup f = none := rfl
theorem lkn_there {f g : Str} {y : V} {r : List (Str × V)} (n : f ≠ g) (h : r.lookup f = none) : ((g, y) :: r).lookup f = none := by
  have e : (f == g) = false := beq_eq_false_iff_ne.mpr n
  simp only [List.lookup, e]
  exact h

theorem mem_hd {x : Str} {r : List Str} : x ∈ x :: r := List.mem_cons_self
theorem mem_tl {x y : Str} {r : List Str} (h : x ∈ r) : x ∈ y :: r := List.mem_cons_of_mem _ h
theorem ni_nil {a : Addr} : a ∉ ([] : List Addr) := fun z => nomatch z
theorem ni_cons {a b : Addr} {ws : List Addr} (h : a ≠ b) (n : a ∉ ws) : a ∉ b :: ws := fun z => (List.mem_cons.mp z).elim h n
inductive LSet : List V → Nat → V → List V → Prop where
  | here {x v : V} {r : List V} : LSet (x :: r) 0 v (v :: r)
  | there {x v : V} {r r' : List V} {j : Nat} (h : LSet r j v r') : LSet (x :: r) (j + 1) v (x :: r')
theorem LSet.eq {xs xs' : List V} {j : Nat} {v : V} (h : LSet xs j v xs') : xs.set j v = xs' := by
  induction h with
  | here => rfl
  | there _ ih => rw [List.set_cons_succ, ih]
/-- the slots at a def's beginning -/
inductive Start : List Str → List V → St → Prop where
  | done : Start [] [] []
  | non {x : Str} {N : List Str} {σ : St} (h : Start N [] σ) : Start (x :: N) [] (none :: σ)
  | val {x : Str} {v : V} {N : List Str} {vs : List V} {σ : St} (h : Start N vs σ) : Start (x :: N) (v :: vs) (some v :: σ)
theorem Start.eq {N : List Str} {vs : List V} {σ : St} (h : Start N vs σ) : L2.start N vs = σ := by
  induction h with
  | done => rfl
  | @non x N σ h ih =>
    unfold L2.start at ih ⊢
    rw [← ih]
    show List.replicate (N.length + 1) none = none :: List.replicate N.length none
    rfl
  | @val x v N vs σ h ih =>
    unfold L2.start at ih ⊢
    rw [← ih]
    simp
theorem start_go {X : Cx} {N : List Str} {vs : List V} {σ : St} {H : Hp} {sts : List Stmt} {nx bk ct : St → Hp → Prop} {rt : VK} (h : Start N vs σ) (q : Ss X sts nx rt bk ct σ H) : Ss X sts nx rt bk ct (L2.start N vs) H := by
  rw [h.eq]
  exact q

/-- a new tuple, a new list -/
structure NewT (xs : List V) (H : Hp) (Q : VK) : Prop where
  len : xs.length ≤ sizeLine
  q : ∀ p H', H p = none → Kp [] H H' → H' p = some (.tup xs) → Q (.ref p) H'
structure NewL (xs : List V) (H : Hp) (Q : VK) : Prop where
  len : xs.length ≤ sizeLine
  q : ∀ p H', H p = none → Kp [] H H' → H' p = some (.lst xs) → Q (.ref p) H'
/-- a field read, stored -/
structure FldR (K : PySem.W.Frag) (x : V) (f : Str) (H : Hp) (Q : VK) : Prop where
  ex : ∃ a Cl dx fs v, x = .ref a ∧ H a = some (.ins Cl dx fs) ∧ Cls K Cl ∧ NoAttr K Cl f ∧ fs.lookup f = some v ∧ Q v H
structure FldS (K : PySem.W.Frag) (x : V) (f : Str) (y : V) (H : Hp) (R : Hp → Prop) : Prop where
  ex : ∃ a Cl dx fs fs', x = .ref a ∧ H a = some (.ins Cl dx fs) ∧ Cls K Cl ∧ NoAttr K Cl f ∧ fs.length < 1000 ∧ PutR f y fs fs' ∧ ∀ H3, Kp [a] H H3 → H3 a = some (.ins Cl dx fs') → R H3
section
variable {X : Cx} {P : Program} {w : World} {K : PySem.W.Frag} {mg : Str → Option Value} {base : Heap} {sc : Scope} {N GL : List Str} {k : Nat} {EX : XK}
variable {e a b c o : Expr} {es rest : List Expr} {σ : St} {H : Hp} {Q : VK} {TQ : Bool → Hp → Prop} {pos pos' apos p : Pos} {x m : Str} {v : V}

/-! ### names, constants -/
theorem e_var (xk : Xk X P w K mg base sc N GL k EX) (g : Get N σ x v) (q : Q v H) : E X (.Name x pos) σ H Q := by
  obtain ⟨i, h1, h2⟩ := g.ix
  have z := xk.loc x g.mem
  have vis : Vis X.env.scope x := by rcases z.1 with y | y; exact .inl y; exact .inr (.inl y)
  exact .of (pe_var (i := i) (by rw [xk.n]; exact h1) vis z.2.1 z.2.2) ⟨v, h2, q⟩
theorem e_glob {u : Value} (xk : Xk X P w K mg base sc N GL k EX) (hg : x ∈ GL) (hm : mg x = some u) (r : RelV v u) (q : Q v H) : E X (.Name x pos) σ H Q :=
  .of (pe_glob (xk.gl x hg).1 (by rw [xk.mg]; exact hm) r (xk.gl x hg).2.1) q
theorem e_bltn {u : Value} (xk : Xk X P w K mg base sc N GL k EX) (hg : x ∈ GL) (hb : Bi mg x u) (r : RelV v u) (q : Q v H) : E X (.Name x pos) σ H Q :=
  .of (pe_bltn (xk.gl x hg).1 (by rw [xk.mg]; exact hb.1) hb.2 r (xk.gl x hg).2.2 (xk.gl x hg).2.1) q
theorem e_int {i : Int} {j : Nat} (q : Q (.int i) H) : E X (.Constant (.int i) j pos) σ H Q := .of pe_int q
theorem e_bl {i : Bool} {j : Nat} (q : Q (.bl i) H) : E X (.Constant (.bool i) j pos) σ H Q := .of pe_bl q
theorem e_non {j : Nat} (q : Q .non H) : E X (.Constant .none j pos) σ H Q := .of pe_non q
theorem e_str {i : Str} {j : Nat} (q : Q (.str i) H) : E X (.Constant (.str i) j pos) σ H Q := .of pe_str q

/-! ### operators -/
theorem e_bin {op : Operator} (h : E X a σ H fun x H1 => E X b σ H1 fun y H2 => Bo X op x y H2 Q) : E X (.BinOp a op b pos) σ H Q := .of (pe_op pBo pe pe) h
theorem e_neg (h : E X a σ H fun x H1 => Uo X .USub x H1 Q) : E X (.UnaryOp .USub a pos) σ H Q := .of (pe_un pUo pe) h
theorem e_cmp {op : CmpOp} (hm : behindInMarks op b = false) (h : E X a σ H fun x H1 => E X b σ H1 fun y H2 => Co X op x y H2 Q) : E X (.Compare a [op] [b] pos) σ H Q := .of (pe_cmpR pCo pe pe hm) h
theorem e_one {op : BoolOp} (h : E X a σ H Q) : E X (.BoolOp op [a] pos) σ H Q := .of (pe_one pe) h
theorem E.mono {Q' : VK} (h : E X e σ H Q) (i : ∀ v H, Q v H → Q' v H) : E X e σ H Q' := ⟨fun pins s I => wpAny_mono (h.run pins s I) (fun _ _ ⟨v, H', I', r, q⟩ => ⟨v, H', I', r, i _ _ q⟩) fun _ _ z => z⟩
theorem T.mono {Q' : Bool → Hp → Prop} (h : T X e σ H TQ) (i : ∀ v H, TQ v H → Q' v H) : T X e σ H Q' := ⟨fun pins s I => wpAny_mono (h.run pins s I) (fun _ _ ⟨H', I', q⟩ => ⟨H', I', i _ _ q⟩) fun _ _ z => z⟩
theorem As.mono {R R' : List V → Hp → Prop} (h : As X es σ H R) (i : ∀ v H, R v H → R' v H) : As X es σ H R' := ⟨fun pos pins s I => wpAny_mono (h.run pos pins s I) (fun _ _ ⟨v, H', I', r, q⟩ => ⟨v, H', I', r, i _ _ q⟩) fun _ _ z => z⟩
theorem C.mono {f : Value} {vs : List V} {Q' : VK} (h : C X f vs H Q) (i : ∀ v H, Q v H → Q' v H) : C X f vs H Q' := ⟨fun pins s σ us I r => wpAny_mono (h.run pins s σ us I r) (fun _ _ ⟨v, H', I', r, q⟩ => ⟨v, H', I', r, i _ _ q⟩) fun _ _ z => z⟩
theorem B2.mono {f : Value → Value → Sem Value} {x y : V} {Q' : VK} (h : B2 X f x y H Q) (i : ∀ v H, Q v H → Q' v H) : B2 X f x y H Q' := ⟨fun pins s σ v u I r1 r2 => wpAny_mono (h.run pins s σ v u I r1 r2) (fun _ _ ⟨v, H', I', r, q⟩ => ⟨v, H', I', r, i _ _ q⟩) fun _ _ z => z⟩
theorem e_and (h : E X a σ H fun x H1 => ∃ q, x = .bl q ∧ Br q (E X (.BoolOp .And (b :: rest) pos) σ H1 Q) (Q (.bl false) H1)) : E X (.BoolOp .And (a :: b :: rest) pos) σ H Q :=
  .of (pe_and pe pe) (h.mono fun _ _ ⟨q, e, z⟩ => ⟨q, e, z.ite⟩)
theorem e_or (h : E X a σ H fun x H1 => ∃ q, x = .bl q ∧ Br q (Q (.bl true) H1) (E X (.BoolOp .Or (b :: rest) pos) σ H1 Q)) : E X (.BoolOp .Or (a :: b :: rest) pos) σ H Q :=
  .of (pe_or pe pe) (h.mono fun _ _ ⟨q, e, z⟩ => ⟨q, e, z.ite⟩)
theorem e_notV (h : E X a σ H fun x H1 => ∃ q, x = .bl q ∧ Q (.bl (!q)) H1) : E X (.UnaryOp .Not a pos) σ H Q := .of (pe_not pe) h
theorem e_if (h : T X c σ H fun q H1 => Br q (E X a σ H1 Q) (E X b σ H1 Q)) : E X (.IfExp c a b pos) σ H Q := .of (pe_ifExp pt pe pe) (h.mono fun _ _ z => z.ite)

/-! ### tests -/
theorem t_cmp {op : CmpOp} (hm : behindInMarks op b = false) (h : E X a σ H fun x H1 => E X b σ H1 fun y H2 => Co X op x y H2 fun z H3 => ∃ q, z = .bl q ∧ TQ q H3) : T X (.Compare a [op] [b] pos) σ H TQ := .of (pt_cmpR pCo pe pe hm) h
theorem e_chain {op op' : CmpOp} (h : E X a σ H fun x H1 => E X b σ H1 fun y H2 => Co X op x y H2 fun z H3 => ∃ q, z = .bl q ∧ Br q (E X c σ H3 fun z' H4 => Co X op' y z' H4 Q) (Q (.bl false) H3))
    (hm : lastMarks [op, op'] [b, c] = false := by with_unfolding_all rfl) : E X (.Compare a [op, op'] [b, c] pos) σ H Q :=
  .of (pe_chain pCo pCo pe pe pe hm) (h.mono fun _ _ h => h.mono fun _ _ h => h.mono fun _ _ ⟨q, ez, z⟩ => ⟨q, ez, z.ite⟩)
theorem t_chain {op op' : CmpOp} (h : E X a σ H fun x H1 => E X b σ H1 fun y H2 => Co X op x y H2 fun z H3 => ∃ q, z = .bl q ∧ Br q (E X c σ H3 fun z' H4 => Co X op' y z' H4 fun z H3 => ∃ q, z = .bl q ∧ TQ q H3) (TQ false H3))
    (hm : lastMarks [op, op'] [b, c] = false := by with_unfolding_all rfl) : T X (.Compare a [op, op'] [b, c] pos) σ H TQ :=
  .of (pt_chain pCo pCo pe pe pe hm) (h.mono fun _ _ h => h.mono fun _ _ h => h.mono fun _ _ ⟨q, ez, z⟩ => ⟨q, ez, (show Br q _ _ from ⟨z.1, fun e => ⟨false, rfl, z.2 e⟩⟩).ite⟩)
theorem t_and1 (h : T X a σ H TQ) : T X (.BoolOp .And [a] pos) σ H TQ := .of (PW.pt (pw_and1 pt)) h
theorem t_or1 (h : T X a σ H TQ) : T X (.BoolOp .Or [a] pos) σ H TQ := .of (PW.pt (pw_or1 pt)) h
theorem w_and1 (h : T X a σ H TQ) : W X (.BoolOp .And [a] pos) σ H TQ := .of (pw_and1 pt) h
theorem w_or1 (h : T X a σ H TQ) : W X (.BoolOp .Or [a] pos) σ H TQ := .of (pw_or1 pt) h
theorem w_and (h : T X a σ H fun q H1 => Br q (W X (.BoolOp .And (b :: rest) pos) σ H1 TQ) (TQ false H1)) : W X (.BoolOp .And (a :: b :: rest) pos) σ H TQ := .of (pw_and pt pw) (h.mono fun _ _ z => z.ite)
theorem w_or (h : T X a σ H fun q H1 => Br q (TQ true H1) (W X (.BoolOp .Or (b :: rest) pos) σ H1 TQ)) : W X (.BoolOp .Or (a :: b :: rest) pos) σ H TQ := .of (pw_or pt pw) (h.mono fun _ _ z => z.ite)
theorem t_and (h : T X a σ H fun q H1 => Br q (W X (.BoolOp .And (b :: rest) pos) σ H1 TQ) (TQ false H1)) : T X (.BoolOp .And (a :: b :: rest) pos) σ H TQ := .of (PW.pt (pw_and pt pw)) (h.mono fun _ _ z => z.ite)
theorem t_or (h : T X a σ H fun q H1 => Br q (TQ true H1) (W X (.BoolOp .Or (b :: rest) pos) σ H1 TQ)) : T X (.BoolOp .Or (a :: b :: rest) pos) σ H TQ := .of (PW.pt (pw_or pt pw)) (h.mono fun _ _ z => z.ite)
theorem t_not (h : T X a σ H fun q H1 => TQ (!q) H1) : T X (.UnaryOp .Not a pos) σ H TQ := .of (pt_not pt) h
theorem t_val (h : E X e σ H fun x H1 => Tr X x H1 TQ) (he : ∀ whole, isTrue e X.env whole = (do let v ← whole; standAt e.pos; holding [v] (truthy v)) := by intro _; rfl) : T X e σ H TQ := by
  refine ⟨fun pins s I => PyProof.Rows.isTrue_plain (wpAny_mono (h.run pins s I) (fun v s1 ⟨x, H1, I1, r1, q1⟩ => ?_) fun _ _ z => z) (he _)⟩
  exact q1.run pins s1 σ v I1 r1
theorem tr_bl {q : Bool} (h : TQ q H) : Tr X (.bl q) H TQ := .of (k := q) rfl h

/-! ### operations by values -/
theorem b_add {i j : Int} (h : Q (.int (i + j)) H) : Bo X .Add (.int i) (.int j) H Q := .of op_add ⟨i, j, rfl, rfl, h⟩
theorem b_sub {i j : Int} (h : Q (.int (i - j)) H) : Bo X .Sub (.int i) (.int j) H Q := .of op_sub ⟨i, j, rfl, rfl, h⟩
theorem b_mul {i j : Int} (hc : IntMulOk i j) (h : Q (.int (i * j)) H) : Bo X .Mult (.int i) (.int j) H Q := ⟨fun pins s σ v u I r1 r2 => by
  obtain ⟨t, rfl⟩ := r1
  obtain ⟨t', rfl⟩ := r2
  exact PyProof.Rows.mul_int ⟨.int _, H, I.tok _, ⟨_, rfl⟩, h⟩ hc⟩
theorem b_mod {i j : Int} (hj : 0 < j) (h : Q (.int (i % j)) H) : Bo X .Mod (.int i) (.int j) H Q := .of op_mod ⟨i, j, rfl, rfl, hj, h⟩
theorem b_modN {i j : Int} (hj : j ≠ 0) (h : Q (.int (i.fmod j)) H) : Bo X .Mod (.int i) (.int j) H Q := .of op_modN ⟨i, j, rfl, rfl, hj, h⟩
theorem b_fdiv {i j : Int} (hj : CDivW i j) (h : Q (.int (i / j)) H) : Bo X .FloorDiv (.int i) (.int j) H Q := .of op_fdivW ⟨i, j, rfl, rfl, hj, h⟩
theorem b_pow {i j : Int} (hj : CPow i j) (h : Q (.int (i ^ j.toNat)) H) : Bo X .Pow (.int i) (.int j) H Q := .of op_pow ⟨i, j, rfl, rfl, hj, h⟩
theorem b_pow18 (h : Q (.int 1000000000000000000) H) : Bo X .Pow (.int 10) (.int 18) H Q := b_pow ⟨by decide, by decide, by decide⟩ h
theorem b_pow9 (h : Q (.int 1000000000) H) : Bo X .Pow (.int 10) (.int 9) H Q := b_pow ⟨by decide, by decide, by decide⟩ h
theorem b_pow30 (h : Q (.int 1000000000000000000000000000000) H) : Bo X .Pow (.int 10) (.int 30) H Q := b_pow ⟨by decide, by decide, by decide⟩ h
theorem mul_ok_r {i j : Int} (h : -(2 ^ 64) < j ∧ j < 2 ^ 64) : IntMulOk i j := CMul.ok (.inr h)
theorem mul_ok_l {i j : Int} (h : -(2 ^ 64) < i ∧ i < 2 ^ 64) : IntMulOk i j := CMul.ok (.inl h)
theorem b_addS {i j : Str} (hl : i.length + j.length ≤ sizeLine) (h : Q (.str (i ++ j)) H) : Bo X .Add (.str i) (.str j) H Q := .of op_add_str ⟨i, j, rfl, rfl, hl, h⟩
theorem c_lt {i j : Int} (h : Q (.bl (decide (i < j))) H) : Co X .Lt (.int i) (.int j) H Q := .of op_lt ⟨i, j, rfl, rfl, h⟩
theorem c_le {i j : Int} (h : Q (.bl (decide (i ≤ j))) H) : Co X .LtE (.int i) (.int j) H Q := .of op_le ⟨i, j, rfl, rfl, h⟩
theorem c_gt {i j : Int} (h : Q (.bl (decide (j < i))) H) : Co X .Gt (.int i) (.int j) H Q := .of op_gt ⟨i, j, rfl, rfl, h⟩
theorem c_ge {i j : Int} (h : Q (.bl (decide (j ≤ i))) H) : Co X .GtE (.int i) (.int j) H Q := .of op_ge ⟨i, j, rfl, rfl, h⟩
theorem dec_int' {i j : Int} : decide (V.int i = V.int j) = decide (i = j) := by
  by_cases h : i = j
  · subst h; simp
  · rw [decide_eq_false h, decide_eq_false fun z => h (V.int.inj z)]
theorem c_eqI {i j : Int} (h : Q (.bl (decide (i = j))) H) : Co X .Eq (.int i) (.int j) H Q := .of op_eq ⟨rfl, by rw [dec_int']; exact h⟩
theorem c_neI {i j : Int} (h : Q (.bl (!decide (i = j))) H) : Co X .NotEq (.int i) (.int j) H Q := .of op_ne ⟨rfl, by rw [dec_int']; exact h⟩
theorem c_eq {x y : V} (hs : scal x y = true) (h : Q (.bl (decide (x = y))) H) : Co X .Eq x y H Q := .of op_eq ⟨hs, h⟩
theorem c_ne {x y : V} (hs : scal x y = true) (h : Q (.bl (!decide (x = y))) H) : Co X .NotEq x y H Q := .of op_ne ⟨hs, h⟩
theorem c_isN {x : V} (h : Q (.bl (decide (x = .non))) H) : Co X .Is x .non H Q := .of op_isN ⟨rfl, h⟩
theorem c_notN {x : V} (h : Q (.bl (!decide (x = .non))) H) : Co X .IsNot x .non H Q := .of op_notN ⟨rfl, h⟩
theorem u_neg {i : Int} (h : Q (.int (-i)) H) : Uo X .USub (.int i) H Q := .of un_neg ⟨i, rfl, h⟩

/-! ### arguments, displays -/
theorem as_nil {R : List V → Hp → Prop} (h : R [] H) : As X [] σ H R := .of pa_nil h
theorem as_cons {R : List V → Hp → Prop} (h : E X e σ H fun x H1 => As X es σ H1 fun xs H2 => R (x :: xs) H2) (hs : starEach (e :: es) X.env = (false, eval e X.env) :: starEach es X.env := by rfl) : As X (e :: es) σ H R := .of (pa_cons pe pa hs) h
theorem e_tup {j} (h : As X es σ H fun xs H1 => NewT xs H1 Q) : E X (.Tuple es j pos) σ H Q :=
  .of (pe_tup pa) (h.mono fun _ _ ⟨l, z⟩ => ⟨l, fun p np => z p _ np (kp_new np) upd_same⟩)
theorem e_lst (h : As X es σ H fun xs H1 => NewL xs H1 Q) : E X (.List es pos) σ H Q :=
  .of (pe_lst pa) (h.mono fun _ _ ⟨l, z⟩ => ⟨l, fun p np => z p _ np (kp_new np) upd_same⟩)

/-! ### calls -/
theorem e_call {j : Nat} {sp : Sp} (xk : Xk X P w K mg base sc N GL k EX) (hg : x ∈ GL) (D : Df P w K mg base x j sp) (hj : j ≤ k) (h : As X (e :: es) σ H fun vs H1 => sp vs H1 Q EX)
    (he : starEach (e :: es) X.env = (false, eval e X.env) :: starEach es X.env := by rfl) (hpl : (backTo pos (starEach es X.env)).any (·.1) = false := by rfl) : E X (.Call (.Name x p) (e :: es) [] pos) σ H Q := by
  obtain ⟨f, fd, ps, F, hm, kp, b⟩ := D
  obtain ⟨rfl, rfl, rfl, rfl, rfl, -, -, -, gl, -, room, -, tk, -, -⟩ := xk
  refine .of (pe_call F (room.mono hj) (gl x hg).1 hm kp b .nil (passes_call tk fun _ _ _ _ z => z) pa (gl x hg).2.1 he hpl) (h.mono fun vs H1 z => ?_)
  show sp (vs ++ []) H1 Q EX
  rw [List.append_nil]
  exact z
theorem e_call0 {j : Nat} {sp : Sp} (xk : Xk X P w K mg base sc N GL k EX) (hg : x ∈ GL) (D : Df P w K mg base x j sp) (hj : j ≤ k) (h : sp [] H Q EX) : E X (.Call (.Name x p) [] [] pos) σ H Q := by
  obtain ⟨f, fd, ps, F, hm, kp, b⟩ := D
  obtain ⟨rfl, rfl, rfl, rfl, rfl, -, -, -, gl, -, room, -, tk, -, -⟩ := xk
  exact .of (pe_call0 F (room.mono hj) (gl x hg).1 hm kp b .nil (passes_call tk fun _ _ _ _ z => z) (gl x hg).2.1) h
theorem e_make {j : Nat} {sp : Sp} {Cl : Addr} (xk : Xk X P w K mg base sc N GL k EX) (hg : x ∈ GL) (D : Dc P w K mg base x Cl j sp) (hj : j + 1 ≤ k)
    (h : As X (e :: es) σ H fun vs H1 => ∀ x dx H2, H1 x = none → H1 dx = none → dx ≠ x → Kp [] H1 H2 → H2 x = some (.ins Cl dx []) → sp (.ref x :: vs) H2 (fun v H3 => v = .non ∧ Q (.ref x) H3) EX)
    (he : starEach (e :: es) X.env = (false, eval e X.env) :: starEach es X.env := by rfl) (hpl : (backTo pos (starEach es X.env)).any (·.1) = false := by rfl) : E X (.Call (.Name x p) (e :: es) [] pos) σ H Q := by
  obtain ⟨f, fd, ps, F, hm, M, b⟩ := D
  obtain ⟨rfl, rfl, rfl, rfl, rfl, -, -, -, gl, -, room, -, tk, -, -⟩ := xk
  refine .of (pe_make M F (room.mono hj) (gl x hg).1 hm b .nil (passes_call tk fun _ _ _ _ z => z) pa (gl x hg).2.1 he hpl) (h.mono fun vs H1 z => ?_)
  intro x dx n1 n2 n3
  rw [List.append_nil]
  refine z x dx _ n1 n2 n3 ?_ upd_same
  exact (kp_new n2).trans (kp_new (by rw [upd_ne n3.symm]; exact n1))
theorem e_make0 {j : Nat} {sp : Sp} {Cl : Addr} (xk : Xk X P w K mg base sc N GL k EX) (hg : x ∈ GL) (D : Dc P w K mg base x Cl j sp) (hj : j + 1 ≤ k)
    (h : ∀ x dx H2, H x = none → H dx = none → dx ≠ x → Kp [] H H2 → H2 x = some (.ins Cl dx []) → sp [.ref x] H2 (fun v H3 => v = .non ∧ Q (.ref x) H3) EX) : E X (.Call (.Name x p) [] [] pos) σ H Q := by
  obtain ⟨f, fd, ps, F, hm, M, b⟩ := D
  obtain ⟨rfl, rfl, rfl, rfl, rfl, -, -, -, gl, -, room, -, tk, -, -⟩ := xk
  refine .of (pe_make0 M F (room.mono hj) (gl x hg).1 hm b .nil (passes_call tk fun _ _ _ _ z => z) (gl x hg).2.1) ?_
  intro x dx n1 n2 n3
  refine h x dx _ n1 n2 n3 ?_ upd_same
  exact (kp_new n2).trans (kp_new (by rw [upd_ne n3.symm]; exact n1))
theorem e_callB {id : String} (xk : Xk X P w K mg base sc N GL k EX) (hg : x ∈ GL) (hb : Bi mg x (.builtin id)) (h : As X (e :: es) σ H fun vs H1 => C X (.builtin id) vs H1 Q)
    (he : starEach (e :: es) X.env = (false, eval e X.env) :: starEach es X.env := by rfl) (hpl : (backTo pos (starEach es X.env)).any (·.1) = false := by rfl) : E X (.Call (.Name x p) (e :: es) [] pos) σ H Q :=
  .of (pe_callB pcall (xk.gl x hg).1 (by rw [xk.mg]; exact hb.1) hb.2 pa (xk.gl x hg).2.2 (xk.gl x hg).2.1 he hpl) h
theorem e_callT {id : String} (xk : Xk X P w K mg base sc N GL k EX) (hg : x ∈ GL) (hb : Bi mg x (.type id)) (h : As X (e :: es) σ H fun vs H1 => C X (.type id) vs H1 Q)
    (he : starEach (e :: es) X.env = (false, eval e X.env) :: starEach es X.env := by rfl) (hpl : (backTo pos (starEach es X.env)).any (·.1) = false := by rfl) : E X (.Call (.Name x p) (e :: es) [] pos) σ H Q :=
  .of (pe_callTy pcall (xk.gl x hg).1 (by rw [xk.mg]; exact hb.1) hb.2 pa (xk.gl x hg).2.2 (xk.gl x hg).2.1 he hpl) h
theorem e_meth {j : Nat} {sp : Sp} {Cl : Addr} (xk : Xk X P w K mg base sc N GL k EX) (cl : Cls K Cl) (D : Dm P w K mg base Cl m j sp) (hj : j ≤ k)
    (h : E X o σ H fun x H1 => ∃ a dx fs, x = .ref a ∧ H1 a = some (.ins Cl dx fs) ∧ fs.lookup m = none ∧ As X (e :: es) σ H1 fun vs H2 => sp (.ref a :: vs) H2 Q EX) {pl : Sem Bool}
    (hst : starEach (e :: es) X.env = (false, eval e X.env) :: starEach es X.env := by rfl) (hpl : (backTo pos (starEach es X.env)).any (·.1) = false := by rfl)
    (ht : eval (.Call (.Attribute o m apos) (e :: es) [] pos) X.env = (do
      let ov ← eval o X.env
      standAt apos.atName
      let (f, first) ← holding [ov] (getMethod ov m pl)
      callWith pos f first (backTo pos (starEach (e :: es) X.env)) (backToKw pos (keywordEach [] X.env))) := by rfl) : E X (.Call (.Attribute o m apos) (e :: es) [] pos) σ H Q := by
  obtain ⟨f, fd, ps, F, hm, b⟩ := D
  obtain ⟨rfl, rfl, rfl, rfl, rfl, -, -, -, gl, -, room, -, tk, -, -⟩ := xk
  refine .of (pe_meth pe cl hm F (room.mono hj) b .nil (passes_call tk fun _ _ _ _ z => z) pa hst hpl ht) (h.mono fun x H1 ⟨a, dx, fs, e1, e2, e3, z⟩ => ⟨a, dx, fs, e1, e2, e3, z.mono fun vs H2 q => ?_⟩)
  rw [List.append_nil, e1]
  exact q
theorem e_meth0 {j : Nat} {sp : Sp} {Cl : Addr} (xk : Xk X P w K mg base sc N GL k EX) (cl : Cls K Cl) (D : Dm P w K mg base Cl m j sp) (hj : j ≤ k)
    (h : E X o σ H fun x H1 => ∃ a dx fs, x = .ref a ∧ H1 a = some (.ins Cl dx fs) ∧ fs.lookup m = none ∧ sp [.ref a] H1 Q EX) {pl : Sem Bool}
    (ht : eval (.Call (.Attribute o m apos) [] [] pos) X.env = (do
      let ov ← eval o X.env
      standAt apos.atName
      let (f, first) ← holding [ov] (getMethod ov m pl)
      callWith pos f first (backTo pos (starEach [] X.env)) (backToKw pos (keywordEach [] X.env))) := by rfl) : E X (.Call (.Attribute o m apos) [] [] pos) σ H Q := by
  obtain ⟨f, fd, ps, F, hm, b⟩ := D
  obtain ⟨rfl, rfl, rfl, rfl, rfl, -, -, -, gl, -, room, -, tk, -, -⟩ := xk
  refine .of (pe_meth0 pe cl hm F (room.mono hj) b .nil (passes_call tk fun _ _ _ _ z => z) ht) (h.mono fun x H1 ⟨a, dx, fs, e1, e2, e3, z⟩ => ⟨a, dx, fs, e1, e2, e3, ?_⟩)
  subst e1
  exact z
/-- x.f of an instance -/
theorem e_fld {f : Str} (xk : Xk X P w K mg base sc N GL k EX) (h : E X e σ H fun x H1 => FldR K x f H1 Q)
    (hb : attributeBase e f X.env (eval e X.env) = eval e X.env := by rfl) : E X (.Attribute e f pos) σ H Q := by
  obtain ⟨-, -, rfl, -⟩ := xk
  exact .of (pe_fld pe hb) (h.mono fun _ _ z => z.ex)
/-- a[b] -/
theorem e_sub (h : E X a σ H fun x H1 => E X b σ H1 fun y H2 => Ix X a b x y H2 Q) : E X (.Subscript a b pos) σ H Q :=
  ⟨fun pins s I => PyProof.Rows.Subscript_ (binT pe pe I h fun v u s2 x y H2 I2 rx ry q => q.run pins s2 σ v u I2 rx ry)⟩
theorem ix_l {q : Addr} {xs : List V} {i : Int} (xk : Xk X P w K mg base sc N GL k EX) (hs : PlainIx b) (hq : SqL K H q xs) (hi : atI xs i = some v) (h : Q v H) : Ix X a b (.ref q) (.int i) H Q := .of ix_list hs ⟨q, xs, i, v, rfl, rfl, by rw [xk.K]; exact hq, hi, h⟩
theorem ix_t {q : Addr} {xs : List V} {i : Int} (xk : Xk X P w K mg base sc N GL k EX) (hs : PlainIx b) (hq : SqT K H q xs) (hi : atI xs i = some v) (h : Q v H) : Ix X a b (.ref q) (.int i) H Q := .of ix_tup hs ⟨q, xs, i, v, rfl, rfl, by rw [xk.K]; exact hq, hi, h⟩

/-! ### built-ins by values -/
theorem k_abs {i : Int} (h : Q (.int (if i < 0 then -i else i)) H) : C X (.builtin "abs") [.int i] H Q := .of call_abs ⟨i, rfl, h⟩
theorem k_max {i j : Int} (xk : Xk X P w K mg base sc N GL k EX) (h : Q (.int (if j > i then j else i)) H) : C X (.builtin "max") [.int i, .int j] H Q := .of (call_max2 xk.calm) ⟨i, j, rfl, h⟩
theorem k_min {i j : Int} (xk : Xk X P w K mg base sc N GL k EX) (h : Q (.int (if j < i then j else i)) H) : C X (.builtin "min") [.int i, .int j] H Q := .of (call_min2 xk.calm) ⟨i, j, rfl, h⟩
theorem k_int {i : Int} (h : Q (.int i) H) : C X (.type "int") [.int i] H Q := .of call_int1 (.inl ⟨i, rfl, h⟩)
theorem k_intB {q : Bool} (h : Q (.int (if q then 1 else 0)) H) : C X (.type "int") [.bl q] H Q := .of call_int1 (.inr ⟨q, rfl, h⟩)
theorem k_boolB {q : Bool} (h : Q (.bl q) H) : C X (.type "bool") [.bl q] H Q := .of call_bool1 (.inr ⟨q, rfl, h⟩)
theorem k_lenL {q : Addr} {xs : List V} (xk : Xk X P w K mg base sc N GL k EX) (hq : SqL K H q xs) (h : Q (.int xs.length) H) : C X (.builtin "len") [.ref q] H Q := .of call_len_seq ⟨q, xs, rfl, .inl (by rw [xk.K]; exact hq), h⟩
theorem k_lenT {q : Addr} {xs : List V} (xk : Xk X P w K mg base sc N GL k EX) (hq : SqT K H q xs) (h : Q (.int xs.length) H) : C X (.builtin "len") [.ref q] H Q := .of call_len_seq ⟨q, xs, rfl, .inr (by rw [xk.K]; exact hq), h⟩
theorem k_isi {x c : V} {t u : Value} {r : Bool} (xk : Xk X P w K mg base sc N GL k EX) (hc : ClsV c u) (hx : TyX K H x t) (hk : PySem.W.kitOne K t u = some r) (h : Q (.bl r) H) : C X (.builtin "isinstance") [x, c] H Q := .of call_isi ⟨x, c, t, u, r, rfl, hc, by rw [xk.K]; exact hx, by rw [xk.K]; exact hk, h⟩

/-! ### statements -/
variable {st : Stmt} {sts bd el : List Stmt} {nx bk ct : St → Hp → Prop} {rt : VK}
theorem ss_nil (h : nx σ H) : Ss X [] nx rt bk ct σ H := .of pss_nil h
theorem ss_cons (h : S X st (fun σ' H' => Ss X sts nx rt bk ct σ' H') rt bk ct σ H) : Ss X (st :: sts) nx rt bk ct σ H := .of (pss_cons ps pss) h
theorem ss_one (h : S X st nx rt bk ct σ H) : Ss X [st] nx rt bk ct σ H := .of (pss_one ps) h
theorem s_expr (h : E X e σ H fun _ H1 => nx σ H1) (hs : swapsWith e none pos.line X.env = pure false := by rfl) : S X (.Expr e pos) nx rt bk ct σ H := .of (ps_expr pe hs) h
theorem s_ret (h : E X e σ H rt) : S X (.Return (some e) pos) nx rt bk ct σ H := .of (ps_ret pe) h
theorem s_retN (h : rt .non H) : S X (.Return none pos) nx rt bk ct σ H := .of ps_retN h
theorem s_pass (h : nx σ H) : S X (.Pass pos) nx rt bk ct σ H := .of ps_pass h
theorem s_if (h : T X c σ H fun q H1 => Br q (Ss X bd nx rt bk ct σ H1) (Ss X el nx rt bk ct σ H1)) : S X (.If c bd el pos) nx rt bk ct σ H := .of (ps_if pt pss pss) (h.mono fun _ _ z => z.ite)
theorem s_set {f : V → St} (xk : Xk X P w K mg base sc N GL k EX) (g : SetF N σ x f) (h : E X e σ H fun v H1 => nx (f v) H1) (hs : swapsWith e (some (.Name x pos')) pos.line X.env = pure false := by rfl) : S X (.Assign [.Name x pos'] e pos) nx rt bk ct σ H := by
  obtain ⟨i, h1, h2⟩ := g.ix
  refine .of (L2.ps_set (i := i) (by rw [xk.n]; exact xk.nd) (by rw [xk.n]; exact h1) (xk.loc x g.mem).1 pe hs (.inl (xk.fn x))) (h.mono fun v H1 q => ?_)
  show nx (σ.set i (some v)) H1
  rw [h2]
  exact q
theorem s_asg {tg : Expr} (h : E X e σ H fun v H1 => G X tg v σ H1 nx) (hs : swapsWithSole [tg] e pos.line X.env = pure false := by rfl) (hw : swappedStores [tg] e X.env = pure none := by rfl)
    (h1 : (assignEach [tg] X.env).map (·.2) = [assign tg X.env] := by rfl) : S X (.Assign [tg] e pos) nx rt bk ct σ H := .of (ps_asg pe pg hs hw h1) h
theorem g_name {f : V → St} {R : St → Hp → Prop} (xk : Xk X P w K mg base sc N GL k EX) (g : SetF N σ x f) (h : R (f v) H) : G X (.Name x pos) v σ H R := by
  obtain ⟨i, h1, h2⟩ := g.ix
  refine .of (pg_name (i := i) (by rw [xk.n]; exact xk.nd) (by rw [xk.n]; exact h1) (xk.loc x g.mem).1 (.inl (xk.fn x))) ?_
  show R (σ.set i (some v)) H
  rw [h2]
  exact h
theorem g_tup {j n : Nat} {R : St → Hp → Prop} {q : Addr} {xs : List V} (xk : Xk X P w K mg base sc N GL k EX) (hq : SqT K H q xs) (hl : xs.length = n) (h : Gs X es xs σ H R)
    (hn : (assignEach es X.env).length = n := by rfl) (hst : (assignEach es X.env).findIdx? (·.1) = none := by rfl) : G X (.Tuple es j pos) (.ref q) σ H R := .of (pg_tup xk.calm pgs hn hst) ⟨q, xs, rfl, by rw [xk.K]; exact hq, hl, h⟩
theorem gs_nil {R : St → Hp → Prop} (h : R σ H) : Gs X [] [] σ H R := .of pgs_nil ⟨rfl, h⟩
theorem gs_cons {R : St → Hp → Prop} {vs : List V} (h : G X e v σ H fun σ' H' => Gs X es vs σ' H' R) (hs : (assignEach (e :: es) X.env).map (·.2) = assign e X.env :: (assignEach es X.env).map (·.2) := by rfl) : Gs X (e :: es) (v :: vs) σ H R :=
  .of (pgs_cons pg pgs hs) ⟨v, vs, rfl, h⟩
theorem g_sub {R : St → Hp → Prop} {i : Expr} (h : E X o σ H fun ov H1 => E X i σ H1 fun iv H2 => St3 X ov iv v H2 fun H3 => R σ H3)
    (ha : ∀ v, assign (.Subscript o i pos) X.env v = (do
      let ov ← holding [v] (eval o X.env)
      let iv ← holding [v, ov] (eval i X.env)
      standAt pos
      holding [v, ov, iv] (setItem ov iv v)
      release [v, ov, iv] []) := by intro _; rfl) : G X (.Subscript o i pos) v σ H R := .of (pg_sub pe pe pset ha) h
theorem st_l {q : Addr} {xs : List V} {i : Int} {j : Nat} {R : Hp → Prop} (hq : H q = some (.lst xs)) (hi : ixN xs.length i = some j) (h : ∀ H', Kp [q] H H' → H' q = some (.lst (xs.set j v)) → R H') : St3 X (.ref q) (.int i) v H R :=
  .of set_list ⟨q, xs, i, j, rfl, rfl, hq, hi, mut_heap h⟩
/-- o.f = e -/
theorem s_fld {f : Str} (xk : Xk X P w K mg base sc N GL k EX) (h : E X e σ H fun y H1 => E X o σ H1 fun x H2 => FldS K x f y H2 fun H3 => nx σ H3)
    (hs : swapsWith e (some (.Attribute o f pos')) pos.line X.env = pure false := by rfl) : S X (.Assign [.Attribute o f pos'] e pos) nx rt bk ct σ H := by
  obtain ⟨-, -, rfl, -⟩ := xk
  refine .of (ps_fld pe pe hs) (h.mono fun y H1 z => z.mono fun x H2 ⟨⟨a, Cl, dx, fs, fs', e1, e2, e3, e4, e5, e6, q⟩⟩ => ⟨a, Cl, dx, fs, e1, e2, e3, e4, e5, by rw [e6.eq]; exact mut_heap q⟩)
/-- for over a list that stands still -/
theorem s_for {tg iter : Expr} (xk : Xk X P w K mg base sc N GL k EX)
    (h : E X iter σ H fun v H1 => ∃ q xs, v = .ref q ∧ SqL K H1 q xs ∧ ∃ Pv : Nat → St → Hp → Prop, Pv 0 σ H1 ∧ (∀ i σ' H', i ≤ xs.length → Pv i σ' H' → SqL K H' q xs) ∧
      (∀ i y σ' H', xs[i]? = some y → Pv i σ' H' → G X tg y σ' H' fun σ2 H2 => Ss X bd (Pv (i + 1)) rt nx (Pv (i + 1)) σ2 H2) ∧ ∀ σ' H', Pv xs.length σ' H' → nx σ' H')
    (hs : ∀ x, foldedSetIterable iter X.env x = pure x := by intro _; rfl) : S X (.For tg iter bd [] pos) nx rt bk ct σ H := by
  obtain ⟨-, -, rfl, -, -, -, -, -, -, -, -, calm, -, po, -⟩ := xk
  refine .of (ps_for po calm (pi_list pe) pg pss hs) (h.mono fun v H1 ⟨q, xs, e1, e2, Pv, p0, p1, p2, p3⟩ => ⟨q, e1, ⟨xs, e2⟩, for_list (g := fun v σ H Q => G X tg v σ H Q) (tb := fun D σ H => Ss X bd D.nx D.rt D.bk D.ct σ H) (D := ⟨nx, rt, bk, ct⟩) Pv p0 p1 (fun i y σ' H' hy hp => p2 i y σ' H' hy hp) p3⟩)
theorem s_forT {tg iter : Expr} (xk : Xk X P w K mg base sc N GL k EX)
    (h : E X iter σ H fun v H1 => ∃ q xs, v = .ref q ∧ SqT K H1 q xs ∧ ∃ Pv : Nat → St → Hp → Prop, Pv 0 σ H1 ∧ (∀ i σ' H', i ≤ xs.length → Pv i σ' H' → SqT K H' q xs) ∧
      (∀ i y σ' H', xs[i]? = some y → Pv i σ' H' → G X tg y σ' H' fun σ2 H2 => Ss X bd (Pv (i + 1)) rt nx (Pv (i + 1)) σ2 H2) ∧ ∀ σ' H', Pv xs.length σ' H' → nx σ' H')
    (hs : ∀ x, foldedSetIterable iter X.env x = pure x := by intro _; rfl) : S X (.For tg iter bd [] pos) nx rt bk ct σ H := by
  obtain ⟨-, -, rfl, -, -, -, -, -, -, -, -, calm, -, po, -⟩ := xk
  refine .of (ps_for po calm (pi_tup pe) pg pss hs) (h.mono fun v H1 ⟨q, xs, e1, e2, Pv, p0, p1, p2, p3⟩ => ⟨q, e1, ⟨xs, e2⟩, for_tup (g := fun v σ H Q => G X tg v σ H Q) (tb := fun D σ H => Ss X bd D.nx D.rt D.bk D.ct σ H) (D := ⟨nx, rt, bk, ct⟩) Pv p0 p1 (fun i y σ' H' hy hp => p2 i y σ' H' hy hp) p3⟩)
theorem s_forR {tg a : Expr} {pr : Pos} (xk : Xk X P w K mg base sc N GL k EX) (hg : ("range" : Str) ∈ GL) (hm : mg "range" = none)
    (h : E X a σ H fun v H1 => ∃ n : Int, v = .int n ∧ -(2 ^ 62) ≤ n ∧ n < 2 ^ 62 ∧ ∃ Pv : Nat → St → Hp → Prop, Pv 0 σ H1 ∧
      (∀ (i : Nat) σ' H', (i : Int) < n → Pv i σ' H' → G X tg (.int (i : Int)) σ' H' fun σ2 H2 => Ss X bd (Pv (i + 1)) rt nx (Pv (i + 1)) σ2 H2) ∧ ∀ σ' H', Pv n.toNat σ' H' → nx σ' H')
    (hse : starEach [a] X.env = [(false, eval a X.env)] := by rfl) (hs : ∀ x, foldedSetIterable (.Call (.Name "range" pr) [a] [] pos') X.env x = pure x := by intro _; rfl) :
    S X (.For tg (.Call (.Name "range" pr) [a] [] pos') bd [] pos) nx rt bk ct σ H := by
  obtain ⟨-, -, -, rfl, -, -, -, -, gl, -, -, calm, -, po, -⟩ := xk
  refine .of (ps_for po calm (pi_range1 (gl _ hg).1 hm pa hse) pg pss hs) (?_ : As X [a] σ H _)
  refine as_cons (h.mono fun v H1 z => as_nil ?_) (by rw [hse]; rfl)
  obtain ⟨n, rfl, n1, n2, Pv, p0, p2, p3⟩ := z
  refine ⟨n, rfl, n1, n2, for_range (lo := 0) (n := n.toNat) (g := fun v σ H Q => G X tg v σ H Q) (tb := fun D σ H => Ss X bd D.nx D.rt D.bk D.ct σ H) (D := ⟨nx, rt, bk, ct⟩) Pv p0 (fun i σ' H' hi hp => ?_) p3⟩
  rw [Int.zero_add]
  exact p2 i σ' H' (by omega) hp
theorem ex_bl {q : Bool} {R : Bool → Prop} (h : R q) : ∃ c, V.bl q = .bl c ∧ R c := ⟨q, rfl, h⟩
theorem ex_in {i : Int} {R : Int → Prop} (h : R i) : ∃ c, V.int i = .int c ∧ R c := ⟨i, rfl, h⟩
theorem ex_an {A B : Prop} (ha : A) (hb : B) : A ∧ B := ⟨ha, hb⟩
/-- a, b = e1, e2 -/
theorem s_par {x y : Str} {px py pt pt2 : Pos} {kt k2 : Nat} {f : V → St} {g : V → V → St} (xk : Xk X P w K mg base sc N GL k EX) (gx : SetF N σ x f) (gy : ∀ v, SetF N (f v) y (g v)) (hxy : x ≠ y)
    (lx : sc.names.lookup x = some .local) (ly : sc.names.lookup y = some .local)
    (hw : ∀ (q : Str) (L f : Addr) (cd : Value), swappedStores [.Tuple [.Name x px, .Name y py] kt pt] (.Tuple [a, b] k2 pt2) (PyProof.Rows.envOfC q sc L f cd) = pure (some [x, y]))
    (h : E X a σ H fun v H1 => E X b σ H1 fun u H2 => nx (g v u) H2) (hs : starEach [a, b] X.env = [(false, eval a X.env), (false, eval b X.env)] := by rfl) (hs2 : starEach [b] X.env = [(false, eval b X.env)] := by rfl) :
    S X (.Assign [.Tuple [.Name x px, .Name y py] kt pt] (.Tuple [a, b] k2 pt2) pos) nx rt bk ct σ H := by
  obtain ⟨i, h1, h2⟩ := gx.ix
  have z := fun v => (gy v).ix
  obtain ⟨q, L, fa, cd, ev⟩ := xk.ev
  have esc : X.env.scope = sc := by rw [ev]; rfl
  obtain ⟨j, j1⟩ : ∃ j : Nat, N[j]? = some y := let ⟨j, j1, _⟩ := z .non; ⟨j, j1⟩
  have hj : ∀ v u, ((σ.set i (some v)).set j (some u)) = g v u := fun v u => by
    obtain ⟨j', j2, j3⟩ := z v
    have e : j = j' := nd_ix xk.nd j1 j2
    rw [h2, e, j3]
  refine .of (ps_par (i := i) (j := j) xk.calm (by rw [xk.n]; exact xk.nd) (by rw [xk.n]; exact h1) (by rw [xk.n]; exact j1) (fun e => hxy (by
    rw [e, j1] at h1
    exact (Option.some.inj h1).symm)) (by rw [esc]; exact lx) (by rw [esc]; exact ly) pa (by rw [ev]; exact hw _ _ _ _) rfl) ?_
  refine as_cons (h.mono fun v H1 h => as_cons (h.mono fun u H2 h => as_nil ⟨v, u, rfl, ?_⟩) (by rw [hs2]; rfl)) (by rw [hs, hs2])
  rw [hj]
  exact h
/-- a, b, c = e1, e2, e3 -/
theorem s_par3 {x y z : Str} {px py pz pt pt2 : Pos} {kt k2 : Nat} {f : V → St} {g : V → V → St} {g3 : V → V → V → St} (xk : Xk X P w K mg base sc N GL k EX) (gx : SetF N σ x f) (gy : ∀ v, SetF N (f v) y (g v)) (gz : ∀ v u, SetF N (g v u) z (g3 v u)) (hxy : x ≠ y) (hxz : x ≠ z) (hyz : y ≠ z)
    (lx : sc.names.lookup x = some .local) (ly : sc.names.lookup y = some .local) (lz : sc.names.lookup z = some .local)
    (hw : ∀ (q : Str) (L f : Addr) (cd : Value), swappedStores [.Tuple [.Name x px, .Name y py, .Name z pz] kt pt] (.Tuple [a, b, c] k2 pt2) (PyProof.Rows.envOfC q sc L f cd) = pure (some [x, y, z]))
    (h : E X a σ H fun v H1 => E X b σ H1 fun u H2 => E X c σ H2 fun t H3 => nx (g3 v u t) H3) (hs : starEach [a, b, c] X.env = (false, eval a X.env) :: starEach [b, c] X.env := by rfl) (hs2 : starEach [b, c] X.env = (false, eval b X.env) :: starEach [c] X.env := by rfl) (hs3 : starEach [c] X.env = (false, eval c X.env) :: starEach [] X.env := by rfl) :
    S X (.Assign [.Tuple [.Name x px, .Name y py, .Name z pz] kt pt] (.Tuple [a, b, c] k2 pt2) pos) nx rt bk ct σ H := by
  obtain ⟨i, h1, h2⟩ := gx.ix
  obtain ⟨q, L, fa, cd, ev⟩ := xk.ev
  have esc : X.env.scope = sc := by rw [ev]; rfl
  obtain ⟨j, j1⟩ : ∃ j : Nat, N[j]? = some y := let ⟨j, j1, _⟩ := (gy .non).ix; ⟨j, j1⟩
  obtain ⟨l, l1⟩ : ∃ j : Nat, N[j]? = some z := let ⟨j, j1, _⟩ := (gz .non .non).ix; ⟨j, j1⟩
  have hj : ∀ v u t, (((σ.set i (some v)).set j (some u)).set l (some t)) = g3 v u t := fun v u t => by
    obtain ⟨j', j2, j3⟩ := (gy v).ix
    obtain ⟨l', l2, l3⟩ := (gz v u).ix
    have e : j = j' := nd_ix xk.nd j1 j2
    have e' : l = l' := nd_ix xk.nd l1 l2
    rw [h2, e, j3, e', l3]
  have ne : ∀ {i j : Nat} {x y : Str}, N[i]? = some x → N[j]? = some y → x ≠ y → i ≠ j := fun {i j x y} a b n e => n (by
    rw [e, b] at a
    exact (Option.some.inj a).symm)
  refine .of (ps_par3 (i := i) (j := j) (l := l) xk.calm (by rw [xk.n]; exact xk.nd) (by rw [xk.n]; exact h1) (by rw [xk.n]; exact j1) (by rw [xk.n]; exact l1) (ne h1 j1 hxy) (ne h1 l1 hxz) (ne j1 l1 hyz)
    (by rw [esc]; exact lx) (by rw [esc]; exact ly) (by rw [esc]; exact lz) pa (by rw [ev]; exact hw _ _ _ _) rfl) ?_
  refine as_cons (h.mono fun v H1 h => as_cons (h.mono fun u H2 h => as_cons (h.mono fun t H3 h => as_nil ⟨v, u, t, rfl, ?_⟩) hs3) hs2) hs
  rw [hj]
  exact h
/-- a list with a place changed -/
theorem st_lL {q : Addr} {xs xs' : List V} {i : Int} {j : Nat} {R : Hp → Prop} (hq : H q = some (.lst xs)) (hi : ixN xs.length i = some j) (hs : LSet xs j v xs') (h : ∀ H', Kp [q] H H' → H' q = some (.lst xs') → R H') : St3 X (.ref q) (.int i) v H R :=
  st_l hq hi (by rw [hs.eq]; exact h)
theorem b_modG {i j : Int} (hj : 0 < j) (h : ∀ r : Int, 0 ≤ r → r < j → Q (.int r) H) : Bo X .Mod (.int i) (.int j) H Q := b_mod hj (h _ (Int.emod_nonneg _ (by omega)) (Int.emod_lt_of_pos _ hj))
theorem cdiv_of {i n : Int} (h0 : 0 < n) (h1 : n ≤ 10000000000000000000000000000000) : CDivW i n := wide_div (b := 200) h0 (by
  have e : (2 : Nat) ^ 200 = 1606938044258990275541962092341162602522202993782792835301376 := by decide
  rw [e]; omega) (by decide) (by decide)
theorem Kp.fresh {H H1 H2 : Hp} {x : Addr} (a : Kp [] H H1) (b : Kp [x] H1 H2) (n : H x = none) : Kp [] H H2 := fun c o h z => b c o (a c o h z) (ni_cons (ne_of_none h n) ni_nil)
theorem Nat.lt_of_ble_eq_true' {n m : Nat} (h : Nat.ble (n + 1) m = true) : n < m := Nat.le_of_ble_eq_true h
theorem ex_fld {q Cl dx : Addr} {fs : List (Str × V)} {f : Str} {u : V} (h1 : H q = some (.ins Cl dx fs)) (h2 : Cls K Cl) (h3 : NoAttr K Cl f) (h4 : fs.lookup f = some u) (h : Q u H) : FldR K (.ref q) f H Q := ⟨q, Cl, dx, fs, u, rfl, h1, h2, h3, h4, h⟩
theorem ex_put {q Cl dx : Addr} {fs fs' : List (Str × V)} {f : Str} {y : V} {R : Hp → Prop} (h1 : H q = some (.ins Cl dx fs)) (h2 : Cls K Cl) (h3 : NoAttr K Cl f) (h4 : fs.length < 1000) (h5 : PutR f y fs fs') (h : ∀ H3, Kp [q] H H3 → H3 q = some (.ins Cl dx fs') → R H3) :
    FldS K (.ref q) f y H R := ⟨q, Cl, dx, fs, fs', rfl, h1, h2, h3, h4, h5, h⟩
theorem new_tup {xs : List V} {H1 : Hp} (l : xs.length ≤ sizeLine) (h : ∀ p H', H1 p = none → Kp [] H1 H' → H' p = some (.tup xs) → Q (.ref p) H') : NewT xs H1 Q := ⟨l, h⟩
theorem new_lst {xs : List V} {H1 : Hp} (l : xs.length ≤ sizeLine) (h : ∀ p H', H1 p = none → Kp [] H1 H' → H' p = some (.lst xs) → Q (.ref p) H') : NewL xs H1 Q := ⟨l, h⟩
theorem e_cls {q : Addr} (xk : Xk X P w K mg base sc N GL k EX) (hg : x ∈ GL) (hm : mg x = some (.ref q)) (h : Q (.ref q) H) : E X (.Name x pos) σ H Q := e_glob (v := .ref q) xk hg hm rfl h
theorem e_bty {n : String} (xk : Xk X P w K mg base sc N GL k EX) (hg : x ∈ GL) (hb : Bi mg x (.type n)) (h : Q (.ty n) H) : E X (.Name x pos) σ H Q := e_bltn (v := .ty n) xk hg hb rfl h
theorem k_ii {i : Int} (xk : Xk X P w K mg base sc N GL k EX) (h : Q (.bl true) H) : C X (.builtin "isinstance") [.int i, .ty "int"] H Q := k_isi xk (.ty _) (.base (.int i)) (kit_ty (by decide +kernel)) h
theorem k_ib {i : Int} (xk : Xk X P w K mg base sc N GL k EX) (h : Q (.bl false) H) : C X (.builtin "isinstance") [.int i, .ty "bool"] H Q := k_isi xk (.ty _) (.base (.int i)) (kit_ty (by decide +kernel)) h
theorem k_minG {i j : Int} (xk : Xk X P w K mg base sc N GL k EX) (h : ∀ r : Int, (r = i ∨ r = j) → r ≤ i → r ≤ j → Q (.int r) H) : C X (.builtin "min") [.int i, .int j] H Q := k_min xk (h _ (by split <;> omega) (by split <;> omega) (by split <;> omega))
theorem k_maxG {i j : Int} (xk : Xk X P w K mg base sc N GL k EX) (h : ∀ r : Int, (r = i ∨ r = j) → i ≤ r → j ≤ r → Q (.int r) H) : C X (.builtin "max") [.int i, .int j] H Q := k_max xk (h _ (by split <;> omega) (by split <;> omega) (by split <;> omega))
theorem k_absG {i : Int} (h : ∀ r : Int, 0 ≤ r → Q (.int r) H) : C X (.builtin "abs") [.int i] H Q := k_abs (h _ (by split <;> omega))
/-- list + list -/
theorem b_cat {p q : Addr} {xs ys : List V} (xk : Xk X P w K mg base sc N GL k EX) (hp : H p = some (.lst xs)) (hq : H q = some (.lst ys)) (hl : xs.length + ys.length ≤ sizeLine) (h : ∀ r H', H r = none → Kp [] H H' → H' r = some (.lst (xs ++ ys)) → Q (.ref r) H') : Bo X .Add (.ref p) (.ref q) H Q :=
  .of op_cat (by
    refine ⟨p, q, xs, ys, rfl, rfl, ?_, ?_, ?_, ?_⟩
    all_goals first | exact hp | exact hq | exact hl | (intro r nr; exact h r _ nr (kp_new nr) upd_same))
/-- an argument list all of whose values are good -/
def NoSt : Expr → Bool
  | .Starred .. => false
  | _ => true
theorem star_cons {env : Env} (h : NoSt e = true) : starEach (e :: es) env = (false, eval e env) :: starEach es env := by
  cases e <;> first | rfl | cases h
def AllE (Pd : Expr → Prop) : List Expr → Prop
  | [] => True
  | e :: es => Pd e ∧ AllE Pd es
theorem AllE.imp {Pd Pd' : Expr → Prop} (i : ∀ e, Pd e → Pd' e) : ∀ {es : List Expr}, AllE Pd es → AllE Pd' es
  | [], _ => trivial
  | _ :: _, h => ⟨i _ h.1, AllE.imp i h.2⟩
theorem as_all {D : Hp → V → Prop} {R : List V → Hp → Prop} (mon : ∀ H H' v, Kp [] H H' → D H v → D H' v) : ∀ {es : List Expr} {H : Hp}, es.all NoSt = true → (∀ xs H', xs.length = es.length → Kp [] H H' → (∀ v ∈ xs, D H' v) → R xs H') →
    AllE (fun e => ∀ H1, Kp [] H H1 → ∀ Q : VK, (∀ v H2, Kp [] H1 H2 → D H2 v → Q v H2) → E X e σ H1 Q) es → As X es σ H R
  | [], H, _, k, _ => as_nil (k [] H rfl .refl fun _ z => nomatch z)
  | e :: es, H, n, k, h => by
    rw [List.all_cons, Bool.and_eq_true] at n
    refine as_cons (h.1 H .refl _ fun v H1 k1 d1 => ?_) (star_cons n.1)
    refine as_all mon n.2 (fun xs H2 l k2 d2 => k (v :: xs) H2 (by rw [List.length_cons, List.length_cons, l]) (k1.trans k2) fun u hu => ?_) (h.2.imp fun e' m H2 k2 Q q => m H2 (k1.trans k2) Q q)
    rcases List.mem_cons.mp hu with rfl | hu
    · exact mon _ _ _ k2 d1
    · exact d2 u hu
/-! ### guards: which judgement, which construct -/
theorem gE {e : Expr} (h : E X e σ H Q) : E X e σ H Q := h
theorem gT {e : Expr} (h : T X e σ H TQ) : T X e σ H TQ := h
theorem gW {e : Expr} (h : W X e σ H TQ) : W X e σ H TQ := h
theorem gAs {R : List V → Hp → Prop} (h : As X es σ H R) : As X es σ H R := h
theorem gS (h : S X st nx rt bk ct σ H) : S X st nx rt bk ct σ H := h
theorem gSs (h : Ss X sts nx rt bk ct σ H) : Ss X sts nx rt bk ct σ H := h
theorem gG {tg : Expr} {R : St → Hp → Prop} (h : G X tg v σ H R) : G X tg v σ H R := h
theorem gGs {ts : List Expr} {vs : List V} {R : St → Hp → Prop} (h : Gs X ts vs σ H R) : Gs X ts vs σ H R := h
theorem gB {op : Operator} {x y : V} (h : Bo X op x y H Q) : Bo X op x y H Q := h
theorem gC {op : CmpOp} {x y : V} (h : Co X op x y H Q) : Co X op x y H Q := h
theorem gU {op : UnaryOp} {x : V} (h : Uo X op x H Q) : Uo X op x H Q := h
theorem gK {f : Value} {vs : List V} (h : C X f vs H Q) : C X f vs H Q := h
theorem gKlen {x : V} (h : C X (.builtin "len") [x] H Q) : C X (.builtin "len") [x] H Q := h
theorem gGt {ts : List Expr} {j : Nat} {q : Addr} {R : St → Hp → Prop} (h : G X (.Tuple ts j pos) (.ref q) σ H R) : G X (.Tuple ts j pos) (.ref q) σ H R := h
theorem gGs2 {i : Expr} {R : St → Hp → Prop} (h : G X (.Subscript o i pos) v σ H R) : G X (.Subscript o i pos) v σ H R := h
theorem gFr {x : V} {f : Str} (h : FldR K x f H Q) : FldR K x f H Q := h
theorem gFs {x y : V} {f : Str} {R : Hp → Prop} (h : FldS K x f y H R) : FldS K x f y H R := h
theorem gBrr {op : Operator} {a b : Addr} (h : Bo X op (.ref a) (.ref b) H Q) : Bo X op (.ref a) (.ref b) H Q := h
theorem gBrrA {a b : Addr} (h : Bo X .Add (.ref a) (.ref b) H Q) : Bo X .Add (.ref a) (.ref b) H Q := h
theorem gBrrS {a b : Addr} (h : Bo X .Sub (.ref a) (.ref b) H Q) : Bo X .Sub (.ref a) (.ref b) H Q := h
theorem gUr {op : UnaryOp} {a : Addr} (h : Uo X op (.ref a) H Q) : Uo X op (.ref a) H Q := h
theorem gKr {f : Value} {a : Addr} {vs : List V} (h : C X f (.ref a :: vs) H Q) : C X f (.ref a :: vs) H Q := h
theorem gKisi {a c : Addr} (h : C X (.builtin "isinstance") [.ref a, .ref c] H Q) : C X (.builtin "isinstance") [.ref a, .ref c] H Q := h
theorem gKabs {a : Addr} (h : C X (.builtin "abs") [.ref a] H Q) : C X (.builtin "abs") [.ref a] H Q := h
theorem gTr {x : V} (h : Tr X x H TQ) : Tr X x H TQ := h
theorem gIx {x y : V} (h : Ix X a b x y H Q) : Ix X a b x y H Q := h
theorem gSt {o i u : V} {R : Hp → Prop} (h : St3 X o i u H R) : St3 X o i u H R := h
theorem gMt {id : String} {x : V} {xs : List V} (h : Mt X id x xs H Q) : Mt X id x xs H Q := h
theorem gBr {q : Bool} {A B : Prop} (h : Br q A B) : Br q A B := h
theorem gName (h : E X (.Name x pos) σ H Q) : E X (.Name x pos) σ H Q := h
theorem gCall {fe : Expr} {kws : List Keyword} (h : E X (.Call fe es kws pos) σ H Q) : E X (.Call fe es kws pos) σ H Q := h
theorem gCallN {kws : List Keyword} (h : E X (.Call (.Name x p) es kws pos) σ H Q) : E X (.Call (.Name x p) es kws pos) σ H Q := h
theorem gCallA {f : Str} {kws : List Keyword} (h : E X (.Call (.Attribute e f p) es kws pos) σ H Q) : E X (.Call (.Attribute e f p) es kws pos) σ H Q := h
theorem gAttr {f : Str} (h : E X (.Attribute e f pos) σ H Q) : E X (.Attribute e f pos) σ H Q := h
theorem gCmp {ops : List CmpOp} (h : E X (.Compare e ops es pos) σ H Q) : E X (.Compare e ops es pos) σ H Q := h
theorem gCmpT {ops : List CmpOp} (h : T X (.Compare e ops es pos) σ H TQ) : T X (.Compare e ops es pos) σ H TQ := h
theorem gAsg {tgs : List Expr} (h : S X (.Assign tgs e pos) nx rt bk ct σ H) : S X (.Assign tgs e pos) nx rt bk ct σ H := h
theorem gAsgN {pos' : Pos} (h : S X (.Assign [.Name x pos'] e pos) nx rt bk ct σ H) : S X (.Assign [.Name x pos'] e pos) nx rt bk ct σ H := h
theorem gAsgA {f : Str} {pos' : Pos} (h : S X (.Assign [.Attribute o f pos'] e pos) nx rt bk ct σ H) : S X (.Assign [.Attribute o f pos'] e pos) nx rt bk ct σ H := h
theorem gAsgP {ts vs : List Expr} {j j' : Nat} {p' p'' : Pos} (h : S X (.Assign [.Tuple ts j p'] (.Tuple vs j' p'') pos) nx rt bk ct σ H) : S X (.Assign [.Tuple ts j p'] (.Tuple vs j' p'') pos) nx rt bk ct σ H := h
theorem sq_l {q : Addr} {xs : List V} (h : H q = some (.lst xs)) : SqL K H q xs := .inl (.inl h)
theorem sq_t {q : Addr} {xs : List V} (h : H q = some (.tup xs)) : SqT K H q xs := .inl (.inl h)
end
end Sx
set_option Elab.async false
set_option linter.all false
set_option maxRecDepth 100000
set_option maxHeartbeats 4000000
/-! SxO: operators of the text's own classes. -/
namespace Sx
open PySem L2

section
variable {X : Cx} {P : Program} {w : World} {K : PySem.W.Frag} {mg : Str → Option Value} {base : Heap} {sc : Scope} {N GL : List Str} {k : Nat} {EX : XK}
variable {σ : St} {H : Hp} {Q : VK} {TQ : Bool → Hp → Prop} {a b Cl dx dy : Addr} {fs gs : List (Str × V)} {j : Nat} {sp : Sp} {m : Str}

/-- a callee runs somewhere below the body -/
theorem run_at {CX : CXT} {f : Addr} {fd : FuncData} {ps : List Str} {E : XK} {pins : List (Addr × Obj)} {s : Shared} {us : List Value} {vs : List V} {A : Around} (F : FnOk X.prog X.w X.K X.mg X.base CX j f fd ps sp) (hr : Room j A) (fr : A.frames = X.A.frames)
    (hb : Binds X.K fd ps []) (hx : Passes CX X E) (I : L2.Inv X pins σ H s) (r : Vals vs us) (h : sp vs H Q E) : wpAny (model X.prog X.w) A (call (.ref f) us) (EP X pins σ Q) X.xe s := by
  have hl : us.length = ps.length := by rw [← r.length]; exact F.len _ _ _ _ h
  have e0 : Env0 X.prog X.w X.K X.mg X.base A X.stack s H := by
    have e := I.env0
    exact ⟨by rw [fr]; exact e.frames, e.mod, e.bs, e.bsz, e.funs, e.frf, e.hok, e.bare⟩
  refine wpAny_call (codeAny_mono (F.run A X.stack s H ⟨us, []⟩ us vs Q E hr e0 (by
    have := hb s us I.kIn (by simpa using hl)
    simpa using this) r h) fun r s' hq => ?_)
  cases r with
  | error e => exact hx pins σ H s e s' I hq
  | ok fl =>
    cases fl with
    | ret u => exact I.after hq
    | next => exact False.elim hq
    | brk => exact False.elim hq
    | cont => exact False.elim hq
theorem ep_cmp {pins : List (Addr × Obj)} {u : Value} {s' : Shared} (h : EP X pins σ Q u s') : PySem.W.CmpBack (EP X pins σ Q) u s' := by
  obtain ⟨v, H', I, r, q⟩ := id h
  cases v with
  | non => cases r; exact h
  | bl b => cases r; exact h
  | int i => obtain ⟨t, rfl⟩ := r; exact h
  | str i => obtain ⟨t, rfl⟩ := r; exact h
  | byt i => obtain ⟨t, rfl⟩ := r; exact h
  | flt i => obtain ⟨t, rfl⟩ := r; exact h
  | ref i => cases r; exact h
  | ty i => cases r; exact h
/-- an instance of the heap, for the library's rules -/
theorem inst_at {pins : List (Addr × Obj)} {s : Shared} (I : L2.Inv X pins σ H s) (h : H a = some (.ins Cl dx fs)) : ∃ od, PySem.W.InstAt s.heap a (PySem.W.instObj Cl dx) Cl (some od) := by
  obtain ⟨mA, J, _⟩ := ins_get I.hok h
  obtain ⟨od, J, _⟩ := J.look
  exact ⟨od, J⟩
/-- a op b, both instances of one class -/
theorem b_own {op : Operator} (xk : Xk X P w K mg base sc N GL k EX) (D : Dm P w K mg base Cl m j sp) (hj : j ≤ k) (hc : PySem.W.selfFirst K Cl = true) (ha : H a = some (.ins Cl dx fs)) (hb : H b = some (.ins Cl dy gs)) (h : sp [.ref a, .ref b] H Q EX)
    (hn : PySem.dunder op.info.2 = m := by rfl) : Bo X op (.ref a) (.ref b) H Q := by
  obtain ⟨f, fd, ps, F, hm, bb⟩ := D
  obtain ⟨rfl, rfl, rfl, rfl, rfl, -, -, -, gl, -, room, -, tk, -, -⟩ := xk
  refine ⟨fun pins s σ v u I rx ry => ?_⟩
  cases rx
  cases ry
  obtain ⟨m', hF⟩ := I.fr
  obtain ⟨od, J⟩ := inst_at I ha
  obtain ⟨od', J'⟩ := inst_at I hb
  refine PySem.W.binop_K hF I.ok.mod.kin J J'.type hc (by rw [hn]; exact hm.at_) hm.fn ?_
  exact wpAny_mono (run_at F (room.mono hj) rfl bb (passes_call tk fun _ _ _ _ z => z) I (vs := [.ref a, .ref b]) (.cons rfl (.cons rfl .nil)) h) (fun _ _ z => ep_cmp z) fun _ _ z => z
theorem u_own_neg (xk : Xk X P w K mg base sc N GL k EX) (D : Dm P w K mg base Cl "__neg__" j sp) (hj : j ≤ k) (ha : H a = some (.ins Cl dx fs)) (h : sp [.ref a] H Q EX) : Uo X .USub (.ref a) H Q := by
  obtain ⟨f, fd, ps, F, hm, bb⟩ := D
  obtain ⟨rfl, rfl, rfl, rfl, rfl, -, -, -, gl, -, room, -, tk, -, -⟩ := xk
  refine ⟨fun pins s σ v I rx => ?_⟩
  cases rx
  obtain ⟨m', hF⟩ := I.fr
  obtain ⟨od, J⟩ := inst_at I ha
  exact PySem.W.ksp_neg hF I.ok.mod.kin J hm.at_ hm.fn (run_at F (room.mono hj) rfl bb (passes_call tk fun _ _ _ _ z => z) I (vs := [.ref a]) (.cons rfl .nil) h)
theorem k_own_abs (xk : Xk X P w K mg base sc N GL k EX) (D : Dm P w K mg base Cl "__abs__" j sp) (hj : j + 1 ≤ k) (ha : H a = some (.ins Cl dx fs)) (h : sp [.ref a] H Q EX) : C X (.builtin "abs") [.ref a] H Q := by
  obtain ⟨f, fd, ps, F, hm, bb⟩ := D
  obtain ⟨rfl, rfl, rfl, rfl, rfl, -, -, -, gl, -, room, -, tk, -, -⟩ := xk
  refine ⟨fun pins s σ us I r => ?_⟩
  obtain ⟨u, rfl, rx⟩ := vals1 r
  cases rx
  obtain ⟨m', hF⟩ := I.fr
  obtain ⟨od, J⟩ := inst_at I ha
  refine Calls.call_function_entry PyProof.Rows.kind_abs PyProof.Rows.plain_abs PyProof.Rows.entry_abs (PyProof.Rows.args_abs _) ?_
  unfold Builtin.«abs»
  refine wpAny_bind (m := oneArg "abs" _) (wpAny_pure ?_)
  refine wpAny_bind (m := callSpecial? (.ref a) (Str.ofString "__abs__")) (PySem.W.special_fn I.kIn J hm.at_ (beq_iff_eq.mp hm.fn) (wpAny_mono (run_at F (room.mono hj).in1 rfl bb (passes_call tk fun _ _ _ _ z => z) I (vs := [.ref a]) (.cons rfl .nil) h) (fun v s' z => ?_) fun _ _ z => z))
  exact wpAny_pure ⟨_, rfl, z⟩
/-! ### keywords -/
structure Ks (X : Cx) (kws : List Keyword) (σ : St) (H : Hp) (R : List V → Hp → Prop) : Prop where
  run : ∀ (pos : Pos) (pins : List (Addr × Obj)) (s : Shared), L2.Inv X pins σ H s → wpAny (model X.prog X.w) X.A (evalAll ((backToKw pos (keywordEach kws X.env)).map (·.2))) (AP X pins σ R) X.xe s
theorem pks {kws : List Keyword} : PK X kws (fun σ H Q => Ks X kws σ H Q) := ⟨fun pos pins s _ _ _ I h => h.run pos pins s I⟩
theorem Ks.of {kws : List Keyword} {t : TA} {R : List V → Hp → Prop} (h : PK X kws t) (q : t σ H R) : Ks X kws σ H R := ⟨fun pos pins s I => h.run pos pins s σ H R I q⟩
theorem ks_nil {R : List V → Hp → Prop} (h : R [] H) : Ks X [] σ H R := .of pk_nil h
theorem ks_cons {e : Expr} {nm : Option Str} {kpos : Pos} {kws : List Keyword} {R : List V → Hp → Prop} (h : E X e σ H fun x H1 => Ks X kws σ H1 fun xs H2 => R (x :: xs) H2) : Ks X (⟨nm, e, kpos⟩ :: kws) σ H R := .of (pk_cons pe pks) h
theorem Ks.mono {kws : List Keyword} {R R' : List V → Hp → Prop} (h : Ks X kws σ H R) (i : ∀ v H, R v H → R' v H) : Ks X kws σ H R' := ⟨fun pos pins s I => wpAny_mono (h.run pos pins s I) (fun _ _ ⟨v, H', I', r, q⟩ => ⟨v, H', I', r, i _ _ q⟩) fun _ _ z => z⟩
/-- a class that is made by keywords alone -/
def Dck (P : Program) (w : World) (K : PySem.W.Frag) (mg : Str → Option Value) (base : Heap) (x : Str) (Cl : Addr) (ks : List Str) (j : Nat) (sp : Sp) : Prop :=
  ∃ (f : Addr) (fd : FuncData) (ps : List Str), FnOk P w K mg base (L2.CX P w) j f fd ps sp ∧ mg x = some (.ref Cl) ∧ Mk K Cl f ∧ KBn K fd ps 1 ks (fun us ws => us ++ ws) (fun vs zs => vs ++ zs)
theorem kb_of {x qual : Str} {st : Stmt} {f : Addr} {fd : FuncData} {ps ks : List Str} (F : Fun K x qual st f fd)
    (h : ∀ (kV doc pm : Value) (an : Option Addr) (cdv ct : Value) (us ws : List Value), us.length = 1 → ws.length = ks.length → bindArgs (PySem.W.fnOf x qual (defArgs st) (defBody st) (defScope st) .none kV doc pm an cdv ct) ⟨us, ks.zip ws⟩ = pure (ps.zip (us ++ ws))) :
    KBn K fd ps 1 ks (fun us ws => us ++ ws) (fun vs zs => vs ++ zs) := by
  obtain ⟨oc, od, kV, doc, pm, an, cdv, ct, osl, rfl, lk, hcd⟩ := F.ex
  exact ⟨fun s us ws _ l1 l2 => .of_eq (h kV doc pm an cdv ct us ws l1 l2), fun r1 r2 => r1.append r2⟩
theorem e_makeK {x : Str} {p pos : Pos} {kws : List Keyword} {ks : List Str} (xk : Xk X P w K mg base sc N GL k EX) (hg : x ∈ GL) (D : Dck P w K mg base x Cl ks j sp) (hj : j + 1 ≤ k)
    (h : Ks X kws σ H fun zs H1 => zs.length = ks.length ∧ ∀ x dx H2, H1 x = none → H1 dx = none → dx ≠ x → Kp [] H1 H2 → H2 x = some (.ins Cl dx []) → sp (.ref x :: zs) H2 (fun v H3 => v = .non ∧ Q (.ref x) H3) EX)
    (hall : (backToKw pos (keywordEach kws X.env)).all (·.1.isSome) = true := by rfl) (hks : (backToKw pos (keywordEach kws X.env)).filterMap (·.1) = ks := by rfl)
    (hpl : ((backTo pos (starEach [] X.env)).any (·.1) || (backToKw pos (keywordEach kws X.env)).any (·.1.isNone)) = false := by rfl) : E X (.Call (.Name x p) [] kws pos) σ H Q := by
  obtain ⟨f, fd, ps, F, hm, M, b⟩ := D
  obtain ⟨rfl, rfl, rfl, rfl, rfl, -, -, -, gl, -, room, -, tk, -, -⟩ := xk
  refine .of (pe_makeK0 M F (room.mono hj) (gl x hg).1 hm b (passes_call tk fun _ _ _ _ z => z) pks hall hks (gl x hg).2.1 hpl) (h.mono fun zs H1 ⟨l, z⟩ => ?_)
  refine ⟨rfl, l, fun x dx n1 n2 n3 => z x dx _ n1 n2 n3 ?_ upd_same⟩
  exact (kp_new n2).trans (kp_new (by rw [upd_ne n3.symm]; exact n1))
end
end Sx
set_option Elab.async false
set_option linter.all false
set_option maxRecDepth 100000
set_option maxHeartbeats 4000000
/-! SxN: comparisons of own classes; methods that hand back NotImplemented. -/
namespace Sx
open PySem L2

/-! ### a def that hands back NotImplemented and changes nothing -/
def NiR (outer : List Env) (P : Program) (w : World) (H : Hp) (s : Shared) (r : Result) (s' : Shared) : Prop :=
  match r with
  | .ok (.ret u) => u = .notImplemented ∧ s'.os = s.os ∧ PyProof.Rows.AllBare s'.gens ∧ Un (frs outer) [] H H s.heap s'.heap ∧ HOk P w H s'.heap
  | .ok _ => False
  | .error _ => False
structure NiOk (P : Program) (w : World) (K : PySem.W.Frag) (mg : Str → Option Value) (base : Heap) (k : Nat) (f : Addr) (fd : FuncData) (ps : List Str) (pre : List V → Hp → Prop) : Prop where
  len : ∀ vs H, pre vs H → vs.length = ps.length
  run : ∀ (A : Around) (outer : List Env) (s : Shared) (H : Hp) (args : Args) (us : List Value) (vs : List V), Room k A → Env0 P w K mg base A outer s H → BindsTo s fd args (ps.zip us) → Vals vs us → pre vs H →
    codeAny (model P w) A (.call (.ref f) args) (NiR outer P w H s) s
structure Ni (X : Cx) (sts : List Stmt) (σ : St) (H : Hp) : Prop where
  run : ∀ (pins : List (Addr × Obj)) (s : Shared), L2.Inv X pins σ H s → wpAny (model X.prog X.w) X.A (execs sts X.env) (fun fl s' => fl = .ret .notImplemented ∧ ∃ σ', L2.Inv X pins σ' H s') X.xe s
theorem cx_no {P : Program} {w : World} {outer : List Env} {H : Hp} {s : Shared} {e : Value} {s' : Shared} (h : L2.CX P w outer H s (fun _ _ _ => False) e s') : False := by
  obtain ⟨_, _, _, _, _, _, _, _, _, _, _, _, z⟩ := h
  exact z.elim
section
variable {P : Program} {w : World} {K : PySem.W.Frag} {mg : Str → Option Value} {base : Heap}
theorem ni_go {x qual : Str} {st : Stmt} {f : Addr} {fd : FuncData} {N ps : List Str} (GL : List Str) {k : Nat} {pre : List V → Hp → Prop} (F : Fun K x qual st f fd) (S : FnScope N ps (defScope st)) (hok : okNames N GL (defScope st) = true) (len : ∀ vs H, pre vs H → vs.length = ps.length)
    (body : ∀ (X : Cx) (H : Hp) (vs : List V), Xk X P w K mg base (defScope st) N GL k (fun _ _ _ => False) → pre vs H → Ni X (defBody st) (L2.start N vs) H) : NiOk P w K mg base (k + 1) f fd ps pre := by
  obtain ⟨oc, od, kV, doc, pm, an, cdv, ct, osl, rfl, lk, hcd⟩ := F.ex
  refine ⟨len, fun A outer s H args us vs hr e0 hb r hsp => ?_⟩
  have hl := len _ _ hsp
  have KX : K.In s.heap := e0.mod.kin.keeps fun b o e => (e0.bs b o e).1
  have lim : s.heap.NoLimit := e0.mod.nolimit.keeps fun b o e => (e0.bs b o e).1
  have hkind : ∀ y ∈ ps.zip us, (defScope st).names.lookup y.1 = some .local ∨ ((defScope st).names.lookup y.1 = some .cell ∧ ((cellsFrom (s.heap.objs.size + 1) (defScope st).names []).lookup y.1).isSome = true) := fun ⟨n, v⟩ hy => by
    rcases S.par n (List.of_mem_zip hy).1 with q | q
    · exact .inl q
    · exact .inr ⟨q, PySem.W.cellsFrom_some _ _ _ (.inl q)⟩
  refine codeAny_call_function hr.depth (KX _ _ lk) rfl S.co S.gen rfl (PySem.W.codeRec_of KX hcd) (hb _ _ _ _ ?_)
  refine wpAny_newFunctionEnv_cells S.kind hkind fun env he s1 x => ?_
  subst he
  refine ⟨lim.keeps x.toInCall.keep, codeAny_func ?_⟩
  have q := names_ok (X := cxOf (L2.CX P w) P w K mg base N qual (defScope st) f cdv A outer s H (fun _ _ _ => False)) (N := N) (GL := GL) hok
  have hB := body (cxOf (L2.CX P w) P w K mg base N qual (defScope st) f cdv A outer s H (fun _ _ _ => False)) H vs ⟨rfl, rfl, rfl, rfl, rfl, rfl, S.nd, q.1, q.2, fun _ => rfl, hr.deeper _, rfl, takes_of rfl rfl rfl rfl, passes_of rfl, _, _, _, _, rfl⟩ hsp
  have I : L2.Inv (cxOf (L2.CX P w) P w K mg base N qual (defScope st) f cdv A outer s H (fun _ _ _ => False)) [] (L2.start N vs) H s1 := inv_start S hr.hd e0 hl r x
  refine wpAny_mono (hB.run [] s1 I) (fun fl s' hs => ?_) fun e s' hs => ?_
  · obtain ⟨rfl, σ', J⟩ := hs
    exact ⟨rfl, J.os, J.bare, J.base, J.hok⟩
  · exact wpAny_mono hs (fun _ _ z => (cx_no z).elim) fun _ _ z => (cx_no z).elim
/-- a method that hands back NotImplemented where pre holds -/
def Dn (P : Program) (w : World) (K : PySem.W.Frag) (mg : Str → Option Value) (base : Heap) (Cl : Addr) (m : Str) (j : Nat) (pre : List V → Hp → Prop) : Prop :=
  ∃ (f : Addr) (fd : FuncData) (ps : List Str), NiOk P w K mg base j f fd ps pre ∧ Meth K Cl m f ∧ Binds K fd ps []
end
section
variable {X : Cx} {P : Program} {w : World} {K : PySem.W.Frag} {mg : Str → Option Value} {base : Heap} {sc : Scope} {N GL : List Str} {k : Nat} {EX : XK}
variable {σ : St} {H : Hp} {Q : VK} {TQ : Bool → Hp → Prop} {a b Cl Dl dx dy : Addr} {fs gs : List (Str × V)} {j j' : Nat} {sp : Sp} {m : Str} {c : Expr} {bd rest : List Stmt} {pos p : Pos} {pre pre' : List V → Hp → Prop}
theorem ni_if (h : T X c σ H fun q H1 => q = true ∧ H1 = H) (hb : Ni X bd σ H) : Ni X (.If c bd [] pos :: rest) σ H := by
  refine ⟨fun pins s I => ?_⟩
  refine wpAny_execs_cons (wpAny_If (wpAny_mono (h.run pins s I) (fun q s1 z => ?_) fun _ _ z => z))
  obtain ⟨H1, I1, rfl, rfl⟩ := z
  refine wpAny_mono (hb.run pins s1 I1) (fun fl s2 z => ?_) fun _ _ z => z
  obtain ⟨rfl, z⟩ := z
  exact ⟨rfl, z⟩
theorem ni_no (h : T X c σ H fun q H1 => q = false ∧ H1 = H) (hb : Ni X rest σ H) : Ni X (.If c bd [] pos :: rest) σ H := by
  refine ⟨fun pins s I => ?_⟩
  refine wpAny_execs_cons (wpAny_If (wpAny_mono (h.run pins s I) (fun q s1 z => ?_) fun _ _ z => z))
  obtain ⟨H1, I1, rfl, rfl⟩ := z
  refine wpAny_execs_nil ?_
  exact hb.run pins s1 I1
theorem ni_ret (xk : Xk X P w K mg base sc N GL k EX) (hg : ("NotImplemented" : Str) ∈ GL) (hb : mg "NotImplemented" = none) : Ni X (.Return (some (.Name "NotImplemented" p)) pos :: rest) σ H := by
  refine ⟨fun pins s I => ?_⟩
  refine wpAny_execs_cons (wpAny_Return_some (ld_blt I (xk.gl _ hg).1 (by rw [xk.mg]; exact hb) (u := .notImplemented) (by decide +kernel) ?_ (xk.gl _ hg).2.2 (xk.gl _ hg).2.1))
  exact ⟨rfl, σ, I⟩
/-- such a method, called somewhere below the body -/
theorem ni_at {f : Addr} {fd : FuncData} {ps : List Str} {pins : List (Addr × Obj)} {s : Shared} {us : List Value} {vs : List V} {A : Around} (F : NiOk X.prog X.w X.K X.mg X.base j f fd ps pre) (hr : Room j A) (fr : A.frames = X.A.frames)
    (hb : Binds X.K fd ps []) (I : L2.Inv X pins σ H s) (r : Vals vs us) (h : pre vs H) : wpAny (model X.prog X.w) A (call (.ref f) us) (fun u s' => u = .notImplemented ∧ L2.Inv X pins σ H s') X.xe s := by
  have hl : us.length = ps.length := by rw [← r.length]; exact F.len _ _ h
  have e0 : Env0 X.prog X.w X.K X.mg X.base A X.stack s H := by
    have e := I.env0
    exact ⟨by rw [fr]; exact e.frames, e.mod, e.bs, e.bsz, e.funs, e.frf, e.hok, e.bare⟩
  refine wpAny_call (codeAny_mono (F.run A X.stack s H ⟨us, []⟩ us vs hr e0 (by
    have := hb s us I.kIn (by simpa using hl)
    simpa using this) r h) fun r s' hq => ?_)
  cases r with
  | error e => exact False.elim hq
  | ok fl =>
    cases fl with
    | ret u =>
      obtain ⟨rfl, os, bare, un, hok⟩ := hq
      obtain ⟨hh, g, d, t, os'⟩ := s'
      obtain rfl : os' = s.os := os
      exact ⟨rfl, I.call (h' := hh) (g' := g) (d' := d) (t' := t) (ch := []) un hok bare (fun b z => absurd z (by simp))⟩
    | next => exact False.elim hq
    | brk => exact False.elim hq
    | cont => exact False.elim hq
/-- a op b, both instances of one class: ==, <, <=, >, >= -/
theorem c_own {op : CmpOp} (xk : Xk X P w K mg base sc N GL k EX) (D : Dm P w K mg base Cl m j sp) (hj : j ≤ k) (ha : H a = some (.ins Cl dx fs)) (hb : H b = some (.ins Cl dy gs)) (h : sp [.ref a, .ref b] H Q EX)
    (hn : (cmpInfo op).2.1 = m) (hc : ∀ v u, compareOp op v u = richCompare op v u) : Co X op (.ref a) (.ref b) H Q := by
  obtain ⟨f, fd, ps, F, hm, bb⟩ := D
  obtain ⟨rfl, rfl, rfl, rfl, rfl, -, -, -, gl, -, room, -, tk, -, -⟩ := xk
  refine ⟨fun pins s σ v u I rx ry => ?_⟩
  cases rx
  cases ry
  obtain ⟨m', hF⟩ := I.fr
  obtain ⟨od, J⟩ := inst_at I ha
  obtain ⟨od', J'⟩ := inst_at I hb
  rw [hc]
  refine PySem.W.cmp_K (tb := .ref Cl) room.units0 hF I.ok.mod.kin J J'.type (by simp [PySem.W.notFirst]) (by rw [hn]; exact hm.at_) hm.fn ?_
  exact wpAny_mono (run_at F (room.mono hj) rfl bb (passes_call tk fun _ _ _ _ z => z) I (vs := [.ref a, .ref b]) (.cons rfl (.cons rfl .nil)) h) (fun _ _ z => ep_cmp z) fun _ _ z => z
/-- a special method that is a built-in's, of an own instance -/
theorem ifBound_B {M : Model} {A : Around} {E : Value → Shared → Prop} {s : Shared} {x C : Addr} {ox : Obj} {od : Option Obj} {name : Str} {id : String} {args : List Value} {R : Option Value → Shared → Prop} (Y : K.In s.heap) (I : PySem.W.InstAt s.heap x ox C od) (hs : PySem.W.findIn K (.ref C) name = some (some (.builtin id)))
    (hb : ∀ self, bindSpecial (.builtin id) self = pure (.builtin id, [self])) (h : wpAny M A (call (.builtin id) (.ref x :: args)) (fun v => R (some v)) E s) : wpAny M A (callSpecialIfBound? (.ref x) name args) R E s := by
  simp only [callSpecialIfBound?, bindSpecialIfBound?]
  refine wpAny_holding (wpAny_bind (wpAny_bind (wpAny_bind (I.type.here ((PySem.W.looks_findIn Y hs).here ?_)))))
  refine wpAny_bind (wpAny_askSetting (wpAny_ite ?_))
  have fin : wpAny M A (call (.builtin id) ([.ref x] ++ args) >>= fun v => pure (some v)) R E s := wpAny_bind (wpAny_mono h (fun v s' h' => wpAny_pure h') fun _ _ h' => h')
  split
  · exact wpAny_bind ((PySem.W.Looks.of_pure (hb _)).here (wpAny_pure (by exact fin)))
  · exact wpAny_tryCatch (wpAny_bind ((PySem.W.Looks.of_pure (hb _)).here (wpAny_pure (by exact fin))))
/-- object.__ne__ of an own instance, by its own __eq__ -/
theorem call_one {A : Around} {E : Value → Shared → Prop} {s : Shared} {x C f : Addr} {ox : Obj} {od : Option Obj} {y : Value} {prog : Program} {w : World} {R : Value → Shared → Prop} (hu : A.in1.units < cLine) (Y : K.In s.heap) (I : PySem.W.InstAt s.heap x ox C od) (hm : PySem.W.mroIn K C (.type "object") = some true)
    (hr : PySem.W.findIn K (.ref C) "__eq__" = some (some (.ref f))) (hf : PySem.W.isFn K (.ref f) = true)
    (h : wpAny (model prog w) A.in1 (call (.ref f) [.ref x, y]) (fun v s' => (v = .notImplemented ∧ R .notImplemented s') ∨ ∃ q, v = .bool q ∧ R (.bool (!q)) s') E s) : wpAny (model prog w) A (call (.builtin "object.__ne__") [.ref x, y]) R E s := by
  refine wpAny_call (codeAny_call_builtin PySem.F.slot_object_ne.plain PySem.F.cmpEntry_ne (PySem.W.check_slot (i := "object.__ne__") (owner := "object") (n := "__ne__") PySem.F.cmpKind_ne PySem.F.cmpSplit_ne (I.type.andThen (PySem.W.looks_mroIn Y hm)) (PySem.F.cmpArgs_ne _ _) ?_))
  unfold Builtin.«object.__ne__»
  refine wpAny_bind (m := slotArgs "__ne__" 1 _) (wpAny_pure ?_)
  refine wpAny_bind (m := cRoomFor _ _) (wpAny_cRoomFor hu ?_)
  refine wpAny_bind (m := callSpecialIfBound? (.ref x) (Str.ofString "__eq__") _) (PySem.W.ifBound_K Y I hr hf (wpAny_mono h (fun r s' hq => ?_) fun _ _ y => y))
  rcases hq with ⟨rfl, hq⟩ | ⟨q, rfl, hq⟩
  · exact wpAny_pure hq
  · refine wpAny_bind (m := truthy (.bool q)) (wpAny_truthy_bool ?_)
    exact wpAny_pure hq
/-- a comparison by a given first try -/
theorem cmp_by {op : CmpOp} {A : Around} {E : Value → Shared → Prop} {s : Shared} {h₀ : Heap} {L x C : Addr} {y tb : Value} {m : Str → Option Value} {ox : Obj} {od : Option Obj} {prog : Program} {w : World} {R : Value → Shared → Prop} (hu : A.units < cLine) (F : PyProof.Rows.Fr h₀ L s.heap m) (X₀ : K.In h₀) (I : PySem.W.InstAt s.heap x ox C od) (hb : PySem.W.Looks (model prog w) s.heap (typeOf y) tb) (hn : PySem.W.notFirst K C tb = true)
    (one : wpAny (model prog w) A (tryCompare (.ref x) (cmpInfo op).2.1 y) (fun r s' => ∃ v, r = some v ∧ R v s') E s) : wpAny (model prog w) A (richCompare op (.ref x) y) R E s := by
  have X := X₀.keeps F.keep
  unfold richCompare
  simp only [oneThing_ref]
  refine wpAny_holding (wpAny_bind (wpAny_cRoomFor hu ?_))
  refine wpAny_bind (I.type.here (wpAny_bind (hb.here ?_)))
  split
  · rename_i q
    have e : PySem.W.subIn K tb (.ref C) = some false := by
      rcases Bool.or_eq_true_iff.mp hn with e | e
      · rw [beq_iff_eq.mp e] at q; simp at q
      · exact beq_iff_eq.mp e
    refine wpAny_bind ((PySem.W.looks_subIn X e).here ?_)
    simp only [Bool.false_eq_true, if_false]
    refine wpAny_bind (wpAny_mono one (fun r s' z => ?_) fun _ _ e => e)
    obtain ⟨v, rfl, hq⟩ := z
    exact wpAny_pure hq
  · refine wpAny_bind (wpAny_pure ?_)
    simp only [Bool.false_eq_true, if_false]
    refine wpAny_bind (wpAny_mono one (fun r s' z => ?_) fun _ _ e => e)
    obtain ⟨v, rfl, hq⟩ := z
    exact wpAny_pure hq
/-- a != b of one class, by its __eq__ -/
theorem c_ownNe (xk : Xk X P w K mg base sc N GL k EX) (D : Dm P w K mg base Cl "__eq__" j sp) (hj : j + 2 ≤ k) (hne : PySem.W.findIn K (.ref Cl) "__ne__" = some (some (.builtin "object.__ne__"))) (hmr : PySem.W.mroIn K Cl (.type "object") = some true)
    (ha : H a = some (.ins Cl dx fs)) (hb : H b = some (.ins Cl dy gs)) (h : sp [.ref a, .ref b] H (fun v H' => ∃ q, v = .bl q ∧ Q (.bl (!q)) H') EX) : Co X .NotEq (.ref a) (.ref b) H Q := by
  obtain ⟨f, fd, ps, F, hm, bb⟩ := D
  obtain ⟨rfl, rfl, rfl, rfl, rfl, -, -, -, gl, -, room, -, tk, -, -⟩ := xk
  refine ⟨fun pins s σ v u I rx ry => ?_⟩
  cases rx
  cases ry
  obtain ⟨m', hF⟩ := I.fr
  obtain ⟨od, J⟩ := inst_at I ha
  obtain ⟨od', J'⟩ := inst_at I hb
  show wpAny _ _ (richCompare .NotEq _ _) _ _ _
  refine cmp_by (tb := .ref Cl) room.units0 hF I.ok.mod.kin J J'.type (by simp [PySem.W.notFirst]) ?_
  unfold tryCompare
  refine wpAny_bind (ifBound_B I.kIn J (name := (cmpInfo CmpOp.NotEq).2.1) hne (fun self => PySem.F.slot_object_ne.bind self) ?_)
  refine call_one (f := f) (by have := room.un; show X.A.units + 1 < _; omega) I.kIn J hmr hm.at_ hm.fn ?_
  refine wpAny_mono (run_at F (Room.in1 (room.mono (by omega : j + 1 ≤ k))) rfl bb (passes_call tk fun _ _ _ _ z => z) I (vs := [.ref a, .ref b]) (.cons rfl (.cons rfl .nil)) h) (fun u s' z => ?_) fun _ _ z => z
  obtain ⟨v, H', I', r, q, rfl, hq⟩ := z
  cases r
  exact .inr ⟨q, rfl, wpAny_pure ⟨_, rfl, .bl (!q), _, I', rfl, hq⟩⟩

/-! ### comparisons that both sides decline -/
structure Ty (X : Cx) (H : Hp) (x : V) (t : Value) : Prop where
  run : ∀ (pins : List (Addr × Obj)) (s : Shared) (σ : St) (u : Value), L2.Inv X pins σ H s → RelV x u → PySem.W.Looks (model X.prog X.w) s.heap (typeOf u) t
structure Dec (X : Cx) (H : Hp) (nm : Str) (x y : V) : Prop where
  run : ∀ (pins : List (Addr × Obj)) (s : Shared) (σ : St) (u v : Value), L2.Inv X pins σ H s → RelV x u → RelV y v → wpAny (model X.prog X.w) X.A (tryCompare u nm v) (fun r s' => r = none ∧ L2.Inv X pins σ H s') X.xe s
structure Ns (X : Cx) (H : Hp) (x y : V) : Prop where
  one : ∀ (op : CmpOp) (u v : Value), RelV x u → RelV y v → oneThing? op u v = none
  run : ∀ (pins : List (Addr × Obj)) (s : Shared) (σ : St) (u v : Value) (R : Bool → Shared → Prop), L2.Inv X pins σ H s → RelV x u → RelV y v → R false s → wpAny (model X.prog X.w) X.A (isSame u v) R X.xe s
/-- == and != where both decline -/
theorem c_decl {x y : V} {ta tb : Value} {op : CmpOp} {q : Bool} (xk : Xk X P w K mg base sc N GL k EX) (t1 : Ty X H x ta) (t2 : Ty X H y tb) (hne : (ta != tb) = true) (hs : PySem.W.subIn K tb ta = some false) (ns : Ns X H x y) (d1 : Dec X H (cmpInfo op).2.1 x y) (d2 : Dec X H (cmpInfo op).2.2 y x)
    (ho : (op = .Eq ∧ q = false) ∨ (op = .NotEq ∧ q = true)) (h : Q (.bl q) H) : Co X op x y H Q := by
  obtain ⟨rfl, rfl, rfl, rfl, rfl, -, -, -, gl, -, room, -, tk, -, -⟩ := xk
  refine ⟨fun pins s σ v u I rx ry => ?_⟩
  have main : wpAny (model X.prog X.w) X.A (richCompare op v u) (EP X pins σ Q) X.xe s := by
    have e1 := d1.run
    have e2 := d2.run
    rcases hi : cmpInfo op with ⟨sym, f, r⟩
    rw [hi] at e1 e2
    simp only [richCompare, hi, ns.one op v u rx ry]
    refine wpAny_holding ?_
    refine wpAny_bind (wpAny_cRoomFor_or (.inr room.units0) ?_)
    refine wpAny_bind ((t1.run pins s σ v I rx).here (wpAny_bind ((t2.run pins s σ u I ry).here ?_)))
    simp only [hne, if_true]
    refine wpAny_bind ((PySem.W.looks_subIn I.kIn hs).here ?_)
    simp only [Bool.false_eq_true, if_false, Bool.not_false, if_true]
    refine wpAny_bind (wpAny_mono (e1 pins s σ v u I rx ry) (fun r0 s1 z => ?_) fun _ _ z => z)
    obtain ⟨rfl, I1⟩ := z
    refine wpAny_bind (wpAny_mono (e2 pins s1 σ u v I1 ry rx) (fun r0 s2 z => ?_) fun _ _ z => z)
    obtain ⟨rfl, I2⟩ := z
    rcases ho with ⟨rfl, rfl⟩ | ⟨rfl, rfl⟩
    · exact wpAny_bind (wpAny_rule (wpAny_bind (ns.run pins s2 σ v u _ I2 rx ry (wpAny_pure ⟨.bl _, _, I2, rfl, h⟩))))
    · exact wpAny_bind (wpAny_rule (wpAny_bind (ns.run pins s2 σ v u _ I2 rx ry (wpAny_pure ⟨.bl _, _, I2, rfl, h⟩))))
  rcases ho with ⟨rfl, rfl⟩ | ⟨rfl, rfl⟩ <;> exact main
theorem ty_own (ha : H a = some (.ins Cl dx fs)) : Ty X H (.ref a) (.ref Cl) := ⟨fun pins s σ u I r => by cases r; obtain ⟨od, J⟩ := inst_at I ha; exact J.type⟩
theorem ty_int {i : Int} : Ty X H (.int i) (.type "int") := ⟨fun pins s σ u I r => by obtain ⟨t, rfl⟩ := r; exact PySem.W.Looks.of_pure rfl⟩
theorem ty_str {i : Str} : Ty X H (.str i) (.type "str") := ⟨fun pins s σ u I r => by obtain ⟨t, rfl⟩ := r; exact PySem.W.Looks.of_pure rfl⟩
theorem ty_non : Ty X H .non (.type "NoneType") := ⟨fun pins s σ u I r => by cases r; exact PySem.W.Looks.of_pure rfl⟩
theorem dec_own {x : V} (xk : Xk X P w K mg base sc N GL k EX) (D : Dn P w K mg base Cl m j pre) (hj : j ≤ k) (ha : H a = some (.ins Cl dx fs)) (h : pre [.ref a, x] H) : Dec X H m (.ref a) x := by
  obtain ⟨f, fd, ps, F, hm, bb⟩ := D
  obtain ⟨rfl, rfl, rfl, rfl, rfl, -, -, -, gl, -, room, -, tk, -, -⟩ := xk
  refine ⟨fun pins s σ u v I rx ry => ?_⟩
  cases rx
  obtain ⟨od, J⟩ := inst_at I ha
  unfold tryCompare
  refine wpAny_bind (PySem.W.ifBound_K I.kIn J hm.at_ hm.fn (wpAny_mono (ni_at F (room.mono hj) rfl bb I (vs := [.ref a, x]) (.cons rfl (.cons ry .nil)) h) (fun u s' z => ?_) fun _ _ z => z))
  obtain ⟨rfl, I'⟩ := z
  exact wpAny_pure ⟨rfl, I'⟩
theorem dec_ownNe {x : V} (xk : Xk X P w K mg base sc N GL k EX) (D : Dn P w K mg base Cl "__eq__" j pre) (hj : j + 2 ≤ k) (hne : PySem.W.findIn K (.ref Cl) "__ne__" = some (some (.builtin "object.__ne__"))) (hmr : PySem.W.mroIn K Cl (.type "object") = some true)
    (ha : H a = some (.ins Cl dx fs)) (h : pre [.ref a, x] H) : Dec X H "__ne__" (.ref a) x := by
  obtain ⟨f, fd, ps, F, hm, bb⟩ := D
  obtain ⟨rfl, rfl, rfl, rfl, rfl, -, -, -, gl, -, room, -, tk, -, -⟩ := xk
  refine ⟨fun pins s σ u v I rx ry => ?_⟩
  cases rx
  obtain ⟨od, J⟩ := inst_at I ha
  unfold tryCompare
  refine wpAny_bind (ifBound_B I.kIn J hne (fun self => PySem.F.slot_object_ne.bind self) ?_)
  refine call_one (f := f) (by have := room.un; show X.A.units + 1 < _; omega) I.kIn J hmr hm.at_ hm.fn ?_
  refine wpAny_mono (ni_at F (Room.in1 (room.mono (by omega : j + 1 ≤ k))) rfl bb I (vs := [.ref a, x]) (.cons rfl (.cons ry .nil)) h) (fun u s' z => ?_) fun _ _ z => z
  obtain ⟨rfl, I'⟩ := z
  exact .inl ⟨rfl, wpAny_pure ⟨rfl, I'⟩⟩

/-! the built-ins' own __eq__, __ne__ against an own instance -/
theorem int_eq_inst (i : Int) (t : Tok) (x C d0 : Addr) : Meets (Builtin.«int.__eq__» ⟨[.int i t, .ref x], []⟩) (fun _ R s => s.heap.get? x = some (PySem.W.instObj C d0) ∧ R (.ok (.ret Value.notImplemented)) s) :=
  .of_wp fun prog w A R s h => by obtain ⟨hp, g, d, tk, os⟩ := s; obtain ⟨hl, h⟩ := h; simp only [PySem.W.instObj] at hl; wp_walk using wpAny_loadPart' hl, wpAny_load hl; exact ⟨_, rfl, h⟩
theorem int_ne_inst (i : Int) (t : Tok) (x C d0 : Addr) : Meets (Builtin.«int.__ne__» ⟨[.int i t, .ref x], []⟩) (fun _ R s => s.heap.get? x = some (PySem.W.instObj C d0) ∧ R (.ok (.ret Value.notImplemented)) s) :=
  .of_wp fun prog w A R s h => by obtain ⟨hp, g, d, tk, os⟩ := s; obtain ⟨hl, h⟩ := h; simp only [PySem.W.instObj] at hl; wp_walk using wpAny_loadPart' hl, wpAny_load hl; exact ⟨_, rfl, h⟩
theorem str_eq_inst (i : Str) (t : Tok) (x C d0 : Addr) : Meets (Builtin.«str.__eq__» ⟨[.str i t, .ref x], []⟩) (fun _ R s => s.heap.get? x = some (PySem.W.instObj C d0) ∧ R (.ok (.ret Value.notImplemented)) s) :=
  .of_wp fun prog w A R s h => by obtain ⟨hp, g, d, tk, os⟩ := s; obtain ⟨hl, h⟩ := h; simp only [PySem.W.instObj] at hl; wp_walk using wpAny_loadPart' hl, wpAny_load hl; exact ⟨_, rfl, h⟩
theorem str_ne_inst (i : Str) (t : Tok) (x C d0 : Addr) : Meets (Builtin.«str.__ne__» ⟨[.str i t, .ref x], []⟩) (fun _ R s => s.heap.get? x = some (PySem.W.instObj C d0) ∧ R (.ok (.ret Value.notImplemented)) s) :=
  .of_wp fun prog w A R s h => by obtain ⟨hp, g, d, tk, os⟩ := s; obtain ⟨hl, h⟩ := h; simp only [PySem.W.instObj] at hl; wp_walk using wpAny_loadPart' hl, wpAny_load hl; exact ⟨_, rfl, h⟩

theorem list_eq_inst (l : Addr) (items : Array Value) (n : Nat) (dd : Option Addr) (sl : Array (Option Value)) (x C d0 : Addr) : Meets (Builtin.«list.__eq__» ⟨[.ref l, .ref x], []⟩) (fun _ R s => s.heap.get? x = some (PySem.W.instObj C d0) ∧ s.heap.get? l = some { cls := .type "list", dict := dd, data := .seq items n, slots := sl } ∧ K.In s.heap ∧ PySem.W.subIn K (.ref C) (.type "list") = some false ∧ R (.ok (.ret Value.notImplemented)) s) :=
  .of_wp fun prog w A R s h => by obtain ⟨hp, g, d, tk, os⟩ := s; obtain ⟨hx, hl, hK, hS, h⟩ := h; simp only [PySem.W.instObj] at hx; wp_walk using wpAny_loadPart' hl, wpAny_load hl, wpAny_loadPart' hx, wpAny_load hx; refine (PySem.W.looks_subIn hK hS).here ?_; wp_walk; exact ⟨_, rfl, h⟩

theorem dec_int_eq {i : Int} (ha : H a = some (.ins Cl dx fs)) : Dec X H (cmpInfo .Eq).2.1 (.int i) (.ref a) := by
  refine ⟨fun pins s σ u v I rx ry => ?_⟩
  obtain ⟨t, rfl⟩ := id rx
  cases ry
  have hx := (ins_get I.hok ha).choose_spec.1.obj
  refine wpAny_tryCompare_declines (T := "int") (id := "int.__eq__") ?_ ?_ ?_
  · exact typeIs_int _ _ _
  · exact PySem.F.slot_int_eq
  · exact call_meets PySem.F.slot_int_eq (typeIs_int _ _ _) PySem.F.entry_int_eq (PySem.F.args_int_eq_2 _ _) (int_eq_inst i t a Cl dx) ⟨hx, rfl, rfl, I⟩

theorem dec_str_eq {i : Str} (ha : H a = some (.ins Cl dx fs)) : Dec X H (cmpInfo .Eq).2.1 (.str i) (.ref a) := by
  refine ⟨fun pins s σ u v I rx ry => ?_⟩
  obtain ⟨t, rfl⟩ := id rx
  cases ry
  have hx := (ins_get I.hok ha).choose_spec.1.obj
  refine wpAny_tryCompare_declines (T := "str") (id := "str.__eq__") ?_ ?_ ?_
  · exact typeIs_str _ _ _
  · exact PySem.F.slot_str_eq
  · exact call_meets PySem.F.slot_str_eq (typeIs_str _ _ _) PySem.F.entry_str_eq (PySem.F.args_str_eq_2 _ _) (str_eq_inst i t a Cl dx) ⟨hx, rfl, rfl, I⟩

theorem dec_non_eq : Dec X H (cmpInfo .Eq).2.1 .non (.ref a) := by
  refine ⟨fun pins s σ u v I rx ry => ?_⟩
  cases rx
  cases ry
  refine wpAny_tryCompare_declines (T := "NoneType") (id := "NoneType.__eq__") ?_ ?_ ?_
  · rfl
  · exact PySem.F.slot_NoneType_eq
  · exact call_gives PySem.F.slot_NoneType_eq rfl PySem.F.entry_NoneType_eq (PySem.F.args_NoneType_eq_2 _ _) (SeqAt.NoneType___eq___none_ref_0 a) ⟨rfl, rfl, I⟩
theorem dec_lst_eq {l : Addr} {xs : List V} (xk : Xk X P w K mg base sc N GL k EX) (hs : PySem.W.subIn K (.ref Cl) (.type "list") = some false) (hl : H l = some (.lst xs)) (ha : H a = some (.ins Cl dx fs)) : Dec X H (cmpInfo .Eq).2.1 (.ref l) (.ref a) := by
  obtain ⟨rfl, rfl, rfl, rfl, rfl, -, -, -, gl, -, room, -, tk, -, -⟩ := xk
  refine ⟨fun pins s σ u v I rx ry => ?_⟩
  cases rx
  cases ry
  have hx := (ins_get I.hok ha).choose_spec.1.obj
  obtain ⟨_, its, n, _, _, ho⟩ := I.lstM hl
  refine wpAny_tryCompare_declines (T := "list") (id := "list.__eq__") ?_ ?_ ?_
  · exact ⟨_, ho, rfl⟩
  · exact PySem.F.slot_list_eq
  · exact call_meets PySem.F.slot_list_eq ⟨_, ho, rfl⟩ PySem.F.entry_list_eq (PySem.F.args_list_eq_2 _ _) (list_eq_inst l its.toArray n none #[] a Cl dx) ⟨hx, ho, I.kIn, hs, rfl, rfl, I⟩

theorem list_ne_inst (l : Addr) (items : Array Value) (n : Nat) (dd : Option Addr) (sl : Array (Option Value)) (x C d0 : Addr) : Meets (Builtin.«list.__ne__» ⟨[.ref l, .ref x], []⟩) (fun _ R s => s.heap.get? x = some (PySem.W.instObj C d0) ∧ s.heap.get? l = some { cls := .type "list", dict := dd, data := .seq items n, slots := sl } ∧ K.In s.heap ∧ PySem.W.subIn K (.ref C) (.type "list") = some false ∧ R (.ok (.ret Value.notImplemented)) s) :=
  .of_wp fun prog w A R s h => by obtain ⟨hp, g, d, tk, os⟩ := s; obtain ⟨hx, hl, hK, hS, h⟩ := h; simp only [PySem.W.instObj] at hx; wp_walk using wpAny_loadPart' hl, wpAny_load hl, wpAny_loadPart' hx, wpAny_load hx; refine (PySem.W.looks_subIn hK hS).here ?_; wp_walk; exact ⟨_, rfl, h⟩

theorem dec_int_ne {i : Int} (ha : H a = some (.ins Cl dx fs)) : Dec X H (cmpInfo .NotEq).2.1 (.int i) (.ref a) := by
  refine ⟨fun pins s σ u v I rx ry => ?_⟩
  obtain ⟨t, rfl⟩ := id rx
  cases ry
  have hx := (ins_get I.hok ha).choose_spec.1.obj
  refine wpAny_tryCompare_declines (T := "int") (id := "int.__ne__") ?_ ?_ ?_
  · exact typeIs_int _ _ _
  · exact PySem.F.slot_int_ne
  · exact call_meets PySem.F.slot_int_ne (typeIs_int _ _ _) PySem.F.entry_int_ne (PySem.F.args_int_ne_2 _ _) (int_ne_inst i t a Cl dx) ⟨hx, rfl, rfl, I⟩

theorem dec_str_ne {i : Str} (ha : H a = some (.ins Cl dx fs)) : Dec X H (cmpInfo .NotEq).2.1 (.str i) (.ref a) := by
  refine ⟨fun pins s σ u v I rx ry => ?_⟩
  obtain ⟨t, rfl⟩ := id rx
  cases ry
  have hx := (ins_get I.hok ha).choose_spec.1.obj
  refine wpAny_tryCompare_declines (T := "str") (id := "str.__ne__") ?_ ?_ ?_
  · exact typeIs_str _ _ _
  · exact PySem.F.slot_str_ne
  · exact call_meets PySem.F.slot_str_ne (typeIs_str _ _ _) PySem.F.entry_str_ne (PySem.F.args_str_ne_2 _ _) (str_ne_inst i t a Cl dx) ⟨hx, rfl, rfl, I⟩

theorem dec_non_ne : Dec X H (cmpInfo .NotEq).2.1 .non (.ref a) := by
  refine ⟨fun pins s σ u v I rx ry => ?_⟩
  cases rx
  cases ry
  refine wpAny_tryCompare_declines (T := "NoneType") (id := "NoneType.__ne__") ?_ ?_ ?_
  · rfl
  · exact PySem.F.slot_NoneType_ne
  · exact call_gives PySem.F.slot_NoneType_ne rfl PySem.F.entry_NoneType_ne (PySem.F.args_NoneType_ne_2 _ _) (SeqAt.NoneType___ne___none_ref_0 a) ⟨rfl, rfl, I⟩
theorem dec_lst_ne {l : Addr} {xs : List V} (xk : Xk X P w K mg base sc N GL k EX) (hs : PySem.W.subIn K (.ref Cl) (.type "list") = some false) (hl : H l = some (.lst xs)) (ha : H a = some (.ins Cl dx fs)) : Dec X H (cmpInfo .NotEq).2.1 (.ref l) (.ref a) := by
  obtain ⟨rfl, rfl, rfl, rfl, rfl, -, -, -, gl, -, room, -, tk, -, -⟩ := xk
  refine ⟨fun pins s σ u v I rx ry => ?_⟩
  cases rx
  cases ry
  have hx := (ins_get I.hok ha).choose_spec.1.obj
  obtain ⟨_, its, n, _, _, ho⟩ := I.lstM hl
  refine wpAny_tryCompare_declines (T := "list") (id := "list.__ne__") ?_ ?_ ?_
  · exact ⟨_, ho, rfl⟩
  · exact PySem.F.slot_list_ne
  · exact call_meets PySem.F.slot_list_ne ⟨_, ho, rfl⟩ PySem.F.entry_list_ne (PySem.F.args_list_ne_2 _ _) (list_ne_inst l its.toArray n none #[] a Cl dx) ⟨hx, ho, I.kIn, hs, rfl, rfl, I⟩

theorem ty_lst {l : Addr} {xs : List V} (hl : H l = some (.lst xs)) : Ty X H (.ref l) (.type "list") := ⟨fun pins s σ u I r => by
  cases r
  obtain ⟨_, its, n, _, _, ho⟩ := I.lstM hl
  exact fun _ _ _ _ k q => wpAny_typeOf (T := "list") ⟨_, k _ _ ho, rfl⟩ q⟩
theorem ns_int {i : Int} : Ns X H (.ref a) (.int i) := ⟨fun op u v r1 r2 => by cases r1; exact oneThing_ref _ _ _, fun pins s σ u v R I r1 r2 h => by cases r1; obtain ⟨t, rfl⟩ := r2; exact wpAny_of_eq (rfl : isSame (.ref a) (.int i t) = pure false) h⟩
theorem ns_str {i : Str} : Ns X H (.ref a) (.str i) := ⟨fun op u v r1 r2 => by cases r1; exact oneThing_ref _ _ _, fun pins s σ u v R I r1 r2 h => by cases r1; obtain ⟨t, rfl⟩ := r2; exact wpAny_of_eq (rfl : isSame (.ref a) (.str i t) = pure false) h⟩
theorem ns_non : Ns X H (.ref a) .non := ⟨fun op u v r1 r2 => by cases r1; exact oneThing_ref _ _ _, fun pins s σ u v R I r1 r2 h => by cases r1; cases r2; exact wpAny_of_eq (rfl : isSame (.ref a) .none = pure false) h⟩
theorem sn_int {i : Int} : Ns X H (.int i) (.ref a) := ⟨fun op u v r1 r2 => by cases r2; obtain ⟨t, rfl⟩ := r1; rfl, fun pins s σ u v R I r1 r2 h => by cases r2; obtain ⟨t, rfl⟩ := r1; exact wpAny_of_eq (rfl : isSame (.int i t) (.ref a) = pure false) h⟩
theorem sn_str {i : Str} : Ns X H (.str i) (.ref a) := ⟨fun op u v r1 r2 => by cases r2; obtain ⟨t, rfl⟩ := r1; rfl, fun pins s σ u v R I r1 r2 h => by cases r2; obtain ⟨t, rfl⟩ := r1; exact wpAny_of_eq (rfl : isSame (.str i t) (.ref a) = pure false) h⟩
theorem sn_non : Ns X H .non (.ref a) := ⟨fun op u v r1 r2 => by cases r2; cases r1; rfl, fun pins s σ u v R I r1 r2 h => by cases r2; cases r1; exact wpAny_of_eq (rfl : isSame .none (.ref a) = pure false) h⟩
theorem ns_own {b : Addr} (ha : H a = some (.ins Cl dx fs)) (hb : H b = some (.ins Dl dy gs)) (hne : Cl ≠ Dl) : Ns X H (.ref a) (.ref b) := ⟨fun op u v r1 r2 => by cases r1; exact oneThing_ref _ _ _, fun pins s σ u v R I r1 r2 h => by
  cases r1; cases r2
  have hx := (ins_get I.hok ha).choose_spec.1.obj
  have hy := (ins_get I.hok hb).choose_spec.1.obj
  have hab : a ≠ b := fun e => by subst e; rw [ha] at hb; cases hb; exact hne rfl
  exact wpAny_isSame_ref_other hab hx hy (by simp [PySem.W.instObj]) h⟩
theorem ns_ownL {b : Addr} {xs : List V} (ha : H a = some (.ins Cl dx fs)) (hb : H b = some (.lst xs)) : Ns X H (.ref a) (.ref b) := ⟨fun op u v r1 r2 => by cases r1; exact oneThing_ref _ _ _, fun pins s σ u v R I r1 r2 h => by
  cases r1; cases r2
  have hx := (ins_get I.hok ha).choose_spec.1.obj
  obtain ⟨_, its, n, _, _, ho⟩ := I.lstM hb
  have hab : a ≠ b := fun e => by subst e; rw [ha] at hb; cases hb
  exact wpAny_isSame_ref_other hab hx ho (by simp [PySem.W.instObj]) h⟩
theorem sn_own {b : Addr} {xs : List V} (hb : H b = some (.lst xs)) (ha : H a = some (.ins Cl dx fs)) : Ns X H (.ref b) (.ref a) := ⟨fun op u v r1 r2 => by cases r1; exact oneThing_ref _ _ _, fun pins s σ u v R I r1 r2 h => by
  cases r1; cases r2
  have hx := (ins_get I.hok ha).choose_spec.1.obj
  obtain ⟨_, its, n, _, _, ho⟩ := I.lstM hb
  have hab : b ≠ a := fun e => by subst e; rw [ha] at hb; cases hb
  exact SeqAt.wpAny_isSame_ref_other' hab ho hx (by simp [PySem.W.instObj]) h⟩
end
end Sx
set_option Elab.async false
set_option linter.all false
set_option maxRecDepth 100000
set_option maxHeartbeats 4000000
/-! SxP: truth, repr, str of own instances; f-strings; zip of lists; isinstance that says no. -/
namespace Sx
open PySem L2
open PyProof.Rows (UnaryOp_ not_of)

section
variable {X : Cx} {P : Program} {w : World} {K : PySem.W.Frag} {mg : Str → Option Value} {base : Heap} {sc : Scope} {N GL : List Str} {k : Nat} {EX : XK}
variable {σ : St} {H : Hp} {Q : VK} {TQ : Bool → Hp → Prop} {a b Cl Dl dx dy : Addr} {fs gs : List (Str × V)} {j j' : Nat} {sp : Sp} {m : Str} {e e1 e2 : Expr} {es : List Expr} {bd rest : List Stmt} {pos p pt : Pos} {st : Stmt} {nx bk ct : St → Hp → Prop} {rt : VK}

/-! ### not of any value -/
theorem pTr : TruR X (fun x H Q => Tr X x H Q) := fun pins s σ _ _ u _ I rx h => h.run pins s σ u I rx
theorem e_notW (h : E X e σ H fun x H1 => Tr X x H1 fun c H2 => Q (.bl (!c)) H2) : E X (.UnaryOp .Not e pos) σ H Q := by
  refine ⟨fun pins s I => ?_⟩
  refine UnaryOp_ (thn (h.run pins s I) fun v s1 ⟨x, H1, I1, r1, q1⟩ => ?_)
  exact not_of (thn (q1.run pins s1 σ v I1 r1) fun c s2 ⟨H2, I2, q2⟩ => ⟨.bl (!c), H2, I2, rfl, q2⟩)
/-! ### truth of an own instance -/
theorem ep_bool {pins : List (Addr × Obj)} {u : Value} {s' : Shared} (h : EP X pins σ (fun v H' => ∃ q, v = .bl q ∧ TQ q H') u s') : PySem.W.BoolBack (TP X pins σ TQ) u s' := by
  obtain ⟨v, H', I, r, q, rfl, h⟩ := h
  cases r
  exact ⟨H', I, h⟩
theorem tr_own (xk : Xk X P w K mg base sc N GL k EX) (D : Dm P w K mg base Cl "__bool__" j sp) (hj : j ≤ k) (ha : H a = some (.ins Cl dx fs)) (h : sp [.ref a] H (fun v H' => ∃ q, v = .bl q ∧ TQ q H') EX) : Tr X (.ref a) H TQ := by
  obtain ⟨f, fd, ps, F, hm, bb⟩ := D
  obtain ⟨rfl, rfl, rfl, rfl, rfl, -, -, -, gl, -, room, -, tk, -, -⟩ := xk
  refine ⟨fun pins s σ u I rx => ?_⟩
  cases rx
  obtain ⟨m', hF⟩ := I.fr
  obtain ⟨od, J⟩ := inst_at I ha
  exact PySem.W.truthy_K hF I.ok.mod.kin J hm.at_ hm.fn (wpAny_mono (run_at F (room.mono hj) rfl bb (passes_call tk fun _ _ _ _ z => z) I (vs := [.ref a]) (.cons rfl .nil) h) (fun _ _ z => ep_bool z) fun _ _ z => z)
/-- bool(a) -/
theorem k_boolOwn (xk : Xk X P w K mg base sc N GL k EX) (D : Dm P w K mg base Cl "__bool__" j sp) (hj : j + 2 ≤ k) (ha : H a = some (.ins Cl dx fs)) (h : sp [.ref a] H (fun v H' => ∃ q, v = .bl q ∧ Q (.bl q) H') EX) : C X (.type "bool") [.ref a] H Q := by
  obtain ⟨f, fd, ps, F, hm, bb⟩ := D
  obtain ⟨rfl, rfl, rfl, rfl, rfl, -, -, -, gl, -, room, -, tk, -, -⟩ := xk
  refine ⟨fun pins s σ us I r => ?_⟩
  obtain ⟨u, rfl, rx⟩ := vals1 r
  cases rx
  obtain ⟨m', hF⟩ := I.fr
  obtain ⟨od, J⟩ := inst_at I ha
  have run := PySem.W.truthy_K (M := model X.prog X.w) (A := X.A.in1.in1) hF I.ok.mod.kin J hm.at_ hm.fn (wpAny_mono (run_at F (Room.in1 (Room.in1 (room.mono hj))) rfl bb (passes_call tk fun _ _ _ _ z => z) I (vs := [.ref a]) (.cons rfl .nil) h) (fun _ _ z => ep_bool (TQ := fun q H' => Q (.bl q) H') z) fun _ _ z => z)
  refine callType_codes (T := "bool") (Bi := Builtin.«object.__init__») (Q₁ := fun r s₁ => ∃ q, r = .bool q ∧ EP X pins σ Q r s₁) PySem.F.called_bool (PySem.F.typeCall_bool_1 _) PySem.F.entry_object_init ?_ ?_
  · refine codeAny_of_tree ?_
    show wpAny _ X.A.in1.in1 (do checkBuiltinCall "bool.__new__" ⟨[.type "bool", .ref a], []⟩; again (.builtin "bool.__new__" ⟨[.type "bool", .ref a], []⟩)) _ _ s
    refine wpAny_bind (wpAny_of_eq (PySem.F.newCall_bool_1 _) (wpAny_pure ⟨plainId_quiet (by decide +kernel) _, codeAny_builtin PySem.F.entry_bool_new ?_⟩))
    rw [Around.under_plainId (by decide +kernel) _]
    unfold Builtin.«bool.__new__»
    refine wpAny_bind (wpAny_pure ?_)
    refine wpAny_bind (wpAny_of_eq PySem.F.conv_sub_bool ?_)
    refine wpAny_bind (wpAny_pure ?_)
    refine wpAny_bind (wpAny_mono run (fun q s₁ hr => ?_) fun _ _ y => y)
    obtain ⟨H', I', hq⟩ := hr
    exact wpAny_pure ⟨_, rfl, .bl q, H', I', rfl, hq⟩
  · rintro obj s₁ ⟨q, rfl, hq⟩
    exact ⟨rfl, PySem.F.args_object_init_2 _ _, object_init_meets PySem.F.called_bool.init.lookup PySem.F.called_bool.made (by decide) X.prog X.w X.A.in1 _ s₁ ⟨rfl, rfl, hq⟩⟩
/-! ### repr(a), str(a) of an own instance -/
theorem ep_str {pins : List (Addr × Obj)} {u : Value} {s' : Shared} (h : EP X pins σ (fun v H' => ∃ q, v = .str q ∧ Q (.str q) H') u s') : PySem.W.StrBack (EP X pins σ Q) u s' := by
  obtain ⟨v, H', I, r, q, rfl, h⟩ := h
  obtain ⟨t, rfl⟩ := id r
  exact ⟨_, H', I, r, h⟩
theorem k_reprOwn (xk : Xk X P w K mg base sc N GL k EX) (D : Dm P w K mg base Cl "__repr__" j sp) (hj : j + 1 ≤ k) (ha : H a = some (.ins Cl dx fs)) (h : sp [.ref a] H (fun v H' => ∃ q, v = .str q ∧ Q (.str q) H') EX) : C X (.builtin "repr") [.ref a] H Q := by
  obtain ⟨f, fd, ps, F, hm, bb⟩ := D
  obtain ⟨rfl, rfl, rfl, rfl, rfl, -, -, -, gl, -, room, -, tk, -, -⟩ := xk
  refine ⟨fun pins s σ us I r => ?_⟩
  obtain ⟨u, rfl, rx⟩ := vals1 r
  cases rx
  obtain ⟨m', hF⟩ := I.fr
  obtain ⟨od, J⟩ := inst_at I ha
  exact PySem.W.repr_K (by have := room.un; show X.A.units + 1 < _; omega) hF I.ok.mod.kin J hm.at_ hm.fn (wpAny_mono (run_at F (Room.in1 (room.mono hj)) rfl bb (passes_call tk fun _ _ _ _ z => z) I (vs := [.ref a]) (.cons rfl .nil) h) (fun _ _ z => ep_str z) fun _ _ z => z)
theorem k_strOwn (xk : Xk X P w K mg base sc N GL k EX) (D : Dm P w K mg base Cl "__str__" j sp) (hj : j + 2 ≤ k) (ha : H a = some (.ins Cl dx fs)) (h : sp [.ref a] H (fun v H' => ∃ q, v = .str q ∧ Q (.str q) H') EX) : C X (.type "str") [.ref a] H Q := by
  obtain ⟨f, fd, ps, F, hm, bb⟩ := D
  obtain ⟨rfl, rfl, rfl, rfl, rfl, -, -, -, gl, -, room, -, tk, -, -⟩ := xk
  refine ⟨fun pins s σ us I r => ?_⟩
  obtain ⟨u, rfl, rx⟩ := vals1 r
  cases rx
  obtain ⟨od, J⟩ := inst_at I ha
  exact PySem.W.kso_call (by have := room.un; show X.A.units + 1 + 1 < _; omega) I.kIn J hm.at_ hm.fn (wpAny_mono (run_at F (Room.in1 (Room.in1 (room.mono hj))) rfl bb (passes_call tk fun _ _ _ _ z => z) I (vs := [.ref a]) (.cons rfl .nil) h) (fun _ _ z => ep_str z) fun _ _ z => z)
theorem k_strI {i : Int} (hz : i.natAbs.log2 < 1920) (h : Q (.str (toString i)) H) : C X (.type "str") [.int i] H Q := .of call_str_int ⟨i, rfl, hz, h⟩
theorem k_strS {i : Str} (h : Q (.str i) H) : C X (.type "str") [.str i] H Q := .of SkE.call_str_str ⟨i, rfl, h⟩
theorem k_boolI {i : Int} (h : Q (.bl (i != 0)) H) : C X (.type "bool") [.int i] H Q := .of call_bool1 (.inl ⟨i, rfl, h⟩)
/-! ### f-strings -/
structure Fm (x : V) (H : Hp) (Q : VK) : Prop where
  run : (∃ y : Str, x = .str y ∧ y.length ≤ sizeLine ∧ Q (.str y) H) ∨ ∃ i : Int, x = .int i ∧ i.natAbs.log2 < 1920 ∧ Q (.str (toString i)) H
theorem fm_i {i : Int} (hz : i.natAbs.log2 < 1920) (h : Q (.str (toString i)) H) : Fm (.int i) H Q := ⟨.inr ⟨i, rfl, hz, h⟩⟩
theorem fm_s {y : Str} (hz : y.length ≤ sizeLine) (h : Q (.str y) H) : Fm (.str y) H Q := ⟨.inl ⟨y, rfl, hz, h⟩⟩
theorem e_fmt (h : E X e σ H fun x H1 => Fm x H1 Q) : E X (.FormattedValue e (-1) none pos) σ H Q := .of (pe_fmt pe) (h.mono fun _ _ z => z.run)
structure JsV (X : Cx) (es : List Expr) (acc : Str) (x : V) (σ : St) (H : Hp) (R : Str → Hp → Prop) : Prop where
  run : ∃ y : Str, x = .str y ∧ (acc ++ y).length ≤ sizeLine ∧ tJs (es.map fun e σ H Q => E X e σ H Q) (acc ++ y) σ H R
structure Js (X : Cx) (es : List Expr) (acc : Str) (σ : St) (H : Hp) (R : Str → Hp → Prop) : Prop where
  run : tJs (es.map fun e σ H Q => E X e σ H Q) acc σ H R
theorem js_nil {acc : Str} {R : Str → Hp → Prop} (h : R acc H) : Js X [] acc σ H R := ⟨h⟩
theorem js_cons {acc : Str} {R : Str → Hp → Prop} (h : E X e σ H fun x H1 => JsV X es acc x σ H1 R) : Js X (e :: es) acc σ H R := ⟨h.mono fun x H1 z => z.run⟩
theorem js_v {acc y : Str} {R : Str → Hp → Prop} (h1 : (acc ++ y).length ≤ sizeLine) (h : Js X es (acc ++ y) σ H R) : JsV X es acc (.str y) σ H R := ⟨⟨y, rfl, h1, h.run⟩⟩
theorem pj_all : ∀ es : List Expr, PJ X es (es.map fun e σ H Q => E X e σ H Q)
  | [] => .nil
  | _ :: es => .cons pe (pj_all es)
theorem e_join (h : Js X (e1 :: e2 :: es) Str.empty σ H fun out H1 => Q (.str out) H1) : E X (.JoinedStr (e1 :: e2 :: es) pos) σ H Q := .of (pe_joined (pj_all _)) h.run
/-! ### zip of two lists -/
theorem s_zip {ts : List Expr} {jt : Nat} {p2 : Pos} (xk : Xk X P w K mg base sc N GL k EX) (hg : ("zip" : Str) ∈ GL) (hm : mg "zip" = none)
    (h : As X [e1, e2] σ H fun vs H1 => ∃ a b xs ys, vs = [.ref a, .ref b] ∧ SqL K H1 a xs ∧ SqL K H1 b ys ∧ xs.length = ys.length ∧ ∃ Pv : Nat → St → Hp → Prop, Pv 0 σ H1 ∧ (∀ i σ' H', Pv i σ' H' → SqL K H' a xs ∧ SqL K H' b ys) ∧
      (∀ i x y T σ' H' H'', xs[i]? = some x → ys[i]? = some y → Pv i σ' H' → H' T = none → Kp [] H' H'' → H'' T = some (.tup [x, y]) → G X (.Tuple ts jt pt) (.ref T) σ' H'' fun σ2 H2 => Ss X bd (Pv (i + 1)) rt nx (Pv (i + 1)) σ2 H2) ∧ ∀ σ' H', Pv xs.length σ' H' → nx σ' H')
    (h1 : NoSt e1 = true) (h2 : NoSt e2 = true) (hs : ∀ x, foldedSetIterable (.Call (.Name "zip" p) [e1, e2] [] p2) X.env x = pure x := by intro _; rfl) :
    S X (.For (.Tuple ts jt pt) (.Call (.Name "zip" p) [e1, e2] [] p2) bd [] pos) nx rt bk ct σ H := by
  obtain ⟨-, -, rfl, rfl, -, -, -, -, gl, -, -, calm, -, po, -⟩ := xk
  refine .of (ps_for po calm (RZ.pi_zipA (gl _ hg).1 hm pa (star_cons h1) (by rw [star_cons h2]; rfl)) pg pss hs) (h.mono fun vs H1 ⟨a, b, xs, ys, e0, e1, e2, e3, Pv, p0, p1, p2, p3⟩ => ⟨a, b, xs, ys, e0, .inl ⟨e1, e2, ?_⟩⟩)
  exact RZ.for_zipL (g := fun v σ H Q => G X (.Tuple ts jt pt) v σ H Q) (tb := fun D σ H => Ss X bd D.nx D.rt D.bk D.ct σ H) (D := ⟨nx, rt, bk, ct⟩) e3 Pv p0 p1 (fun i x y T σ' H' hx hy hp hT => p2 i x y T σ' H' _ hx hy hp hT (kp_new hT) upd_same) p3
end
end Sx
set_option Elab.async false
set_option linter.all false
set_option maxRecDepth 100000
set_option maxHeartbeats 4000000
/-! SxQ: operators between two own classes. -/
namespace Sx
open PySem L2
section
variable {X : Cx} {P : Program} {w : World} {K : PySem.W.Frag} {mg : Str → Option Value} {base : Heap} {sc : Scope} {N GL : List Str} {k : Nat} {EX : XK}
variable {σ : St} {H : Hp} {Q : VK} {a b Cl Dl dx dy g : Addr} {fs gs : List (Str × V)} {j : Nat} {sp : Sp} {m : Str}
/-- a op b, instances of two own classes that both have the method -/
theorem b_own2 {op : Operator} {rc rd : Option Value} (xk : Xk X P w K mg base sc N GL k EX) (D : Dm P w K mg base Cl m j sp) (hj : j ≤ k) (hc : PySem.W.selfFirst K Cl = true) (hd : PySem.W.selfFirst K Dl = true) (hg : PySem.W.findIn K (.ref Dl) m = some (some (.ref g)))
    (hr : PySem.W.findIn K (.ref Cl) (PySem.dunderR op.info.2) = some rc) (hp : rc = none ∨ ∃ g : Addr, rc = some (.ref g)) (hr' : PySem.W.findIn K (.ref Dl) (PySem.dunderR op.info.2) = some rd) (hp' : rd = none ∨ ∃ g : Addr, rd = some (.ref g))
    (hsub : PySem.W.subIn K (.ref Dl) (.ref Cl) = some false) (hcd : Cl ≠ Dl) (ha : H a = some (.ins Cl dx fs)) (hb : H b = some (.ins Dl dy gs)) (h : sp [.ref a, .ref b] H Q EX) (hn : PySem.dunder op.info.2 = m) : Bo X op (.ref a) (.ref b) H Q := by
  obtain ⟨f, fd, ps, F, hm, bb⟩ := D
  obtain ⟨rfl, rfl, rfl, rfl, rfl, -, -, -, gl, -, room, -, tk, -, -⟩ := xk
  refine ⟨fun pins s σ v u I rx ry => ?_⟩
  cases rx
  cases ry
  subst hn
  obtain ⟨od, J⟩ := inst_at I ha
  obtain ⟨od', J'⟩ := inst_at I hb
  have run := wpAny_mono (run_at F (room.mono hj) rfl bb (passes_call tk fun _ _ _ _ z => z) I (vs := [.ref a, .ref b]) (.cons rfl (.cons rfl .nil)) h) (fun _ _ z => ep_cmp z) fun _ _ z => z
  have one := PySem.W.ksp_try I.kIn J hm.at_ hm.fn run
  have X' := I.kIn
  have hs1 := hm.at_
  obtain ⟨cd, rest, hcc, hmr⟩ := PySem.W.ksp_first hc
  obtain ⟨cd', rest', hcc', hmr'⟩ := PySem.W.ksp_first hd
  rcases hi : op.info with ⟨sym, nm⟩
  rw [hi] at one hg hr hr' hs1
  dsimp only at one hg hr hr' hs1
  obtain ⟨hh, gg, d, tt, os⟩ := s
  have L1 : PySem.W.Looks (model X.prog X.w) hh (typeOf (.ref a)) (.ref Cl) := J.type
  have L2 : PySem.W.Looks (model X.prog X.w) hh (typeOf (.ref b)) (.ref Dl) := J'.type
  have L3 : PySem.W.Looks (model X.prog X.w) hh (fillsNumberSlot (.ref Cl) nm) true := PySem.W.fills_K X' hcc hmr hs1
  have L4 : PySem.W.Looks (model X.prog X.w) hh (fillsNumberSlot (.ref Dl) nm) true := PySem.W.fills_K X' hcc' hmr' hg
  have L5 : PySem.W.Looks (model X.prog X.w) hh (isSubtype (.ref Dl) (.ref Cl)) false := PySem.W.looks_subIn X' hsub
  have L6 : PySem.W.Looks (model X.prog X.w) hh (numberSlotInPython (.ref Cl) nm) true := PySem.W.ksp_inPy X' hs1 hr hp
  have L7 : PySem.W.Looks (model X.prog X.w) hh (numberSlotInPython (.ref Dl) nm) true := PySem.W.ksp_inPy X' hg hr' hp'
  have hne : (Value.ref Cl == Value.ref Dl) = false := Bool.eq_false_iff.mpr fun q => hcd (by have := beq_iff_eq.mp q; injection this)
  simp only [binaryOp, hi]
  refine wpAny_holding (wpAny_bind ?_)
  unfold binaryOp1
  refine wpAny_bind (L1.at (wpAny_bind (L2.at (wpAny_bind (L3.at ?_)))))
  simp only [hne, Bool.false_eq_true, if_false]
  refine wpAny_bind (L4.at ?_)
  simp only [Bool.and_self, if_true]
  refine wpAny_bind (L5.at ?_)
  simp only [Bool.false_eq_true, if_false, Bool.not_false, Bool.and_self, if_true]
  refine wpAny_bind (L6.at ?_)
  simp only [if_true]
  refine wpAny_bind (L7.at ?_)
  simp only [Bool.not_true, Bool.false_eq_true, if_false]
  refine wpAny_bind (wpAny_mono one (fun r s' hr'' => ?_) fun _ _ e => e)
  obtain ⟨v, rfl, hq⟩ := hr''
  ksp_lk
  exact hq
end
end Sx
namespace Sx
open PySem L2
/-! ### the walker's words -/
local macro_rules | `(tactic| wtm_at "ne") => `(tactic| first
  | with_reducible assumption
  | exact Ne.symm (by with_reducible assumption)
  | exact ne_fresh (by with_reducible assumption) (by wtm_at "look")
  | exact Ne.symm (ne_fresh (by with_reducible assumption) (by wtm_at "look"))
  | fail)
local macro_rules | `(tactic| wtm_at "ni") => `(tactic| first
  | with_reducible assumption
  | exact ni_nil
  | exact ni_cons (by wtm_at "ne") (by wtm_at "ni")
  | fail)
local macro_rules | `(tactic| wtm_at "look") => `(tactic| first
  | with_reducible assumption
  | exact Kp.get0 (by with_reducible assumption) (by wtm_at "look")
  | exact Kp.getC (by with_reducible assumption) (by wtm_at "look") (by wtm_at "ni")
  | fail)
local macro_rules | `(tactic| wtm_at "sql") => `(tactic| first
  | with_reducible assumption
  | exact sq_l (by wtm_at "look")
  | exact Kp.seqL0 (by with_reducible assumption) (by wtm_at "sql")
  | exact Kp.seqLC (by with_reducible assumption) (by wtm_at "sql") (by wtm_at "ni")
  | fail)
local macro_rules | `(tactic| wtm_at "sqt") => `(tactic| first
  | with_reducible assumption
  | exact sq_t (by wtm_at "look")
  | exact Kp.seqT0 (by with_reducible assumption) (by wtm_at "sqt")
  | exact Kp.seqTC (by with_reducible assumption) (by wtm_at "sqt") (by wtm_at "ni")
  | fail)
local macro_rules | `(tactic| wtm_at "kp") => `(tactic| first
  | exact Kp.refl
  | with_reducible assumption
  | exact Kp.tr (by with_reducible assumption) (by wtm_at "kp")
  | exact Kp.trC (by with_reducible assumption) (by wtm_at "kp")
  | fail)
local macro_rules | `(tactic| wtm_at "mem") => `(tactic| first
  | with_reducible exact mem_hd
  | (with_reducible refine mem_tl ?_; wtm_at "mem")
  | fail)
local macro_rules | `(tactic| wtm_at "get") => `(tactic| first
  | with_reducible exact Get.here
  | (with_reducible apply Get.there; wtm_at "get")
  | fail)
local macro_rules | `(tactic| wtm_at "set") => `(tactic| first
  | with_reducible exact SetF.here
  | (with_reducible apply SetF.there; wtm_at "set")
  | fail)
local macro_rules | `(tactic| wtm_at "put") => `(tactic| first
  | with_reducible exact PutR.nil
  | with_reducible exact PutR.here
  | (with_reducible apply PutR.there (by decide +kernel); wtm_at "put")
  | fail)
local macro_rules | `(tactic| wtm_at "lk") => `(tactic| first
  | with_reducible exact lk_here
  | (with_reducible apply lk_there (by decide +kernel); wtm_at "lk")
  | fail)
local macro_rules | `(tactic| wtm_at "lkn") => `(tactic| first
  | exact lkn_nil
  | (with_reducible apply lkn_there (by decide +kernel); wtm_at "lkn")
  | fail)
local macro_rules | `(tactic| wtm_at "lset") => `(tactic| first
  | exact LSet.here
  | (apply LSet.there; wtm_at "lset")
  | fail)
local macro_rules | `(tactic| wtm_at "start") => `(tactic| first
  | exact Start.done
  | (apply Start.val; wtm_at "start")
  | (apply Start.non; wtm_at "start")
  | fail)
local macro_rules | `(tactic| wtm_at "sz") => `(tactic| first
  | exact Nat.le_of_ble_eq_true rfl
  | omega
  | fail)
local macro_rules | `(tactic| wtm_at "sN") => `(tactic| first
  | refine e_var (by with_reducible assumption) (by wtm_at "get") ?_
  | refine e_cls (by with_reducible assumption) (by wtm_at "mem") (by with_reducible assumption) ?_
  | refine e_bty (by with_reducible assumption) (by wtm_at "mem") (by with_reducible assumption) ?_
  | fail)
local macro_rules | `(tactic| wtm_at "sF") => `(tactic| first
  | refine e_callB (by with_reducible assumption) (by wtm_at "mem") (by with_reducible assumption) ?_
  | refine e_callT (by with_reducible assumption) (by wtm_at "mem") (by with_reducible assumption) ?_
  | refine e_call (by with_reducible assumption) (by wtm_at "mem") (by with_reducible assumption) (by decide) ?_
  | fail)
local macro_rules | `(tactic| wtm_at "sM") => `(tactic| fail)
local macro_rules | `(tactic| wtm_at "sE") => `(tactic| first
  | (refine gName ?_; wtm_at "sN")
  | refine e_int ?_
  | refine e_sub ?_
  | refine e_bin ?_
  | (refine gCallN ?_; wtm_at "sF")
  | (refine gCallA ?_; wtm_at "sM")
  | (refine gAttr ?_; refine e_fld (by with_reducible assumption) ?_)
  | refine e_str ?_
  | refine e_bl ?_
  | refine e_non ?_
  | refine e_neg ?_
  | refine e_notV ?_
  | refine e_if ?_
  | refine e_lst ?_
  | refine e_tup ?_
  | (refine gCmp ?_; first | refine e_cmp (nomark _) ?_ | refine e_cmp rfl ?_ | refine e_chain ?_)
  | refine e_one ?_
  | refine e_and ?_
  | refine e_or ?_
  | fail)
local macro_rules | `(tactic| wtm_at "sT") => `(tactic| first
  | (refine gCmpT ?_; first | refine t_cmp (nomark _) ?_ | refine t_cmp rfl ?_ | refine t_chain ?_)
  | refine t_not ?_
  | refine t_and ?_
  | refine t_or ?_
  | refine t_val ?_
  | fail)
local macro_rules | `(tactic| wtm_at "sW") => `(tactic| first
  | refine w_and ?_
  | refine w_or ?_
  | refine w_and1 ?_
  | refine w_or1 ?_
  | fail)
local macro_rules | `(tactic| wtm_at "sB") => `(tactic| first
  | refine b_add ?_
  | refine b_sub ?_
  | refine b_mul (by first | exact mul_ok_r ⟨by omega, by omega⟩ | exact mul_ok_l ⟨by omega, by omega⟩) ?_
  | refine b_mod (by omega) ?_
  | refine b_pow18 ?_
  | refine b_pow9 ?_
  | refine b_pow30 ?_
  | refine b_fdiv (cdiv_of (by omega) (by omega)) ?_
  | fail)
local macro_rules | `(tactic| wtm_at "sC") => `(tactic| first
  | refine c_lt ?_
  | refine c_le ?_
  | refine c_gt ?_
  | refine c_ge ?_
  | refine c_eqI ?_
  | refine c_neI ?_
  | refine c_isN ?_
  | refine c_notN ?_
  | fail)
local macro_rules | `(tactic| wtm_at "sK") => `(tactic| first
  | refine k_int ?_
  | refine k_intB ?_
  | refine k_boolB ?_
  | refine k_abs ?_
  | (refine gKlen ?_; first | refine k_lenL (by with_reducible assumption) (by wtm_at "sql") ?_ | refine k_lenT (by with_reducible assumption) (by wtm_at "sqt") ?_)
  | refine k_ii (by with_reducible assumption) ?_
  | refine k_ib (by with_reducible assumption) ?_
  | fail)
local macro_rules | `(tactic| wtm_at "sS") => `(tactic| first
  | refine s_ret ?_
  | refine s_if ?_
  | (refine gAsgN ?_; refine s_set (by with_reducible assumption) (by wtm_at "set") ?_)
  | (refine gAsgA ?_; refine s_fld (by with_reducible assumption) ?_)
  | (refine gAsgP ?_; refine s_par (by with_reducible assumption) (by wtm_at "set") (by intro _; wtm_at "set") (by decide +kernel) (by decide +kernel) (by decide +kernel) (fun _ _ _ _ => rfl) ?_)
  | (refine gAsgP ?_; refine s_par3 (by with_reducible assumption) (by wtm_at "set") (by intro _; wtm_at "set") (by intro _ _; wtm_at "set") (by decide +kernel) (by decide +kernel) (by decide +kernel) (by decide +kernel) (by decide +kernel) (by decide +kernel) (fun _ _ _ _ => rfl) ?_)
  | (refine gAsg ?_; refine s_asg ?_)
  | refine s_expr ?_
  | refine s_pass ?_
  | fail)
local macro_rules | `(tactic| wtm_at "sG") => `(tactic| first
  | refine g_name (by with_reducible assumption) (by wtm_at "set") ?_
  | (refine gGt ?_; refine g_tup (by with_reducible assumption) (by wtm_at "sqt") rfl ?_)
  | (refine gGs2 ?_; refine g_sub ?_)
  | fail)
local macro_rules | `(tactic| wtm_at "sI") => `(tactic| first
  | refine ix_l (by with_reducible assumption) (fun _ _ => rfl) (by wtm_at "sql") (by first | with_reducible assumption | rfl) ?_
  | refine ix_t (by with_reducible assumption) (fun _ _ => rfl) (by wtm_at "sqt") (by first | with_reducible assumption | rfl) ?_
  | fail)
local macro_rules | `(tactic| wtm_at "sR") => `(tactic| first
  | refine br_t ?_
  | refine br_f ?_
  | refine br_n ?_
  | fail)
local macro_rules | `(tactic| wtm_at "sX") => `(tactic| first
  | (refine gFr ?_; refine ex_fld (by wtm_at "look") (by with_reducible assumption) (by with_reducible assumption) (by wtm_at "lk") ?_)
  | (refine gFs ?_; refine ex_put (by wtm_at "look") (by with_reducible assumption) (by with_reducible assumption) (Nat.lt_of_ble_eq_true' rfl) (by wtm_at "put") (fun _ _ _ => ?_))
  | refine new_tup (by wtm_at "sz") (fun _ _ _ _ _ => ?_)
  | refine new_lst (by wtm_at "sz") (fun _ _ _ _ _ => ?_)
  | refine ex_bl ?_
  | fail)
local macro_rules | `(tactic| wtm_at "s") => `(tactic| first
  | (refine gE ?_; wtm_at "sE")
  | (refine gAs ?_; first | refine as_nil ?_ | refine as_cons ?_)
  | (refine gB ?_; wtm_at "sB")
  | (refine gK ?_; with_reducible wtm_at "sK")
  | (refine gIx ?_; wtm_at "sI")
  | (refine gT ?_; wtm_at "sT")
  | (refine gC ?_; wtm_at "sC")
  | (refine gS ?_; wtm_at "sS")
  | (refine gSs ?_; first | refine ss_one ?_ | refine ss_cons ?_ | refine ss_nil ?_)
  | (refine gBr ?_; wtm_at "sR")
  | (refine gW ?_; wtm_at "sW")
  | (refine gU ?_; refine u_neg ?_)
  | (refine gG ?_; wtm_at "sG")
  | (refine gGs ?_; first | refine gs_cons ?_ | refine gs_nil ?_)
  | (refine gSt ?_; refine st_lL (by wtm_at "look") rfl (by wtm_at "lset") (fun _ _ _ => ?_))
  | (refine gTr ?_; refine tr_bl ?_)
  | wtm_at "sX"
  | fail)
local macro_rules | `(tactic| wtm_at "go") => `(tactic| repeat' (wtm_at "s"))
def topS (i : Nat) : Stmt := PySem.Challenge.pw_strayfiles_k04_moments.main.body.getD i (.Pass ⟨0, 0, 0, 0⟩)
/-! ### the law's draws -/
abbrev sBag : Stmt := topS 4
abbrev sTake : Stmt := topS 5
abbrev sNum : Stmt := topS 6
abbrev sIsN : Stmt := topS 7
abbrev sIsS : Stmt := topS 8
abbrev sRight : Stmt := topS 9
abbrev sLaw : Stmt := topS 10
theorem sc_bag : FnScope ["_law_script", "_law_at", "_law_cell"] ["_law_script", "_law_at"] (defScope sBag) := ⟨rfl, rfl, rfl, by decide +kernel, rfl, by decide +kernel, by decide +kernel⟩
theorem sc_take : FnScope ["_law_bag_here", "_law_many", "_law_digit", "_law_mixed"] ["_law_bag_here", "_law_many"] (defScope sTake) := ⟨rfl, rfl, rfl, by decide +kernel, rfl, by decide +kernel, by decide +kernel⟩
theorem sc_num : FnScope ["_law_bag_here", "_law_size", "_law_number_here"] ["_law_bag_here"] (defScope sNum) := ⟨rfl, rfl, rfl, by decide +kernel, rfl, by decide +kernel, by decide +kernel⟩
theorem sc_isN : FnScope ["_law_thing", "_law_due"] ["_law_thing", "_law_due"] (defScope sIsN) := ⟨rfl, rfl, rfl, by decide +kernel, rfl, by decide +kernel, by decide +kernel⟩
theorem sc_isS : FnScope ["_law_thing", "_law_due"] ["_law_thing", "_law_due"] (defScope sIsS) := ⟨rfl, rfl, rfl, by decide +kernel, rfl, by decide +kernel, by decide +kernel⟩
def Bag (H : Hp) (b : Addr) : Prop := ∃ x y z : Int, H b = some (.lst [.int x, .int y, .int z])
def spBag (K : PySem.W.Frag) : Sp := fun vs H Q _ => ∃ (a : Addr) (i : Int) (ns : List Int), vs = [.ref a, .int i] ∧ SqL K H a (ns.map V.int) ∧ 0 ≤ i ∧ ∀ p H', H p = none → Kp [] H H' → Bag H' p → Q (.ref p) H'
def spTake : Sp := fun vs H Q _ => ∃ (b : Addr) (n : Int), vs = [.ref b, .int n] ∧ Bag H b ∧ 0 < n ∧ n ≤ 10000000000000000000000000000000 ∧ ∀ (r : Int) (H' : Hp), 0 ≤ r → r < n → Kp [b] H H' → Bag H' b → Q (.int r) H'
def spNum : Sp := fun vs H Q _ => ∃ (b : Addr), vs = [.ref b] ∧ Bag H b ∧ ∀ (r : Int) (H' : Hp), -1000000000000000000000000000000 < r → r < 1000000000000000000000000000000 → Kp [b] H H' → Bag H' b → Q (.int r) H'
def spIsN : Sp := fun vs H Q _ => ∃ (n m : Int), vs = [.int n, .int m] ∧ Q (.bl (decide (n = m))) H
section
variable {P : Program} {w : World} {K : PySem.W.Frag} {mg : Str → Option Value} {base : Heap}
theorem at_ints {ns : List Int} {i : Int} (h0 : 0 ≤ i) (h1 : i < (ns.length : Int)) : ∃ c : Int, atI (ns.map V.int) i = some (.int c) := by
  have hl : i.toNat < ns.length := by omega
  refine ⟨ns[i.toNat], ?_⟩
  refine at_of (j := i.toNat) (by omega) ?_
  rw [List.getElem?_map, List.getElem?_eq_getElem hl]
  rfl
theorem ok_bag {f : Addr} {fd : FuncData} (F : Fun K "_law_bag" "_law_bag" sBag f fd) (b_len : Bi mg "len" (.builtin "len")) (b_abs : Bi mg "abs" (.builtin "abs")) (b_int : Bi mg "int" (.type "int")) :
    FnOk P w K mg base (L2.CX P w) 1 f fd ["_law_script", "_law_at"] (spBag K) := by
  refine fun_go ["len", "abs", "int"] F sc_bag (by decide +kernel) (fun vs H Q E h => ?_) fun X H vs Q E xk h => ?_
  · obtain ⟨a, i, ns, rfl, _⟩ := h
    rfl
  · obtain ⟨a, i, ns, rfl, hS, h0, q⟩ := h
    refine start_go (by wtm_at "start") ?_
    wtm_at "s"; wtm_at "s"
    refine Sx.E.mono (Q := fun v H' => (∃ c : Int, v = .int c) ∧ H' = H) ?_ fun v H1 hv => ?_
    · wtm_at "go"
      refine br_d (fun hi => ?_) (fun hi => ?_)
      · wtm_at "go"
        rw [List.length_map] at hi
        obtain ⟨c, hc⟩ := at_ints h0 hi
        wtm_at "go"
        exact ⟨⟨c, rfl⟩, rfl⟩
      · wtm_at "go"
        exact ⟨⟨i, rfl⟩, rfl⟩
    · obtain ⟨⟨c, rfl⟩, rfl⟩ := hv
      wtm_at "s"; wtm_at "s"; wtm_at "s"; wtm_at "s"
      refine Sx.E.mono (Q := fun v H' => (∃ c : Int, v = .int c) ∧ H' = H1) ?_ fun v H2 hv => ?_
      · wtm_at "go"
        refine br_any (fun hi => ?_) (fun hi => ?_)
        · wtm_at "go"
          exact ⟨⟨_, rfl⟩, rfl⟩
        · wtm_at "go"
          exact ⟨⟨_, rfl⟩, rfl⟩
      · obtain ⟨⟨d, rfl⟩, rfl⟩ := hv
        wtm_at "go"
        exact q _ _ (by assumption) (by wtm_at "kp") ⟨_, _, _, by assumption⟩
theorem ok_take {f : Addr} {fd : FuncData} (F : Fun K "_law_take" "_law_take" sTake f fd) (b_int : Bi mg "int" (.type "int")) : FnOk P w K mg base (L2.CX P w) 1 f fd ["_law_bag_here", "_law_many"] spTake := by
  refine fun_go ["int"] F sc_take (by decide +kernel) (fun vs H Q E h => ?_) fun X H vs Q E xk h => ?_
  · obtain ⟨b, n, rfl, _⟩ := h
    rfl
  · obtain ⟨b, n, rfl, ⟨x, y, z, hb⟩, h0, h1, q⟩ := h
    refine start_go (by wtm_at "start") ?_
    wtm_at "go"
    refine br_d (fun hx => ?_) (fun hx => ?_)
    · wtm_at "go"
      exact q _ _ (Int.emod_nonneg _ (by omega)) (Int.emod_lt_of_pos _ h0) (by wtm_at "kp") ⟨_, _, _, by assumption⟩
    · wtm_at "go"
      exact q _ _ (Int.emod_nonneg _ (by omega)) (Int.emod_lt_of_pos _ h0) (by wtm_at "kp") ⟨_, _, _, by assumption⟩
theorem pick4 {r : Int} (h0 : 0 ≤ r) (h1 : r < 4) : ∃ s : Int, atI [V.int 4, V.int 100, V.int 1000000000, V.int 1000000000000000000000000000000] r = some (.int s) ∧ 0 < s ∧ s ≤ 1000000000000000000000000000000 := by
  have e : r = 0 ∨ r = 1 ∨ r = 2 ∨ r = 3 := by omega
  rcases e with rfl | rfl | rfl | rfl
  · exact ⟨4, rfl, by decide, by decide⟩
  · exact ⟨100, rfl, by decide, by decide⟩
  · exact ⟨1000000000, rfl, by decide, by decide⟩
  · exact ⟨1000000000000000000000000000000, rfl, by decide, by decide⟩
theorem call_take {b : Addr} {n : Int} {H : Hp} {Q : VK} {EX : XK} (hb : Bag H b) (h0 : 0 < n) (h1 : n ≤ 10000000000000000000000000000000) (h : ∀ (r : Int) (H' : Hp), 0 ≤ r → r < n → Kp [b] H H' → Bag H' b → Q (.int r) H') : spTake [.ref b, .int n] H Q EX :=
  ⟨b, n, rfl, hb, h0, h1, h⟩
theorem Bag.kp {H H' : Hp} {b : Addr} (h : Bag H b) (k : Kp [] H H') : Bag H' b := let ⟨x, y, z, h⟩ := h; ⟨x, y, z, k.get0 h⟩
theorem ok_num {f : Addr} {fd : FuncData} (F : Fun K "_law_number" "_law_number" sNum f fd) (d_take : Df P w K mg base "_law_take" 1 spTake) : FnOk P w K mg base (L2.CX P w) 2 f fd ["_law_bag_here"] spNum := by
  refine fun_go ["_law_take"] F sc_num (by decide +kernel) (fun vs H Q E h => ?_) fun X H vs Q E xk h => ?_
  · obtain ⟨b, rfl, _⟩ := h
    rfl
  · obtain ⟨b, rfl, hb, q⟩ := h
    refine start_go (by wtm_at "start") ?_
    wtm_at "go"
    rename_i p H1 np k1 hp
    have npb : p ≠ b := by
      obtain ⟨_, _, _, h⟩ := hb
      exact (ne_of_none h np).symm
    refine call_take (hb.kp k1) (by decide) (by decide) fun r H2 r0 r1 k2 b2 => ?_
    obtain ⟨s, hs, s0, s1⟩ := pick4 r0 r1
    wtm_at "go"
    refine call_take b2 s0 (by omega) fun r' H3 r0' r1' k3 b3 => ?_
    wtm_at "go"
    refine call_take b3 (by decide) (by decide) fun r2 H4 r20 r21 k4 b4 => ?_
    wtm_at "go"
    refine br_any (fun hi => ?_) (fun hi => ?_)
    · wtm_at "go"
      exact q _ _ (by omega) (by omega) (by wtm_at "kp") b4
    · wtm_at "go"
      exact q _ _ (by omega) (by omega) (by wtm_at "kp") b4
theorem ok_isN {f : Addr} {fd : FuncData} (F : Fun K "_law_is_number" "_law_is_number" sIsN f fd) (b_isi : Bi mg "isinstance" (.builtin "isinstance")) (b_int : Bi mg "int" (.type "int")) (b_bool : Bi mg "bool" (.type "bool")) : FnOk P w K mg base (L2.CX P w) 1 f fd ["_law_thing", "_law_due"] spIsN := by
  refine fun_go ["isinstance", "int", "bool"] F sc_isN (by decide +kernel) (fun vs H Q E h => ?_) fun X H vs Q E xk h => ?_
  · obtain ⟨n, m, rfl, _⟩ := h
    rfl
  · obtain ⟨n, m, rfl, q⟩ := h
    refine start_go (by wtm_at "start") ?_
    wtm_at "go"
    exact q
theorem call_num {b : Addr} {H : Hp} {Q : VK} {EX : XK} (hb : Bag H b) (h : ∀ (r : Int) (H' : Hp), -1000000000000000000000000000000 < r → r < 1000000000000000000000000000000 → Kp [b] H H' → Bag H' b → Q (.int r) H') : spNum [.ref b] H Q EX := ⟨b, rfl, hb, h⟩
theorem call_bag {a : Addr} {i : Int} {ns : List Int} {H : Hp} {Q : VK} {EX : XK} (hS : SqL K H a (ns.map V.int)) (h0 : 0 ≤ i) (h : ∀ p H', H p = none → Kp [] H H' → Bag H' p → Q (.ref p) H') : spBag K [.ref a, .int i] H Q EX := ⟨a, i, ns, rfl, hS, h0, h⟩
theorem call_isN {n m : Int} {H : Hp} {Q : VK} {EX : XK} (h : Q (.bl (decide (n = m))) H) : spIsN [.int n, .int m] H Q EX := ⟨n, m, rfl, h⟩
end
/-! ### spans -/
abbrev sSInit : Stmt := inClass (topS 1) 0
abbrev sSAdd : Stmt := inClass (topS 1) 1
abbrev sSSub : Stmt := inClass (topS 1) 2
abbrev sSNeg : Stmt := inClass (topS 1) 3
abbrev sSAbs : Stmt := inClass (topS 1) 4
theorem sc_sinit : FnScope ["self", "ticks"] ["self", "ticks"] (defScope sSInit) := ⟨rfl, rfl, rfl, by decide +kernel, rfl, by decide +kernel, by decide +kernel⟩
theorem sc_sadd : FnScope ["self", "other"] ["self", "other"] (defScope sSAdd) := ⟨rfl, rfl, rfl, by decide +kernel, rfl, by decide +kernel, by decide +kernel⟩
theorem sc_ssub : FnScope ["self", "other"] ["self", "other"] (defScope sSSub) := ⟨rfl, rfl, rfl, by decide +kernel, rfl, by decide +kernel, by decide +kernel⟩
theorem sc_sneg : FnScope ["self"] ["self"] (defScope sSNeg) := ⟨rfl, rfl, rfl, by decide +kernel, rfl, by decide +kernel, by decide +kernel⟩
theorem sc_sabs : FnScope ["self"] ["self"] (defScope sSAbs) := ⟨rfl, rfl, rfl, by decide +kernel, rfl, by decide +kernel, by decide +kernel⟩
/-- what the top has made of the class -/
structure SpT (K : PySem.W.Frag) (mg : Str → Option Value) (Cs : Addr) : Prop where
  cl : Cls K Cs
  nt : NoAttr K Cs "ticks"
  mgC : mg "Span" = some (.ref Cs)
  ha : PySem.W.findIn K (.ref Cs) "__class__" = some (some (.builtin "object.__class__"))
  hn : PySem.W.specialIn K (.builtin "object.__class__") "__get__" = some (some (.builtin "getset_descriptor.__get__"))
  htk : PySem.W.takesIn K (.builtin "object.__class__") = some true
  hm : PySem.W.mroIn K Cs (.type "object") = some true
  sf : PySem.W.selfFirst K Cs = true
theorem kit_same {K : PySem.W.Frag} {t : Value} : PySem.W.kitOne K t t = some true := by
  unfold PySem.W.kitOne
  rw [if_pos (beq_self_eq_true t)]
/-- a span of n ticks stands at p -/
def IsSp (Cs : Addr) (H : Hp) (p : Addr) (n : Int) : Prop := ∃ dx, H p = some (.ins Cs dx [("ticks", .int n)])
theorem IsSp.kp {Cs p : Addr} {H H' : Hp} {n : Int} (h : IsSp Cs H p n) (k : Kp [] H H') : IsSp Cs H' p n := let ⟨dx, h⟩ := h; ⟨dx, k.get0 h⟩
theorem IsSp.kpr {Cs p : Addr} {H H' : Hp} {n : Int} (k : Kp [] H H') (h : IsSp Cs H p n) : IsSp Cs H' p n := h.kp k
def spSInit (Cs : Addr) : Sp := fun vs H Q _ => ∃ (p dx : Addr) (v : V), vs = [.ref p, v] ∧ H p = some (.ins Cs dx []) ∧ ∀ H', Kp [p] H H' → H' p = some (.ins Cs dx [("ticks", v)]) → Q .non H'
def spS2 (Cs : Addr) (g : Int → Int → Int) : Sp := fun vs H Q _ => ∃ (p q : Addr) (i j : Int), vs = [.ref p, .ref q] ∧ IsSp Cs H p i ∧ IsSp Cs H q j ∧ ∀ r H', H r = none → Kp [] H H' → IsSp Cs H' r (g i j) → Q (.ref r) H'
def spS1 (Cs : Addr) (g : Int → Int) : Sp := fun vs H Q _ => ∃ (p : Addr) (i : Int), vs = [.ref p] ∧ IsSp Cs H p i ∧ ∀ r H', H r = none → Kp [] H H' → IsSp Cs H' r (g i) → Q (.ref r) H'
def zabs (i : Int) : Int := if i < 0 then -i else i
section
variable {P : Program} {w : World} {K : PySem.W.Frag} {mg : Str → Option Value} {base : Heap} {Cs : Addr}
theorem ok_sinit {f : Addr} {fd : FuncData} (F : Fun K "__init__" "Span.__init__" sSInit f fd) (T : SpT K mg Cs) : FnOk P w K mg base (L2.CX P w) 1 f fd ["self", "ticks"] (spSInit Cs) := by
  refine fun_go [] F sc_sinit (by decide +kernel) (fun vs H Q E h => ?_) fun X H vs Q E xk h => ?_
  · obtain ⟨p, dx, v, rfl, _⟩ := h
    rfl
  · obtain ⟨p, dx, v, rfl, hp, q⟩ := h
    have cl := T.cl
    have nt := T.nt
    refine start_go (by wtm_at "start") ?_
    wtm_at "go"
    exact q _ (by assumption) (by assumption)
section
variable {X : Cx} {sc : Scope} {N GL : List Str} {k : Nat} {EX : XK} {e : Expr} {σ : St} {H : Hp} {Q : VK} {pos p : Pos}
/-- Span(e) -/
theorem e_span {nm : Str} (xk : Xk X P w K mg base sc N GL k EX) (hg : nm ∈ GL) (D : Dc P w K mg base nm Cs 1 (spSInit Cs)) (hj : 2 ≤ k) (hs : NoSt e = true) (h : E X e σ H fun v H1 => ∀ p H' dx, H1 p = none → Kp [] H1 H' → H' p = some (.ins Cs dx [("ticks", v)]) → Q (.ref p) H') : E X (.Call (.Name nm p) [e] [] pos) σ H Q := by
  refine e_make xk hg D hj (as_cons (h.mono fun v H1 q => as_nil ?_) (star_cons hs)) (star_cons hs) rfl
  intro x dx H2 n1 n2 n3 k1 h1
  exact ⟨x, dx, v, rfl, h1, fun H' k2 h2 => ⟨rfl, q x H' dx n1 (k1.fresh k2 n1) h2⟩⟩
/-- Span(ticks=e) -/
theorem e_spanK {nm : Str} {kn : Option Str} {kp : Pos} (xk : Xk X P w K mg base sc N GL k EX) (hg : nm ∈ GL) (D : Dck P w K mg base nm Cs ["ticks"] 1 (spSInit Cs)) (hj : 2 ≤ k) (h : E X e σ H fun v H1 => ∀ p H' dx, H1 p = none → Kp [] H1 H' → H' p = some (.ins Cs dx [("ticks", v)]) → Q (.ref p) H')
    (hall : (backToKw pos (keywordEach [⟨kn, e, kp⟩] X.env)).all (·.1.isSome) = true := by rfl) (hks : (backToKw pos (keywordEach [⟨kn, e, kp⟩] X.env)).filterMap (·.1) = [("ticks" : Str)] := by rfl)
    (hpl : ((backTo pos (starEach [] X.env)).any (·.1) || (backToKw pos (keywordEach [⟨kn, e, kp⟩] X.env)).any (·.1.isNone)) = false := by rfl) : E X (.Call (.Name nm p) [] [⟨kn, e, kp⟩] pos) σ H Q := by
  refine e_makeK xk hg D hj (ks_cons (h.mono fun v H1 q => ks_nil ⟨rfl, ?_⟩)) hall hks hpl
  intro x dx H2 n1 n2 n3 k1 h1
  exact ⟨x, dx, v, rfl, h1, fun H' k2 h2 => ⟨rfl, q x H' dx n1 (k1.fresh k2 n1) h2⟩⟩
theorem k_isSp {q dx : Addr} {fs : List (Str × V)} (xk : Xk X P w K mg base sc N GL k EX) (T : SpT K mg Cs) (hq : H q = some (.ins Cs dx fs)) (h : Q (.bl true) H) : C X (.builtin "isinstance") [.ref q, .ref Cs] H Q :=
  k_isi xk (.own _) (.base (.ins hq T.cl T.ha T.hn T.htk T.hm)) kit_same h
theorem b_sp {op : Operator} {m : Str} {j : Nat} {g : Int → Int → Int} {a b : Addr} {x y : Int} (xk : Xk X P w K mg base sc N GL k EX) (T : SpT K mg Cs) (D : Dm P w K mg base Cs m j (spS2 Cs g)) (hj : j ≤ k) (hn : PySem.dunder op.info.2 = m) (ha : IsSp Cs H a x) (hb : IsSp Cs H b y)
    (h : ∀ r H', H r = none → Kp [] H H' → IsSp Cs H' r (g x y) → Q (.ref r) H') : Bo X op (.ref a) (.ref b) H Q := by
  obtain ⟨dx, h1⟩ := id ha
  obtain ⟨dy, h2⟩ := id hb
  exact b_own xk D hj T.sf h1 h2 ⟨a, b, x, y, rfl, ha, hb, h⟩ hn
theorem b_spA {a b : Addr} {x y : Int} (xk : Xk X P w K mg base sc N GL k EX) (T : SpT K mg Cs) (D : Dm P w K mg base Cs "__add__" 3 (spS2 Cs (· + ·))) (hj : 3 ≤ k) (ha : IsSp Cs H a x) (hb : IsSp Cs H b y)
    (h : ∀ r H', H r = none → Kp [] H H' → IsSp Cs H' r (x + y) → Q (.ref r) H') : Bo X .Add (.ref a) (.ref b) H Q := b_sp xk T D hj (by decide +kernel) ha hb h
theorem b_spS {a b : Addr} {x y : Int} (xk : Xk X P w K mg base sc N GL k EX) (T : SpT K mg Cs) (D : Dm P w K mg base Cs "__sub__" 3 (spS2 Cs (· - ·))) (hj : 3 ≤ k) (ha : IsSp Cs H a x) (hb : IsSp Cs H b y)
    (h : ∀ r H', H r = none → Kp [] H H' → IsSp Cs H' r (x - y) → Q (.ref r) H') : Bo X .Sub (.ref a) (.ref b) H Q := b_sp xk T D hj (by decide +kernel) ha hb h
theorem u_sp {a : Addr} {x : Int} (xk : Xk X P w K mg base sc N GL k EX) (D : Dm P w K mg base Cs "__neg__" 3 (spS1 Cs (- ·))) (hj : 3 ≤ k) (ha : IsSp Cs H a x)
    (h : ∀ r H', H r = none → Kp [] H H' → IsSp Cs H' r (-x) → Q (.ref r) H') : Uo X .USub (.ref a) H Q := by
  obtain ⟨dx, h1⟩ := id ha
  exact u_own_neg xk D hj h1 ⟨a, x, rfl, ha, h⟩
theorem k_sp_abs {a : Addr} {x : Int} (xk : Xk X P w K mg base sc N GL k EX) (D : Dm P w K mg base Cs "__abs__" 3 (spS1 Cs zabs)) (hj : 4 ≤ k) (ha : IsSp Cs H a x)
    (h : ∀ r H', H r = none → Kp [] H H' → IsSp Cs H' r (zabs x) → Q (.ref r) H') : C X (.builtin "abs") [.ref a] H Q := by
  obtain ⟨dx, h1⟩ := id ha
  exact k_own_abs xk D hj h1 ⟨a, x, rfl, ha, h⟩
end
local macro_rules | `(tactic| wtm_at "sF") => `(tactic| refine e_span (by with_reducible assumption) (by wtm_at "mem") (by with_reducible assumption) (by decide) rfl ?_)
local macro_rules | `(tactic| wtm_at "sK") => `(tactic| (refine gKisi ?_; refine k_isSp (by with_reducible assumption) (by with_reducible assumption) (by wtm_at "look") ?_))
theorem ok_sadd {f : Addr} {fd : FuncData} (F : Fun K "__add__" "Span.__add__" sSAdd f fd) (T : SpT K mg Cs) (b_isi : Bi mg "isinstance" (.builtin "isinstance")) (d_span : Dc P w K mg base "Span" Cs 1 (spSInit Cs)) : FnOk P w K mg base (L2.CX P w) 3 f fd ["self", "other"] (spS2 Cs (· + ·)) := by
  refine fun_go ["isinstance", "Span"] F sc_sadd (by decide +kernel) (fun vs H Q E h => ?_) fun X H vs Q E xk h => ?_
  · obtain ⟨p, q, i, j, rfl, _⟩ := h
    rfl
  · obtain ⟨p, q, i, j, rfl, ⟨dx, hp⟩, ⟨dy, hq⟩, k⟩ := h
    have cl := T.cl
    have nt := T.nt
    have mgC := T.mgC
    refine start_go (by wtm_at "start") ?_
    wtm_at "go"
    intro r H1 dz nr k1 hr
    exact k r H1 nr k1 ⟨dz, hr⟩
theorem ok_ssub {f : Addr} {fd : FuncData} (F : Fun K "__sub__" "Span.__sub__" sSSub f fd) (T : SpT K mg Cs) (b_isi : Bi mg "isinstance" (.builtin "isinstance")) (d_span : Dc P w K mg base "Span" Cs 1 (spSInit Cs)) : FnOk P w K mg base (L2.CX P w) 3 f fd ["self", "other"] (spS2 Cs (· - ·)) := by
  refine fun_go ["isinstance", "Span"] F sc_ssub (by decide +kernel) (fun vs H Q E h => ?_) fun X H vs Q E xk h => ?_
  · obtain ⟨p, q, i, j, rfl, _⟩ := h
    rfl
  · obtain ⟨p, q, i, j, rfl, ⟨dx, hp⟩, ⟨dy, hq⟩, k⟩ := h
    have cl := T.cl
    have nt := T.nt
    have mgC := T.mgC
    refine start_go (by wtm_at "start") ?_
    wtm_at "go"
    intro r H1 dz nr k1 hr
    exact k r H1 nr k1 ⟨dz, hr⟩
theorem ok_sneg {f : Addr} {fd : FuncData} (F : Fun K "__neg__" "Span.__neg__" sSNeg f fd) (T : SpT K mg Cs) (d_span : Dc P w K mg base "Span" Cs 1 (spSInit Cs)) : FnOk P w K mg base (L2.CX P w) 3 f fd ["self"] (spS1 Cs (- ·)) := by
  refine fun_go ["Span"] F sc_sneg (by decide +kernel) (fun vs H Q E h => ?_) fun X H vs Q E xk h => ?_
  · obtain ⟨p, i, rfl, _⟩ := h
    rfl
  · obtain ⟨p, i, rfl, ⟨dx, hp⟩, k⟩ := h
    have cl := T.cl
    have nt := T.nt
    refine start_go (by wtm_at "start") ?_
    wtm_at "go"
    intro r H1 dz nr k1 hr
    exact k r H1 nr k1 ⟨dz, hr⟩
theorem ok_sabs {f : Addr} {fd : FuncData} (F : Fun K "__abs__" "Span.__abs__" sSAbs f fd) (T : SpT K mg Cs) (b_abs : Bi mg "abs" (.builtin "abs")) (d_span : Dc P w K mg base "Span" Cs 1 (spSInit Cs)) : FnOk P w K mg base (L2.CX P w) 3 f fd ["self"] (spS1 Cs zabs) := by
  refine fun_go ["Span", "abs"] F sc_sabs (by decide +kernel) (fun vs H Q E h => ?_) fun X H vs Q E xk h => ?_
  · obtain ⟨p, i, rfl, _⟩ := h
    rfl
  · obtain ⟨p, i, rfl, ⟨dx, hp⟩, k⟩ := h
    have cl := T.cl
    have nt := T.nt
    refine start_go (by wtm_at "start") ?_
    wtm_at "go"
    intro r H1 dz nr k1 hr
    exact k r H1 nr k1 ⟨dz, hr⟩
end
/-! ### is_span, pairs of spans and ticks -/
def spIsS (Cs : Addr) : Sp := fun vs H Q _ => ∃ (p : Addr) (n m : Int), vs = [.ref p, .int m] ∧ IsSp Cs H p n ∧ Q (.bl (decide (n = m))) H
def spLaw (K : PySem.W.Frag) : Sp := fun vs H Q _ => ∃ (a : Addr) (ns : List Int), vs = [.ref a] ∧ SqL K H a (ns.map V.int) ∧ ns.length ≤ 63 ∧ ∀ H', Q (.bl true) H'
section
variable {P : Program} {w : World} {K : PySem.W.Frag} {mg : Str → Option Value} {base : Heap} {Cs : Addr}
theorem call_isS {p : Addr} {n m : Int} {H : Hp} {Q : VK} {EX : XK} (hp : IsSp Cs H p n) (h : Q (.bl (decide (n = m))) H) : spIsS Cs [.ref p, .int m] H Q EX := ⟨p, n, m, rfl, hp, h⟩
local macro_rules | `(tactic| wtm_at "sK") => `(tactic| (refine gKisi ?_; refine k_isSp (by with_reducible assumption) (by with_reducible assumption) (by wtm_at "look") ?_))
theorem ok_isS {f : Addr} {fd : FuncData} (F : Fun K "_law_is_span" "_law_is_span" sIsS f fd) (T : SpT K mg Cs) (b_isi : Bi mg "isinstance" (.builtin "isinstance")) (d_isN : Df P w K mg base "_law_is_number" 1 spIsN) : FnOk P w K mg base (L2.CX P w) 2 f fd ["_law_thing", "_law_due"] (spIsS Cs) := by
  refine fun_go ["isinstance", "Span", "_law_is_number"] F sc_isS (by decide +kernel) (fun vs H Q E h => ?_) fun X H vs Q E xk h => ?_
  · obtain ⟨p, n, m, rfl, _⟩ := h
    rfl
  · obtain ⟨p, n, m, rfl, ⟨dx, hp⟩, q⟩ := h
    have cl := T.cl
    have nt := T.nt
    have mgC := T.mgC
    refine start_go (by wtm_at "start") ?_
    wtm_at "go"
    refine call_isN ?_
    exact q
/-- a pair of a span and its ticks -/
def GP (Cs : Addr) (H : Hp) (v : V) : Prop := ∃ (t s : Addr) (d : Int), v = .ref t ∧ H t = some (.tup [.ref s, .int d]) ∧ IsSp Cs H s d
theorem gp_mk {H : Hp} {t s : Addr} {d d' : Int} (h : H t = some (.tup [.ref s, .int d'])) (hs : IsSp Cs H s d) (e : d = d') : GP Cs H (.ref t) := ⟨t, s, d', rfl, h, e ▸ hs⟩
theorem gp_mon (H H' : Hp) (v : V) (k : Kp [] H H') (h : GP Cs H v) : GP Cs H' v := let ⟨t, s, d, e, h1, h2⟩ := h; ⟨t, s, d, e, k.get0 h1, h2.kp k⟩
end
/-! ### moments, comparisons -/
abbrev sMInit : Stmt := inClass (topS 2) 0
theorem sc_minit : FnScope ["self", "at"] ["self", "at"] (defScope sMInit) := ⟨rfl, rfl, rfl, by decide +kernel, rfl, by decide +kernel, by decide +kernel⟩
/-- what the top has made of the class -/
structure MoT (K : PySem.W.Frag) (mg : Str → Option Value) (Cm : Addr) : Prop where
  cl : Cls K Cm
  nt : NoAttr K Cm "at"
  mgC : mg "Moment" = some (.ref Cm)
  ha : PySem.W.findIn K (.ref Cm) "__class__" = some (some (.builtin "object.__class__"))
  hn : PySem.W.specialIn K (.builtin "object.__class__") "__get__" = some (some (.builtin "getset_descriptor.__get__"))
  htk : PySem.W.takesIn K (.builtin "object.__class__") = some true
  hm : PySem.W.mroIn K Cm (.type "object") = some true
  sf : PySem.W.selfFirst K Cm = true
/-- a class, for isinstance that says no, and for comparisons -/
structure NoT (K : PySem.W.Frag) (C : Addr) : Prop where
  isC : (PySem.W.clsIn K C).isSome = true
  ty : PySem.W.typeIn K (.ref C) = some (.type "type")
  int : PySem.W.subIn K (.type "int") (.ref C) = some false
  str : PySem.W.subIn K (.type "str") (.ref C) = some false
  non : PySem.W.subIn K (.type "NoneType") (.ref C) = some false
  lst : PySem.W.subIn K (.type "list") (.ref C) = some false
  int' : PySem.W.subIn K (.ref C) (.type "int") = some false
  str' : PySem.W.subIn K (.ref C) (.type "str") = some false
  non' : PySem.W.subIn K (.ref C) (.type "NoneType") = some false
  lst' : PySem.W.subIn K (.ref C) (.type "list") = some false
  ne : PySem.W.findIn K (.ref C) "__ne__" = some (some (.builtin "object.__ne__"))
theorem isC_of {K : PySem.W.Frag} {C : Addr} {b : Value} {r : Bool} (h : PySem.W.mroIn K C b = some r) : (PySem.W.clsIn K C).isSome = true := by
  unfold PySem.W.mroIn at h
  cases e : PySem.W.clsIn K C with
  | none => rw [e] at h; cases h
  | some _ => rfl
theorem kit_no {K : PySem.W.Frag} {t : Value} {C : Addr} (T : NoT K C) (hs : PySem.W.subIn K t (.ref C) = some false) (hne : t ≠ .ref C) : PySem.W.kitOne K t (.ref C) = some false := by
  unfold PySem.W.kitOne
  rw [if_neg (by simpa using hne)]
  show (if ((PySem.W.clsIn K C).isSome && PySem.W.typeIn K (.ref C) == some (.type "type")) = true then PySem.W.subIn K t (.ref C) else none) = _
  rw [if_pos (by rw [T.isC, T.ty]; rfl)]
  exact hs
def IsMo (Cm : Addr) (H : Hp) (p : Addr) (n : Int) : Prop := ∃ dx, H p = some (.ins Cm dx [("at", .int n)])
theorem IsMo.kp {Cm p : Addr} {H H' : Hp} {n : Int} (h : IsMo Cm H p n) (k : Kp [] H H') : IsMo Cm H' p n := let ⟨dx, h⟩ := h; ⟨dx, k.get0 h⟩
theorem IsMo.kpr {Cm p : Addr} {H H' : Hp} {n : Int} (k : Kp [] H H') (h : IsMo Cm H p n) : IsMo Cm H' p n := h.kp k
/-- x is no instance of C -/
def Nin (K : PySem.W.Frag) (C : Addr) (H : Hp) (x : V) : Prop := ∃ t, TyX K H x t ∧ PySem.W.kitOne K t (.ref C) = some false
def preN (K : PySem.W.Frag) (C : Addr) : List V → Hp → Prop := fun vs H => ∃ (p : Addr) (x : V), vs = [.ref p, x] ∧ Nin K C H x
def spMInit (Cm : Addr) : Sp := fun vs H Q _ => ∃ (p dx : Addr) (v : V), vs = [.ref p, v] ∧ H p = some (.ins Cm dx []) ∧ ∀ H', Kp [p] H H' → H' p = some (.ins Cm dx [("at", v)]) → Q .non H'
def spS2c (Cs : Addr) (g : Int → Int → Bool) : Sp := fun vs H Q _ => ∃ (p q : Addr) (i j : Int), vs = [.ref p, .ref q] ∧ IsSp Cs H p i ∧ IsSp Cs H q j ∧ Q (.bl (g i j)) H
def spS1c (Cs : Addr) (g : Int → V) : Sp := fun vs H Q _ => ∃ (p : Addr) (i : Int), vs = [.ref p] ∧ IsSp Cs H p i ∧ -10000000000000000000000000000000 < i ∧ i < 10000000000000000000000000000000 ∧ Q (g i) H
def spS1b (Cs : Addr) : Sp := fun vs H Q _ => ∃ (p : Addr) (i : Int), vs = [.ref p] ∧ IsSp Cs H p i ∧ Q (.bl (!decide (i = 0))) H
theorem log_ok {i : Int} (h1 : -10000000000000000000000000000000 < i) (h2 : i < 10000000000000000000000000000000) : i.natAbs.log2 < 1920 := by
  have h : i.natAbs < 2 ^ 200 := by
    have : (10000000000000000000000000000000 : Nat) ≤ 2 ^ 200 := by decide
    omega
  rcases Nat.eq_zero_or_pos i.natAbs with z | z
  · rw [z]; decide
  · have := (Nat.log2_lt (by omega)).mpr h
    omega
theorem txt_len {i : Int} (h1 : -10000000000000000000000000000000 < i) (h2 : i < 10000000000000000000000000000000) : (Str.ofString (toString i)).length ≤ 4000 := by
  have e := int_text_length_le (k := 1920) (by decide) (log_ok h1 h2)
  rw [ofString_length]
  omega
abbrev sSeq : Stmt := inClass (topS 1) 9
theorem sc_seq : FnScope ["self", "other"] ["self", "other"] (defScope sSeq) := ⟨rfl, rfl, rfl, by decide +kernel, rfl, by decide +kernel, by decide +kernel⟩
abbrev sSlt : Stmt := inClass (topS 1) 10
theorem sc_slt : FnScope ["self", "other"] ["self", "other"] (defScope sSlt) := ⟨rfl, rfl, rfl, by decide +kernel, rfl, by decide +kernel, by decide +kernel⟩
abbrev sSle : Stmt := inClass (topS 1) 11
theorem sc_sle : FnScope ["self", "other"] ["self", "other"] (defScope sSle) := ⟨rfl, rfl, rfl, by decide +kernel, rfl, by decide +kernel, by decide +kernel⟩
abbrev sSgt : Stmt := inClass (topS 1) 12
theorem sc_sgt : FnScope ["self", "other"] ["self", "other"] (defScope sSgt) := ⟨rfl, rfl, rfl, by decide +kernel, rfl, by decide +kernel, by decide +kernel⟩
abbrev sSge : Stmt := inClass (topS 1) 13
theorem sc_sge : FnScope ["self", "other"] ["self", "other"] (defScope sSge) := ⟨rfl, rfl, rfl, by decide +kernel, rfl, by decide +kernel, by decide +kernel⟩
abbrev sSbool : Stmt := inClass (topS 1) 14
theorem sc_sbool : FnScope ["self"] ["self"] (defScope sSbool) := ⟨rfl, rfl, rfl, by decide +kernel, rfl, by decide +kernel, by decide +kernel⟩
abbrev sSrepr : Stmt := inClass (topS 1) 15
theorem sc_srepr : FnScope ["self"] ["self"] (defScope sSrepr) := ⟨rfl, rfl, rfl, by decide +kernel, rfl, by decide +kernel, by decide +kernel⟩
abbrev sSstr : Stmt := inClass (topS 1) 16
theorem sc_sstr : FnScope ["self", "word"] ["self"] (defScope sSstr) := ⟨rfl, rfl, rfl, by decide +kernel, rfl, by decide +kernel, by decide +kernel⟩
abbrev sMeq : Stmt := inClass (topS 2) 3
theorem sc_meq : FnScope ["self", "other"] ["self", "other"] (defScope sMeq) := ⟨rfl, rfl, rfl, by decide +kernel, rfl, by decide +kernel, by decide +kernel⟩
section
variable {P : Program} {w : World} {K : PySem.W.Frag} {mg : Str → Option Value} {base : Heap} {Cs Cm : Addr}
theorem ok_minit {f : Addr} {fd : FuncData} (F : Fun K "__init__" "Moment.__init__" sMInit f fd) (T : MoT K mg Cm) : FnOk P w K mg base (L2.CX P w) 1 f fd ["self", "at"] (spMInit Cm) := by
  refine fun_go [] F sc_minit (by decide +kernel) (fun vs H Q E h => ?_) fun X H vs Q E xk h => ?_
  · obtain ⟨p, dx, v, rfl, _⟩ := h
    rfl
  · obtain ⟨p, dx, v, rfl, hp, q⟩ := h
    have cl := T.cl
    have nt := T.nt
    refine start_go (by wtm_at "start") ?_
    wtm_at "go"
    exact q _ (by assumption) (by assumption)
section
variable {X : Cx} {sc : Scope} {N GL : List Str} {k : Nat} {EX : XK} {e : Expr} {σ : St} {H : Hp} {Q : VK} {pos p : Pos}
theorem e_mom {nm : Str} (xk : Xk X P w K mg base sc N GL k EX) (hg : nm ∈ GL) (D : Dc P w K mg base nm Cm 1 (spMInit Cm)) (hj : 2 ≤ k) (hs : NoSt e = true) (h : E X e σ H fun v H1 => ∀ p H' dx, H1 p = none → Kp [] H1 H' → H' p = some (.ins Cm dx [("at", v)]) → Q (.ref p) H') : E X (.Call (.Name nm p) [e] [] pos) σ H Q := by
  refine e_make xk hg D hj (as_cons (h.mono fun v H1 q => as_nil ?_) (star_cons hs)) (star_cons hs) rfl
  intro x dx H2 n1 n2 n3 k1 h1
  exact ⟨x, dx, v, rfl, h1, fun H' k2 h2 => ⟨rfl, q x H' dx n1 (k1.fresh k2 n1) h2⟩⟩
theorem k_isNo {x : V} {D : Addr} (xk : Xk X P w K mg base sc N GL k EX) (hx : Nin K D H x) (h : Q (.bl false) H) : C X (.builtin "isinstance") [x, .ref D] H Q := by
  obtain ⟨t, h1, h2⟩ := hx
  exact k_isi xk (.own _) h1 h2 h
end
local macro_rules | `(tactic| wtm_at "sK") => `(tactic| (refine gKisi ?_; refine k_isSp (by with_reducible assumption) (by with_reducible assumption) (by wtm_at "look") ?_))
local macro_rules | `(tactic| wtm_at "sK") => `(tactic| refine k_isNo (by with_reducible assumption) (by with_reducible assumption) ?_)
theorem ok_seq {f : Addr} {fd : FuncData} (F : Fun K "__eq__" "Span.__eq__" sSeq f fd) (T : SpT K mg Cs) (b_isi : Bi mg "isinstance" (.builtin "isinstance")) : FnOk P w K mg base (L2.CX P w) 1 f fd ["self", "other"] (spS2c Cs fun i j => decide (i = j)) := by
  refine fun_go ["isinstance", "Span"] F sc_seq (by decide +kernel) (fun vs H Q E h => ?_) fun X H vs Q E xk h => ?_
  · obtain ⟨p, q, i, j, rfl, _⟩ := h
    rfl
  · obtain ⟨p, q, i, j, rfl, ⟨dx, hp⟩, ⟨dy, hq⟩, k⟩ := h
    have cl := T.cl
    have nt := T.nt
    have mgC := T.mgC
    refine start_go (by wtm_at "start") ?_
    wtm_at "go"
    exact k
theorem ok_slt {f : Addr} {fd : FuncData} (F : Fun K "__lt__" "Span.__lt__" sSlt f fd) (T : SpT K mg Cs) (b_isi : Bi mg "isinstance" (.builtin "isinstance")) : FnOk P w K mg base (L2.CX P w) 1 f fd ["self", "other"] (spS2c Cs fun i j => decide (i < j)) := by
  refine fun_go ["isinstance", "Span"] F sc_slt (by decide +kernel) (fun vs H Q E h => ?_) fun X H vs Q E xk h => ?_
  · obtain ⟨p, q, i, j, rfl, _⟩ := h
    rfl
  · obtain ⟨p, q, i, j, rfl, ⟨dx, hp⟩, ⟨dy, hq⟩, k⟩ := h
    have cl := T.cl
    have nt := T.nt
    have mgC := T.mgC
    refine start_go (by wtm_at "start") ?_
    wtm_at "go"
    exact k
theorem ok_sle {f : Addr} {fd : FuncData} (F : Fun K "__le__" "Span.__le__" sSle f fd) (T : SpT K mg Cs) (b_isi : Bi mg "isinstance" (.builtin "isinstance")) : FnOk P w K mg base (L2.CX P w) 1 f fd ["self", "other"] (spS2c Cs fun i j => decide (i ≤ j)) := by
  refine fun_go ["isinstance", "Span"] F sc_sle (by decide +kernel) (fun vs H Q E h => ?_) fun X H vs Q E xk h => ?_
  · obtain ⟨p, q, i, j, rfl, _⟩ := h
    rfl
  · obtain ⟨p, q, i, j, rfl, ⟨dx, hp⟩, ⟨dy, hq⟩, k⟩ := h
    have cl := T.cl
    have nt := T.nt
    have mgC := T.mgC
    refine start_go (by wtm_at "start") ?_
    wtm_at "go"
    exact k
theorem ok_sgt {f : Addr} {fd : FuncData} (F : Fun K "__gt__" "Span.__gt__" sSgt f fd) (T : SpT K mg Cs) (b_isi : Bi mg "isinstance" (.builtin "isinstance")) : FnOk P w K mg base (L2.CX P w) 1 f fd ["self", "other"] (spS2c Cs fun i j => decide (j < i)) := by
  refine fun_go ["isinstance", "Span"] F sc_sgt (by decide +kernel) (fun vs H Q E h => ?_) fun X H vs Q E xk h => ?_
  · obtain ⟨p, q, i, j, rfl, _⟩ := h
    rfl
  · obtain ⟨p, q, i, j, rfl, ⟨dx, hp⟩, ⟨dy, hq⟩, k⟩ := h
    have cl := T.cl
    have nt := T.nt
    have mgC := T.mgC
    refine start_go (by wtm_at "start") ?_
    wtm_at "go"
    exact k
theorem ok_sge {f : Addr} {fd : FuncData} (F : Fun K "__ge__" "Span.__ge__" sSge f fd) (T : SpT K mg Cs) (b_isi : Bi mg "isinstance" (.builtin "isinstance")) : FnOk P w K mg base (L2.CX P w) 1 f fd ["self", "other"] (spS2c Cs fun i j => decide (j ≤ i)) := by
  refine fun_go ["isinstance", "Span"] F sc_sge (by decide +kernel) (fun vs H Q E h => ?_) fun X H vs Q E xk h => ?_
  · obtain ⟨p, q, i, j, rfl, _⟩ := h
    rfl
  · obtain ⟨p, q, i, j, rfl, ⟨dx, hp⟩, ⟨dy, hq⟩, k⟩ := h
    have cl := T.cl
    have nt := T.nt
    have mgC := T.mgC
    refine start_go (by wtm_at "start") ?_
    wtm_at "go"
    exact k
theorem ni_start {X : Cx} {N : List Str} {vs : List V} {σ : St} {H : Hp} {sts : List Stmt} (h : Start N vs σ) (q : Ni X sts σ H) : Ni X sts (L2.start N vs) H := by rw [h.eq]; exact q
theorem ni_seq {f : Addr} {fd : FuncData} (F : Fun K "__eq__" "Span.__eq__" sSeq f fd) (mgC : mg "Span" = some (.ref Cs)) (b_isi : Bi mg "isinstance" (.builtin "isinstance")) (b_ni : mg "NotImplemented" = none) : NiOk P w K mg base 1 f fd ["self", "other"] (preN K Cs) := by
  refine ni_go ["isinstance", "Span", "NotImplemented"] F sc_seq (by decide +kernel) (fun vs H h => ?_) fun X H vs xk h => ?_
  · obtain ⟨p, x, rfl, _⟩ := h
    rfl
  · obtain ⟨p, x, rfl, hx⟩ := h
    refine ni_start (by wtm_at "start") ?_
    refine ni_if ?_ (ni_ret xk (by wtm_at "mem") b_ni)
    wtm_at "go"
    exact ⟨rfl, rfl⟩
theorem ni_meq {f : Addr} {fd : FuncData} (F : Fun K "__eq__" "Moment.__eq__" sMeq f fd) (mgC : mg "Moment" = some (.ref Cm)) (b_isi : Bi mg "isinstance" (.builtin "isinstance")) (b_ni : mg "NotImplemented" = none) : NiOk P w K mg base 1 f fd ["self", "other"] (preN K Cm) := by
  refine ni_go ["isinstance", "Moment", "NotImplemented"] F sc_meq (by decide +kernel) (fun vs H h => ?_) fun X H vs xk h => ?_
  · obtain ⟨p, x, rfl, _⟩ := h
    rfl
  · obtain ⟨p, x, rfl, hx⟩ := h
    refine ni_start (by wtm_at "start") ?_
    refine ni_if ?_ (ni_ret xk (by wtm_at "mem") b_ni)
    wtm_at "go"
    exact ⟨rfl, rfl⟩
theorem ok_sbool {f : Addr} {fd : FuncData} (F : Fun K "__bool__" "Span.__bool__" sSbool f fd) (T : SpT K mg Cs) (b_bool : Bi mg "bool" (.type "bool")) : FnOk P w K mg base (L2.CX P w) 1 f fd ["self"] (spS1b Cs) := by
  refine fun_go ["bool"] F sc_sbool (by decide +kernel) (fun vs H Q E h => ?_) fun X H vs Q E xk h => ?_
  · obtain ⟨p, i, rfl, _⟩ := h
    rfl
  · obtain ⟨p, i, rfl, ⟨dx, hp⟩, k⟩ := h
    have cl := T.cl
    have nt := T.nt
    refine start_go (by wtm_at "start") ?_
    wtm_at "go"
    exact k
end
/-! ### two classes -/
section
variable {P : Program} {w : World} {K : PySem.W.Frag} {mg : Str → Option Value} {base : Heap} {Cs Cm : Addr}
section
variable {X : Cx} {sc : Scope} {N GL : List Str} {k : Nat} {EX : XK} {e : Expr} {σ : St} {H : Hp} {Q : VK} {TQ : Bool → Hp → Prop} {pos p : Pos} {a b : Addr} {x y : Int}
theorem k_bb {q : Bool} (xk : Xk X P w K mg base sc N GL k EX) (h : Q (.bl true) H) : C X (.builtin "isinstance") [.bl q, .ty "bool"] H Q := k_isi xk (.ty _) (.base (.bl q)) (kit_ty (by decide +kernel)) h
theorem c_neB {q r : Bool} (h : Q (.bl (!decide (q = r))) H) : Co X .NotEq (.bl q) (.bl r) H Q := c_ne rfl (by
  have e : decide (V.bl q = V.bl r) = decide (q = r) := by
    by_cases z : q = r
    · subst z; simp
    · rw [decide_eq_false z, decide_eq_false fun z' => z (by cases z'; rfl)]
  rw [e]; exact h)
theorem c_eqS {q r : Str} (h : Q (.bl (decide (q = r))) H) : Co X .Eq (.str q) (.str r) H Q := c_eq rfl (by
  have e : decide (V.str q = V.str r) = decide (q = r) := by
    by_cases z : q = r
    · subst z; simp
    · rw [decide_eq_false z, decide_eq_false fun z' => z (by cases z'; rfl)]
  rw [e]; exact h)
/-- what is no span -/
def Th (Cm : Addr) (H : Hp) (v : V) : Prop := (∃ i, v = .int i) ∨ (∃ p i, v = .ref p ∧ IsMo Cm H p i) ∨ (∃ s, v = .str s) ∨ v = .non ∨ ∃ l xs, v = .ref l ∧ H l = some (.lst xs)
/-- the two classes -/
structure TwT (K : PySem.W.Frag) (mg : Str → Option Value) (Cs Cm : Addr) : Prop where
  s : SpT K mg Cs
  m : MoT K mg Cm
  ns : NoT K Cs
  nm : NoT K Cm
  ne : Cs ≠ Cm
  sm : PySem.W.subIn K (.ref Cs) (.ref Cm) = some false
  ms : PySem.W.subIn K (.ref Cm) (.ref Cs) = some false
theorem rt_ne {C : Addr} {T : String} : (Value.ref C != Value.type T) = true := bne_iff_ne.mpr fun h => nomatch h
theorem tr_ne {C : Addr} {T : String} : (Value.type T != Value.ref C) = true := bne_iff_ne.mpr fun h => nomatch h
theorem nin_s (T : TwT K mg Cs Cm) {v : V} (h : Th Cm H v) : Nin K Cs H v := by
  rcases h with ⟨i, rfl⟩ | ⟨p, i, rfl, dx, hp⟩ | ⟨s, rfl⟩ | rfl | ⟨l, xs, rfl, hl⟩
  · exact ⟨_, .base (.int i), kit_no T.ns T.ns.int (fun z => nomatch z)⟩
  · exact ⟨_, .base (.ins hp T.m.cl T.m.ha T.m.hn T.m.htk T.m.hm), kit_no T.ns T.ms (fun z => T.ne (by injection z with z; exact z.symm))⟩
  · exact ⟨_, .base (.str s), kit_no T.ns T.ns.str (fun z => nomatch z)⟩
  · exact ⟨_, .base .non, kit_no T.ns T.ns.non (fun z => nomatch z)⟩
  · exact ⟨_, .base (.lst hl), kit_no T.ns T.ns.lst (fun z => nomatch z)⟩
theorem nin_m (T : TwT K mg Cs Cm) (h : IsSp Cs H a x) : Nin K Cm H (.ref a) := by
  obtain ⟨dx, hp⟩ := h
  exact ⟨_, .base (.ins hp T.s.cl T.s.ha T.s.hn T.s.htk T.s.hm), kit_no T.nm T.sm (fun z => T.ne (by injection z))⟩
end
end
/-! ### k04: moments -/
abbrev sIsM : Stmt := topS 9
abbrev sSame : Stmt := topS 10
abbrev sRight4 : Stmt := topS 11
abbrev sLaw4 : Stmt := topS 12
/-! ### same -/
theorem sc_same : FnScope ["_law_some", "_law_others", "_law_one", "_law_other"] ["_law_some", "_law_others"] (defScope sSame) := ⟨rfl, rfl, rfl, by decide +kernel, rfl, by decide +kernel, by decide +kernel⟩
def spSame (K : PySem.W.Frag) : Sp := fun vs H Q _ => ∃ (a b : Addr) (xs : List Bool), vs = [.ref a, .ref b] ∧ SqL K H a (xs.map V.bl) ∧ SqL K H b (xs.map V.bl) ∧ ∀ H', Kp [] H H' → Q (.bl true) H'
section
variable {P : Program} {w : World} {K : PySem.W.Frag} {mg : Str → Option Value} {base : Heap} {Cs Cm : Addr}
theorem ok_same {f : Addr} {fd : FuncData} (F : Fun K "_law_same" "_law_same" sSame f fd) (b_zip : mg "zip" = none) (b_isi : Bi mg "isinstance" (.builtin "isinstance")) (b_bool : Bi mg "bool" (.type "bool")) (b_len : Bi mg "len" (.builtin "len")) : FnOk P w K mg base (L2.CX P w) 1 f fd ["_law_some", "_law_others"] (spSame K) := by
  refine fun_go ["zip", "isinstance", "bool", "len"] F sc_same (by decide +kernel) (fun vs H Q E h => ?_) fun X H vs Q E xk h => ?_
  · obtain ⟨a, b, xs, rfl, _⟩ := h
    rfl
  · obtain ⟨a, b, xs, rfl, ha, hb, q⟩ := h
    refine start_go (by wtm_at "start") ?_
    wtm_at "s"
    refine s_zip xk (by wtm_at "mem") b_zip ?_ rfl rfl
    wtm_at "go"
    refine ⟨a, b, _, _, rfl, ha, hb, rfl, fun i σ' H' => ∃ v1 v2, σ' = [some (.ref a), some (.ref b), v1, v2] ∧ Kp [] H H', ⟨none, none, rfl, .refl⟩, fun i σ' H' ⟨_, _, _, k⟩ => ⟨k.seqL0 ha, k.seqL0 hb⟩, ?_, ?_⟩
    · rintro i x y T σ' H' H'' hx hy ⟨v1, v2, rfl, k⟩ hT k' ht
      have e : x = y := by rw [hx] at hy; injection hy
      subst e
      obtain ⟨q', hq', rfl⟩ : ∃ q, q ∈ xs ∧ V.bl q = x := by
        have := List.mem_of_getElem? hx
        simpa using this
      wtm_at "go"
      refine k_bb xk ?_
      wtm_at "go"
      refine c_neB ?_
      rw [decide_eq_true rfl]
      wtm_at "go"
      exact ⟨_, _, rfl, k.trans k'⟩
    · rintro σ' H' ⟨v1, v2, rfl, k⟩
      wtm_at "go"
      rw [decide_eq_true rfl]
      exact q _ k
theorem call_same {a b : Addr} {xs : List Bool} {us vs : List V} {H : Hp} {Q : VK} {EX : XK} (ha : SqL K H a us) (hb : SqL K H b vs) (e1 : us = xs.map V.bl) (e2 : vs = xs.map V.bl) (h : ∀ H', Kp [] H H' → Q (.bl true) H') : spSame K [.ref a, .ref b] H Q EX := ⟨a, b, xs, rfl, e1 ▸ ha, e2 ▸ hb, h⟩
end
/-! ### moments: methods -/
abbrev sMAdd : Stmt := inClass (topS 2) 1
abbrev sMSub : Stmt := inClass (topS 2) 2
theorem sc_madd : FnScope ["self", "other"] ["self", "other"] (defScope sMAdd) := ⟨rfl, rfl, rfl, by decide +kernel, rfl, by decide +kernel, by decide +kernel⟩
theorem sc_msub : FnScope ["self", "other"] ["self", "other"] (defScope sMSub) := ⟨rfl, rfl, rfl, by decide +kernel, rfl, by decide +kernel, by decide +kernel⟩
abbrev sMlt : Stmt := inClass (topS 2) 4
theorem sc_mlt : FnScope ["self", "other"] ["self", "other"] (defScope sMlt) := ⟨rfl, rfl, rfl, by decide +kernel, rfl, by decide +kernel, by decide +kernel⟩
abbrev sMle : Stmt := inClass (topS 2) 5
theorem sc_mle : FnScope ["self", "other"] ["self", "other"] (defScope sMle) := ⟨rfl, rfl, rfl, by decide +kernel, rfl, by decide +kernel, by decide +kernel⟩
abbrev sMgt : Stmt := inClass (topS 2) 6
theorem sc_mgt : FnScope ["self", "other"] ["self", "other"] (defScope sMgt) := ⟨rfl, rfl, rfl, by decide +kernel, rfl, by decide +kernel, by decide +kernel⟩
abbrev sMge : Stmt := inClass (topS 2) 7
theorem sc_mge : FnScope ["self", "other"] ["self", "other"] (defScope sMge) := ⟨rfl, rfl, rfl, by decide +kernel, rfl, by decide +kernel, by decide +kernel⟩
abbrev sMrepr : Stmt := inClass (topS 2) 8
theorem sc_mrepr : FnScope ["self"] ["self"] (defScope sMrepr) := ⟨rfl, rfl, rfl, by decide +kernel, rfl, by decide +kernel, by decide +kernel⟩
abbrev sMstr : Stmt := inClass (topS 2) 9
theorem sc_mstr : FnScope ["self"] ["self"] (defScope sMstr) := ⟨rfl, rfl, rfl, by decide +kernel, rfl, by decide +kernel, by decide +kernel⟩
abbrev Ik := Hp → Addr → Int → Prop
def sp2 (A B R : Ik) (g : Int → Int → Int) : Sp := fun vs H Q _ => ∃ (p q : Addr) (i j : Int), vs = [.ref p, .ref q] ∧ A H p i ∧ B H q j ∧ ∀ r H', H r = none → Kp [] H H' → R H' r (g i j) → Q (.ref r) H'
def spM2c (Cm : Addr) (g : Int → Int → Bool) : Sp := fun vs H Q _ => ∃ (p q : Addr) (i j : Int), vs = [.ref p, .ref q] ∧ IsMo Cm H p i ∧ IsMo Cm H q j ∧ Q (.bl (g i j)) H
def spM1c (Cm : Addr) (g : Int → V) : Sp := fun vs H Q _ => ∃ (p : Addr) (i : Int), vs = [.ref p] ∧ IsMo Cm H p i ∧ -10000000000000000000000000000000 < i ∧ i < 10000000000000000000000000000000 ∧ Q (g i) H
def reprM (i : Int) : Str := ("Moment(" : Str) ++ (toString i : String) ++ (")" : Str)
def strM (i : Int) : Str := ("at " : Str) ++ Str.ofString (toString i)
section
variable {P : Program} {w : World} {K : PySem.W.Frag} {mg : Str → Option Value} {base : Heap} {Cs Cm : Addr}
section
variable {X : Cx} {sc : Scope} {N GL : List Str} {k : Nat} {EX : XK} {e : Expr} {σ : St} {H : Hp} {Q : VK} {pos p : Pos}
theorem e_momK {nm : Str} {kn : Option Str} {kp : Pos} (xk : Xk X P w K mg base sc N GL k EX) (hg : nm ∈ GL) (D : Dck P w K mg base nm Cm ["at"] 1 (spMInit Cm)) (hj : 2 ≤ k) (h : E X e σ H fun v H1 => ∀ p H' dx, H1 p = none → Kp [] H1 H' → H' p = some (.ins Cm dx [("at", v)]) → Q (.ref p) H')
    (hall : (backToKw pos (keywordEach [⟨kn, e, kp⟩] X.env)).all (·.1.isSome) = true := by rfl) (hks : (backToKw pos (keywordEach [⟨kn, e, kp⟩] X.env)).filterMap (·.1) = [("at" : Str)] := by rfl)
    (hpl : ((backTo pos (starEach [] X.env)).any (·.1) || (backToKw pos (keywordEach [⟨kn, e, kp⟩] X.env)).any (·.1.isNone)) = false := by rfl) : E X (.Call (.Name nm p) [] [⟨kn, e, kp⟩] pos) σ H Q := by
  refine e_makeK xk hg D hj (ks_cons (h.mono fun v H1 q => ks_nil ⟨rfl, ?_⟩)) hall hks hpl
  intro x dx H2 n1 n2 n3 k1 h1
  exact ⟨x, dx, v, rfl, h1, fun H' k2 h2 => ⟨rfl, q x H' dx n1 (k1.fresh k2 n1) h2⟩⟩
theorem k_isMo {q dx : Addr} {fs : List (Str × V)} (xk : Xk X P w K mg base sc N GL k EX) (T : MoT K mg Cm) (hq : H q = some (.ins Cm dx fs)) (h : Q (.bl true) H) : C X (.builtin "isinstance") [.ref q, .ref Cm] H Q :=
  k_isi xk (.own _) (.base (.ins hq T.cl T.ha T.hn T.htk T.hm)) kit_same h
end
local macro_rules | `(tactic| wtm_at "sK") => `(tactic| (refine gKisi ?_; first
  | refine k_isSp (by with_reducible assumption) (by with_reducible assumption) (by wtm_at "look") ?_
  | refine k_isMo (by with_reducible assumption) (by with_reducible assumption) (by wtm_at "look") ?_
  | refine k_isNo (by with_reducible assumption) (by with_reducible assumption) ?_
  | fail))
local macro_rules | `(tactic| wtm_at "sF") => `(tactic| first
  | refine e_span (by with_reducible assumption) (by wtm_at "mem") (by with_reducible assumption) (by decide) rfl (?_)
  | refine e_mom (by with_reducible assumption) (by wtm_at "mem") (by with_reducible assumption) (by decide) rfl (?_)
  | fail)
theorem ok_saddM {f : Addr} {fd : FuncData} (F : Fun K "__add__" "Span.__add__" sSAdd f fd) (TT : TwT K mg Cs Cm) (b_isi : Bi mg "isinstance" (.builtin "isinstance")) (d_span : Dc P w K mg base "Span" Cs 1 (spSInit Cs)) (d_mom : Dc P w K mg base "Moment" Cm 1 (spMInit Cm)) : FnOk P w K mg base (L2.CX P w) 3 f fd ["self", "other"] (sp2 (fun H p n => IsSp Cs H p n) (fun H p n => IsMo Cm H p n) (fun H p n => IsMo Cm H p n) (· + ·)) := by
  refine fun_go ["isinstance", "Span", "Moment"] F sc_sadd (by decide +kernel) (fun vs H Q E h => ?_) fun X H vs Q E xk h => ?_
  · obtain ⟨p, q, i, j, rfl, _⟩ := h
    rfl
  · obtain ⟨p, q, i, j, rfl, hP, hQ, k⟩ := h
    have nn : Nin K Cs H (.ref q) := nin_s TT (.inr (.inl ⟨q, j, rfl, hQ⟩))
    obtain ⟨dx, hp⟩ := hP
    obtain ⟨dy, hq⟩ := hQ
    have T := TT.s
    have TM := TT.m
    have cl := T.cl
    have nt := T.nt
    have mgC := T.mgC
    have clM := TM.cl
    have ntM := TM.nt
    have mgM := TM.mgC
    refine start_go (by wtm_at "start") ?_
    wtm_at "go"
    intro r H1 dz nr k1 hr
    exact k r H1 nr k1 ⟨dz, hr⟩
theorem ok_maddS {f : Addr} {fd : FuncData} (F : Fun K "__add__" "Moment.__add__" sMAdd f fd) (TT : TwT K mg Cs Cm) (b_isi : Bi mg "isinstance" (.builtin "isinstance")) (d_span : Dc P w K mg base "Span" Cs 1 (spSInit Cs)) (d_mom : Dc P w K mg base "Moment" Cm 1 (spMInit Cm)) : FnOk P w K mg base (L2.CX P w) 3 f fd ["self", "other"] (sp2 (fun H p n => IsMo Cm H p n) (fun H p n => IsSp Cs H p n) (fun H p n => IsMo Cm H p n) (· + ·)) := by
  refine fun_go ["isinstance", "Span", "Moment"] F sc_madd (by decide +kernel) (fun vs H Q E h => ?_) fun X H vs Q E xk h => ?_
  · obtain ⟨p, q, i, j, rfl, _⟩ := h
    rfl
  · obtain ⟨p, q, i, j, rfl, hP, hQ, k⟩ := h
    obtain ⟨dx, hp⟩ := hP
    obtain ⟨dy, hq⟩ := hQ
    have T := TT.s
    have TM := TT.m
    have cl := T.cl
    have nt := T.nt
    have mgC := T.mgC
    have clM := TM.cl
    have ntM := TM.nt
    have mgM := TM.mgC
    refine start_go (by wtm_at "start") ?_
    wtm_at "go"
    intro r H1 dz nr k1 hr
    exact k r H1 nr k1 ⟨dz, hr⟩
theorem ok_msubS {f : Addr} {fd : FuncData} (F : Fun K "__sub__" "Moment.__sub__" sMSub f fd) (TT : TwT K mg Cs Cm) (b_isi : Bi mg "isinstance" (.builtin "isinstance")) (d_span : Dc P w K mg base "Span" Cs 1 (spSInit Cs)) (d_mom : Dc P w K mg base "Moment" Cm 1 (spMInit Cm)) : FnOk P w K mg base (L2.CX P w) 3 f fd ["self", "other"] (sp2 (fun H p n => IsMo Cm H p n) (fun H p n => IsSp Cs H p n) (fun H p n => IsMo Cm H p n) (· - ·)) := by
  refine fun_go ["isinstance", "Span", "Moment"] F sc_msub (by decide +kernel) (fun vs H Q E h => ?_) fun X H vs Q E xk h => ?_
  · obtain ⟨p, q, i, j, rfl, _⟩ := h
    rfl
  · obtain ⟨p, q, i, j, rfl, hP, hQ, k⟩ := h
    obtain ⟨dx, hp⟩ := hP
    obtain ⟨dy, hq⟩ := hQ
    have T := TT.s
    have TM := TT.m
    have cl := T.cl
    have nt := T.nt
    have mgC := T.mgC
    have clM := TM.cl
    have ntM := TM.nt
    have mgM := TM.mgC
    refine start_go (by wtm_at "start") ?_
    wtm_at "go"
    intro r H1 dz nr k1 hr
    exact k r H1 nr k1 ⟨dz, hr⟩
theorem ok_msubM {f : Addr} {fd : FuncData} (F : Fun K "__sub__" "Moment.__sub__" sMSub f fd) (TT : TwT K mg Cs Cm) (b_isi : Bi mg "isinstance" (.builtin "isinstance")) (d_span : Dc P w K mg base "Span" Cs 1 (spSInit Cs)) (d_mom : Dc P w K mg base "Moment" Cm 1 (spMInit Cm)) : FnOk P w K mg base (L2.CX P w) 3 f fd ["self", "other"] (sp2 (fun H p n => IsMo Cm H p n) (fun H p n => IsMo Cm H p n) (fun H p n => IsSp Cs H p n) (· - ·)) := by
  refine fun_go ["isinstance", "Span", "Moment"] F sc_msub (by decide +kernel) (fun vs H Q E h => ?_) fun X H vs Q E xk h => ?_
  · obtain ⟨p, q, i, j, rfl, _⟩ := h
    rfl
  · obtain ⟨p, q, i, j, rfl, hP, hQ, k⟩ := h
    have nn : Nin K Cs H (.ref q) := nin_s TT (.inr (.inl ⟨q, j, rfl, hQ⟩))
    obtain ⟨dx, hp⟩ := hP
    obtain ⟨dy, hq⟩ := hQ
    have T := TT.s
    have TM := TT.m
    have cl := T.cl
    have nt := T.nt
    have mgC := T.mgC
    have clM := TM.cl
    have ntM := TM.nt
    have mgM := TM.mgC
    refine start_go (by wtm_at "start") ?_
    wtm_at "go"
    intro r H1 dz nr k1 hr
    exact k r H1 nr k1 ⟨dz, hr⟩
theorem ok_meq {f : Addr} {fd : FuncData} (F : Fun K "__eq__" "Moment.__eq__" sMeq f fd) (T : MoT K mg Cm) (b_isi : Bi mg "isinstance" (.builtin "isinstance")) : FnOk P w K mg base (L2.CX P w) 1 f fd ["self", "other"] (spM2c Cm fun i j => decide (i = j)) := by
  refine fun_go ["isinstance", "Moment"] F sc_meq (by decide +kernel) (fun vs H Q E h => ?_) fun X H vs Q E xk h => ?_
  · obtain ⟨p, q, i, j, rfl, _⟩ := h
    rfl
  · obtain ⟨p, q, i, j, rfl, ⟨dx, hp⟩, ⟨dy, hq⟩, k⟩ := h
    have cl := T.cl
    have nt := T.nt
    have mgC := T.mgC
    refine start_go (by wtm_at "start") ?_
    wtm_at "go"
    exact k
theorem ok_mlt {f : Addr} {fd : FuncData} (F : Fun K "__lt__" "Moment.__lt__" sMlt f fd) (T : MoT K mg Cm) (b_isi : Bi mg "isinstance" (.builtin "isinstance")) : FnOk P w K mg base (L2.CX P w) 1 f fd ["self", "other"] (spM2c Cm fun i j => decide (i < j)) := by
  refine fun_go ["isinstance", "Moment"] F sc_mlt (by decide +kernel) (fun vs H Q E h => ?_) fun X H vs Q E xk h => ?_
  · obtain ⟨p, q, i, j, rfl, _⟩ := h
    rfl
  · obtain ⟨p, q, i, j, rfl, ⟨dx, hp⟩, ⟨dy, hq⟩, k⟩ := h
    have cl := T.cl
    have nt := T.nt
    have mgC := T.mgC
    refine start_go (by wtm_at "start") ?_
    wtm_at "go"
    exact k
theorem ok_mle {f : Addr} {fd : FuncData} (F : Fun K "__le__" "Moment.__le__" sMle f fd) (T : MoT K mg Cm) (b_isi : Bi mg "isinstance" (.builtin "isinstance")) : FnOk P w K mg base (L2.CX P w) 1 f fd ["self", "other"] (spM2c Cm fun i j => decide (i ≤ j)) := by
  refine fun_go ["isinstance", "Moment"] F sc_mle (by decide +kernel) (fun vs H Q E h => ?_) fun X H vs Q E xk h => ?_
  · obtain ⟨p, q, i, j, rfl, _⟩ := h
    rfl
  · obtain ⟨p, q, i, j, rfl, ⟨dx, hp⟩, ⟨dy, hq⟩, k⟩ := h
    have cl := T.cl
    have nt := T.nt
    have mgC := T.mgC
    refine start_go (by wtm_at "start") ?_
    wtm_at "go"
    exact k
theorem ok_mgt {f : Addr} {fd : FuncData} (F : Fun K "__gt__" "Moment.__gt__" sMgt f fd) (T : MoT K mg Cm) (b_isi : Bi mg "isinstance" (.builtin "isinstance")) : FnOk P w K mg base (L2.CX P w) 1 f fd ["self", "other"] (spM2c Cm fun i j => decide (j < i)) := by
  refine fun_go ["isinstance", "Moment"] F sc_mgt (by decide +kernel) (fun vs H Q E h => ?_) fun X H vs Q E xk h => ?_
  · obtain ⟨p, q, i, j, rfl, _⟩ := h
    rfl
  · obtain ⟨p, q, i, j, rfl, ⟨dx, hp⟩, ⟨dy, hq⟩, k⟩ := h
    have cl := T.cl
    have nt := T.nt
    have mgC := T.mgC
    refine start_go (by wtm_at "start") ?_
    wtm_at "go"
    exact k
theorem ok_mge {f : Addr} {fd : FuncData} (F : Fun K "__ge__" "Moment.__ge__" sMge f fd) (T : MoT K mg Cm) (b_isi : Bi mg "isinstance" (.builtin "isinstance")) : FnOk P w K mg base (L2.CX P w) 1 f fd ["self", "other"] (spM2c Cm fun i j => decide (j ≤ i)) := by
  refine fun_go ["isinstance", "Moment"] F sc_mge (by decide +kernel) (fun vs H Q E h => ?_) fun X H vs Q E xk h => ?_
  · obtain ⟨p, q, i, j, rfl, _⟩ := h
    rfl
  · obtain ⟨p, q, i, j, rfl, ⟨dx, hp⟩, ⟨dy, hq⟩, k⟩ := h
    have cl := T.cl
    have nt := T.nt
    have mgC := T.mgC
    refine start_go (by wtm_at "start") ?_
    wtm_at "go"
    exact k
end
/-! ### k04: texts, is_moment, right, law -/
theorem sc_isM : FnScope ["_law_thing", "_law_due"] ["_law_thing", "_law_due"] (defScope sIsM) := ⟨rfl, rfl, rfl, by decide +kernel, rfl, by decide +kernel, by decide +kernel⟩
theorem sc_right4 : FnScope ["_law_one", "_law_other", "_law_ticks", "_law_m", "_law_n", "_law_s", "_law_made", "_law_due"] ["_law_one", "_law_other", "_law_ticks"] (defScope sRight4) := ⟨rfl, rfl, rfl, by decide +kernel, rfl, by decide +kernel, by decide +kernel⟩
theorem sc_law4 : FnScope ["_law_script", "_law_place", "_law_bag_here", "_law_one", "_law_other", "_law_ticks"] ["_law_script"] (defScope sLaw4) := ⟨rfl, rfl, rfl, by decide +kernel, rfl, by decide +kernel, by decide +kernel⟩
def spIsM (Cm : Addr) : Sp := fun vs H Q _ => ∃ (p : Addr) (n m : Int), vs = [.ref p, .int m] ∧ IsMo Cm H p n ∧ Q (.bl (decide (n = m))) H
def spRight4 : Sp := fun vs H Q _ => ∃ i j t : Int, vs = [.int i, .int j, .int t] ∧ -10000000000000000000000000000000 < i ∧ i < 10000000000000000000000000000000 ∧ ∀ H', Kp [] H H' → Q (.bl true) H'
section
variable {P : Program} {w : World} {K : PySem.W.Frag} {mg : Str → Option Value} {base : Heap} {Cs Cm : Addr}
theorem emp_len : Str.empty.length = 0 := rfl
theorem emp_app {x : Str} : Str.empty ++ x = x := Str.append_left_empty rfl
local macro_rules | `(tactic| wtm_at "len") => `(tactic| (rw [sizeLine_eq]; (try simp only [strLen_append]); omega))
section
local macro_rules | `(tactic| wtm_at "s") => `(tactic| first
  | refine js_cons ?_
  | refine js_nil ?_
  | refine e_join ?_
  | refine e_fmt ?_
  | refine js_v (by wtm_at "len") ?_
  | refine fm_i (by with_reducible assumption) ?_
  | refine fm_s (by wtm_at "len") ?_
  | fail)
theorem ok_mrepr {f : Addr} {fd : FuncData} (F : Fun K "__repr__" "Moment.__repr__" sMrepr f fd) (T : MoT K mg Cm) : FnOk P w K mg base (L2.CX P w) 1 f fd ["self"] (spM1c Cm fun i => .str (reprM i)) := by
  refine fun_go [] F sc_mrepr (by decide +kernel) (fun vs H Q E h => ?_) fun X H vs Q E xk h => ?_
  · obtain ⟨p, i, rfl, _⟩ := h
    rfl
  · obtain ⟨p, i, rfl, ⟨dx, hp⟩, i1, i2, k⟩ := h
    have cl := T.cl
    have nt := T.nt
    have lg := log_ok i1 i2
    have l1 := txt_len i1 i2
    have l2 : (Str.ofString "Moment(").length = 7 := by decide +kernel
    have l3 : (Str.ofString ")").length = 1 := by decide +kernel
    have l0 := emp_len
    refine start_go (by wtm_at "start") ?_
    wtm_at "go"
    rw [emp_app]
    exact k
theorem ok_mstr {f : Addr} {fd : FuncData} (F : Fun K "__str__" "Moment.__str__" sMstr f fd) (T : MoT K mg Cm) : FnOk P w K mg base (L2.CX P w) 1 f fd ["self"] (spM1c Cm fun i => .str (strM i)) := by
  refine fun_go [] F sc_mstr (by decide +kernel) (fun vs H Q E h => ?_) fun X H vs Q E xk h => ?_
  · obtain ⟨p, i, rfl, _⟩ := h
    rfl
  · obtain ⟨p, i, rfl, ⟨dx, hp⟩, i1, i2, k⟩ := h
    have cl := T.cl
    have nt := T.nt
    have lg := log_ok i1 i2
    have l1 := txt_len i1 i2
    have l2 : (Str.ofString "at ").length = 3 := by decide +kernel
    have l0 := emp_len
    refine start_go (by wtm_at "start") ?_
    wtm_at "go"
    rw [emp_app]
    exact k
end
section
local macro_rules | `(tactic| wtm_at "sK") => `(tactic| (refine gKisi ?_; refine k_isMo (by with_reducible assumption) (by with_reducible assumption) (by wtm_at "look") ?_))
theorem ok_isM {f : Addr} {fd : FuncData} (F : Fun K "_law_is_moment" "_law_is_moment" sIsM f fd) (T : MoT K mg Cm) (b_isi : Bi mg "isinstance" (.builtin "isinstance")) (d_isN : Df P w K mg base "_law_is_number" 1 spIsN) : FnOk P w K mg base (L2.CX P w) 2 f fd ["_law_thing", "_law_due"] (spIsM Cm) := by
  refine fun_go ["isinstance", "Moment", "_law_is_number"] F sc_isM (by decide +kernel) (fun vs H Q E h => ?_) fun X H vs Q E xk h => ?_
  · obtain ⟨p, n, m, rfl, _⟩ := h
    rfl
  · obtain ⟨p, n, m, rfl, ⟨dx, hp⟩, q⟩ := h
    have cl := T.cl
    have nt := T.nt
    have mgC := T.mgC
    refine start_go (by wtm_at "start") ?_
    wtm_at "go"
    refine call_isN ?_
    exact q
end
theorem call_isM {p : Addr} {n m : Int} {H : Hp} {Q : VK} {EX : XK} (hp : IsMo Cm H p n) (h : Q (.bl (decide (n = m))) H) : spIsM Cm [.ref p, .int m] H Q EX := ⟨p, n, m, rfl, hp, h⟩
/-- a pair of a moment and its point -/
def GM (Cm : Addr) (H : Hp) (v : V) : Prop := ∃ (t s : Addr) (d : Int), v = .ref t ∧ H t = some (.tup [.ref s, .int d]) ∧ IsMo Cm H s d
theorem gm_mk {H : Hp} {t s : Addr} {d d' : Int} (h : H t = some (.tup [.ref s, .int d'])) (hs : IsMo Cm H s d) (e : d = d') : GM Cm H (.ref t) := ⟨t, s, d', rfl, h, e ▸ hs⟩
theorem gm_mon (H H' : Hp) (v : V) (k : Kp [] H H') (h : GM Cm H v) : GM Cm H' v := let ⟨t, s, d, e, h1, h2⟩ := h; ⟨t, s, d, e, k.get0 h1, h2.kp k⟩
/-- what the top has, for operators between the two -/
structure OpT (K : PySem.W.Frag) (Cs Cm : Addr) : Prop where
  ras : PySem.W.findIn K (.ref Cs) "__radd__" = some none
  ram : PySem.W.findIn K (.ref Cm) "__radd__" = some none
  rss : PySem.W.findIn K (.ref Cs) "__rsub__" = some none
  rsm : PySem.W.findIn K (.ref Cm) "__rsub__" = some none
  as : ∃ g : Addr, PySem.W.findIn K (.ref Cs) "__add__" = some (some (.ref g))
  am : ∃ g : Addr, PySem.W.findIn K (.ref Cm) "__add__" = some (some (.ref g))
  ss : ∃ g : Addr, PySem.W.findIn K (.ref Cs) "__sub__" = some (some (.ref g))
section
variable {X : Cx} {sc : Scope} {N GL : List Str} {k : Nat} {EX : XK} {e : Expr} {σ : St} {H : Hp} {Q : VK} {pos p : Pos} {a b : Addr} {x y : Int}
theorem b_SM (xk : Xk X P w K mg base sc N GL k EX) (T : TwT K mg Cs Cm) (O : OpT K Cs Cm) (D : Dm P w K mg base Cs "__add__" 3 (sp2 (fun H p n => IsSp Cs H p n) (fun H p n => IsMo Cm H p n) (fun H p n => IsMo Cm H p n) (· + ·))) (hj : 3 ≤ k) (ha : IsSp Cs H a x) (hb : IsMo Cm H b y)
    (h : ∀ r H', H r = none → Kp [] H H' → IsMo Cm H' r (x + y) → Q (.ref r) H') : Bo X .Add (.ref a) (.ref b) H Q := by
  obtain ⟨dx, h1⟩ := id ha
  obtain ⟨dy, h2⟩ := id hb
  obtain ⟨g, hg⟩ := O.am
  exact b_own2 xk D hj T.s.sf T.m.sf hg O.ras (.inl rfl) O.ram (.inl rfl) T.ms T.ne h1 h2 ⟨a, b, x, y, rfl, ha, hb, h⟩ (by decide +kernel)
theorem b_MS (xk : Xk X P w K mg base sc N GL k EX) (T : TwT K mg Cs Cm) (O : OpT K Cs Cm) (D : Dm P w K mg base Cm "__add__" 3 (sp2 (fun H p n => IsMo Cm H p n) (fun H p n => IsSp Cs H p n) (fun H p n => IsMo Cm H p n) (· + ·))) (hj : 3 ≤ k) (ha : IsMo Cm H a x) (hb : IsSp Cs H b y)
    (h : ∀ r H', H r = none → Kp [] H H' → IsMo Cm H' r (x + y) → Q (.ref r) H') : Bo X .Add (.ref a) (.ref b) H Q := by
  obtain ⟨dx, h1⟩ := id ha
  obtain ⟨dy, h2⟩ := id hb
  obtain ⟨g, hg⟩ := O.as
  exact b_own2 xk D hj T.m.sf T.s.sf hg O.ram (.inl rfl) O.ras (.inl rfl) T.sm T.ne.symm h1 h2 ⟨a, b, x, y, rfl, ha, hb, h⟩ (by decide +kernel)
theorem b_MmS (xk : Xk X P w K mg base sc N GL k EX) (T : TwT K mg Cs Cm) (O : OpT K Cs Cm) (D : Dm P w K mg base Cm "__sub__" 3 (sp2 (fun H p n => IsMo Cm H p n) (fun H p n => IsSp Cs H p n) (fun H p n => IsMo Cm H p n) (· - ·))) (hj : 3 ≤ k) (ha : IsMo Cm H a x) (hb : IsSp Cs H b y)
    (h : ∀ r H', H r = none → Kp [] H H' → IsMo Cm H' r (x - y) → Q (.ref r) H') : Bo X .Sub (.ref a) (.ref b) H Q := by
  obtain ⟨dx, h1⟩ := id ha
  obtain ⟨dy, h2⟩ := id hb
  obtain ⟨g, hg⟩ := O.ss
  exact b_own2 xk D hj T.m.sf T.s.sf hg O.rsm (.inl rfl) O.rss (.inl rfl) T.sm T.ne.symm h1 h2 ⟨a, b, x, y, rfl, ha, hb, h⟩ (by decide +kernel)
theorem b_MmM (xk : Xk X P w K mg base sc N GL k EX) (T : TwT K mg Cs Cm) (D : Dm P w K mg base Cm "__sub__" 3 (sp2 (fun H p n => IsMo Cm H p n) (fun H p n => IsMo Cm H p n) (fun H p n => IsSp Cs H p n) (· - ·))) (hj : 3 ≤ k) (ha : IsMo Cm H a x) (hb : IsMo Cm H b y)
    (h : ∀ r H', H r = none → Kp [] H H' → IsSp Cs H' r (x - y) → Q (.ref r) H') : Bo X .Sub (.ref a) (.ref b) H Q := by
  obtain ⟨dx, h1⟩ := id ha
  obtain ⟨dy, h2⟩ := id hb
  exact b_own xk D hj T.m.sf h1 h2 ⟨a, b, x, y, rfl, ha, hb, h⟩ (by decide +kernel)
theorem c_moEq (xk : Xk X P w K mg base sc N GL k EX) (D : Dm P w K mg base Cm "__eq__" 1 (spM2c Cm fun i j => decide (i = j))) (hj : 1 ≤ k) (ha : IsMo Cm H a x) (hb : IsMo Cm H b y) (h : Q (.bl (decide (x = y))) H) : Co X .Eq (.ref a) (.ref b) H Q := by
  obtain ⟨dx, h1⟩ := id ha
  obtain ⟨dy, h2⟩ := id hb
  exact c_own xk D hj h1 h2 ⟨a, b, x, y, rfl, ha, hb, h⟩ rfl fun _ _ => rfl
theorem c_moLt (xk : Xk X P w K mg base sc N GL k EX) (D : Dm P w K mg base Cm "__lt__" 1 (spM2c Cm fun i j => decide (i < j))) (hj : 1 ≤ k) (ha : IsMo Cm H a x) (hb : IsMo Cm H b y) (h : Q (.bl (decide (x < y))) H) : Co X .Lt (.ref a) (.ref b) H Q := by
  obtain ⟨dx, h1⟩ := id ha
  obtain ⟨dy, h2⟩ := id hb
  exact c_own xk D hj h1 h2 ⟨a, b, x, y, rfl, ha, hb, h⟩ rfl fun _ _ => rfl
theorem c_moLe (xk : Xk X P w K mg base sc N GL k EX) (D : Dm P w K mg base Cm "__le__" 1 (spM2c Cm fun i j => decide (i ≤ j))) (hj : 1 ≤ k) (ha : IsMo Cm H a x) (hb : IsMo Cm H b y) (h : Q (.bl (decide (x ≤ y))) H) : Co X .LtE (.ref a) (.ref b) H Q := by
  obtain ⟨dx, h1⟩ := id ha
  obtain ⟨dy, h2⟩ := id hb
  exact c_own xk D hj h1 h2 ⟨a, b, x, y, rfl, ha, hb, h⟩ rfl fun _ _ => rfl
theorem c_moGt (xk : Xk X P w K mg base sc N GL k EX) (D : Dm P w K mg base Cm "__gt__" 1 (spM2c Cm fun i j => decide (j < i))) (hj : 1 ≤ k) (ha : IsMo Cm H a x) (hb : IsMo Cm H b y) (h : Q (.bl (decide (y < x))) H) : Co X .Gt (.ref a) (.ref b) H Q := by
  obtain ⟨dx, h1⟩ := id ha
  obtain ⟨dy, h2⟩ := id hb
  exact c_own xk D hj h1 h2 ⟨a, b, x, y, rfl, ha, hb, h⟩ rfl fun _ _ => rfl
theorem c_moGe (xk : Xk X P w K mg base sc N GL k EX) (D : Dm P w K mg base Cm "__ge__" 1 (spM2c Cm fun i j => decide (j ≤ i))) (hj : 1 ≤ k) (ha : IsMo Cm H a x) (hb : IsMo Cm H b y) (h : Q (.bl (decide (y ≤ x))) H) : Co X .GtE (.ref a) (.ref b) H Q := by
  obtain ⟨dx, h1⟩ := id ha
  obtain ⟨dy, h2⟩ := id hb
  exact c_own xk D hj h1 h2 ⟨a, b, x, y, rfl, ha, hb, h⟩ rfl fun _ _ => rfl
theorem c_moNe (xk : Xk X P w K mg base sc N GL k EX) (T : TwT K mg Cs Cm) (D : Dm P w K mg base Cm "__eq__" 1 (spM2c Cm fun i j => decide (i = j))) (hj : 3 ≤ k) (ha : IsMo Cm H a x) (hb : IsMo Cm H b y) (h : Q (.bl (!decide (x = y))) H) : Co X .NotEq (.ref a) (.ref b) H Q := by
  obtain ⟨dx, h1⟩ := id ha
  obtain ⟨dy, h2⟩ := id hb
  exact c_ownNe xk D hj T.nm.ne T.m.hm h1 h2 ⟨a, b, x, y, rfl, ha, hb, _, rfl, h⟩
theorem c_moEqSp (xk : Xk X P w K mg base sc N GL k EX) (T : TwT K mg Cs Cm) (D : Dn P w K mg base Cs "__eq__" 1 (preN K Cs)) (Dm' : Dn P w K mg base Cm "__eq__" 1 (preN K Cm)) (hj : 1 ≤ k) (hp : IsMo Cm H a x) (ha : IsSp Cs H b y) (h : Q (.bl false) H) : Co X .Eq (.ref a) (.ref b) H Q := by
  have n : Nin K Cs H (.ref a) := nin_s T (.inr (.inl ⟨a, x, rfl, hp⟩))
  obtain ⟨dx, h1⟩ := id ha
  obtain ⟨dy, h2⟩ := id hp
  exact c_decl xk (ty_own h2) (ty_own h1) (bne_iff_ne.mpr fun z => T.ne (by injection z with z; exact z.symm)) T.sm (ns_own h2 h1 T.ne.symm) (dec_own xk Dm' hj h2 ⟨_, _, rfl, nin_m T ha⟩) (dec_own xk D hj h1 ⟨_, _, rfl, n⟩) (.inl ⟨rfl, rfl⟩) h
theorem c_spEqMo (xk : Xk X P w K mg base sc N GL k EX) (T : TwT K mg Cs Cm) (D : Dn P w K mg base Cs "__eq__" 1 (preN K Cs)) (Dm' : Dn P w K mg base Cm "__eq__" 1 (preN K Cm)) (hj : 1 ≤ k) (ha : IsSp Cs H b y) (hp : IsMo Cm H a x) (h : Q (.bl false) H) : Co X .Eq (.ref b) (.ref a) H Q := by
  have n : Nin K Cs H (.ref a) := nin_s T (.inr (.inl ⟨a, x, rfl, hp⟩))
  obtain ⟨dx, h1⟩ := id ha
  obtain ⟨dy, h2⟩ := id hp
  exact c_decl xk (ty_own h1) (ty_own h2) (bne_iff_ne.mpr fun z => T.ne (by injection z)) T.ms (ns_own h1 h2 T.ne) (dec_own xk D hj h1 ⟨_, _, rfl, n⟩) (dec_own xk Dm' hj h2 ⟨_, _, rfl, nin_m T ha⟩) (.inl ⟨rfl, rfl⟩) h
theorem nin_mi (T : TwT K mg Cs Cm) {i : Int} : Nin K Cm H (.int i) := ⟨_, .base (.int i), kit_no T.nm T.nm.int (fun z => nomatch z)⟩
theorem c_moEqI {i : Int} (xk : Xk X P w K mg base sc N GL k EX) (T : TwT K mg Cs Cm) (Dm' : Dn P w K mg base Cm "__eq__" 1 (preN K Cm)) (hj : 1 ≤ k) (hp : IsMo Cm H a x) (h : Q (.bl false) H) : Co X .Eq (.ref a) (.int i) H Q := by
  obtain ⟨dx, h1⟩ := id hp
  exact c_decl xk (ty_own h1) ty_int rt_ne T.nm.int ns_int (dec_own xk Dm' hj h1 ⟨_, _, rfl, nin_mi T⟩) (dec_int_eq h1) (.inl ⟨rfl, rfl⟩) h
theorem c_moNeI {i : Int} (xk : Xk X P w K mg base sc N GL k EX) (T : TwT K mg Cs Cm) (Dm' : Dn P w K mg base Cm "__eq__" 1 (preN K Cm)) (hj : 3 ≤ k) (hp : IsMo Cm H a x) (h : Q (.bl true) H) : Co X .NotEq (.ref a) (.int i) H Q := by
  obtain ⟨dx, h1⟩ := id hp
  exact c_decl xk (ty_own h1) ty_int rt_ne T.nm.int ns_int (dec_ownNe xk Dm' hj T.nm.ne T.m.hm h1 ⟨_, _, rfl, nin_mi T⟩) (dec_int_ne h1) (.inr ⟨rfl, rfl⟩) h
theorem k_reprMo (xk : Xk X P w K mg base sc N GL k EX) (D : Dm P w K mg base Cm "__repr__" 1 (spM1c Cm fun i => .str (reprM i))) (hj : 2 ≤ k) (ha : IsMo Cm H a x) (x1 : -10000000000000000000000000000000 < x) (x2 : x < 10000000000000000000000000000000) (h : Q (.str (reprM x)) H) : C X (.builtin "repr") [.ref a] H Q := by
  obtain ⟨dx, h1⟩ := id ha
  exact k_reprOwn xk D hj h1 ⟨a, x, rfl, ha, x1, x2, _, rfl, h⟩
theorem k_strMo (xk : Xk X P w K mg base sc N GL k EX) (D : Dm P w K mg base Cm "__str__" 1 (spM1c Cm fun i => .str (strM i))) (hj : 3 ≤ k) (ha : IsMo Cm H a x) (x1 : -10000000000000000000000000000000 < x) (x2 : x < 10000000000000000000000000000000) (h : Q (.str (strM x)) H) : C X (.type "str") [.ref a] H Q := by
  obtain ⟨dx, h1⟩ := id ha
  exact k_strOwn xk D hj h1 ⟨a, x, rfl, ha, x1, x2, _, rfl, h⟩
end
end
/-! ### k04: right, law -/
section
variable {P : Program} {w : World} {K : PySem.W.Frag} {mg : Str → Option Value} {base : Heap} {Cs Cm : Addr}
local macro_rules | `(tactic| wtm_at "isp") => `(tactic| first
  | with_reducible assumption
  | exact IsSp.kpr (by with_reducible assumption) (by wtm_at "isp")
  | fail)
local macro_rules | `(tactic| wtm_at "imo") => `(tactic| first
  | with_reducible assumption
  | exact IsMo.kpr (by with_reducible assumption) (by wtm_at "imo")
  | fail)
local macro_rules | `(tactic| wtm_at "len") => `(tactic| (rw [sizeLine_eq]; (try simp only [strLen_append]); omega))
local macro_rules | `(tactic| wtm_at "sF") => `(tactic| first
  | refine e_span (by with_reducible assumption) (by wtm_at "mem") (by with_reducible assumption) (by decide) rfl (?_)
  | refine e_mom (by with_reducible assumption) (by wtm_at "mem") (by with_reducible assumption) (by decide) rfl (?_)
  | refine e_momK (by with_reducible assumption) (by wtm_at "mem") (by with_reducible assumption) (by decide) ?_
  | fail)
local macro_rules | `(tactic| wtm_at "sB") => `(tactic| refine b_addS (by wtm_at "len") ?_)
local macro_rules | `(tactic| wtm_at "sB") => `(tactic| first
  | (refine gBrrA ?_; refine b_MS (by with_reducible assumption) (by with_reducible assumption) (by with_reducible assumption) (by with_reducible assumption) (by decide) (by wtm_at "imo") (by wtm_at "isp") (fun _ _ _ _ _ => ?_))
  | (refine gBrrA ?_; refine b_SM (by with_reducible assumption) (by with_reducible assumption) (by with_reducible assumption) (by with_reducible assumption) (by decide) (by wtm_at "isp") (by wtm_at "imo") (fun _ _ _ _ _ => ?_))
  | (refine gBrrS ?_; refine b_MmS (by with_reducible assumption) (by with_reducible assumption) (by with_reducible assumption) (by with_reducible assumption) (by decide) (by wtm_at "imo") (by wtm_at "isp") (fun _ _ _ _ _ => ?_))
  | (refine gBrrS ?_; refine b_MmM (by with_reducible assumption) (by with_reducible assumption) (by with_reducible assumption) (by decide) (by wtm_at "imo") (by wtm_at "imo") (fun _ _ _ _ _ => ?_))
  | fail)
theorem gCr {X : Cx} {H : Hp} {Q : VK} {op : CmpOp} {a b : Addr} (h : Co X op (.ref a) (.ref b) H Q) : Co X op (.ref a) (.ref b) H Q := h
theorem gCri {X : Cx} {H : Hp} {Q : VK} {op : CmpOp} {a : Addr} {i : Int} (h : Co X op (.ref a) (.int i) H Q) : Co X op (.ref a) (.int i) H Q := h
local macro_rules | `(tactic| wtm_at "sC") => `(tactic| refine c_eqS ?_)
local macro_rules | `(tactic| wtm_at "sC") => `(tactic| (refine gCr ?_; first
  | refine c_moEq (by with_reducible assumption) (by with_reducible assumption) (by decide) (by wtm_at "imo") (by wtm_at "imo") ?_
  | refine c_moEqSp (by with_reducible assumption) (by with_reducible assumption) (by with_reducible assumption) (by with_reducible assumption) (by decide) (by wtm_at "imo") (by wtm_at "isp") ?_
  | refine c_spEqMo (by with_reducible assumption) (by with_reducible assumption) (by with_reducible assumption) (by with_reducible assumption) (by decide) (by wtm_at "isp") (by wtm_at "imo") ?_
  | refine c_moNe (by with_reducible assumption) (by with_reducible assumption) (by with_reducible assumption) (by decide) (by wtm_at "imo") (by wtm_at "imo") ?_
  | refine c_moLt (by with_reducible assumption) (by with_reducible assumption) (by decide) (by wtm_at "imo") (by wtm_at "imo") ?_
  | refine c_moLe (by with_reducible assumption) (by with_reducible assumption) (by decide) (by wtm_at "imo") (by wtm_at "imo") ?_
  | refine c_moGt (by with_reducible assumption) (by with_reducible assumption) (by decide) (by wtm_at "imo") (by wtm_at "imo") ?_
  | refine c_moGe (by with_reducible assumption) (by with_reducible assumption) (by decide) (by wtm_at "imo") (by wtm_at "imo") ?_
  | fail))
local macro_rules | `(tactic| wtm_at "sC") => `(tactic| (refine gCri ?_; first
  | refine c_moEqI (by with_reducible assumption) (by with_reducible assumption) (by with_reducible assumption) (by decide) (by wtm_at "imo") ?_
  | refine c_moNeI (by with_reducible assumption) (by with_reducible assumption) (by with_reducible assumption) (by decide) (by wtm_at "imo") ?_
  | fail))
local macro_rules | `(tactic| wtm_at "s") => `(tactic| (refine gUr ?_; refine u_sp (by with_reducible assumption) (by with_reducible assumption) (by decide) (by wtm_at "isp") (fun _ _ _ _ _ => ?_)))
local macro_rules | `(tactic| wtm_at "sK") => `(tactic| refine k_strI (by with_reducible assumption) ?_)
local macro_rules | `(tactic| wtm_at "pair") => `(tactic| (
  intro H3 k3 Q' q'
  wtm_at "go"
  first
  | exact q' _ _ (by wtm_at "kp") (gm_mk (by with_reducible assumption) (by wtm_at "imo") (by first | rfl | omega))
  | exact q' _ _ (by wtm_at "kp") (gp_mk (by with_reducible assumption) (by wtm_at "isp") (by first | rfl | omega))
  | fail))
theorem ok_right4 {f : Addr} {fd : FuncData} (F : Fun K "_law_right" "_law_right" sRight4 f fd) (T : TwT K mg Cs Cm) (O : OpT K Cs Cm) (b_str : Bi mg "str" (.type "str")) (b_repr : Bi mg "repr" (.builtin "repr"))
    (d_isS : Df P w K mg base "_law_is_span" 2 (spIsS Cs)) (d_isM : Df P w K mg base "_law_is_moment" 2 (spIsM Cm)) (d_same : Df P w K mg base "_law_same" 1 (spSame K))
    (d_span : Dc P w K mg base "Span" Cs 1 (spSInit Cs)) (d_mom : Dc P w K mg base "Moment" Cm 1 (spMInit Cm)) (d_momK : Dck P w K mg base "Moment" Cm ["at"] 1 (spMInit Cm))
    (d_sm : Dm P w K mg base Cs "__add__" 3 (sp2 (fun H p n => IsSp Cs H p n) (fun H p n => IsMo Cm H p n) (fun H p n => IsMo Cm H p n) (· + ·)))
    (d_ms : Dm P w K mg base Cm "__add__" 3 (sp2 (fun H p n => IsMo Cm H p n) (fun H p n => IsSp Cs H p n) (fun H p n => IsMo Cm H p n) (· + ·)))
    (d_mms : Dm P w K mg base Cm "__sub__" 3 (sp2 (fun H p n => IsMo Cm H p n) (fun H p n => IsSp Cs H p n) (fun H p n => IsMo Cm H p n) (· - ·)))
    (d_mmm : Dm P w K mg base Cm "__sub__" 3 (sp2 (fun H p n => IsMo Cm H p n) (fun H p n => IsMo Cm H p n) (fun H p n => IsSp Cs H p n) (· - ·)))
    (d_neg : Dm P w K mg base Cs "__neg__" 3 (spS1 Cs (- ·)))
    (d_eq : Dm P w K mg base Cm "__eq__" 1 (spM2c Cm fun i j => decide (i = j))) (d_lt : Dm P w K mg base Cm "__lt__" 1 (spM2c Cm fun i j => decide (i < j))) (d_le : Dm P w K mg base Cm "__le__" 1 (spM2c Cm fun i j => decide (i ≤ j)))
    (d_gt : Dm P w K mg base Cm "__gt__" 1 (spM2c Cm fun i j => decide (j < i))) (d_ge : Dm P w K mg base Cm "__ge__" 1 (spM2c Cm fun i j => decide (j ≤ i)))
    (n_s : Dn P w K mg base Cs "__eq__" 1 (preN K Cs)) (n_m : Dn P w K mg base Cm "__eq__" 1 (preN K Cm))
    (d_repr : Dm P w K mg base Cm "__repr__" 1 (spM1c Cm fun i => .str (reprM i))) (d_str : Dm P w K mg base Cm "__str__" 1 (spM1c Cm fun i => .str (strM i))) : FnOk P w K mg base (L2.CX P w) 4 f fd ["_law_one", "_law_other", "_law_ticks"] spRight4 := by
  refine fun_go ["Span", "Moment", "_law_is_span", "_law_is_moment", "_law_same", "str", "repr"] F sc_right4 (by decide +kernel) (fun vs H Q E h => ?_) fun X H vs Q E xk h => ?_
  · obtain ⟨i, j, t, rfl, _⟩ := h
    rfl
  · obtain ⟨i, j, t, rfl, i1, i2, q⟩ := h
    have lg := log_ok i1 i2
    have l1 := txt_len i1 i2
    have l2 : (Str.ofString "Moment(").length = 7 := by decide +kernel
    have l3 : (Str.ofString ")").length = 1 := by decide +kernel
    have l4 : (Str.ofString "at ").length = 3 := by decide +kernel
    refine start_go (by wtm_at "start") ?_
    wtm_at "go"
    intro p H1 dx np k1 hp
    wtm_at "go"
    intro p' H2 dy np' k2 hp'
    wtm_at "go"
    intro p'' H3 dz np'' k3 hp''
    have sa : IsMo Cm H3 p i := ⟨dx, k3.get0 (k2.get0 hp)⟩
    have sb : IsMo Cm H3 p' j := ⟨dy, k3.get0 hp'⟩
    have sc : IsSp Cs H3 p'' t := ⟨dz, hp''⟩
    have k03 : Kp [] H H3 := (k1.trans k2).trans k3
    clear hp hp' hp'' k1 k2 k3 np np' np''
    wtm_at "s"
    refine s_for xk ?_
    wtm_at "s"
    refine as_all (D := GM Cm) gm_mon rfl (fun xs H4 l4' k4 d4 => ?_) ⟨?_, ?_, ?_, ?_, ?_, ?_, trivial⟩
    rotate_left
    iterate 6 (· wtm_at "pair")
    refine new_lst (by rw [l4']; decide) fun l H5 nl k5 hl => ?_
    have d5 : ∀ v ∈ xs, GM Cm H5 v := fun v hv => gm_mon _ _ v k5 (d4 v hv)
    refine ⟨_, xs, rfl, sq_l hl, fun n σ' H' => ∃ v1 v2, σ' = [some (.int i), some (.int j), some (.int t), some (.ref p), some (.ref p'), some (.ref p''), v1, v2] ∧ Kp [] H5 H', ⟨none, none, rfl, .refl⟩, fun _ σ' H' _ ⟨_, _, _, k⟩ => sq_l (k.get0 hl), ?_, ?_⟩
    · rintro n y σ' H' hy ⟨v1, v2, rfl, k⟩
      obtain ⟨t', s, d, rfl, ht, hs⟩ := gm_mon (Cm := Cm) _ _ y k (d5 y (List.mem_of_getElem? hy))
      wtm_at "go"
      refine call_isM hs ?_
      rw [decide_eq_true rfl]
      wtm_at "go"
      exact ⟨_, _, rfl, k⟩
    · rintro σ' H6 ⟨v1, v2, rfl, k6⟩
      have k36 : Kp [] H3 H6 := (k4.trans k5).trans k6
      have k06 := k03.trans k36
      replace sa := sa.kp k36
      replace sb := sb.kp k36
      replace sc := sc.kp k36
      clear k36 k4 k5 k6 d4 d5 hl l4' nl k03
      wtm_at "s"
      refine s_for xk ?_
      wtm_at "s"
      refine as_all (D := GP Cs) gp_mon rfl (fun xs H7 l7 k7 d7 => ?_) ⟨?_, ?_, ?_, ?_, ?_, trivial⟩
      rotate_left
      iterate 5 (· wtm_at "pair")
      refine new_lst (by rw [l7]; decide) fun l H8 nl k8 hl => ?_
      have d8 : ∀ v ∈ xs, GP Cs H8 v := fun v hv => gp_mon _ _ v k8 (d7 v hv)
      refine ⟨_, xs, rfl, sq_l hl, fun n σ' H' => ∃ v1 v2, σ' = [some (.int i), some (.int j), some (.int t), some (.ref p), some (.ref p'), some (.ref p''), v1, v2] ∧ Kp [] H8 H', ⟨_, _, rfl, .refl⟩, fun _ σ' H' _ ⟨_, _, _, k⟩ => sq_l (k.get0 hl), ?_, ?_⟩
      · rintro n y σ' H' hy ⟨v1, v2, rfl, k⟩
        obtain ⟨t', s, d, rfl, ht, hs⟩ := gp_mon (Cs := Cs) _ _ y k (d8 y (List.mem_of_getElem? hy))
        wtm_at "go"
        refine call_isS hs ?_
        rw [decide_eq_true rfl]
        wtm_at "go"
        exact ⟨_, _, rfl, k⟩
      · rintro σ' H9 ⟨v1, v2, rfl, k9⟩
        have k69 : Kp [] H6 H9 := (k7.trans k8).trans k9
        have k09 := k06.trans k69
        replace sa := sa.kp k69
        replace sb := sb.kp k69
        replace sc := sc.kp k69
        clear k69 k7 k8 k9 d7 d8 hl l7 nl k06
        wtm_at "go"
        rename_i r1 HA nr1 kA sA r2 HB nr2 kB sB
        refine call_isM (by wtm_at "imo") ?_
        rw [decide_eq_true (show j + (i - j) = i by omega)]
        wtm_at "go"
        rename_i r3 HC nr3 kC sC r4 HD nr4 kD sD
        refine call_isM (by wtm_at "imo") ?_
        rw [decide_eq_true (show i + -t = i - t by omega)]
        have kD9 : Kp [] H9 HD := (kA.trans kB).trans (kC.trans kD)
        have k0D := k09.trans kD9
        replace sa := sa.kp kD9
        replace sb := sb.kp kD9
        replace sc := sc.kp kD9
        clear sA sB sC sD nr1 nr2 nr3 nr4 kA kB kC kD kD9 k09
        wtm_at "go"
        rename_i ll Hl nl kl hl ll' Hl' nl' kl' hl'
        refine call_same (sq_l (kl'.get0 hl)) (sq_l hl') (xs := [decide (i = j), !decide (i = j), decide (i < j), decide (i ≤ j), decide (j < i), decide (j ≤ i), false, false, false, true]) rfl rfl fun HE kE => ?_
        have sa' := sa.kp ((kl.trans kl').trans kE)
        wtm_at "go"
        refine k_reprMo xk d_repr (by decide) sa' i1 i2 ?_
        wtm_at "go"
        refine br_dt rfl ?_
        wtm_at "go"
        refine k_strMo xk d_str (by decide) sa' i1 i2 ?_
        wtm_at "go"
        unfold strM
        rw [decide_eq_true rfl]
        exact q _ (((k0D.trans kl).trans kl').trans kE)
theorem call_right4 {i j t : Int} {H : Hp} {Q : VK} {EX : XK} (h1 : -10000000000000000000000000000000 < i) (h2 : i < 10000000000000000000000000000000) (h : ∀ H', Kp [] H H' → Q (.bl true) H') : spRight4 [.int i, .int j, .int t] H Q EX := ⟨i, j, t, rfl, h1, h2, h⟩
theorem ok_law4 {f : Addr} {fd : FuncData} (F : Fun K "law" "law" sLaw4 f fd) (b_range : mg "range" = none) (b_max : Bi mg "max" (.builtin "max")) (b_min : Bi mg "min" (.builtin "min")) (b_len : Bi mg "len" (.builtin "len"))
    (d_bag : Df P w K mg base "_law_bag" 1 (spBag K)) (d_num : Df P w K mg base "_law_number" 2 spNum) (d_right : Df P w K mg base "_law_right" 4 spRight4) : FnOk P w K mg base (L2.CX P w) 5 f fd ["_law_script"] (spLaw K) := by
  refine fun_go ["range", "max", "min", "len", "_law_bag", "_law_number", "_law_right"] F sc_law4 (by decide +kernel) (fun vs H Q E h => ?_) fun X H vs Q E xk h => ?_
  · obtain ⟨a, ns, rfl, _⟩ := h
    rfl
  · obtain ⟨a, ns, rfl, hS, hl, q⟩ := h
    refine start_go (by wtm_at "start") ?_
    wtm_at "s"
    refine s_forR xk (by wtm_at "mem") b_range ?_
    wtm_at "go"
    refine k_minG xk fun r hr r1 r2 => ?_
    wtm_at "go"
    refine k_maxG xk fun r' hr' r1' r2' => ?_
    refine ⟨r', rfl, by omega, by omega, fun i σ' H' => ∃ v1 v2 v3 v4 v5, σ' = [some (.ref a), v1, v2, v3, v4, v5] ∧ Kp [] H H', ⟨none, none, none, none, none, rfl, .refl⟩, ?_, ?_⟩
    · rintro i σ' H' hi ⟨v1, v2, v3, v4, v5, rfl, k⟩
      have hS' : SqL K H' a (ns.map V.int) := k.seqL hS ni_nil
      wtm_at "go"
      refine call_bag hS' (by omega) fun p H1 np k1 b1 => ?_
      have hp : H p = none := k.free np ni_nil
      wtm_at "go"
      refine call_num b1 fun n H2 n1 n2 k2 b2 => ?_
      wtm_at "go"
      refine call_num b2 fun m H3 m1 m2 k3 b3 => ?_
      wtm_at "go"
      refine call_num b3 fun t H4 t1 t2 k4 b4 => ?_
      wtm_at "go"
      refine call_right4 (by omega) (by omega) fun H5 k5 => ?_
      wtm_at "go"
      refine call_right4 (by omega) (by omega) fun H6 k6 => ?_
      wtm_at "go"
      refine call_right4 (by omega) (by omega) fun H7 k7 => ?_
      wtm_at "go"
      exact ⟨_, _, _, _, _, rfl, (((k.trans k1).fresh (k2.trans (k3.trans k4)) hp).trans k5).trans (k6.trans k7)⟩
    · rintro σ' H' ⟨v1, v2, v3, v4, v5, rfl, k⟩
      wtm_at "go"
      exact q _
end
theorem cx_false {P : Program} {w : World} (H : Hp) (s : Shared) (e : Value) (s' : Shared) (h : L2.CX P w [] H s (fun _ _ _ => False) e s') : False := by
  obtain ⟨_, _, _, _, _, _, _, _, _, _, _, _, z⟩ := h
  exact z.elim
theorem all_mk {l : PySem.W.OpenLaw} {w : World} {K : PySem.W.Frag} {h : Heap} {mg : Str → Option Value} {fa C_S f_sinit f_sadd f_ssub f_sneg f_seq C_M f_minit f_madd f_msub f_meq f_mlt f_mle f_mgt f_mge f_mrepr f_mstr f_bag f_take f_num f_isN f_isS f_isM f_same f_right f_law : Addr} (X : K.In h) (G : h.Ns mainGlobals mg) (hfa : mg "law" = some (.ref fa))
    {od_sinit an_sinit od_sadd an_sadd od_ssub an_ssub od_sneg an_sneg od_seq an_seq od_minit an_minit od_madd an_madd od_msub an_msub od_meq an_meq od_mlt an_mlt od_mle an_mle od_mgt an_mgt od_mge an_mge od_mrepr an_mrepr od_mstr an_mstr od_bag an_bag od_take an_take od_num an_num od_isN an_isN od_isS an_isS od_isM an_isM od_same an_same od_right an_right od_law an_law : Option Addr} {sl_sinit sl_sadd sl_ssub sl_sneg sl_seq sl_minit sl_madd sl_msub sl_meq sl_mlt sl_mle sl_mgt sl_mge sl_mrepr sl_mstr sl_bag sl_take sl_num sl_isN sl_isS sl_isM sl_same sl_right sl_law : Array (Option Value)} {oc_sinit kV_sinit dc_sinit pm_sinit cd_sinit ct_sinit oc_sadd kV_sadd dc_sadd pm_sadd cd_sadd ct_sadd oc_ssub kV_ssub dc_ssub pm_ssub cd_ssub ct_ssub oc_sneg kV_sneg dc_sneg pm_sneg cd_sneg ct_sneg oc_seq kV_seq dc_seq pm_seq cd_seq ct_seq oc_minit kV_minit dc_minit pm_minit cd_minit ct_minit oc_madd kV_madd dc_madd pm_madd cd_madd ct_madd oc_msub kV_msub dc_msub pm_msub cd_msub ct_msub oc_meq kV_meq dc_meq pm_meq cd_meq ct_meq oc_mlt kV_mlt dc_mlt pm_mlt cd_mlt ct_mlt oc_mle kV_mle dc_mle pm_mle cd_mle ct_mle oc_mgt kV_mgt dc_mgt pm_mgt cd_mgt ct_mgt oc_mge kV_mge dc_mge pm_mge cd_mge ct_mge oc_mrepr kV_mrepr dc_mrepr pm_mrepr cd_mrepr ct_mrepr oc_mstr kV_mstr dc_mstr pm_mstr cd_mstr ct_mstr oc_bag kV_bag dc_bag pm_bag cd_bag ct_bag oc_take kV_take dc_take pm_take cd_take ct_take oc_num kV_num dc_num pm_num cd_num ct_num oc_isN kV_isN dc_isN pm_isN cd_isN ct_isN oc_isS kV_isS dc_isS pm_isS cd_isS ct_isS oc_isM kV_isM dc_isM pm_isM cd_isM ct_isM oc_same kV_same dc_same pm_same cd_same ct_same oc_right kV_right dc_right pm_right cd_right ct_right oc_law kV_law dc_law pm_law cd_law ct_law : Value}
    (aC_S : PySem.W.nsIn K mainGlobals "Span" = some (some (.ref C_S)))
    (a_sinit : PySem.W.findIn K (.ref C_S) "__init__" = some (some (.ref f_sinit)))
    (i_sinit : PySem.W.isFn K (.ref f_sinit) = true)
    (l_sinit : K.lookup f_sinit = some ⟨oc_sinit, od_sinit, .func (PySem.W.fnOf "__init__" "Span.__init__" (defArgs sSInit) (defBody sSInit) (defScope sSInit) .none kV_sinit dc_sinit pm_sinit an_sinit cd_sinit ct_sinit), sl_sinit⟩)
    (c_sinit : PySem.W.codeIn K cd_sinit "Span.__init__" = true)
    (k_sinit : PySem.W.keepIn K (.ref f_sinit) = true)
    (a_sadd : PySem.W.findIn K (.ref C_S) "__add__" = some (some (.ref f_sadd)))
    (i_sadd : PySem.W.isFn K (.ref f_sadd) = true)
    (l_sadd : K.lookup f_sadd = some ⟨oc_sadd, od_sadd, .func (PySem.W.fnOf "__add__" "Span.__add__" (defArgs sSAdd) (defBody sSAdd) (defScope sSAdd) .none kV_sadd dc_sadd pm_sadd an_sadd cd_sadd ct_sadd), sl_sadd⟩)
    (c_sadd : PySem.W.codeIn K cd_sadd "Span.__add__" = true)
    (k_sadd : PySem.W.keepIn K (.ref f_sadd) = true)
    (a_ssub : PySem.W.findIn K (.ref C_S) "__sub__" = some (some (.ref f_ssub)))
    (i_ssub : PySem.W.isFn K (.ref f_ssub) = true)
    (l_ssub : K.lookup f_ssub = some ⟨oc_ssub, od_ssub, .func (PySem.W.fnOf "__sub__" "Span.__sub__" (defArgs sSSub) (defBody sSSub) (defScope sSSub) .none kV_ssub dc_ssub pm_ssub an_ssub cd_ssub ct_ssub), sl_ssub⟩)
    (c_ssub : PySem.W.codeIn K cd_ssub "Span.__sub__" = true)
    (k_ssub : PySem.W.keepIn K (.ref f_ssub) = true)
    (a_sneg : PySem.W.findIn K (.ref C_S) "__neg__" = some (some (.ref f_sneg)))
    (i_sneg : PySem.W.isFn K (.ref f_sneg) = true)
    (l_sneg : K.lookup f_sneg = some ⟨oc_sneg, od_sneg, .func (PySem.W.fnOf "__neg__" "Span.__neg__" (defArgs sSNeg) (defBody sSNeg) (defScope sSNeg) .none kV_sneg dc_sneg pm_sneg an_sneg cd_sneg ct_sneg), sl_sneg⟩)
    (c_sneg : PySem.W.codeIn K cd_sneg "Span.__neg__" = true)
    (k_sneg : PySem.W.keepIn K (.ref f_sneg) = true)
    (a_seq : PySem.W.findIn K (.ref C_S) "__eq__" = some (some (.ref f_seq)))
    (i_seq : PySem.W.isFn K (.ref f_seq) = true)
    (l_seq : K.lookup f_seq = some ⟨oc_seq, od_seq, .func (PySem.W.fnOf "__eq__" "Span.__eq__" (defArgs sSeq) (defBody sSeq) (defScope sSeq) .none kV_seq dc_seq pm_seq an_seq cd_seq ct_seq), sl_seq⟩)
    (c_seq : PySem.W.codeIn K cd_seq "Span.__eq__" = true)
    (k_seq : PySem.W.keepIn K (.ref f_seq) = true)
    (pg_S : PySem.W.plainGet K C_S Str.empty = true)
    (hd_S : PySem.W.hasDictIn K C_S = true)
    (po_S : PySem.W.plainOver K C_S = true)
    (sa_S : PySem.W.findIn K (.ref C_S) "__setattr__" = some (some (.builtin "object.__setattr__")))
    (mk_S : PySem.W.makesIn K C_S = true)
    (kc_S : PySem.W.keepIn K (.ref C_S) = true)
    (nt_S : PySem.W.findIn K (.ref C_S) "ticks" = some none)
    (ras : PySem.W.findIn K (.ref C_S) "__radd__" = some none)
    (rss : PySem.W.findIn K (.ref C_S) "__rsub__" = some none)
    (ha_S : PySem.W.findIn K (.ref C_S) "__class__" = some (some (.builtin "object.__class__")))
    (hn_S : PySem.W.specialIn K (.builtin "object.__class__") "__get__" = some (some (.builtin "getset_descriptor.__get__")))
    (htk_S : PySem.W.takesIn K (.builtin "object.__class__") = some true)
    (hm_S : PySem.W.mroIn K C_S (.type "object") = some true)
    (sf_S : PySem.W.selfFirst K C_S = true)
    (tc_S : PySem.W.typeIn K (.ref C_S) = some (.type "type"))
    (s1_S : PySem.W.subIn K (.type "int") (.ref C_S) = some false)
    (s2_S : PySem.W.subIn K (.type "str") (.ref C_S) = some false)
    (s3_S : PySem.W.subIn K (.type "NoneType") (.ref C_S) = some false)
    (s4_S : PySem.W.subIn K (.type "list") (.ref C_S) = some false)
    (s5_S : PySem.W.subIn K (.ref C_S) (.type "int") = some false)
    (s6_S : PySem.W.subIn K (.ref C_S) (.type "str") = some false)
    (s7_S : PySem.W.subIn K (.ref C_S) (.type "NoneType") = some false)
    (s8_S : PySem.W.subIn K (.ref C_S) (.type "list") = some false)
    (nn_S : PySem.W.findIn K (.ref C_S) "__ne__" = some (some (.builtin "object.__ne__")))
    (aC_M : PySem.W.nsIn K mainGlobals "Moment" = some (some (.ref C_M)))
    (a_minit : PySem.W.findIn K (.ref C_M) "__init__" = some (some (.ref f_minit)))
    (i_minit : PySem.W.isFn K (.ref f_minit) = true)
    (l_minit : K.lookup f_minit = some ⟨oc_minit, od_minit, .func (PySem.W.fnOf "__init__" "Moment.__init__" (defArgs sMInit) (defBody sMInit) (defScope sMInit) .none kV_minit dc_minit pm_minit an_minit cd_minit ct_minit), sl_minit⟩)
    (c_minit : PySem.W.codeIn K cd_minit "Moment.__init__" = true)
    (k_minit : PySem.W.keepIn K (.ref f_minit) = true)
    (a_madd : PySem.W.findIn K (.ref C_M) "__add__" = some (some (.ref f_madd)))
    (i_madd : PySem.W.isFn K (.ref f_madd) = true)
    (l_madd : K.lookup f_madd = some ⟨oc_madd, od_madd, .func (PySem.W.fnOf "__add__" "Moment.__add__" (defArgs sMAdd) (defBody sMAdd) (defScope sMAdd) .none kV_madd dc_madd pm_madd an_madd cd_madd ct_madd), sl_madd⟩)
    (c_madd : PySem.W.codeIn K cd_madd "Moment.__add__" = true)
    (k_madd : PySem.W.keepIn K (.ref f_madd) = true)
    (a_msub : PySem.W.findIn K (.ref C_M) "__sub__" = some (some (.ref f_msub)))
    (i_msub : PySem.W.isFn K (.ref f_msub) = true)
    (l_msub : K.lookup f_msub = some ⟨oc_msub, od_msub, .func (PySem.W.fnOf "__sub__" "Moment.__sub__" (defArgs sMSub) (defBody sMSub) (defScope sMSub) .none kV_msub dc_msub pm_msub an_msub cd_msub ct_msub), sl_msub⟩)
    (c_msub : PySem.W.codeIn K cd_msub "Moment.__sub__" = true)
    (k_msub : PySem.W.keepIn K (.ref f_msub) = true)
    (a_meq : PySem.W.findIn K (.ref C_M) "__eq__" = some (some (.ref f_meq)))
    (i_meq : PySem.W.isFn K (.ref f_meq) = true)
    (l_meq : K.lookup f_meq = some ⟨oc_meq, od_meq, .func (PySem.W.fnOf "__eq__" "Moment.__eq__" (defArgs sMeq) (defBody sMeq) (defScope sMeq) .none kV_meq dc_meq pm_meq an_meq cd_meq ct_meq), sl_meq⟩)
    (c_meq : PySem.W.codeIn K cd_meq "Moment.__eq__" = true)
    (k_meq : PySem.W.keepIn K (.ref f_meq) = true)
    (a_mlt : PySem.W.findIn K (.ref C_M) "__lt__" = some (some (.ref f_mlt)))
    (i_mlt : PySem.W.isFn K (.ref f_mlt) = true)
    (l_mlt : K.lookup f_mlt = some ⟨oc_mlt, od_mlt, .func (PySem.W.fnOf "__lt__" "Moment.__lt__" (defArgs sMlt) (defBody sMlt) (defScope sMlt) .none kV_mlt dc_mlt pm_mlt an_mlt cd_mlt ct_mlt), sl_mlt⟩)
    (c_mlt : PySem.W.codeIn K cd_mlt "Moment.__lt__" = true)
    (k_mlt : PySem.W.keepIn K (.ref f_mlt) = true)
    (a_mle : PySem.W.findIn K (.ref C_M) "__le__" = some (some (.ref f_mle)))
    (i_mle : PySem.W.isFn K (.ref f_mle) = true)
    (l_mle : K.lookup f_mle = some ⟨oc_mle, od_mle, .func (PySem.W.fnOf "__le__" "Moment.__le__" (defArgs sMle) (defBody sMle) (defScope sMle) .none kV_mle dc_mle pm_mle an_mle cd_mle ct_mle), sl_mle⟩)
    (c_mle : PySem.W.codeIn K cd_mle "Moment.__le__" = true)
    (k_mle : PySem.W.keepIn K (.ref f_mle) = true)
    (a_mgt : PySem.W.findIn K (.ref C_M) "__gt__" = some (some (.ref f_mgt)))
    (i_mgt : PySem.W.isFn K (.ref f_mgt) = true)
    (l_mgt : K.lookup f_mgt = some ⟨oc_mgt, od_mgt, .func (PySem.W.fnOf "__gt__" "Moment.__gt__" (defArgs sMgt) (defBody sMgt) (defScope sMgt) .none kV_mgt dc_mgt pm_mgt an_mgt cd_mgt ct_mgt), sl_mgt⟩)
    (c_mgt : PySem.W.codeIn K cd_mgt "Moment.__gt__" = true)
    (k_mgt : PySem.W.keepIn K (.ref f_mgt) = true)
    (a_mge : PySem.W.findIn K (.ref C_M) "__ge__" = some (some (.ref f_mge)))
    (i_mge : PySem.W.isFn K (.ref f_mge) = true)
    (l_mge : K.lookup f_mge = some ⟨oc_mge, od_mge, .func (PySem.W.fnOf "__ge__" "Moment.__ge__" (defArgs sMge) (defBody sMge) (defScope sMge) .none kV_mge dc_mge pm_mge an_mge cd_mge ct_mge), sl_mge⟩)
    (c_mge : PySem.W.codeIn K cd_mge "Moment.__ge__" = true)
    (k_mge : PySem.W.keepIn K (.ref f_mge) = true)
    (a_mrepr : PySem.W.findIn K (.ref C_M) "__repr__" = some (some (.ref f_mrepr)))
    (i_mrepr : PySem.W.isFn K (.ref f_mrepr) = true)
    (l_mrepr : K.lookup f_mrepr = some ⟨oc_mrepr, od_mrepr, .func (PySem.W.fnOf "__repr__" "Moment.__repr__" (defArgs sMrepr) (defBody sMrepr) (defScope sMrepr) .none kV_mrepr dc_mrepr pm_mrepr an_mrepr cd_mrepr ct_mrepr), sl_mrepr⟩)
    (c_mrepr : PySem.W.codeIn K cd_mrepr "Moment.__repr__" = true)
    (k_mrepr : PySem.W.keepIn K (.ref f_mrepr) = true)
    (a_mstr : PySem.W.findIn K (.ref C_M) "__str__" = some (some (.ref f_mstr)))
    (i_mstr : PySem.W.isFn K (.ref f_mstr) = true)
    (l_mstr : K.lookup f_mstr = some ⟨oc_mstr, od_mstr, .func (PySem.W.fnOf "__str__" "Moment.__str__" (defArgs sMstr) (defBody sMstr) (defScope sMstr) .none kV_mstr dc_mstr pm_mstr an_mstr cd_mstr ct_mstr), sl_mstr⟩)
    (c_mstr : PySem.W.codeIn K cd_mstr "Moment.__str__" = true)
    (k_mstr : PySem.W.keepIn K (.ref f_mstr) = true)
    (pg_M : PySem.W.plainGet K C_M Str.empty = true)
    (hd_M : PySem.W.hasDictIn K C_M = true)
    (po_M : PySem.W.plainOver K C_M = true)
    (sa_M : PySem.W.findIn K (.ref C_M) "__setattr__" = some (some (.builtin "object.__setattr__")))
    (mk_M : PySem.W.makesIn K C_M = true)
    (kc_M : PySem.W.keepIn K (.ref C_M) = true)
    (nt_M : PySem.W.findIn K (.ref C_M) "at" = some none)
    (nb_M : PySem.W.findIn K (.ref C_M) "__neg__" = some none)
    (ram : PySem.W.findIn K (.ref C_M) "__radd__" = some none)
    (rsm : PySem.W.findIn K (.ref C_M) "__rsub__" = some none)
    (ha_M : PySem.W.findIn K (.ref C_M) "__class__" = some (some (.builtin "object.__class__")))
    (hn_M : PySem.W.specialIn K (.builtin "object.__class__") "__get__" = some (some (.builtin "getset_descriptor.__get__")))
    (htk_M : PySem.W.takesIn K (.builtin "object.__class__") = some true)
    (hm_M : PySem.W.mroIn K C_M (.type "object") = some true)
    (sf_M : PySem.W.selfFirst K C_M = true)
    (tc_M : PySem.W.typeIn K (.ref C_M) = some (.type "type"))
    (s1_M : PySem.W.subIn K (.type "int") (.ref C_M) = some false)
    (s2_M : PySem.W.subIn K (.type "str") (.ref C_M) = some false)
    (s3_M : PySem.W.subIn K (.type "NoneType") (.ref C_M) = some false)
    (s4_M : PySem.W.subIn K (.type "list") (.ref C_M) = some false)
    (s5_M : PySem.W.subIn K (.ref C_M) (.type "int") = some false)
    (s6_M : PySem.W.subIn K (.ref C_M) (.type "str") = some false)
    (s7_M : PySem.W.subIn K (.ref C_M) (.type "NoneType") = some false)
    (s8_M : PySem.W.subIn K (.ref C_M) (.type "list") = some false)
    (nn_M : PySem.W.findIn K (.ref C_M) "__ne__" = some (some (.builtin "object.__ne__")))
    (sub_SM : PySem.W.subIn K (.ref C_S) (.ref C_M) = some false)
    (sub_MS : PySem.W.subIn K (.ref C_M) (.ref C_S) = some false)
    (a_bag : PySem.W.nsIn K mainGlobals "_law_bag" = some (some (.ref f_bag)))
    (l_bag : K.lookup f_bag = some ⟨oc_bag, od_bag, .func (PySem.W.fnOf "_law_bag" "_law_bag" (defArgs sBag) (defBody sBag) (defScope sBag) .none kV_bag dc_bag pm_bag an_bag cd_bag ct_bag), sl_bag⟩)
    (c_bag : PySem.W.codeIn K cd_bag "_law_bag" = true)
    (k_bag : PySem.W.keepIn K (.ref f_bag) = true)
    (a_take : PySem.W.nsIn K mainGlobals "_law_take" = some (some (.ref f_take)))
    (l_take : K.lookup f_take = some ⟨oc_take, od_take, .func (PySem.W.fnOf "_law_take" "_law_take" (defArgs sTake) (defBody sTake) (defScope sTake) .none kV_take dc_take pm_take an_take cd_take ct_take), sl_take⟩)
    (c_take : PySem.W.codeIn K cd_take "_law_take" = true)
    (k_take : PySem.W.keepIn K (.ref f_take) = true)
    (a_num : PySem.W.nsIn K mainGlobals "_law_number" = some (some (.ref f_num)))
    (l_num : K.lookup f_num = some ⟨oc_num, od_num, .func (PySem.W.fnOf "_law_number" "_law_number" (defArgs sNum) (defBody sNum) (defScope sNum) .none kV_num dc_num pm_num an_num cd_num ct_num), sl_num⟩)
    (c_num : PySem.W.codeIn K cd_num "_law_number" = true)
    (k_num : PySem.W.keepIn K (.ref f_num) = true)
    (a_isN : PySem.W.nsIn K mainGlobals "_law_is_number" = some (some (.ref f_isN)))
    (l_isN : K.lookup f_isN = some ⟨oc_isN, od_isN, .func (PySem.W.fnOf "_law_is_number" "_law_is_number" (defArgs sIsN) (defBody sIsN) (defScope sIsN) .none kV_isN dc_isN pm_isN an_isN cd_isN ct_isN), sl_isN⟩)
    (c_isN : PySem.W.codeIn K cd_isN "_law_is_number" = true)
    (k_isN : PySem.W.keepIn K (.ref f_isN) = true)
    (a_isS : PySem.W.nsIn K mainGlobals "_law_is_span" = some (some (.ref f_isS)))
    (l_isS : K.lookup f_isS = some ⟨oc_isS, od_isS, .func (PySem.W.fnOf "_law_is_span" "_law_is_span" (defArgs sIsS) (defBody sIsS) (defScope sIsS) .none kV_isS dc_isS pm_isS an_isS cd_isS ct_isS), sl_isS⟩)
    (c_isS : PySem.W.codeIn K cd_isS "_law_is_span" = true)
    (k_isS : PySem.W.keepIn K (.ref f_isS) = true)
    (a_isM : PySem.W.nsIn K mainGlobals "_law_is_moment" = some (some (.ref f_isM)))
    (l_isM : K.lookup f_isM = some ⟨oc_isM, od_isM, .func (PySem.W.fnOf "_law_is_moment" "_law_is_moment" (defArgs sIsM) (defBody sIsM) (defScope sIsM) .none kV_isM dc_isM pm_isM an_isM cd_isM ct_isM), sl_isM⟩)
    (c_isM : PySem.W.codeIn K cd_isM "_law_is_moment" = true)
    (k_isM : PySem.W.keepIn K (.ref f_isM) = true)
    (a_same : PySem.W.nsIn K mainGlobals "_law_same" = some (some (.ref f_same)))
    (l_same : K.lookup f_same = some ⟨oc_same, od_same, .func (PySem.W.fnOf "_law_same" "_law_same" (defArgs sSame) (defBody sSame) (defScope sSame) .none kV_same dc_same pm_same an_same cd_same ct_same), sl_same⟩)
    (c_same : PySem.W.codeIn K cd_same "_law_same" = true)
    (k_same : PySem.W.keepIn K (.ref f_same) = true)
    (a_right : PySem.W.nsIn K mainGlobals "_law_right" = some (some (.ref f_right)))
    (l_right : K.lookup f_right = some ⟨oc_right, od_right, .func (PySem.W.fnOf "_law_right" "_law_right" (defArgs sRight4) (defBody sRight4) (defScope sRight4) .none kV_right dc_right pm_right an_right cd_right ct_right), sl_right⟩)
    (c_right : PySem.W.codeIn K cd_right "_law_right" = true)
    (k_right : PySem.W.keepIn K (.ref f_right) = true)
    (a_law : PySem.W.nsIn K mainGlobals "law" = some (some (.ref f_law)))
    (l_law : K.lookup f_law = some ⟨oc_law, od_law, .func (PySem.W.fnOf "law" "law" (defArgs sLaw4) (defBody sLaw4) (defScope sLaw4) .none kV_law dc_law pm_law an_law cd_law ct_law), sl_law⟩)
    (c_law : PySem.W.codeIn K cd_law "law" = true)
    (k_law : PySem.W.keepIn K (.ref f_law) = true)
    (z_len : PySem.W.nsIn K mainGlobals "len" = some none)
    (z_abs : PySem.W.nsIn K mainGlobals "abs" = some none)
    (z_int : PySem.W.nsIn K mainGlobals "int" = some none)
    (z_bool : PySem.W.nsIn K mainGlobals "bool" = some none)
    (z_isinstance : PySem.W.nsIn K mainGlobals "isinstance" = some none)
    (z_range : PySem.W.nsIn K mainGlobals "range" = some none)
    (z_max : PySem.W.nsIn K mainGlobals "max" = some none)
    (z_min : PySem.W.nsIn K mainGlobals "min" = some none)
    (z_zip : PySem.W.nsIn K mainGlobals "zip" = some none)
    (z_str : PySem.W.nsIn K mainGlobals "str" = some none)
    (z_repr : PySem.W.nsIn K mainGlobals "repr" = some none)
    (z_NotImplemented : PySem.W.nsIn K mainGlobals "NotImplemented" = some none)
    : ∃ fd : FuncData, (∀ (s : Shared) (v : Value), BindsTo s fd ⟨[v], []⟩ [("_law_script", v)]) ∧ ∀ base : Heap, K.In base → base.Ns mainGlobals mg → FnOk l.prog w K mg base (L2.CX l.prog w) 5 fa fd ["_law_script"] (spLaw K) := by
  have e := hfa.symm.trans (PySem.W.mg_of X G a_law)
  cases e
  have F_sinit := fun_mk (st := sSInit) l_sinit c_sinit k_sinit
  have b_sinit := F_sinit.binds (ps := ["self", "ticks"]) fun _ _ _ _ _ _ us hl => match us, hl with | [_, _], _ => rfl
  have F_sadd := fun_mk (st := sSAdd) l_sadd c_sadd k_sadd
  have b_sadd := F_sadd.binds (ps := ["self", "other"]) fun _ _ _ _ _ _ us hl => match us, hl with | [_, _], _ => rfl
  have F_ssub := fun_mk (st := sSSub) l_ssub c_ssub k_ssub
  have b_ssub := F_ssub.binds (ps := ["self", "other"]) fun _ _ _ _ _ _ us hl => match us, hl with | [_, _], _ => rfl
  have F_sneg := fun_mk (st := sSNeg) l_sneg c_sneg k_sneg
  have b_sneg := F_sneg.binds (ps := ["self"]) fun _ _ _ _ _ _ us hl => match us, hl with | [_], _ => rfl
  have F_seq := fun_mk (st := sSeq) l_seq c_seq k_seq
  have b_seq := F_seq.binds (ps := ["self", "other"]) fun _ _ _ _ _ _ us hl => match us, hl with | [_, _], _ => rfl
  have cl_S : Cls K C_S := ⟨pg_S, hd_S, po_S, sa_S⟩
  have mgC_S := PySem.W.mg_of X G aC_S
  have F_minit := fun_mk (st := sMInit) l_minit c_minit k_minit
  have b_minit := F_minit.binds (ps := ["self", "at"]) fun _ _ _ _ _ _ us hl => match us, hl with | [_, _], _ => rfl
  have F_madd := fun_mk (st := sMAdd) l_madd c_madd k_madd
  have b_madd := F_madd.binds (ps := ["self", "other"]) fun _ _ _ _ _ _ us hl => match us, hl with | [_, _], _ => rfl
  have F_msub := fun_mk (st := sMSub) l_msub c_msub k_msub
  have b_msub := F_msub.binds (ps := ["self", "other"]) fun _ _ _ _ _ _ us hl => match us, hl with | [_, _], _ => rfl
  have F_meq := fun_mk (st := sMeq) l_meq c_meq k_meq
  have b_meq := F_meq.binds (ps := ["self", "other"]) fun _ _ _ _ _ _ us hl => match us, hl with | [_, _], _ => rfl
  have F_mlt := fun_mk (st := sMlt) l_mlt c_mlt k_mlt
  have b_mlt := F_mlt.binds (ps := ["self", "other"]) fun _ _ _ _ _ _ us hl => match us, hl with | [_, _], _ => rfl
  have F_mle := fun_mk (st := sMle) l_mle c_mle k_mle
  have b_mle := F_mle.binds (ps := ["self", "other"]) fun _ _ _ _ _ _ us hl => match us, hl with | [_, _], _ => rfl
  have F_mgt := fun_mk (st := sMgt) l_mgt c_mgt k_mgt
  have b_mgt := F_mgt.binds (ps := ["self", "other"]) fun _ _ _ _ _ _ us hl => match us, hl with | [_, _], _ => rfl
  have F_mge := fun_mk (st := sMge) l_mge c_mge k_mge
  have b_mge := F_mge.binds (ps := ["self", "other"]) fun _ _ _ _ _ _ us hl => match us, hl with | [_, _], _ => rfl
  have F_mrepr := fun_mk (st := sMrepr) l_mrepr c_mrepr k_mrepr
  have b_mrepr := F_mrepr.binds (ps := ["self"]) fun _ _ _ _ _ _ us hl => match us, hl with | [_], _ => rfl
  have F_mstr := fun_mk (st := sMstr) l_mstr c_mstr k_mstr
  have b_mstr := F_mstr.binds (ps := ["self"]) fun _ _ _ _ _ _ us hl => match us, hl with | [_], _ => rfl
  have cl_M : Cls K C_M := ⟨pg_M, hd_M, po_M, sa_M⟩
  have mgC_M := PySem.W.mg_of X G aC_M
  have F_bag := fun_mk (st := sBag) l_bag c_bag k_bag
  have b_bag := F_bag.binds (ps := ["_law_script", "_law_at"]) fun _ _ _ _ _ _ us hl => match us, hl with | [_, _], _ => rfl
  have mg_bag := PySem.W.mg_of X G a_bag
  have F_take := fun_mk (st := sTake) l_take c_take k_take
  have b_take := F_take.binds (ps := ["_law_bag_here", "_law_many"]) fun _ _ _ _ _ _ us hl => match us, hl with | [_, _], _ => rfl
  have mg_take := PySem.W.mg_of X G a_take
  have F_num := fun_mk (st := sNum) l_num c_num k_num
  have b_num := F_num.binds (ps := ["_law_bag_here"]) fun _ _ _ _ _ _ us hl => match us, hl with | [_], _ => rfl
  have mg_num := PySem.W.mg_of X G a_num
  have F_isN := fun_mk (st := sIsN) l_isN c_isN k_isN
  have b_isN := F_isN.binds (ps := ["_law_thing", "_law_due"]) fun _ _ _ _ _ _ us hl => match us, hl with | [_, _], _ => rfl
  have mg_isN := PySem.W.mg_of X G a_isN
  have F_isS := fun_mk (st := sIsS) l_isS c_isS k_isS
  have b_isS := F_isS.binds (ps := ["_law_thing", "_law_due"]) fun _ _ _ _ _ _ us hl => match us, hl with | [_, _], _ => rfl
  have mg_isS := PySem.W.mg_of X G a_isS
  have F_isM := fun_mk (st := sIsM) l_isM c_isM k_isM
  have b_isM := F_isM.binds (ps := ["_law_thing", "_law_due"]) fun _ _ _ _ _ _ us hl => match us, hl with | [_, _], _ => rfl
  have mg_isM := PySem.W.mg_of X G a_isM
  have F_same := fun_mk (st := sSame) l_same c_same k_same
  have b_same := F_same.binds (ps := ["_law_some", "_law_others"]) fun _ _ _ _ _ _ us hl => match us, hl with | [_, _], _ => rfl
  have mg_same := PySem.W.mg_of X G a_same
  have F_right := fun_mk (st := sRight4) l_right c_right k_right
  have b_right := F_right.binds (ps := ["_law_one", "_law_other", "_law_ticks"]) fun _ _ _ _ _ _ us hl => match us, hl with | [_, _, _], _ => rfl
  have mg_right := PySem.W.mg_of X G a_right
  have F_law := fun_mk (st := sLaw4) l_law c_law k_law
  have mg_law := PySem.W.mg_of X G a_law
  have bi_len : Bi mg "len" (.builtin "len") := ⟨PySem.W.mg_none_of X G z_len, by decide +kernel⟩
  have bi_abs : Bi mg "abs" (.builtin "abs") := ⟨PySem.W.mg_none_of X G z_abs, by decide +kernel⟩
  have bi_int : Bi mg "int" (.type "int") := ⟨PySem.W.mg_none_of X G z_int, by decide +kernel⟩
  have bi_bool : Bi mg "bool" (.type "bool") := ⟨PySem.W.mg_none_of X G z_bool, by decide +kernel⟩
  have bi_isinstance : Bi mg "isinstance" (.builtin "isinstance") := ⟨PySem.W.mg_none_of X G z_isinstance, by decide +kernel⟩
  have bi_range := PySem.W.mg_none_of X G z_range
  have bi_max : Bi mg "max" (.builtin "max") := ⟨PySem.W.mg_none_of X G z_max, by decide +kernel⟩
  have bi_min : Bi mg "min" (.builtin "min") := ⟨PySem.W.mg_none_of X G z_min, by decide +kernel⟩
  have bi_zip := PySem.W.mg_none_of X G z_zip
  have bi_str : Bi mg "str" (.type "str") := ⟨PySem.W.mg_none_of X G z_str, by decide +kernel⟩
  have bi_repr : Bi mg "repr" (.builtin "repr") := ⟨PySem.W.mg_none_of X G z_repr, by decide +kernel⟩
  have bi_NotImplemented := PySem.W.mg_none_of X G z_NotImplemented
  have T : SpT K mg C_S := ⟨cl_S, nt_S, mgC_S, ha_S, hn_S, htk_S, hm_S, sf_S⟩
  have TM : MoT K mg C_M := ⟨cl_M, nt_M, mgC_M, ha_M, hn_M, htk_M, hm_M, sf_M⟩
  have TN : NoT K C_S := ⟨isC_of hm_S, tc_S, s1_S, s2_S, s3_S, s4_S, s5_S, s6_S, s7_S, s8_S, nn_S⟩
  have TNM : NoT K C_M := ⟨isC_of hm_M, tc_M, s1_M, s2_M, s3_M, s4_M, s5_M, s6_M, s7_M, s8_M, nn_M⟩
  have ne : C_S ≠ C_M := fun z => by rw [z] at a_sneg; exact absurd (a_sneg.symm.trans nb_M) (by simp)
  have TT : TwT K mg C_S C_M := ⟨T, TM, TN, TNM, ne, sub_SM, sub_MS⟩
  have O : OpT K C_S C_M := ⟨ras, ram, rss, rsm, ⟨_, a_sadd⟩, ⟨_, a_madd⟩, ⟨_, a_ssub⟩⟩
  refine ⟨PySem.W.fnOf "law" "law" (defArgs sLaw4) (defBody sLaw4) (defScope sLaw4) .none kV_law dc_law pm_law an_law cd_law ct_law, fun s v => .of_eq rfl, fun base _ _ => ?_⟩
  have d_take : Df l.prog w K mg base "_law_take" 1 spTake := ⟨_, _, _, ok_take F_take bi_int, mg_take, k_take, b_take⟩
  have d_bag : Df l.prog w K mg base "_law_bag" 1 (spBag K) := ⟨_, _, _, ok_bag F_bag bi_len bi_abs bi_int, mg_bag, k_bag, b_bag⟩
  have d_num : Df l.prog w K mg base "_law_number" 2 spNum := ⟨_, _, _, ok_num F_num d_take, mg_num, k_num, b_num⟩
  have M : Mk K C_S f_sinit := ⟨mk_S, a_sinit, i_sinit, kc_S⟩
  have d_span : Dc l.prog w K mg base "Span" C_S 1 (spSInit C_S) := ⟨_, _, _, ok_sinit F_sinit T, mgC_S, M, b_sinit⟩
  have MM : Mk K C_M f_minit := ⟨mk_M, a_minit, i_minit, kc_M⟩
  have d_mom : Dc l.prog w K mg base "Moment" C_M 1 (spMInit C_M) := ⟨_, _, _, ok_minit F_minit TM, mgC_M, MM, b_minit⟩
  have kb := kb_of (ps := ["self", "at"]) (ks := ["at"]) F_minit fun _ _ _ _ _ _ us ws h1 h2 => match us, ws, h1, h2 with | [_], [_], _, _ => rfl
  have d_momK : Dck l.prog w K mg base "Moment" C_M ["at"] 1 (spMInit C_M) := ⟨_, _, _, ok_minit F_minit TM, mgC_M, MM, kb⟩
  have d_isN : Df l.prog w K mg base "_law_is_number" 1 spIsN := ⟨_, _, _, ok_isN F_isN bi_isinstance bi_int bi_bool, mg_isN, k_isN, b_isN⟩
  have d_isS : Df l.prog w K mg base "_law_is_span" 2 (spIsS C_S) := ⟨_, _, _, ok_isS F_isS T bi_isinstance d_isN, mg_isS, k_isS, b_isS⟩
  have d_isM : Df l.prog w K mg base "_law_is_moment" 2 (spIsM C_M) := ⟨_, _, _, ok_isM F_isM TM bi_isinstance d_isN, mg_isM, k_isM, b_isM⟩
  have d_same : Df l.prog w K mg base "_law_same" 1 (spSame K) := ⟨_, _, _, ok_same F_same bi_zip bi_isinstance bi_bool bi_len, mg_same, k_same, b_same⟩
  have d_sm : Dm l.prog w K mg base C_S "__add__" 3 (sp2 (fun H p n => IsSp C_S H p n) (fun H p n => IsMo C_M H p n) (fun H p n => IsMo C_M H p n) (· + ·)) := ⟨_, _, _, ok_saddM F_sadd TT bi_isinstance d_span d_mom, ⟨a_sadd, i_sadd, k_sadd⟩, b_sadd⟩
  have d_ms : Dm l.prog w K mg base C_M "__add__" 3 (sp2 (fun H p n => IsMo C_M H p n) (fun H p n => IsSp C_S H p n) (fun H p n => IsMo C_M H p n) (· + ·)) := ⟨_, _, _, ok_maddS F_madd TT bi_isinstance d_span d_mom, ⟨a_madd, i_madd, k_madd⟩, b_madd⟩
  have d_mms : Dm l.prog w K mg base C_M "__sub__" 3 (sp2 (fun H p n => IsMo C_M H p n) (fun H p n => IsSp C_S H p n) (fun H p n => IsMo C_M H p n) (· - ·)) := ⟨_, _, _, ok_msubS F_msub TT bi_isinstance d_span d_mom, ⟨a_msub, i_msub, k_msub⟩, b_msub⟩
  have d_mmm : Dm l.prog w K mg base C_M "__sub__" 3 (sp2 (fun H p n => IsMo C_M H p n) (fun H p n => IsMo C_M H p n) (fun H p n => IsSp C_S H p n) (· - ·)) := ⟨_, _, _, ok_msubM F_msub TT bi_isinstance d_span d_mom, ⟨a_msub, i_msub, k_msub⟩, b_msub⟩
  have d_neg : Dm l.prog w K mg base C_S "__neg__" 3 (spS1 C_S (- ·)) := ⟨_, _, _, ok_sneg F_sneg T d_span, ⟨a_sneg, i_sneg, k_sneg⟩, b_sneg⟩
  have d_eq : Dm l.prog w K mg base C_M "__eq__" 1 (spM2c C_M fun i j => decide (i = j)) := ⟨_, _, _, ok_meq F_meq TM bi_isinstance, ⟨a_meq, i_meq, k_meq⟩, b_meq⟩
  have d_lt : Dm l.prog w K mg base C_M "__lt__" 1 (spM2c C_M fun i j => decide (i < j)) := ⟨_, _, _, ok_mlt F_mlt TM bi_isinstance, ⟨a_mlt, i_mlt, k_mlt⟩, b_mlt⟩
  have d_le : Dm l.prog w K mg base C_M "__le__" 1 (spM2c C_M fun i j => decide (i ≤ j)) := ⟨_, _, _, ok_mle F_mle TM bi_isinstance, ⟨a_mle, i_mle, k_mle⟩, b_mle⟩
  have d_gt : Dm l.prog w K mg base C_M "__gt__" 1 (spM2c C_M fun i j => decide (j < i)) := ⟨_, _, _, ok_mgt F_mgt TM bi_isinstance, ⟨a_mgt, i_mgt, k_mgt⟩, b_mgt⟩
  have d_ge : Dm l.prog w K mg base C_M "__ge__" 1 (spM2c C_M fun i j => decide (j ≤ i)) := ⟨_, _, _, ok_mge F_mge TM bi_isinstance, ⟨a_mge, i_mge, k_mge⟩, b_mge⟩
  have d_repr : Dm l.prog w K mg base C_M "__repr__" 1 (spM1c C_M fun i => .str (reprM i)) := ⟨_, _, _, ok_mrepr F_mrepr TM, ⟨a_mrepr, i_mrepr, k_mrepr⟩, b_mrepr⟩
  have d_str : Dm l.prog w K mg base C_M "__str__" 1 (spM1c C_M fun i => .str (strM i)) := ⟨_, _, _, ok_mstr F_mstr TM, ⟨a_mstr, i_mstr, k_mstr⟩, b_mstr⟩
  have n_s : Dn l.prog w K mg base C_S "__eq__" 1 (preN K C_S) := ⟨_, _, _, ni_seq F_seq mgC_S bi_isinstance bi_NotImplemented, ⟨a_seq, i_seq, k_seq⟩, b_seq⟩
  have n_m : Dn l.prog w K mg base C_M "__eq__" 1 (preN K C_M) := ⟨_, _, _, ni_meq F_meq mgC_M bi_isinstance bi_NotImplemented, ⟨a_meq, i_meq, k_meq⟩, b_meq⟩
  have d_right : Df l.prog w K mg base "_law_right" 4 spRight4 := ⟨_, _, _, ok_right4 F_right TT O bi_str bi_repr d_isS d_isM d_same d_span d_mom d_momK d_sm d_ms d_mms d_mmm d_neg d_eq d_lt d_le d_gt d_ge n_s n_m d_repr d_str, mg_right, k_right, b_right⟩
  exact ok_law4 F_law bi_range bi_max bi_min bi_len d_bag d_num d_right
end Sx

open PySem PySem.W PyProof.Rows
set_option maxRecDepth 100000 in
set_option maxHeartbeats 0 in
theorem PySem.Challenge.cw_strayfiles_k04_moments_holds : PySem.Challenge.rw_strayfiles_k04_moments.Holds := by
  w_on; o_law; k_head; (case hw => w_witness2)
  k_fill
  refine L2.walk_of (l := PySem.Challenge.rw_strayfiles_k04_moments) (n := 63) (k := 5) (x := "_law_script") (CX := fun w => L2.CX PySem.Challenge.pw_strayfiles_k04_moments w) (sp := fun w => Sx.spLaw _) rfl (by decide) rfl ⟨rfl, by decide, by decide⟩ (fun w h Y => PySem.W.kIn_of Y) ?F (fun _ _ a ns hl _ hS => ⟨a, ns, rfl, hS, hl, fun _ => rfl⟩) (fun _ _ _ _ _ h => Sx.cx_false _ _ _ _ h)
  case F =>
    intro w mg fa h KX G hmg
    refine' Sx.all_mk (l := PySem.Challenge.rw_strayfiles_k04_moments) KX G hmg ?aC_S ?a_sinit ?i_sinit ?l_sinit ?c_sinit ?k_sinit ?a_sadd ?i_sadd ?l_sadd ?c_sadd ?k_sadd ?a_ssub ?i_ssub ?l_ssub ?c_ssub ?k_ssub ?a_sneg ?i_sneg ?l_sneg ?c_sneg ?k_sneg ?a_seq ?i_seq ?l_seq ?c_seq ?k_seq ?pg_S ?hd_S ?po_S ?sa_S ?mk_S ?kc_S ?nt_S ?ras ?rss ?ha_S ?hn_S ?htk_S ?hm_S ?sf_S ?tc_S ?s1_S ?s2_S ?s3_S ?s4_S ?s5_S ?s6_S ?s7_S ?s8_S ?nn_S ?aC_M ?a_minit ?i_minit ?l_minit ?c_minit ?k_minit ?a_madd ?i_madd ?l_madd ?c_madd ?k_madd ?a_msub ?i_msub ?l_msub ?c_msub ?k_msub ?a_meq ?i_meq ?l_meq ?c_meq ?k_meq ?a_mlt ?i_mlt ?l_mlt ?c_mlt ?k_mlt ?a_mle ?i_mle ?l_mle ?c_mle ?k_mle ?a_mgt ?i_mgt ?l_mgt ?c_mgt ?k_mgt ?a_mge ?i_mge ?l_mge ?c_mge ?k_mge ?a_mrepr ?i_mrepr ?l_mrepr ?c_mrepr ?k_mrepr ?a_mstr ?i_mstr ?l_mstr ?c_mstr ?k_mstr ?pg_M ?hd_M ?po_M ?sa_M ?mk_M ?kc_M ?nt_M ?nb_M ?ram ?rsm ?ha_M ?hn_M ?htk_M ?hm_M ?sf_M ?tc_M ?s1_M ?s2_M ?s3_M ?s4_M ?s5_M ?s6_M ?s7_M ?s8_M ?nn_M ?sub_SM ?sub_MS ?a_bag ?l_bag ?c_bag ?k_bag ?a_take ?l_take ?c_take ?k_take ?a_num ?l_num ?c_num ?k_num ?a_isN ?l_isN ?c_isN ?k_isN ?a_isS ?l_isS ?c_isS ?k_isS ?a_isM ?l_isM ?c_isM ?k_isM ?a_same ?l_same ?c_same ?k_same ?a_right ?l_right ?c_right ?k_right ?a_law ?l_law ?c_law ?k_law ?z_len ?z_abs ?z_int ?z_bool ?z_isinstance ?z_range ?z_max ?z_min ?z_zip ?z_str ?z_repr ?z_NotImplemented
    (case aC_S => k_is)
    (case a_sinit => k_is)
    (case i_sinit => k_is)
    (case l_sinit => k_is)
    (case c_sinit => k_is)
    (case k_sinit => k_is)
    (case a_sadd => k_is)
    (case i_sadd => k_is)
    (case l_sadd => k_is)
    (case c_sadd => k_is)
    (case k_sadd => k_is)
    (case a_ssub => k_is)
    (case i_ssub => k_is)
    (case l_ssub => k_is)
    (case c_ssub => k_is)
    (case k_ssub => k_is)
    (case a_sneg => k_is)
    (case i_sneg => k_is)
    (case l_sneg => k_is)
    (case c_sneg => k_is)
    (case k_sneg => k_is)
    (case a_seq => k_is)
    (case i_seq => k_is)
    (case l_seq => k_is)
    (case c_seq => k_is)
    (case k_seq => k_is)
    (case pg_S => k_is)
    (case hd_S => k_is)
    (case po_S => k_is)
    (case sa_S => k_is)
    (case mk_S => k_is)
    (case kc_S => k_is)
    (case nt_S => k_is)
    (case ras => k_is)
    (case rss => k_is)
    (case ha_S => k_is)
    (case hn_S => k_is)
    (case htk_S => k_is)
    (case hm_S => k_is)
    (case sf_S => k_is)
    (case tc_S => k_is)
    (case s1_S => k_is)
    (case s2_S => k_is)
    (case s3_S => k_is)
    (case s4_S => k_is)
    (case s5_S => k_is)
    (case s6_S => k_is)
    (case s7_S => k_is)
    (case s8_S => k_is)
    (case nn_S => k_is)
    (case aC_M => k_is)
    (case a_minit => k_is)
    (case i_minit => k_is)
    (case l_minit => k_is)
    (case c_minit => k_is)
    (case k_minit => k_is)
    (case a_madd => k_is)
    (case i_madd => k_is)
    (case l_madd => k_is)
    (case c_madd => k_is)
    (case k_madd => k_is)
    (case a_msub => k_is)
    (case i_msub => k_is)
    (case l_msub => k_is)
    (case c_msub => k_is)
    (case k_msub => k_is)
    (case a_meq => k_is)
    (case i_meq => k_is)
    (case l_meq => k_is)
    (case c_meq => k_is)
    (case k_meq => k_is)
    (case a_mlt => k_is)
    (case i_mlt => k_is)
    (case l_mlt => k_is)
    (case c_mlt => k_is)
    (case k_mlt => k_is)
    (case a_mle => k_is)
    (case i_mle => k_is)
    (case l_mle => k_is)
    (case c_mle => k_is)
    (case k_mle => k_is)
    (case a_mgt => k_is)
    (case i_mgt => k_is)
    (case l_mgt => k_is)
    (case c_mgt => k_is)
    (case k_mgt => k_is)
    (case a_mge => k_is)
    (case i_mge => k_is)
    (case l_mge => k_is)
    (case c_mge => k_is)
    (case k_mge => k_is)
    (case a_mrepr => k_is)
    (case i_mrepr => k_is)
    (case l_mrepr => k_is)
    (case c_mrepr => k_is)
    (case k_mrepr => k_is)
    (case a_mstr => k_is)
    (case i_mstr => k_is)
    (case l_mstr => k_is)
    (case c_mstr => k_is)
    (case k_mstr => k_is)
    (case pg_M => k_is)
    (case hd_M => k_is)
    (case po_M => k_is)
    (case sa_M => k_is)
    (case mk_M => k_is)
    (case kc_M => k_is)
    (case nt_M => k_is)
    (case nb_M => k_is)
    (case ram => k_is)
    (case rsm => k_is)
    (case ha_M => k_is)
    (case hn_M => k_is)
    (case htk_M => k_is)
    (case hm_M => k_is)
    (case sf_M => k_is)
    (case tc_M => k_is)
    (case s1_M => k_is)
    (case s2_M => k_is)
    (case s3_M => k_is)
    (case s4_M => k_is)
    (case s5_M => k_is)
    (case s6_M => k_is)
    (case s7_M => k_is)
    (case s8_M => k_is)
    (case nn_M => k_is)
    (case sub_SM => k_is)
    (case sub_MS => k_is)
    (case a_bag => k_is)
    (case l_bag => k_is)
    (case c_bag => k_is)
    (case k_bag => k_is)
    (case a_take => k_is)
    (case l_take => k_is)
    (case c_take => k_is)
    (case k_take => k_is)
    (case a_num => k_is)
    (case l_num => k_is)
    (case c_num => k_is)
    (case k_num => k_is)
    (case a_isN => k_is)
    (case l_isN => k_is)
    (case c_isN => k_is)
    (case k_isN => k_is)
    (case a_isS => k_is)
    (case l_isS => k_is)
    (case c_isS => k_is)
    (case k_isS => k_is)
    (case a_isM => k_is)
    (case l_isM => k_is)
    (case c_isM => k_is)
    (case k_isM => k_is)
    (case a_same => k_is)
    (case l_same => k_is)
    (case c_same => k_is)
    (case k_same => k_is)
    (case a_right => k_is)
    (case l_right => k_is)
    (case c_right => k_is)
    (case k_right => k_is)
    (case a_law => k_is)
    (case l_law => k_is)
    (case c_law => k_is)
    (case k_law => k_is)
    (case z_len => k_is)
    (case z_abs => k_is)
    (case z_int => k_is)
    (case z_bool => k_is)
    (case z_isinstance => k_is)
    (case z_range => k_is)
    (case z_max => k_is)
    (case z_min => k_is)
    (case z_zip => k_is)
    (case z_str => k_is)
    (case z_repr => k_is)
    (case z_NotImplemented => k_is)
#print axioms PySem.Challenge.cw_strayfiles_k04_moments_holds
