import PyProof.Rows.All
import Wide.All
import OpenK.AllK
import Wide.FinOn
import HandS.ForMost
import HandS.ForExc
import HandS.Wide
import HandS.EndBits
import HandS.IsInst
import HandS.MakeKw
import HandS.Style
import HandS.MakeKwOnly
import HandS.OwnEq
import KE.KOpsOwn
import KE.KCallOwn
import HandS.FStr
import HandS.Zip
import HandS.Flow
import HandS.RaiseMore
import HandS.Property
import HandS.TupAny
import HandS.Deep
import PySem.Challenge.RW_strayfiles_k05_whole_sums_of_times
set_option Elab.async false
set_option linter.all false
set_option maxRecDepth 100000
set_option maxHeartbeats 4000000
/-! Sx: a walker by weakest conditions over the hand layer: each judgement is a structure over the syntax, the slots and the heap; one rule a construct. -/
namespace Sx
open PySem L2
open PyProof.Rows (subscriptTail)

/-! ### the judgements -/
structure E (X : Cx) (e : Expr) (σ : St) (H : Hp) (Q : VK) : Prop where
  run : ∀ (pins : List (Addr × Obj)) (s : Shared), Inv X pins σ H s → wpAny (model X.prog X.w) X.A (eval e X.env) (EP X pins σ Q) X.xe s
structure T (X : Cx) (e : Expr) (σ : St) (H : Hp) (Q : Bool → Hp → Prop) : Prop where
  run : ∀ (pins : List (Addr × Obj)) (s : Shared), Inv X pins σ H s → wpAny (model X.prog X.w) X.A (isTrue e X.env (eval e X.env)) (TP X pins σ Q) X.xe s
structure W (X : Cx) (e : Expr) (σ : St) (H : Hp) (Q : Bool → Hp → Prop) : Prop where
  run : ∀ (whole : Sem Value) (pins : List (Addr × Obj)) (s : Shared), Inv X pins σ H s → wpAny (model X.prog X.w) X.A (isTrue e X.env whole) (TP X pins σ Q) X.xe s
structure As (X : Cx) (es : List Expr) (σ : St) (H : Hp) (Q : List V → Hp → Prop) : Prop where
  run : ∀ (pos : Pos) (pins : List (Addr × Obj)) (s : Shared), Inv X pins σ H s → wpAny (model X.prog X.w) X.A (spliced (backTo pos (starEach es X.env))) (AP X pins σ Q) X.xe s
structure S (X : Cx) (st : Stmt) (nx : St → Hp → Prop) (rt : VK) (bk ct : St → Hp → Prop) (σ : St) (H : Hp) : Prop where
  run : ∀ (pins : List (Addr × Obj)) (s : Shared), Inv X pins σ H s → wpAny (model X.prog X.w) X.A (exec st X.env) (SP X pins ⟨nx, rt, bk, ct⟩) X.xe s
structure Ss (X : Cx) (st : List Stmt) (nx : St → Hp → Prop) (rt : VK) (bk ct : St → Hp → Prop) (σ : St) (H : Hp) : Prop where
  run : ∀ (pins : List (Addr × Obj)) (s : Shared), Inv X pins σ H s → wpAny (model X.prog X.w) X.A (execs st X.env) (SP X pins ⟨nx, rt, bk, ct⟩) X.xe s
structure G (X : Cx) (tg : Expr) (v : V) (σ : St) (H : Hp) (Q : St → Hp → Prop) : Prop where
  run : ∀ (pins : List (Addr × Obj)) (s : Shared) (u : Value), Inv X pins σ H s → RelV v u → wpAny (model X.prog X.w) X.A (assign tg X.env u) (fun _ s' => ∃ σ' H', Inv X pins σ' H' s' ∧ Q σ' H') X.xe s
structure Gs (X : Cx) (ts : List Expr) (vs : List V) (σ : St) (H : Hp) (Q : St → Hp → Prop) : Prop where
  run : ∀ (pins : List (Addr × Obj)) (s : Shared) (us : List Value), Inv X pins σ H s → Vals vs us → wpAny (model X.prog X.w) X.A (assignInOrder ((assignEach ts X.env).map (·.2)) us) (fun _ s' => ∃ σ' H', Inv X pins σ' H' s' ∧ Q σ' H') X.xe s
/-- an operation of two, of one, by values; a call by values; truth by value; a subscript by values; a store by values -/
structure B2 (X : Cx) (f : Value → Value → Sem Value) (x y : V) (H : Hp) (Q : VK) : Prop where
  run : ∀ (pins : List (Addr × Obj)) (s : Shared) (σ : St) (v u : Value), Inv X pins σ H s → RelV x v → RelV y u → wpAny (model X.prog X.w) X.A (f v u) (EP X pins σ Q) X.xe s
structure Bo (X : Cx) (op : Operator) (x y : V) (H : Hp) (Q : VK) : Prop where
  run : ∀ (pins : List (Addr × Obj)) (s : Shared) (σ : St) (v u : Value), Inv X pins σ H s → RelV x v → RelV y u → wpAny (model X.prog X.w) X.A (binaryOp op v u) (EP X pins σ Q) X.xe s
structure Co (X : Cx) (op : CmpOp) (x y : V) (H : Hp) (Q : VK) : Prop where
  run : ∀ (pins : List (Addr × Obj)) (s : Shared) (σ : St) (v u : Value), Inv X pins σ H s → RelV x v → RelV y u → wpAny (model X.prog X.w) X.A (compareOp op v u) (EP X pins σ Q) X.xe s
structure Io (X : Cx) (op : Operator) (x y : V) (H : Hp) (Q : VK) : Prop where
  run : ∀ (pins : List (Addr × Obj)) (s : Shared) (σ : St) (v u : Value), Inv X pins σ H s → RelV x v → RelV y u → wpAny (model X.prog X.w) X.A (inplaceOp op v u) (EP X pins σ Q) X.xe s
structure Uo (X : Cx) (op : UnaryOp) (x : V) (H : Hp) (Q : VK) : Prop where
  run : ∀ (pins : List (Addr × Obj)) (s : Shared) (σ : St) (v : Value), Inv X pins σ H s → RelV x v → wpAny (model X.prog X.w) X.A (unaryOp op v) (EP X pins σ Q) X.xe s
structure U1 (X : Cx) (f : Value → Sem Value) (x : V) (H : Hp) (Q : VK) : Prop where
  run : ∀ (pins : List (Addr × Obj)) (s : Shared) (σ : St) (v : Value), Inv X pins σ H s → RelV x v → wpAny (model X.prog X.w) X.A (f v) (EP X pins σ Q) X.xe s
structure C (X : Cx) (f : Value) (vs : List V) (H : Hp) (Q : VK) : Prop where
  run : ∀ (pins : List (Addr × Obj)) (s : Shared) (σ : St) (us : List Value), Inv X pins σ H s → Vals vs us → wpAny (model X.prog X.w) X.A (call f us) (EP X pins σ Q) X.xe s
structure Tr (X : Cx) (x : V) (H : Hp) (Q : Bool → Hp → Prop) : Prop where
  run : ∀ (pins : List (Addr × Obj)) (s : Shared) (σ : St) (u : Value), Inv X pins σ H s → RelV x u → wpAny (model X.prog X.w) X.A (truthy u) (TP X pins σ Q) X.xe s
structure Ix (X : Cx) (a b : Expr) (x y : V) (H : Hp) (Q : VK) : Prop where
  run : ∀ (pins : List (Addr × Obj)) (s : Shared) (σ : St) (v u : Value), Inv X pins σ H s → RelV x v → RelV y u → wpAny (model X.prog X.w) X.A (subscriptTail a b v u) (EP X pins σ Q) X.xe s
structure St3 (X : Cx) (o i v : V) (H : Hp) (Q : Hp → Prop) : Prop where
  run : ∀ (pins : List (Addr × Obj)) (s : Shared) (σ : St) (ov iv u : Value), Inv X pins σ H s → RelV o ov → RelV i iv → RelV v u → wpAny (model X.prog X.w) X.A (setItem ov iv u) (fun _ s' => ∃ H', Inv X pins σ H' s' ∧ Q H') X.xe s
/-- a method of a built-in type, by values -/
structure Mt (X : Cx) (id : String) (x : V) (xs : List V) (H : Hp) (Q : VK) : Prop where
  run : ∀ (pins : List (Addr × Obj)) (s : Shared) (σ : St) (v : Value) (us : List Value), Inv X pins σ H s → RelV x v → Vals xs us → wpAny (model X.prog X.w) X.A (call (.builtin id) (v :: us)) (EP X pins σ Q) X.xe s

section
variable {X : Cx} {e a b : Expr} {es : List Expr} {σ : St} {H : Hp} {Q : VK} {st : Stmt} {sts : List Stmt} {pos : Pos}
theorem pe : PE X e (fun σ H Q => E X e σ H Q) := ⟨fun pins s _ _ _ I h => h.run pins s I⟩
theorem pt : PT X e (fun σ H Q => T X e σ H Q) := ⟨fun pins s _ _ _ I h => h.run pins s I⟩
theorem pw : PW X e (fun σ H Q => W X e σ H Q) := ⟨fun w pins s _ _ _ I h => h.run w pins s I⟩
theorem pa : PA X es (fun σ H Q => As X es σ H Q) := ⟨fun pos pins s _ _ _ I h => h.run pos pins s I⟩
theorem ps : PS X st (fun D σ H => S X st D.nx D.rt D.bk D.ct σ H) := ⟨fun pins s _ _ _ I h => h.run pins s I⟩
theorem pss : PSs X sts (fun D σ H => Ss X sts D.nx D.rt D.bk D.ct σ H) := ⟨fun pins s _ _ _ I h => h.run pins s I⟩
theorem pg : PG X e (fun v σ H Q => G X e v σ H Q) := ⟨fun pins s _ _ _ u _ I r h => h.run pins s u I r⟩
theorem pgs : PGs X es (fun vs σ H Q => Gs X es vs σ H Q) := ⟨fun pins s _ _ _ us _ I r h => h.run pins s us I r⟩
theorem pop {f : Value → Value → Sem Value} : OpR X f (fun x y H Q => B2 X f x y H Q) := fun pins s σ _ _ _ v u _ I rx ry h => h.run pins s σ v u I rx ry
theorem pBo {op : Operator} : OpR X (binaryOp op) (fun x y H Q => Bo X op x y H Q) := fun pins s σ _ _ _ v u _ I rx ry h => h.run pins s σ v u I rx ry
theorem Bo.of {op : Operator} {r : R2} {x y : V} (h : OpR X (binaryOp op) r) (q : r x y H Q) : Bo X op x y H Q := ⟨fun pins s σ v u I rx ry => h pins s σ H x y v u Q I rx ry q⟩
theorem Bo.mono {op : Operator} {x y : V} {Q' : VK} (h : Bo X op x y H Q) (i : ∀ v H, Q v H → Q' v H) : Bo X op x y H Q' := ⟨fun pins s σ v u I r1 r2 => wpAny_mono (h.run pins s σ v u I r1 r2) (fun _ _ ⟨v, H', I', r, q⟩ => ⟨v, H', I', r, i _ _ q⟩) fun _ _ z => z⟩
theorem pCo {op : CmpOp} : OpR X (compareOp op) (fun x y H Q => Co X op x y H Q) := fun pins s σ _ _ _ v u _ I rx ry h => h.run pins s σ v u I rx ry
theorem Co.of {op : CmpOp} {r : R2} {x y : V} (h : OpR X (compareOp op) r) (q : r x y H Q) : Co X op x y H Q := ⟨fun pins s σ v u I rx ry => h pins s σ H x y v u Q I rx ry q⟩
theorem Co.mono {op : CmpOp} {x y : V} {Q' : VK} (h : Co X op x y H Q) (i : ∀ v H, Q v H → Q' v H) : Co X op x y H Q' := ⟨fun pins s σ v u I r1 r2 => wpAny_mono (h.run pins s σ v u I r1 r2) (fun _ _ ⟨v, H', I', r, q⟩ => ⟨v, H', I', r, i _ _ q⟩) fun _ _ z => z⟩
theorem pIo {op : Operator} : OpR X (inplaceOp op) (fun x y H Q => Io X op x y H Q) := fun pins s σ _ _ _ v u _ I rx ry h => h.run pins s σ v u I rx ry
theorem Io.of {op : Operator} {r : R2} {x y : V} (h : OpR X (inplaceOp op) r) (q : r x y H Q) : Io X op x y H Q := ⟨fun pins s σ v u I rx ry => h pins s σ H x y v u Q I rx ry q⟩
theorem Io.mono {op : Operator} {x y : V} {Q' : VK} (h : Io X op x y H Q) (i : ∀ v H, Q v H → Q' v H) : Io X op x y H Q' := ⟨fun pins s σ v u I r1 r2 => wpAny_mono (h.run pins s σ v u I r1 r2) (fun _ _ ⟨v, H', I', r, q⟩ => ⟨v, H', I', r, i _ _ q⟩) fun _ _ z => z⟩
theorem pUo {op : UnaryOp} : UnR X (unaryOp op) (fun x H Q => Uo X op x H Q) := fun pins s σ _ _ v _ I rx h => h.run pins s σ v I rx
theorem Uo.of {op : UnaryOp} {r : V → Hp → VK → Prop} {x : V} (h : UnR X (unaryOp op) r) (q : r x H Q) : Uo X op x H Q := ⟨fun pins s σ v I rx => h pins s σ H x v Q I rx q⟩
theorem pun {f : Value → Sem Value} : UnR X f (fun x H Q => U1 X f x H Q) := fun pins s σ _ _ v _ I rx h => h.run pins s σ v I rx
theorem pcall {f : Value} : CallR X f (fun vs H Q => C X f vs H Q) := fun pins s σ _ _ us _ I r h => h.run pins s σ us I r
theorem pmt {id : String} : MtR X id (fun x xs H Q => Mt X id x xs H Q) := fun pins s σ _ _ _ v us _ I r rs h => h.run pins s σ v us I r rs
theorem pset : PSet X (fun o i v H Q => St3 X o i v H Q) := fun pins s σ _ _ _ _ ov iv u _ I ro ri rv h => h.run pins s σ ov iv u I ro ri rv
theorem E.of {t : TE} (h : PE X e t) (q : t σ H Q) : E X e σ H Q := ⟨fun pins s I => h.run pins s σ H Q I q⟩
theorem T.of {t : TT} {Q : Bool → Hp → Prop} (h : PT X e t) (q : t σ H Q) : T X e σ H Q := ⟨fun pins s I => h.run pins s σ H Q I q⟩
theorem W.of {t : TT} {Q : Bool → Hp → Prop} (h : PW X e t) (q : t σ H Q) : W X e σ H Q := ⟨fun w pins s I => h.run w pins s σ H Q I q⟩
theorem As.of {t : TA} {Q : List V → Hp → Prop} (h : PA X es t) (q : t σ H Q) : As X es σ H Q := ⟨fun pos pins s I => h.run pos pins s σ H Q I q⟩
theorem S.of {t : TS} {nx : St → Hp → Prop} {rt : VK} {bk ct : St → Hp → Prop} (h : PS X st t) (q : t ⟨nx, rt, bk, ct⟩ σ H) : S X st nx rt bk ct σ H := ⟨fun pins s I => h.run pins s σ H _ I q⟩
theorem Ss.of {t : TS} {nx : St → Hp → Prop} {rt : VK} {bk ct : St → Hp → Prop} (h : PSs X sts t) (q : t ⟨nx, rt, bk, ct⟩ σ H) : Ss X sts nx rt bk ct σ H := ⟨fun pins s I => h.run pins s σ H _ I q⟩
theorem G.of {t : TG} {v : V} {Q : St → Hp → Prop} (h : PG X e t) (q : t v σ H Q) : G X e v σ H Q := ⟨fun pins s u I r => h.run pins s σ H v u Q I r q⟩
theorem Gs.of {t : TGs} {vs : List V} {Q : St → Hp → Prop} (h : PGs X es t) (q : t vs σ H Q) : Gs X es vs σ H Q := ⟨fun pins s us I r => h.run pins s σ H vs us Q I r q⟩
theorem B2.of {f : Value → Value → Sem Value} {r : R2} {x y : V} (h : OpR X f r) (q : r x y H Q) : B2 X f x y H Q := ⟨fun pins s σ v u I rx ry => h pins s σ H x y v u Q I rx ry q⟩
theorem U1.of {f : Value → Sem Value} {r : V → Hp → VK → Prop} {x : V} (h : UnR X f r) (q : r x H Q) : U1 X f x H Q := ⟨fun pins s σ v I rx => h pins s σ H x v Q I rx q⟩
theorem C.of {f : Value} {r : List V → Hp → VK → Prop} {vs : List V} (h : CallR X f r) (q : r vs H Q) : C X f vs H Q := ⟨fun pins s σ us I rv => h pins s σ H vs us Q I rv q⟩
theorem Mt.of {id : String} {r : V → List V → Hp → VK → Prop} {x : V} {xs : List V} (h : MtR X id r) (q : r x xs H Q) : Mt X id x xs H Q := ⟨fun pins s σ v us I rx rs => h pins s σ H x xs v us Q I rx rs q⟩
theorem Ix.of {r : R2} {x y : V} (h : IxR X r) (hs : PlainIx b) (q : r x y H Q) : Ix X a b x y H Q := ⟨fun pins s σ v u I rx ry => h a b pins s σ H x y v u Q I rx ry q (hs _ _)⟩
theorem St3.of {t : TSet} {o i v : V} {Q : Hp → Prop} (h : PSet X t) (q : t o i v H Q) : St3 X o i v H Q := ⟨fun pins s σ ov iv u I ro ri rv => h pins s σ H o i v ov iv u Q I ro ri rv q⟩
theorem Tr.of {x : V} {k : Bool} {Q : Bool → Hp → Prop} (h : TruV X.K x H k) (q : Q k H) : Tr X x H Q := ⟨fun pins s σ u I rx => tru_ok pins s σ H x u Q I rx ⟨k, h, q⟩⟩
end

/-! ### heaps: what is kept -/
/-- all but what stands at the addresses ws is kept -/
def Kp (ws : List Addr) (H H' : Hp) : Prop := ∀ a o, H a = some o → a ∉ ws → H' a = some o
theorem Kp.refl {ws : List Addr} {H : Hp} : Kp ws H H := fun _ _ h _ => h
theorem Kp.trans {ws : List Addr} {H H1 H2 : Hp} (a : Kp ws H H1) (b : Kp ws H1 H2) : Kp ws H H2 := fun c o h n => b c o (a c o h n) n
theorem ne_fresh {H : Hp} {a b : Addr} {o : HO} (h' : H b = none) (h : H a = some o) : a ≠ b := ne_of_none h h'
theorem Kp.getC {b : Addr} {ws : List Addr} {H H1 : Hp} {a : Addr} {o : HO} (k : Kp (b :: ws) H H1) (h : H a = some o) (n : a ∉ b :: ws) : H1 a = some o := k a o h n
theorem Kp.trC {b : Addr} {ws : List Addr} {H H1 H2 : Hp} (k : Kp [] H1 H2) (a : Kp (b :: ws) H H1) : Kp (b :: ws) H H2 := fun c o h n => k c o (a c o h n) (fun z => nomatch z)
theorem Kp.tr {ws : List Addr} {H H1 H2 : Hp} (b : Kp ws H1 H2) (a : Kp ws H H1) : Kp ws H H2 := a.trans b
theorem Kp.mono {ws us : List Addr} {H H1 : Hp} (a : Kp ws H H1) (h : ∀ x, x ∈ ws → x ∈ us) : Kp us H H1 := fun c o q n => a c o q fun z => n (h c z)
theorem Kp.get {ws : List Addr} {H H1 : Hp} {a : Addr} {o : HO} (k : Kp ws H H1) (h : H a = some o) (n : a ∉ ws) : H1 a = some o := k a o h n
theorem Kp.get0 {H H1 : Hp} {a : Addr} {o : HO} (k : Kp [] H H1) (h : H a = some o) : H1 a = some o := k a o h (fun z => nomatch z)
theorem Kp.same {H H1 : Hp} (k : Kp [] H H1) : Same H H1 := fun _ _ h => k.get0 h
theorem Kp.of_same {H H1 : Hp} (k : Same H H1) : Kp [] H H1 := fun a o h _ => k a o h
theorem Kp.any {ws : List Addr} {H H1 : Hp} (k : Kp [] H H1) : Kp ws H H1 := k.mono fun _ z => nomatch z
theorem Kp.seqL {K : PySem.W.Frag} {ws : List Addr} {H H1 : Hp} {a : Addr} {xs : List V} (k : Kp ws H H1) (h : SqL K H a xs) (n : a ∉ ws) : SqL K H1 a xs := by
  rcases h with (h | ⟨o, h⟩) | h
  · exact .inl (.inl (k _ _ h n))
  · exact .inl (.inr ⟨o, k _ _ h n⟩)
  · exact .inr h
theorem Kp.seqT {K : PySem.W.Frag} {ws : List Addr} {H H1 : Hp} {a : Addr} {xs : List V} (k : Kp ws H H1) (h : SqT K H a xs) (n : a ∉ ws) : SqT K H1 a xs := by
  rcases h with (h | ⟨o, h⟩) | h
  · exact .inl (.inl (k _ _ h n))
  · exact .inl (.inr ⟨o, k _ _ h n⟩)
  · exact .inr h
theorem Kp.seqL0 {K : PySem.W.Frag} {H H1 : Hp} {a : Addr} {xs : List V} (k : Kp [] H H1) (h : SqL K H a xs) : SqL K H1 a xs := k.seqL h fun z => nomatch z
theorem Kp.seqT0 {K : PySem.W.Frag} {H H1 : Hp} {a : Addr} {xs : List V} (k : Kp [] H H1) (h : SqT K H a xs) : SqT K H1 a xs := k.seqT h fun z => nomatch z
theorem Kp.seqLC {K : PySem.W.Frag} {b : Addr} {ws : List Addr} {H H1 : Hp} {a : Addr} {xs : List V} (k : Kp (b :: ws) H H1) (h : SqL K H a xs) (n : a ∉ b :: ws) : SqL K H1 a xs := k.seqL h n
theorem Kp.seqTC {K : PySem.W.Frag} {b : Addr} {ws : List Addr} {H H1 : Hp} {a : Addr} {xs : List V} (k : Kp (b :: ws) H H1) (h : SqT K H a xs) (n : a ∉ b :: ws) : SqT K H1 a xs := k.seqT h n
theorem kp_new {H : Hp} {p : Addr} {o : HO} (h : H p = none) : Kp [] H (upd H p o) := fun a u e _ => by rw [upd_ne (ne_of_none e h)]; exact e
theorem kp_mut {H : Hp} {p : Addr} {o : HO} : Kp [p] H (upd H p o) := fun a u e n => by rw [upd_ne (fun z => n (by rw [z]; exact List.mem_singleton.mpr rfl))]; exact e
theorem Kp.free {ws : List Addr} {H H1 : Hp} {p : Addr} (k : Kp ws H H1) (h : H1 p = none) (n : p ∉ ws) : H p = none := by
  cases q : H p with
  | none => rfl
  | some o => rw [k p o q n] at h; cases h
/-- a new object: the new heap is a letter -/
theorem new_heap {H : Hp} {p : Addr} {o : HO} {R : Hp → Prop} (h : H p = none) (k : ∀ H', Kp [] H H' → H' p = some o → R H') : R (upd H p o) := k _ (kp_new h) upd_same
theorem mut_heap {H : Hp} {p : Addr} {o : HO} {R : Hp → Prop} (k : ∀ H', Kp [p] H H' → H' p = some o → R H') : R (upd H p o) := k _ kp_mut upd_same

/-! ### names and slots -/
inductive Get : List Str → St → Str → V → Prop where
  | here {N : List Str} {σ : St} {x : Str} {v : V} : Get (x :: N) (some v :: σ) x v
  | there {N : List Str} {σ : St} {x y : Str} {v : V} {o : Option V} (h : Get N σ x v) : Get (y :: N) (o :: σ) x v
inductive SetF : List Str → St → Str → (V → St) → Prop where
  | here {N : List Str} {σ : St} {x : Str} {o : Option V} : SetF (x :: N) (o :: σ) x (fun v => some v :: σ)
  | there {N : List Str} {σ : St} {x y : Str} {o : Option V} {f : V → St} (h : SetF N σ x f) : SetF (y :: N) (o :: σ) x (fun v => o :: f v)
theorem Get.ix {N : List Str} {σ : St} {x : Str} {v : V} (g : Get N σ x v) : ∃ i : Nat, N[i]? = some x ∧ σ[i]? = some (some v) := by
  induction g with
  | here => exact ⟨0, rfl, rfl⟩
  | there _ ih => obtain ⟨i, h1, h2⟩ := ih; exact ⟨i + 1, by simpa using h1, by simpa using h2⟩
theorem SetF.ix {N : List Str} {σ : St} {x : Str} {f : V → St} (g : SetF N σ x f) : ∃ i : Nat, N[i]? = some x ∧ ∀ v, σ.set i (some v) = f v := by
  induction g with
  | here => exact ⟨0, rfl, fun _ => rfl⟩
  | there _ ih => obtain ⟨i, h1, h2⟩ := ih; exact ⟨i + 1, by simpa using h1, fun v => by rw [List.set_cons_succ, h2]⟩
theorem Get.mem {N : List Str} {σ : St} {x : Str} {v : V} (g : Get N σ x v) : x ∈ N := by
  obtain ⟨i, h, _⟩ := g.ix
  exact List.mem_of_getElem? h
theorem SetF.mem {N : List Str} {σ : St} {x : Str} {f : V → St} (g : SetF N σ x f) : x ∈ N := by
  obtain ⟨i, h, _⟩ := g.ix
  exact List.mem_of_getElem? h

/-- a def's names are its own, its globals are global: by one look at the scope -/
def okNames (N GL : List Str) (sc : Scope) : Bool :=
  (N.all fun x => (decide (sc.names.lookup x = some .local) || decide (sc.names.lookup x = some .cell)) && !(x == ("__debug__" : Str)) && !(x == ("__classdict__" : Str))) &&
  (GL.all fun x => decide (sc.names.lookup x = some .globalImplicit) && !(x == ("__debug__" : Str)) && decide (x ≠ ("__name__" : Str)))
/-- where one stands -/
structure Xk (X : Cx) (P : Program) (w : World) (K : PySem.W.Frag) (mg : Str → Option Value) (base : Heap) (sc : Scope) (N GL : List Str) (k : Nat) (E : XK) : Prop where
  prog : X.prog = P
  w : X.w = w
  K : X.K = K
  mg : X.mg = mg
  base : X.base = base
  n : X.N = N
  nd : N.Nodup
  loc : ∀ x ∈ N, Loc X.env.scope x ∧ (x == ("__debug__" : Str)) = false ∧ (x == ("__classdict__" : Str)) = false
  gl : ∀ x ∈ GL, Gl X x ∧ (x == ("__debug__" : Str)) = false ∧ x ≠ ("__name__" : Str)
  fn : ∀ x, X.fn x = true
  room : Room k X.A
  calm : X.calm = true
  tk : Takes X (fun c d _ H => E c d H)
  po : PassesOwn (model X.prog X.w) X.A X.env X.xe
  ev : ∃ (q : Str) (L f : Addr) (cd : Value), X.env = PyProof.Rows.envOfC q sc L f cd
section
variable {P : Program} {w : World} {K : PySem.W.Frag} {mg : Str → Option Value} {base : Heap}
theorem names_ok {X : Cx} {N GL : List Str} (h : okNames N GL X.env.scope = true) :
    (∀ x ∈ N, Loc X.env.scope x ∧ (x == ("__debug__" : Str)) = false ∧ (x == ("__classdict__" : Str)) = false) ∧ ∀ x ∈ GL, Gl X x ∧ (x == ("__debug__" : Str)) = false ∧ x ≠ ("__name__" : Str) := by
  unfold okNames at h
  rw [Bool.and_eq_true, List.all_eq_true, List.all_eq_true] at h
  refine ⟨fun x hx => ?_, fun x hx => ?_⟩
  · have q := h.1 x hx
    simp only [Bool.and_eq_true, Bool.or_eq_true, decide_eq_true_eq, Bool.not_eq_true'] at q
    exact ⟨q.1.1, q.1.2, q.2⟩
  · have q := h.2 x hx
    simp only [Bool.and_eq_true, decide_eq_true_eq, Bool.not_eq_true'] at q
    exact ⟨q.1.1, q.1.2, q.2⟩
/-- THE RULE for a def: its body walked -/
theorem fun_go {x qual : Str} {st : Stmt} {f : Addr} {fd : FuncData} {N ps : List Str} (GL : List Str) {k : Nat} {sp : Sp} (F : Fun K x qual st f fd) (S : FnScope N ps (defScope st)) (hok : okNames N GL (defScope st) = true) (len : ∀ vs H Q E, sp vs H Q E → vs.length = ps.length)
    (body : ∀ (X : Cx) (H : Hp) (vs : List V) (Q : VK) (E : XK), Xk X P w K mg base (defScope st) N GL k E → sp vs H Q E → Ss X (defBody st) (fun _ H' => Q .non H') Q (fun _ _ => False) (fun _ _ => False) (start N vs) H) :
    FnOk P w K mg base (L2.CX P w) (k + 1) f fd ps sp := by
  refine F.okX S len fun cdv A outer s H vs Q E hr h => ⟨_, pss, ?_⟩
  have q := names_ok (X := cxOf (L2.CX P w) P w K mg base N qual (defScope st) f cdv A outer s H E) (N := N) (GL := GL) hok
  exact body _ H vs Q E ⟨rfl, rfl, rfl, rfl, rfl, rfl, S.nd, q.1, q.2, fun _ => rfl, hr, rfl, takes_of rfl rfl rfl rfl, passes_of rfl, _, _, _, _, rfl⟩ h
end
end Sx
set_option Elab.async false
set_option linter.all false
set_option maxRecDepth 100000
set_option maxHeartbeats 4000000
/-! SxR: the walker's rules. -/
namespace Sx
open PySem L2
open PyProof.Rows (subscriptTail)

/-- a def that stands at its name: callable with positional arguments -/
def Df (P : Program) (w : World) (K : PySem.W.Frag) (mg : Str → Option Value) (base : Heap) (x : Str) (j : Nat) (sp : Sp) : Prop :=
  ∃ (f : Addr) (fd : FuncData) (ps : List Str), FnOk P w K mg base (L2.CX P w) j f fd ps sp ∧ mg x = some (.ref f) ∧ PySem.W.keepIn K (.ref f) = true ∧ Binds K fd ps []
/-- a class that stands at its name, made by its __init__ -/
def Dc (P : Program) (w : World) (K : PySem.W.Frag) (mg : Str → Option Value) (base : Heap) (x : Str) (Cl : Addr) (j : Nat) (sp : Sp) : Prop :=
  ∃ (f : Addr) (fd : FuncData) (ps : List Str), FnOk P w K mg base (L2.CX P w) j f fd ps sp ∧ mg x = some (.ref Cl) ∧ Mk K Cl f ∧ Binds K fd ps []
/-- a method of the class at C -/
def Dm (P : Program) (w : World) (K : PySem.W.Frag) (mg : Str → Option Value) (base : Heap) (Cl : Addr) (m : Str) (j : Nat) (sp : Sp) : Prop :=
  ∃ (f : Addr) (fd : FuncData) (ps : List Str), FnOk P w K mg base (L2.CX P w) j f fd ps sp ∧ Meth K Cl m f ∧ Binds K fd ps []
/-- a built-in name -/
def Bi (mg : Str → Option Value) (x : Str) (u : Value) : Prop := mg x = none ∧ bootBuiltins x = some u

/-- two ways -/
def Br (c : Bool) (A B : Prop) : Prop := (c = true → A) ∧ (c = false → B)
theorem Br.ite {c : Bool} {A B : Prop} (h : Br c A B) : if c = true then A else B := by
  cases c with
  | true => rw [if_pos rfl]; exact h.1 rfl
  | false => rw [if_neg Bool.false_ne_true]; exact h.2 rfl
theorem br_t {A B : Prop} (h : A) : Br true A B := ⟨fun _ => h, (fun z => nomatch z)⟩
theorem br_f {A B : Prop} (h : B) : Br false A B := ⟨(fun z => nomatch z), fun _ => h⟩
theorem br_d {p : Prop} [Decidable p] {A B : Prop} (h1 : p → A) (h2 : ¬ p → B) : Br (decide p) A B := ⟨fun z => h1 (of_decide_eq_true z), fun z => h2 (of_decide_eq_false z)⟩
theorem br_dt {p : Prop} [Decidable p] {A B : Prop} (hp : p) (h1 : A) : Br (decide p) A B := br_d (fun _ => h1) fun z => absurd hp z
theorem br_df {p : Prop} [Decidable p] {A B : Prop} (hp : ¬ p) (h1 : B) : Br (decide p) A B := br_d (fun z => absurd z hp) fun _ => h1
theorem br_n {c : Bool} {A B : Prop} (h : Br c B A) : Br (!c) A B := by
  cases c with
  | true => exact br_f (h.1 rfl)
  | false => exact br_t (h.2 rfl)
theorem br_any {c : Bool} {A B : Prop} (h1 : c = true → A) (h2 : c = false → B) : Br c A B := ⟨h1, h2⟩

/-! ### an instance's fields, as a list -/
inductive PutR : Str → V → List (Str × V) → List (Str × V) → Prop where
  | nil {f : Str} {v : V} : PutR f v [] [(f, v)]
  | here {f : Str} {v y : V} {r : List (Str × V)} : PutR f v ((f, y) :: r) ((f, v) :: r)
  | there {f g : Str} {v y : V} {r r' : List (Str × V)} (n : g ≠ f) (h : PutR f v r r') : PutR f v ((g, y) :: r) ((g, y) :: r')
theorem PutR.eq {f : Str} {v : V} {fs fs' : List (Str × V)} (h : PutR f v fs fs') : putF f v fs = fs' := by
  induction h with
  | nil => rfl
  | here => show (if _ = _ then _ else _) = _; rw [if_pos rfl]
  | there n _ ih => show (if _ = _ then _ else _) = _; rw [if_neg n, ih]
theorem lk_here {f : Str} {v : V} {r : List (Str × V)} : ((f, v) :: r).lookup f = some v := by simp [List.lookup]
theorem lk_there {f g : Str} {v y : V} {r : List (Str × V)} (n : f ≠ g) (h : r.lookup f = some v) : ((g, y) :: r).lookup f = some v := by
  have e : (f == g) = false := beq_eq_false_iff_ne.mpr n
  simp only [List.lookup, e]
  exact h
theorem lkn_nil {f : Str} : ([] : List (Str × V)).lookup f = none := rfl
theorem lkn_there {f g : Str} {y : V} {r : List (Str × V)} (n : f ≠ g) (h : r.lookup f = none) : ((g, y) :: r).lookup f = none := by
  have e : (f == g) = false := beq_eq_false_iff_ne.mpr n
  simp only [List.lookup, e]
  exact h

theorem mem_hd {x : Str} {r : List Str} : x ∈ x :: r := List.mem_cons_self
theorem mem_tl {x y : Str} {r : List Str} (h : x ∈ r) : x ∈ y :: r := List.mem_cons_of_mem _ h
theorem ni_nil {a : Addr} : a ∉ ([] : List Addr) := fun z => nomatch z
theorem ni_cons {a b : Addr} {ws : List Addr} (h : a ≠ b) (n : a ∉ ws) : a ∉ b :: ws := fun z => (List.mem_cons.mp z).elim h n
inductive LSet : List V → Nat → V → List V → Prop where
  | here {x v : V} {r : List V} : LSet (x :: r) 0 v (v :: r)
  | there {x v : V} {r r' : List V} {j : Nat} (h : LSet r j v r') : LSet (x :: r) (j + 1) v (x :: r')
theorem LSet.eq {xs xs' : List V} {j : Nat} {v : V} (h : LSet xs j v xs') : xs.set j v = xs' := by
  induction h with
  | here => rfl
  | there _ ih => rw [List.set_cons_succ, ih]
/-- the slots at a def's beginning -/
inductive Start : List Str → List V → St → Prop where
  | done : Start [] [] []
  | non {x : Str} {N : List Str} {σ : St} (h : Start N [] σ) : Start (x :: N) [] (none :: σ)
  | val {x : Str} {v : V} {N : List Str} {vs : List V} {σ : St} (h : Start N vs σ) : Start (x :: N) (v :: vs) (some v :: σ)
theorem Start.eq {N : List Str} {vs : List V} {σ : St} (h : Start N vs σ) : L2.start N vs = σ := by
  induction h with
  | done => rfl
  | @non x N σ h ih =>
    unfold L2.start at ih ⊢
    rw [← ih]
    show List.replicate (N.length + 1) none = none :: List.replicate N.length none
    rfl
  | @val x v N vs σ h ih =>
    unfold L2.start at ih ⊢
    rw [← ih]
    simp
theorem start_go {X : Cx} {N : List Str} {vs : List V} {σ : St} {H : Hp} {sts : List Stmt} {nx bk ct : St → Hp → Prop} {rt : VK} (h : Start N vs σ) (q : Ss X sts nx rt bk ct σ H) : Ss X sts nx rt bk ct (L2.start N vs) H := by
  rw [h.eq]
  exact q

/-- a new tuple, a new list -/
structure NewT (xs : List V) (H : Hp) (Q : VK) : Prop where
  len : xs.length ≤ sizeLine
  q : ∀ p H', H p = none → Kp [] H H' → H' p = some (.tup xs) → Q (.ref p) H'
structure NewL (xs : List V) (H : Hp) (Q : VK) : Prop where
  len : xs.length ≤ sizeLine
  q : ∀ p H', H p = none → Kp [] H H' → H' p = some (.lst xs) → Q (.ref p) H'
/-- a field read, stored -/
structure FldR (K : PySem.W.Frag) (x : V) (f : Str) (H : Hp) (Q : VK) : Prop where
  ex : ∃ a Cl dx fs v, x = .ref a ∧ H a = some (.ins Cl dx fs) ∧ Cls K Cl ∧ NoAttr K Cl f ∧ fs.lookup f = some v ∧ Q v H
structure FldS (K : PySem.W.Frag) (x : V) (f : Str) (y : V) (H : Hp) (R : Hp → Prop) : Prop where
  ex : ∃ a Cl dx fs fs', x = .ref a ∧ H a = some (.ins Cl dx fs) ∧ Cls K Cl ∧ NoAttr K Cl f ∧ fs.length < 1000 ∧ PutR f y fs fs' ∧ ∀ H3, Kp [a] H H3 → H3 a = some (.ins Cl dx fs') → R H3
section
variable {X : Cx} {P : Program} {w : World} {K : PySem.W.Frag} {mg : Str → Option Value} {base : Heap} {sc : Scope} {N GL : List Str} {k : Nat} {EX : XK}
variable {e a b c o : Expr} {es rest : List Expr} {σ : St} {H : Hp} {Q : VK} {TQ : Bool → Hp → Prop} {pos pos' apos p : Pos} {x m : Str} {v : V}

/-! ### names, constants -/
theorem e_var (xk : Xk X P w K mg base sc N GL k EX) (g : Get N σ x v) (q : Q v H) : E X (.Name x pos) σ H Q := by
  obtain ⟨i, h1, h2⟩ := g.ix
  have z := xk.loc x g.mem
  have vis : Vis X.env.scope x := by rcases z.1 with y | y; exact .inl y; exact .inr (.inl y)
  exact .of (pe_var (i := i) (by rw [xk.n]; exact h1) vis z.2.1 z.2.2) ⟨v, h2, q⟩
theorem e_glob {u : Value} (xk : Xk X P w K mg base sc N GL k EX) (hg : x ∈ GL) (hm : mg x = some u) (r : RelV v u) (q : Q v H) : E X (.Name x pos) σ H Q :=
  .of (pe_glob (xk.gl x hg).1 (by rw [xk.mg]; exact hm) r (xk.gl x hg).2.1) q
theorem e_bltn {u : Value} (xk : Xk X P w K mg base sc N GL k EX) (hg : x ∈ GL) (hb : Bi mg x u) (r : RelV v u) (q : Q v H) : E X (.Name x pos) σ H Q :=
  .of (pe_bltn (xk.gl x hg).1 (by rw [xk.mg]; exact hb.1) hb.2 r (xk.gl x hg).2.2 (xk.gl x hg).2.1) q
theorem e_int {i : Int} {j : Nat} (q : Q (.int i) H) : E X (.Constant (.int i) j pos) σ H Q := .of pe_int q
theorem e_bl {i : Bool} {j : Nat} (q : Q (.bl i) H) : E X (.Constant (.bool i) j pos) σ H Q := .of pe_bl q
theorem e_non {j : Nat} (q : Q .non H) : E X (.Constant .none j pos) σ H Q := .of pe_non q
theorem e_str {i : Str} {j : Nat} (q : Q (.str i) H) : E X (.Constant (.str i) j pos) σ H Q := .of pe_str q

/-! ### operators -/
theorem e_bin {op : Operator} (h : E X a σ H fun x H1 => E X b σ H1 fun y H2 => Bo X op x y H2 Q) : E X (.BinOp a op b pos) σ H Q := .of (pe_op pBo pe pe) h
theorem e_neg (h : E X a σ H fun x H1 => Uo X .USub x H1 Q) : E X (.UnaryOp .USub a pos) σ H Q := .of (pe_un pUo pe) h
theorem e_cmp {op : CmpOp} (hm : behindInMarks op b = false) (h : E X a σ H fun x H1 => E X b σ H1 fun y H2 => Co X op x y H2 Q) : E X (.Compare a [op] [b] pos) σ H Q := .of (pe_cmpR pCo pe pe hm) h
theorem e_one {op : BoolOp} (h : E X a σ H Q) : E X (.BoolOp op [a] pos) σ H Q := .of (pe_one pe) h
theorem E.mono {Q' : VK} (h : E X e σ H Q) (i : ∀ v H, Q v H → Q' v H) : E X e σ H Q' := ⟨fun pins s I => wpAny_mono (h.run pins s I) (fun _ _ ⟨v, H', I', r, q⟩ => ⟨v, H', I', r, i _ _ q⟩) fun _ _ z => z⟩
theorem T.mono {Q' : Bool → Hp → Prop} (h : T X e σ H TQ) (i : ∀ v H, TQ v H → Q' v H) : T X e σ H Q' := ⟨fun pins s I => wpAny_mono (h.run pins s I) (fun _ _ ⟨H', I', q⟩ => ⟨H', I', i _ _ q⟩) fun _ _ z => z⟩
theorem As.mono {R R' : List V → Hp → Prop} (h : As X es σ H R) (i : ∀ v H, R v H → R' v H) : As X es σ H R' := ⟨fun pos pins s I => wpAny_mono (h.run pos pins s I) (fun _ _ ⟨v, H', I', r, q⟩ => ⟨v, H', I', r, i _ _ q⟩) fun _ _ z => z⟩
theorem C.mono {f : Value} {vs : List V} {Q' : VK} (h : C X f vs H Q) (i : ∀ v H, Q v H → Q' v H) : C X f vs H Q' := ⟨fun pins s σ us I r => wpAny_mono (h.run pins s σ us I r) (fun _ _ ⟨v, H', I', r, q⟩ => ⟨v, H', I', r, i _ _ q⟩) fun _ _ z => z⟩
theorem B2.mono {f : Value → Value → Sem Value} {x y : V} {Q' : VK} (h : B2 X f x y H Q) (i : ∀ v H, Q v H → Q' v H) : B2 X f x y H Q' := ⟨fun pins s σ v u I r1 r2 => wpAny_mono (h.run pins s σ v u I r1 r2) (fun _ _ ⟨v, H', I', r, q⟩ => ⟨v, H', I', r, i _ _ q⟩) fun _ _ z => z⟩
theorem e_and (h : E X a σ H fun x H1 => ∃ q, x = .bl q ∧ Br q (E X (.BoolOp .And (b :: rest) pos) σ H1 Q) (Q (.bl false) H1)) : E X (.BoolOp .And (a :: b :: rest) pos) σ H Q :=
  .of (pe_and pe pe) (h.mono fun _ _ ⟨q, e, z⟩ => ⟨q, e, z.ite⟩)
theorem e_or (h : E X a σ H fun x H1 => ∃ q, x = .bl q ∧ Br q (Q (.bl true) H1) (E X (.BoolOp .Or (b :: rest) pos) σ H1 Q)) : E X (.BoolOp .Or (a :: b :: rest) pos) σ H Q :=
  .of (pe_or pe pe) (h.mono fun _ _ ⟨q, e, z⟩ => ⟨q, e, z.ite⟩)
theorem e_notV (h : E X a σ H fun x H1 => ∃ q, x = .bl q ∧ Q (.bl (!q)) H1) : E X (.UnaryOp .Not a pos) σ H Q := .of (pe_not pe) h
theorem e_if (h : T X c σ H fun q H1 => Br q (E X a σ H1 Q) (E X b σ H1 Q)) : E X (.IfExp c a b pos) σ H Q := .of (pe_ifExp pt pe pe) (h.mono fun _ _ z => z.ite)

/-! ### tests -/
theorem t_cmp {op : CmpOp} (hm : behindInMarks op b = false) (h : E X a σ H fun x H1 => E X b σ H1 fun y H2 => Co X op x y H2 fun z H3 => ∃ q, z = .bl q ∧ TQ q H3) : T X (.Compare a [op] [b] pos) σ H TQ := .of (pt_cmpR pCo pe pe hm) h
theorem e_chain {op op' : CmpOp} (h : E X a σ H fun x H1 => E X b σ H1 fun y H2 => Co X op x y H2 fun z H3 => ∃ q, z = .bl q ∧ Br q (E X c σ H3 fun z' H4 => Co X op' y z' H4 Q) (Q (.bl false) H3))
    (hm : lastMarks [op, op'] [b, c] = false := by with_unfolding_all rfl) : E X (.Compare a [op, op'] [b, c] pos) σ H Q :=
  .of (pe_chain pCo pCo pe pe pe hm) (h.mono fun _ _ h => h.mono fun _ _ h => h.mono fun _ _ ⟨q, ez, z⟩ => ⟨q, ez, z.ite⟩)
theorem t_chain {op op' : CmpOp} (h : E X a σ H fun x H1 => E X b σ H1 fun y H2 => Co X op x y H2 fun z H3 => ∃ q, z = .bl q ∧ Br q (E X c σ H3 fun z' H4 => Co X op' y z' H4 fun z H3 => ∃ q, z = .bl q ∧ TQ q H3) (TQ false H3))
    (hm : lastMarks [op, op'] [b, c] = false := by with_unfolding_all rfl) : T X (.Compare a [op, op'] [b, c] pos) σ H TQ :=
  .of (pt_chain pCo pCo pe pe pe hm) (h.mono fun _ _ h => h.mono fun _ _ h => h.mono fun _ _ ⟨q, ez, z⟩ => ⟨q, ez, (show Br q _ _ from ⟨z.1, fun e => ⟨false, rfl, z.2 e⟩⟩).ite⟩)
theorem t_and1 (h : T X a σ H TQ) : T X (.BoolOp .And [a] pos) σ H TQ := .of (PW.pt (pw_and1 pt)) h
theorem t_or1 (h : T X a σ H TQ) : T X (.BoolOp .Or [a] pos) σ H TQ := .of (PW.pt (pw_or1 pt)) h
theorem w_and1 (h : T X a σ H TQ) : W X (.BoolOp .And [a] pos) σ H TQ := .of (pw_and1 pt) h
theorem w_or1 (h : T X a σ H TQ) : W X (.BoolOp .Or [a] pos) σ H TQ := .of (pw_or1 pt) h
theorem w_and (h : T X a σ H fun q H1 => Br q (W X (.BoolOp .And (b :: rest) pos) σ H1 TQ) (TQ false H1)) : W X (.BoolOp .And (a :: b :: rest) pos) σ H TQ := .of (pw_and pt pw) (h.mono fun _ _ z => z.ite)
theorem w_or (h : T X a σ H fun q H1 => Br q (TQ true H1) (W X (.BoolOp .Or (b :: rest) pos) σ H1 TQ)) : W X (.BoolOp .Or (a :: b :: rest) pos) σ H TQ := .of (pw_or pt pw) (h.mono fun _ _ z => z.ite)
theorem t_and (h : T X a σ H fun q H1 => Br q (W X (.BoolOp .And (b :: rest) pos) σ H1 TQ) (TQ false H1)) : T X (.BoolOp .And (a :: b :: rest) pos) σ H TQ := .of (PW.pt (pw_and pt pw)) (h.mono fun _ _ z => z.ite)
theorem t_or (h : T X a σ H fun q H1 => Br q (TQ true H1) (W X (.BoolOp .Or (b :: rest) pos) σ H1 TQ)) : T X (.BoolOp .Or (a :: b :: rest) pos) σ H TQ := .of (PW.pt (pw_or pt pw)) (h.mono fun _ _ z => z.ite)
theorem t_not (h : T X a σ H fun q H1 => TQ (!q) H1) : T X (.UnaryOp .Not a pos) σ H TQ := .of (pt_not pt) h
theorem t_val (h : E X e σ H fun x H1 => Tr X x H1 TQ) (he : ∀ whole, isTrue e X.env whole = (do let v ← whole; standAt e.pos; holding [v] (truthy v)) := by intro _; rfl) : T X e σ H TQ := by
  refine ⟨fun pins s I => PyProof.Rows.isTrue_plain (wpAny_mono (h.run pins s I) (fun v s1 ⟨x, H1, I1, r1, q1⟩ => ?_) fun _ _ z => z) (he _)⟩
  exact q1.run pins s1 σ v I1 r1
theorem tr_bl {q : Bool} (h : TQ q H) : Tr X (.bl q) H TQ := .of (k := q) rfl h

/-! ### operations by values -/
theorem b_add {i j : Int} (h : Q (.int (i + j)) H) : Bo X .Add (.int i) (.int j) H Q := .of op_add ⟨i, j, rfl, rfl, h⟩
theorem b_sub {i j : Int} (h : Q (.int (i - j)) H) : Bo X .Sub (.int i) (.int j) H Q := .of op_sub ⟨i, j, rfl, rfl, h⟩
theorem b_mul {i j : Int} (hc : IntMulOk i j) (h : Q (.int (i * j)) H) : Bo X .Mult (.int i) (.int j) H Q := ⟨fun pins s σ v u I r1 r2 => by
  obtain ⟨t, rfl⟩ := r1
  obtain ⟨t', rfl⟩ := r2
  exact PyProof.Rows.mul_int ⟨.int _, H, I.tok _, ⟨_, rfl⟩, h⟩ hc⟩
theorem b_mod {i j : Int} (hj : 0 < j) (h : Q (.int (i % j)) H) : Bo X .Mod (.int i) (.int j) H Q := .of op_mod ⟨i, j, rfl, rfl, hj, h⟩
theorem b_modN {i j : Int} (hj : j ≠ 0) (h : Q (.int (i.fmod j)) H) : Bo X .Mod (.int i) (.int j) H Q := .of op_modN ⟨i, j, rfl, rfl, hj, h⟩
theorem b_fdiv {i j : Int} (hj : CDivW i j) (h : Q (.int (i / j)) H) : Bo X .FloorDiv (.int i) (.int j) H Q := .of op_fdivW ⟨i, j, rfl, rfl, hj, h⟩
theorem b_pow {i j : Int} (hj : CPow i j) (h : Q (.int (i ^ j.toNat)) H) : Bo X .Pow (.int i) (.int j) H Q := .of op_pow ⟨i, j, rfl, rfl, hj, h⟩
theorem b_pow18 (h : Q (.int 1000000000000000000) H) : Bo X .Pow (.int 10) (.int 18) H Q := b_pow ⟨by decide, by decide, by decide⟩ h
theorem b_pow9 (h : Q (.int 1000000000) H) : Bo X .Pow (.int 10) (.int 9) H Q := b_pow ⟨by decide, by decide, by decide⟩ h
theorem b_pow30 (h : Q (.int 1000000000000000000000000000000) H) : Bo X .Pow (.int 10) (.int 30) H Q := b_pow ⟨by decide, by decide, by decide⟩ h
theorem mul_ok_r {i j : Int} (h : -(2 ^ 64) < j ∧ j < 2 ^ 64) : IntMulOk i j := CMul.ok (.inr h)
theorem mul_ok_l {i j : Int} (h : -(2 ^ 64) < i ∧ i < 2 ^ 64) : IntMulOk i j := CMul.ok (.inl h)
theorem b_addS {i j : Str} (hl : i.length + j.length ≤ sizeLine) (h : Q (.str (i ++ j)) H) : Bo X .Add (.str i) (.str j) H Q := .of op_add_str ⟨i, j, rfl, rfl, hl, h⟩
theorem c_lt {i j : Int} (h : Q (.bl (decide (i < j))) H) : Co X .Lt (.int i) (.int j) H Q := .of op_lt ⟨i, j, rfl, rfl, h⟩
theorem c_le {i j : Int} (h : Q (.bl (decide (i ≤ j))) H) : Co X .LtE (.int i) (.int j) H Q := .of op_le ⟨i, j, rfl, rfl, h⟩
theorem c_gt {i j : Int} (h : Q (.bl (decide (j < i))) H) : Co X .Gt (.int i) (.int j) H Q := .of op_gt ⟨i, j, rfl, rfl, h⟩
theorem c_ge {i j : Int} (h : Q (.bl (decide (j ≤ i))) H) : Co X .GtE (.int i) (.int j) H Q := .of op_ge ⟨i, j, rfl, rfl, h⟩
theorem dec_int' {i j : Int} : decide (V.int i = V.int j) = decide (i = j) := by
  by_cases h : i = j
  · subst h; simp
  · rw [decide_eq_false h, decide_eq_false fun z => h (V.int.inj z)]
theorem c_eqI {i j : Int} (h : Q (.bl (decide (i = j))) H) : Co X .Eq (.int i) (.int j) H Q := .of op_eq ⟨rfl, by rw [dec_int']; exact h⟩
theorem c_neI {i j : Int} (h : Q (.bl (!decide (i = j))) H) : Co X .NotEq (.int i) (.int j) H Q := .of op_ne ⟨rfl, by rw [dec_int']; exact h⟩
theorem c_eq {x y : V} (hs : scal x y = true) (h : Q (.bl (decide (x = y))) H) : Co X .Eq x y H Q := .of op_eq ⟨hs, h⟩
theorem c_ne {x y : V} (hs : scal x y = true) (h : Q (.bl (!decide (x = y))) H) : Co X .NotEq x y H Q := .of op_ne ⟨hs, h⟩
theorem c_isN {x : V} (h : Q (.bl (decide (x = .non))) H) : Co X .Is x .non H Q := .of op_isN ⟨rfl, h⟩
theorem c_notN {x : V} (h : Q (.bl (!decide (x = .non))) H) : Co X .IsNot x .non H Q := .of op_notN ⟨rfl, h⟩
theorem u_neg {i : Int} (h : Q (.int (-i)) H) : Uo X .USub (.int i) H Q := .of un_neg ⟨i, rfl, h⟩

/-! ### arguments, displays -/
theorem as_nil {R : List V → Hp → Prop} (h : R [] H) : As X [] σ H R := .of pa_nil h
theorem as_cons {R : List V → Hp → Prop} (h : E X e σ H fun x H1 => As X es σ H1 fun xs H2 => R (x :: xs) H2) (hs : starEach (e :: es) X.env = (false, eval e X.env) :: starEach es X.env := by rfl) : As X (e :: es) σ H R := .of (pa_cons pe pa hs) h
theorem e_tup {j} (h : As X es σ H fun xs H1 => NewT xs H1 Q) : E X (.Tuple es j pos) σ H Q :=
  .of (pe_tup pa) (h.mono fun _ _ ⟨l, z⟩ => ⟨l, fun p np => z p _ np (kp_new np) upd_same⟩)
theorem e_lst (h : As X es σ H fun xs H1 => NewL xs H1 Q) : E X (.List es pos) σ H Q :=
  .of (pe_lst pa) (h.mono fun _ _ ⟨l, z⟩ => ⟨l, fun p np => z p _ np (kp_new np) upd_same⟩)

/-! ### calls -/
theorem e_call {j : Nat} {sp : Sp} (xk : Xk X P w K mg base sc N GL k EX) (hg : x ∈ GL) (D : Df P w K mg base x j sp) (hj : j ≤ k) (h : As X (e :: es) σ H fun vs H1 => sp vs H1 Q EX)
    (he : starEach (e :: es) X.env = (false, eval e X.env) :: starEach es X.env := by rfl) (hpl : (backTo pos (starEach es X.env)).any (·.1) = false := by rfl) : E X (.Call (.Name x p) (e :: es) [] pos) σ H Q := by
  obtain ⟨f, fd, ps, F, hm, kp, b⟩ := D
  obtain ⟨rfl, rfl, rfl, rfl, rfl, -, -, -, gl, -, room, -, tk, -, -⟩ := xk
  refine .of (pe_call F (room.mono hj) (gl x hg).1 hm kp b .nil (passes_call tk fun _ _ _ _ z => z) pa (gl x hg).2.1 he hpl) (h.mono fun vs H1 z => ?_)
  show sp (vs ++ []) H1 Q EX
  rw [List.append_nil]
  exact z
theorem e_call0 {j : Nat} {sp : Sp} (xk : Xk X P w K mg base sc N GL k EX) (hg : x ∈ GL) (D : Df P w K mg base x j sp) (hj : j ≤ k) (h : sp [] H Q EX) : E X (.Call (.Name x p) [] [] pos) σ H Q := by
  obtain ⟨f, fd, ps, F, hm, kp, b⟩ := D
  obtain ⟨rfl, rfl, rfl, rfl, rfl, -, -, -, gl, -, room, -, tk, -, -⟩ := xk
  exact .of (pe_call0 F (room.mono hj) (gl x hg).1 hm kp b .nil (passes_call tk fun _ _ _ _ z => z) (gl x hg).2.1) h
theorem e_make {j : Nat} {sp : Sp} {Cl : Addr} (xk : Xk X P w K mg base sc N GL k EX) (hg : x ∈ GL) (D : Dc P w K mg base x Cl j sp) (hj : j + 1 ≤ k)
    (h : As X (e :: es) σ H fun vs H1 => ∀ x dx H2, H1 x = none → H1 dx = none → dx ≠ x → Kp [] H1 H2 → H2 x = some (.ins Cl dx []) → sp (.ref x :: vs) H2 (fun v H3 => v = .non ∧ Q (.ref x) H3) EX)
    (he : starEach (e :: es) X.env = (false, eval e X.env) :: starEach es X.env := by rfl) (hpl : (backTo pos (starEach es X.env)).any (·.1) = false := by rfl) : E X (.Call (.Name x p) (e :: es) [] pos) σ H Q := by
  obtain ⟨f, fd, ps, F, hm, M, b⟩ := D
  obtain ⟨rfl, rfl, rfl, rfl, rfl, -, -, -, gl, -, room, -, tk, -, -⟩ := xk
  refine .of (pe_make M F (room.mono hj) (gl x hg).1 hm b .nil (passes_call tk fun _ _ _ _ z => z) pa (gl x hg).2.1 he hpl) (h.mono fun vs H1 z => ?_)
  intro x dx n1 n2 n3
  rw [List.append_nil]
  refine z x dx _ n1 n2 n3 ?_ upd_same
  exact (kp_new n2).trans (kp_new (by rw [upd_ne n3.symm]; exact n1))
theorem e_make0 {j : Nat} {sp : Sp} {Cl : Addr} (xk : Xk X P w K mg base sc N GL k EX) (hg : x ∈ GL) (D : Dc P w K mg base x Cl j sp) (hj : j + 1 ≤ k)
    (h : ∀ x dx H2, H x = none → H dx = none → dx ≠ x → Kp [] H H2 → H2 x = some (.ins Cl dx []) → sp [.ref x] H2 (fun v H3 => v = .non ∧ Q (.ref x) H3) EX) : E X (.Call (.Name x p) [] [] pos) σ H Q := by
  obtain ⟨f, fd, ps, F, hm, M, b⟩ := D
  obtain ⟨rfl, rfl, rfl, rfl, rfl, -, -, -, gl, -, room, -, tk, -, -⟩ := xk
  refine .of (pe_make0 M F (room.mono hj) (gl x hg).1 hm b .nil (passes_call tk fun _ _ _ _ z => z) (gl x hg).2.1) ?_
  intro x dx n1 n2 n3
  refine h x dx _ n1 n2 n3 ?_ upd_same
  exact (kp_new n2).trans (kp_new (by rw [upd_ne n3.symm]; exact n1))
theorem e_callB {id : String} (xk : Xk X P w K mg base sc N GL k EX) (hg : x ∈ GL) (hb : Bi mg x (.builtin id)) (h : As X (e :: es) σ H fun vs H1 => C X (.builtin id) vs H1 Q)
    (he : starEach (e :: es) X.env = (false, eval e X.env) :: starEach es X.env := by rfl) (hpl : (backTo pos (starEach es X.env)).any (·.1) = false := by rfl) : E X (.Call (.Name x p) (e :: es) [] pos) σ H Q :=
  .of (pe_callB pcall (xk.gl x hg).1 (by rw [xk.mg]; exact hb.1) hb.2 pa (xk.gl x hg).2.2 (xk.gl x hg).2.1 he hpl) h
theorem e_callT {id : String} (xk : Xk X P w K mg base sc N GL k EX) (hg : x ∈ GL) (hb : Bi mg x (.type id)) (h : As X (e :: es) σ H fun vs H1 => C X (.type id) vs H1 Q)
    (he : starEach (e :: es) X.env = (false, eval e X.env) :: starEach es X.env := by rfl) (hpl : (backTo pos (starEach es X.env)).any (·.1) = false := by rfl) : E X (.Call (.Name x p) (e :: es) [] pos) σ H Q :=
  .of (pe_callTy pcall (xk.gl x hg).1 (by rw [xk.mg]; exact hb.1) hb.2 pa (xk.gl x hg).2.2 (xk.gl x hg).2.1 he hpl) h
theorem e_meth {j : Nat} {sp : Sp} {Cl : Addr} (xk : Xk X P w K mg base sc N GL k EX) (cl : Cls K Cl) (D : Dm P w K mg base Cl m j sp) (hj : j ≤ k)
    (h : E X o σ H fun x H1 => ∃ a dx fs, x = .ref a ∧ H1 a = some (.ins Cl dx fs) ∧ fs.lookup m = none ∧ As X (e :: es) σ H1 fun vs H2 => sp (.ref a :: vs) H2 Q EX) {pl : Sem Bool}
    (hst : starEach (e :: es) X.env = (false, eval e X.env) :: starEach es X.env := by rfl) (hpl : (backTo pos (starEach es X.env)).any (·.1) = false := by rfl)
    (ht : eval (.Call (.Attribute o m apos) (e :: es) [] pos) X.env = (do
      let ov ← eval o X.env
      standAt apos.atName
      let (f, first) ← holding [ov] (getMethod ov m pl)
      callWith pos f first (backTo pos (starEach (e :: es) X.env)) (backToKw pos (keywordEach [] X.env))) := by rfl) : E X (.Call (.Attribute o m apos) (e :: es) [] pos) σ H Q := by
  obtain ⟨f, fd, ps, F, hm, b⟩ := D
  obtain ⟨rfl, rfl, rfl, rfl, rfl, -, -, -, gl, -, room, -, tk, -, -⟩ := xk
  refine .of (pe_meth pe cl hm F (room.mono hj) b .nil (passes_call tk fun _ _ _ _ z => z) pa hst hpl ht) (h.mono fun x H1 ⟨a, dx, fs, e1, e2, e3, z⟩ => ⟨a, dx, fs, e1, e2, e3, z.mono fun vs H2 q => ?_⟩)
  rw [List.append_nil, e1]
  exact q
theorem e_meth0 {j : Nat} {sp : Sp} {Cl : Addr} (xk : Xk X P w K mg base sc N GL k EX) (cl : Cls K Cl) (D : Dm P w K mg base Cl m j sp) (hj : j ≤ k)
    (h : E X o σ H fun x H1 => ∃ a dx fs, x = .ref a ∧ H1 a = some (.ins Cl dx fs) ∧ fs.lookup m = none ∧ sp [.ref a] H1 Q EX) {pl : Sem Bool}
    (ht : eval (.Call (.Attribute o m apos) [] [] pos) X.env = (do
      let ov ← eval o X.env
      standAt apos.atName
      let (f, first) ← holding [ov] (getMethod ov m pl)
      callWith pos f first (backTo pos (starEach [] X.env)) (backToKw pos (keywordEach [] X.env))) := by rfl) : E X (.Call (.Attribute o m apos) [] [] pos) σ H Q := by
  obtain ⟨f, fd, ps, F, hm, b⟩ := D
  obtain ⟨rfl, rfl, rfl, rfl, rfl, -, -, -, gl, -, room, -, tk, -, -⟩ := xk
  refine .of (pe_meth0 pe cl hm F (room.mono hj) b .nil (passes_call tk fun _ _ _ _ z => z) ht) (h.mono fun x H1 ⟨a, dx, fs, e1, e2, e3, z⟩ => ⟨a, dx, fs, e1, e2, e3, ?_⟩)
  subst e1
  exact z
/-- x.f of an instance -/
theorem e_fld {f : Str} (xk : Xk X P w K mg base sc N GL k EX) (h : E X e σ H fun x H1 => FldR K x f H1 Q)
    (hb : attributeBase e f X.env (eval e X.env) = eval e X.env := by rfl) : E X (.Attribute e f pos) σ H Q := by
  obtain ⟨-, -, rfl, -⟩ := xk
  exact .of (pe_fld pe hb) (h.mono fun _ _ z => z.ex)
/-- a[b] -/
theorem e_sub (h : E X a σ H fun x H1 => E X b σ H1 fun y H2 => Ix X a b x y H2 Q) : E X (.Subscript a b pos) σ H Q :=
  ⟨fun pins s I => PyProof.Rows.Subscript_ (binT pe pe I h fun v u s2 x y H2 I2 rx ry q => q.run pins s2 σ v u I2 rx ry)⟩
theorem ix_l {q : Addr} {xs : List V} {i : Int} (xk : Xk X P w K mg base sc N GL k EX) (hs : PlainIx b) (hq : SqL K H q xs) (hi : atI xs i = some v) (h : Q v H) : Ix X a b (.ref q) (.int i) H Q := .of ix_list hs ⟨q, xs, i, v, rfl, rfl, by rw [xk.K]; exact hq, hi, h⟩
theorem ix_t {q : Addr} {xs : List V} {i : Int} (xk : Xk X P w K mg base sc N GL k EX) (hs : PlainIx b) (hq : SqT K H q xs) (hi : atI xs i = some v) (h : Q v H) : Ix X a b (.ref q) (.int i) H Q := .of ix_tup hs ⟨q, xs, i, v, rfl, rfl, by rw [xk.K]; exact hq, hi, h⟩

/-! ### built-ins by values -/
theorem k_abs {i : Int} (h : Q (.int (if i < 0 then -i else i)) H) : C X (.builtin "abs") [.int i] H Q := .of call_abs ⟨i, rfl, h⟩
theorem k_max {i j : Int} (xk : Xk X P w K mg base sc N GL k EX) (h : Q (.int (if j > i then j else i)) H) : C X (.builtin "max") [.int i, .int j] H Q := .of (call_max2 xk.calm) ⟨i, j, rfl, h⟩
theorem k_min {i j : Int} (xk : Xk X P w K mg base sc N GL k EX) (h : Q (.int (if j < i then j else i)) H) : C X (.builtin "min") [.int i, .int j] H Q := .of (call_min2 xk.calm) ⟨i, j, rfl, h⟩
theorem k_int {i : Int} (h : Q (.int i) H) : C X (.type "int") [.int i] H Q := .of call_int1 (.inl ⟨i, rfl, h⟩)
theorem k_intB {q : Bool} (h : Q (.int (if q then 1 else 0)) H) : C X (.type "int") [.bl q] H Q := .of call_int1 (.inr ⟨q, rfl, h⟩)
theorem k_boolB {q : Bool} (h : Q (.bl q) H) : C X (.type "bool") [.bl q] H Q := .of call_bool1 (.inr ⟨q, rfl, h⟩)
theorem k_lenL {q : Addr} {xs : List V} (xk : Xk X P w K mg base sc N GL k EX) (hq : SqL K H q xs) (h : Q (.int xs.length) H) : C X (.builtin "len") [.ref q] H Q := .of call_len_seq ⟨q, xs, rfl, .inl (by rw [xk.K]; exact hq), h⟩
theorem k_lenT {q : Addr} {xs : List V} (xk : Xk X P w K mg base sc N GL k EX) (hq : SqT K H q xs) (h : Q (.int xs.length) H) : C X (.builtin "len") [.ref q] H Q := .of call_len_seq ⟨q, xs, rfl, .inr (by rw [xk.K]; exact hq), h⟩
theorem k_isi {x c : V} {t u : Value} {r : Bool} (xk : Xk X P w K mg base sc N GL k EX) (hc : ClsV c u) (hx : TyX K H x t) (hk : PySem.W.kitOne K t u = some r) (h : Q (.bl r) H) : C X (.builtin "isinstance") [x, c] H Q := .of call_isi ⟨x, c, t, u, r, rfl, hc, by rw [xk.K]; exact hx, by rw [xk.K]; exact hk, h⟩

/-! ### statements -/
variable {st : Stmt} {sts bd el : List Stmt} {nx bk ct : St → Hp → Prop} {rt : VK}
theorem ss_nil (h : nx σ H) : Ss X [] nx rt bk ct σ H := .of pss_nil h
theorem ss_cons (h : S X st (fun σ' H' => Ss X sts nx rt bk ct σ' H') rt bk ct σ H) : Ss X (st :: sts) nx rt bk ct σ H := .of (pss_cons ps pss) h
theorem ss_one (h : S X st nx rt bk ct σ H) : Ss X [st] nx rt bk ct σ H := .of (pss_one ps) h
theorem s_expr (h : E X e σ H fun _ H1 => nx σ H1) (hs : swapsWith e none pos.line X.env = pure false := by rfl) : S X (.Expr e pos) nx rt bk ct σ H := .of (ps_expr pe hs) h
theorem s_ret (h : E X e σ H rt) : S X (.Return (some e) pos) nx rt bk ct σ H := .of (ps_ret pe) h
theorem s_retN (h : rt .non H) : S X (.Return none pos) nx rt bk ct σ H := .of ps_retN h
theorem s_pass (h : nx σ H) : S X (.Pass pos) nx rt bk ct σ H := .of ps_pass h
theorem s_if (h : T X c σ H fun q H1 => Br q (Ss X bd nx rt bk ct σ H1) (Ss X el nx rt bk ct σ H1)) : S X (.If c bd el pos) nx rt bk ct σ H := .of (ps_if pt pss pss) (h.mono fun _ _ z => z.ite)
theorem s_set {f : V → St} (xk : Xk X P w K mg base sc N GL k EX) (g : SetF N σ x f) (h : E X e σ H fun v H1 => nx (f v) H1) (hs : swapsWith e (some (.Name x pos')) pos.line X.env = pure false := by rfl) : S X (.Assign [.Name x pos'] e pos) nx rt bk ct σ H := by
  obtain ⟨i, h1, h2⟩ := g.ix
  refine .of (L2.ps_set (i := i) (by rw [xk.n]; exact xk.nd) (by rw [xk.n]; exact h1) (xk.loc x g.mem).1 pe hs (.inl (xk.fn x))) (h.mono fun v H1 q => ?_)
  show nx (σ.set i (some v)) H1
  rw [h2]
  exact q
theorem s_asg {tg : Expr} (h : E X e σ H fun v H1 => G X tg v σ H1 nx) (hs : swapsWithSole [tg] e pos.line X.env = pure false := by rfl) (hw : swappedStores [tg] e X.env = pure none := by rfl)
    (h1 : (assignEach [tg] X.env).map (·.2) = [assign tg X.env] := by rfl) : S X (.Assign [tg] e pos) nx rt bk ct σ H := .of (ps_asg pe pg hs hw h1) h
theorem g_name {f : V → St} {R : St → Hp → Prop} (xk : Xk X P w K mg base sc N GL k EX) (g : SetF N σ x f) (h : R (f v) H) : G X (.Name x pos) v σ H R := by
  obtain ⟨i, h1, h2⟩ := g.ix
  refine .of (pg_name (i := i) (by rw [xk.n]; exact xk.nd) (by rw [xk.n]; exact h1) (xk.loc x g.mem).1 (.inl (xk.fn x))) ?_
  show R (σ.set i (some v)) H
  rw [h2]
  exact h
theorem g_tup {j n : Nat} {R : St → Hp → Prop} {q : Addr} {xs : List V} (xk : Xk X P w K mg base sc N GL k EX) (hq : SqT K H q xs) (hl : xs.length = n) (h : Gs X es xs σ H R)
    (hn : (assignEach es X.env).length = n := by rfl) (hst : (assignEach es X.env).findIdx? (·.1) = none := by rfl) : G X (.Tuple es j pos) (.ref q) σ H R := .of (pg_tup xk.calm pgs hn hst) ⟨q, xs, rfl, by rw [xk.K]; exact hq, hl, h⟩
theorem gs_nil {R : St → Hp → Prop} (h : R σ H) : Gs X [] [] σ H R := .of pgs_nil ⟨rfl, h⟩
theorem gs_cons {R : St → Hp → Prop} {vs : List V} (h : G X e v σ H fun σ' H' => Gs X es vs σ' H' R) (hs : (assignEach (e :: es) X.env).map (·.2) = assign e X.env :: (assignEach es X.env).map (·.2) := by rfl) : Gs X (e :: es) (v :: vs) σ H R :=
  .of (pgs_cons pg pgs hs) ⟨v, vs, rfl, h⟩
theorem g_sub {R : St → Hp → Prop} {i : Expr} (h : E X o σ H fun ov H1 => E X i σ H1 fun iv H2 => St3 X ov iv v H2 fun H3 => R σ H3)
    (ha : ∀ v, assign (.Subscript o i pos) X.env v = (do
      let ov ← holding [v] (eval o X.env)
      let iv ← holding [v, ov] (eval i X.env)
      standAt pos
      holding [v, ov, iv] (setItem ov iv v)
      release [v, ov, iv] []) := by intro _; rfl) : G X (.Subscript o i pos) v σ H R := .of (pg_sub pe pe pset ha) h
theorem st_l {q : Addr} {xs : List V} {i : Int} {j : Nat} {R : Hp → Prop} (hq : H q = some (.lst xs)) (hi : ixN xs.length i = some j) (h : ∀ H', Kp [q] H H' → H' q = some (.lst (xs.set j v)) → R H') : St3 X (.ref q) (.int i) v H R :=
  .of set_list ⟨q, xs, i, j, rfl, rfl, hq, hi, mut_heap h⟩
/-- o.f = e -/
theorem s_fld {f : Str} (xk : Xk X P w K mg base sc N GL k EX) (h : E X e σ H fun y H1 => E X o σ H1 fun x H2 => FldS K x f y H2 fun H3 => nx σ H3)
    (hs : swapsWith e (some (.Attribute o f pos')) pos.line X.env = pure false := by rfl) : S X (.Assign [.Attribute o f pos'] e pos) nx rt bk ct σ H := by
  obtain ⟨-, -, rfl, -⟩ := xk
  refine .of (ps_fld pe pe hs) (h.mono fun y H1 z => z.mono fun x H2 ⟨⟨a, Cl, dx, fs, fs', e1, e2, e3, e4, e5, e6, q⟩⟩ => ⟨a, Cl, dx, fs, e1, e2, e3, e4, e5, by rw [e6.eq]; exact mut_heap q⟩)
/-- for over a list that stands still -/
theorem s_for {tg iter : Expr} (xk : Xk X P w K mg base sc N GL k EX)
    (h : E X iter σ H fun v H1 => ∃ q xs, v = .ref q ∧ SqL K H1 q xs ∧ ∃ Pv : Nat → St → Hp → Prop, Pv 0 σ H1 ∧ (∀ i σ' H', i ≤ xs.length → Pv i σ' H' → SqL K H' q xs) ∧
      (∀ i y σ' H', xs[i]? = some y → Pv i σ' H' → G X tg y σ' H' fun σ2 H2 => Ss X bd (Pv (i + 1)) rt nx (Pv (i + 1)) σ2 H2) ∧ ∀ σ' H', Pv xs.length σ' H' → nx σ' H')
    (hs : ∀ x, foldedSetIterable iter X.env x = pure x := by intro _; rfl) : S X (.For tg iter bd [] pos) nx rt bk ct σ H := by
  obtain ⟨-, -, rfl, -, -, -, -, -, -, -, -, calm, -, po, -⟩ := xk
  refine .of (ps_for po calm (pi_list pe) pg pss hs) (h.mono fun v H1 ⟨q, xs, e1, e2, Pv, p0, p1, p2, p3⟩ => ⟨q, e1, ⟨xs, e2⟩, for_list (g := fun v σ H Q => G X tg v σ H Q) (tb := fun D σ H => Ss X bd D.nx D.rt D.bk D.ct σ H) (D := ⟨nx, rt, bk, ct⟩) Pv p0 p1 (fun i y σ' H' hy hp => p2 i y σ' H' hy hp) p3⟩)
theorem s_forT {tg iter : Expr} (xk : Xk X P w K mg base sc N GL k EX)
    (h : E X iter σ H fun v H1 => ∃ q xs, v = .ref q ∧ SqT K H1 q xs ∧ ∃ Pv : Nat → St → Hp → Prop, Pv 0 σ H1 ∧ (∀ i σ' H', i ≤ xs.length → Pv i σ' H' → SqT K H' q xs) ∧
      (∀ i y σ' H', xs[i]? = some y → Pv i σ' H' → G X tg y σ' H' fun σ2 H2 => Ss X bd (Pv (i + 1)) rt nx (Pv (i + 1)) σ2 H2) ∧ ∀ σ' H', Pv xs.length σ' H' → nx σ' H')
    (hs : ∀ x, foldedSetIterable iter X.env x = pure x := by intro _; rfl) : S X (.For tg iter bd [] pos) nx rt bk ct σ H := by
  obtain ⟨-, -, rfl, -, -, -, -, -, -, -, -, calm, -, po, -⟩ := xk
  refine .of (ps_for po calm (pi_tup pe) pg pss hs) (h.mono fun v H1 ⟨q, xs, e1, e2, Pv, p0, p1, p2, p3⟩ => ⟨q, e1, ⟨xs, e2⟩, for_tup (g := fun v σ H Q => G X tg v σ H Q) (tb := fun D σ H => Ss X bd D.nx D.rt D.bk D.ct σ H) (D := ⟨nx, rt, bk, ct⟩) Pv p0 p1 (fun i y σ' H' hy hp => p2 i y σ' H' hy hp) p3⟩)
theorem s_forR {tg a : Expr} {pr : Pos} (xk : Xk X P w K mg base sc N GL k EX) (hg : ("range" : Str) ∈ GL) (hm : mg "range" = none)
    (h : E X a σ H fun v H1 => ∃ n : Int, v = .int n ∧ -(2 ^ 62) ≤ n ∧ n < 2 ^ 62 ∧ ∃ Pv : Nat → St → Hp → Prop, Pv 0 σ H1 ∧
      (∀ (i : Nat) σ' H', (i : Int) < n → Pv i σ' H' → G X tg (.int (i : Int)) σ' H' fun σ2 H2 => Ss X bd (Pv (i + 1)) rt nx (Pv (i + 1)) σ2 H2) ∧ ∀ σ' H', Pv n.toNat σ' H' → nx σ' H')
    (hse : starEach [a] X.env = [(false, eval a X.env)] := by rfl) (hs : ∀ x, foldedSetIterable (.Call (.Name "range" pr) [a] [] pos') X.env x = pure x := by intro _; rfl) :
    S X (.For tg (.Call (.Name "range" pr) [a] [] pos') bd [] pos) nx rt bk ct σ H := by
  obtain ⟨-, -, -, rfl, -, -, -, -, gl, -, -, calm, -, po, -⟩ := xk
  refine .of (ps_for po calm (pi_range1 (gl _ hg).1 hm pa hse) pg pss hs) (?_ : As X [a] σ H _)
  refine as_cons (h.mono fun v H1 z => as_nil ?_) (by rw [hse]; rfl)
  obtain ⟨n, rfl, n1, n2, Pv, p0, p2, p3⟩ := z
  refine ⟨n, rfl, n1, n2, for_range (lo := 0) (n := n.toNat) (g := fun v σ H Q => G X tg v σ H Q) (tb := fun D σ H => Ss X bd D.nx D.rt D.bk D.ct σ H) (D := ⟨nx, rt, bk, ct⟩) Pv p0 (fun i σ' H' hi hp => ?_) p3⟩
  rw [Int.zero_add]
  exact p2 i σ' H' (by omega) hp
theorem ex_bl {q : Bool} {R : Bool → Prop} (h : R q) : ∃ c, V.bl q = .bl c ∧ R c := ⟨q, rfl, h⟩
theorem ex_in {i : Int} {R : Int → Prop} (h : R i) : ∃ c, V.int i = .int c ∧ R c := ⟨i, rfl, h⟩
theorem ex_an {A B : Prop} (ha : A) (hb : B) : A ∧ B := ⟨ha, hb⟩
/-- a, b = e1, e2 -/
theorem s_par {x y : Str} {px py pt pt2 : Pos} {kt k2 : Nat} {f : V → St} {g : V → V → St} (xk : Xk X P w K mg base sc N GL k EX) (gx : SetF N σ x f) (gy : ∀ v, SetF N (f v) y (g v)) (hxy : x ≠ y)
    (lx : sc.names.lookup x = some .local) (ly : sc.names.lookup y = some .local)
    (hw : ∀ (q : Str) (L f : Addr) (cd : Value), swappedStores [.Tuple [.Name x px, .Name y py] kt pt] (.Tuple [a, b] k2 pt2) (PyProof.Rows.envOfC q sc L f cd) = pure (some [x, y]))
    (h : E X a σ H fun v H1 => E X b σ H1 fun u H2 => nx (g v u) H2) (hs : starEach [a, b] X.env = [(false, eval a X.env), (false, eval b X.env)] := by rfl) (hs2 : starEach [b] X.env = [(false, eval b X.env)] := by rfl) :
    S X (.Assign [.Tuple [.Name x px, .Name y py] kt pt] (.Tuple [a, b] k2 pt2) pos) nx rt bk ct σ H := by
  obtain ⟨i, h1, h2⟩ := gx.ix
  have z := fun v => (gy v).ix
  obtain ⟨q, L, fa, cd, ev⟩ := xk.ev
  have esc : X.env.scope = sc := by rw [ev]; rfl
  obtain ⟨j, j1⟩ : ∃ j : Nat, N[j]? = some y := let ⟨j, j1, _⟩ := z .non; ⟨j, j1⟩
  have hj : ∀ v u, ((σ.set i (some v)).set j (some u)) = g v u := fun v u => by
    obtain ⟨j', j2, j3⟩ := z v
    have e : j = j' := nd_ix xk.nd j1 j2
    rw [h2, e, j3]
  refine .of (ps_par (i := i) (j := j) xk.calm (by rw [xk.n]; exact xk.nd) (by rw [xk.n]; exact h1) (by rw [xk.n]; exact j1) (fun e => hxy (by
    rw [e, j1] at h1
    exact (Option.some.inj h1).symm)) (by rw [esc]; exact lx) (by rw [esc]; exact ly) pa (by rw [ev]; exact hw _ _ _ _) rfl) ?_
  refine as_cons (h.mono fun v H1 h => as_cons (h.mono fun u H2 h => as_nil ⟨v, u, rfl, ?_⟩) (by rw [hs2]; rfl)) (by rw [hs, hs2])
  rw [hj]
  exact h
/-- a, b, c = e1, e2, e3 -/
theorem s_par3 {x y z : Str} {px py pz pt pt2 : Pos} {kt k2 : Nat} {f : V → St} {g : V → V → St} {g3 : V → V → V → St} (xk : Xk X P w K mg base sc N GL k EX) (gx : SetF N σ x f) (gy : ∀ v, SetF N (f v) y (g v)) (gz : ∀ v u, SetF N (g v u) z (g3 v u)) (hxy : x ≠ y) (hxz : x ≠ z) (hyz : y ≠ z)
    (lx : sc.names.lookup x = some .local) (ly : sc.names.lookup y = some .local) (lz : sc.names.lookup z = some .local)
    (hw : ∀ (q : Str) (L f : Addr) (cd : Value), swappedStores [.Tuple [.Name x px, .Name y py, .Name z pz] kt pt] (.Tuple [a, b, c] k2 pt2) (PyProof.Rows.envOfC q sc L f cd) = pure (some [x, y, z]))
    (h : E X a σ H fun v H1 => E X b σ H1 fun u H2 => E X c σ H2 fun t H3 => nx (g3 v u t) H3) (hs : starEach [a, b, c] X.env = (false, eval a X.env) :: starEach [b, c] X.env := by rfl) (hs2 : starEach [b, c] X.env = (false, eval b X.env) :: starEach [c] X.env := by rfl) (hs3 : starEach [c] X.env = (false, eval c X.env) :: starEach [] X.env := by rfl) :
    S X (.Assign [.Tuple [.Name x px, .Name y py, .Name z pz] kt pt] (.Tuple [a, b, c] k2 pt2) pos) nx rt bk ct σ H := by
  obtain ⟨i, h1, h2⟩ := gx.ix
  obtain ⟨q, L, fa, cd, ev⟩ := xk.ev
  have esc : X.env.scope = sc := by rw [ev]; rfl
  obtain ⟨j, j1⟩ : ∃ j : Nat, N[j]? = some y := let ⟨j, j1, _⟩ := (gy .non).ix; ⟨j, j1⟩
  obtain ⟨l, l1⟩ : ∃ j : Nat, N[j]? = some z := let ⟨j, j1, _⟩ := (gz .non .non).ix; ⟨j, j1⟩
  have hj : ∀ v u t, (((σ.set i (some v)).set j (some u)).set l (some t)) = g3 v u t := fun v u t => by
    obtain ⟨j', j2, j3⟩ := (gy v).ix
    obtain ⟨l', l2, l3⟩ := (gz v u).ix
    have e : j = j' := nd_ix xk.nd j1 j2
    have e' : l = l' := nd_ix xk.nd l1 l2
    rw [h2, e, j3, e', l3]
  have ne : ∀ {i j : Nat} {x y : Str}, N[i]? = some x → N[j]? = some y → x ≠ y → i ≠ j := fun {i j x y} a b n e => n (by
    rw [e, b] at a
    exact (Option.some.inj a).symm)
  refine .of (ps_par3 (i := i) (j := j) (l := l) xk.calm (by rw [xk.n]; exact xk.nd) (by rw [xk.n]; exact h1) (by rw [xk.n]; exact j1) (by rw [xk.n]; exact l1) (ne h1 j1 hxy) (ne h1 l1 hxz) (ne j1 l1 hyz)
    (by rw [esc]; exact lx) (by rw [esc]; exact ly) (by rw [esc]; exact lz) pa (by rw [ev]; exact hw _ _ _ _) rfl) ?_
  refine as_cons (h.mono fun v H1 h => as_cons (h.mono fun u H2 h => as_cons (h.mono fun t H3 h => as_nil ⟨v, u, t, rfl, ?_⟩) hs3) hs2) hs
  rw [hj]
  exact h
/-- a list with a place changed -/
theorem st_lL {q : Addr} {xs xs' : List V} {i : Int} {j : Nat} {R : Hp → Prop} (hq : H q = some (.lst xs)) (hi : ixN xs.length i = some j) (hs : LSet xs j v xs') (h : ∀ H', Kp [q] H H' → H' q = some (.lst xs') → R H') : St3 X (.ref q) (.int i) v H R :=
  st_l hq hi (by rw [hs.eq]; exact h)
theorem b_modG {i j : Int} (hj : 0 < j) (h : ∀ r : Int, 0 ≤ r → r < j → Q (.int r) H) : Bo X .Mod (.int i) (.int j) H Q := b_mod hj (h _ (Int.emod_nonneg _ (by omega)) (Int.emod_lt_of_pos _ hj))
theorem cdiv_of {i n : Int} (h0 : 0 < n) (h1 : n ≤ 10000000000000000000000000000000) : CDivW i n := wide_div (b := 200) h0 (by
  have e : (2 : Nat) ^ 200 = 1606938044258990275541962092341162602522202993782792835301376 := by decide
  rw [e]; omega) (by decide) (by decide)
theorem Kp.fresh {H H1 H2 : Hp} {x : Addr} (a : Kp [] H H1) (b : Kp [x] H1 H2) (n : H x = none) : Kp [] H H2 := fun c o h z => b c o (a c o h z) (ni_cons (ne_of_none h n) ni_nil)
theorem Nat.lt_of_ble_eq_true' {n m : Nat} (h : Nat.ble (n + 1) m = true) : n < m := Nat.le_of_ble_eq_true h
theorem ex_fld {q Cl dx : Addr} {fs : List (Str × V)} {f : Str} {u : V} (h1 : H q = some (.ins Cl dx fs)) (h2 : Cls K Cl) (h3 : NoAttr K Cl f) (h4 : fs.lookup f = some u) (h : Q u H) : FldR K (.ref q) f H Q := ⟨q, Cl, dx, fs, u, rfl, h1, h2, h3, h4, h⟩
theorem ex_put {q Cl dx : Addr} {fs fs' : List (Str × V)} {f : Str} {y : V} {R : Hp → Prop} (h1 : H q = some (.ins Cl dx fs)) (h2 : Cls K Cl) (h3 : NoAttr K Cl f) (h4 : fs.length < 1000) (h5 : PutR f y fs fs') (h : ∀ H3, Kp [q] H H3 → H3 q = some (.ins Cl dx fs') → R H3) :
    FldS K (.ref q) f y H R := ⟨q, Cl, dx, fs, fs', rfl, h1, h2, h3, h4, h5, h⟩
theorem new_tup {xs : List V} {H1 : Hp} (l : xs.length ≤ sizeLine) (h : ∀ p H', H1 p = none → Kp [] H1 H' → H' p = some (.tup xs) → Q (.ref p) H') : NewT xs H1 Q := ⟨l, h⟩
theorem new_lst {xs : List V} {H1 : Hp} (l : xs.length ≤ sizeLine) (h : ∀ p H', H1 p = none → Kp [] H1 H' → H' p = some (.lst xs) → Q (.ref p) H') : NewL xs H1 Q := ⟨l, h⟩
theorem e_cls {q : Addr} (xk : Xk X P w K mg base sc N GL k EX) (hg : x ∈ GL) (hm : mg x = some (.ref q)) (h : Q (.ref q) H) : E X (.Name x pos) σ H Q := e_glob (v := .ref q) xk hg hm rfl h
theorem e_bty {n : String} (xk : Xk X P w K mg base sc N GL k EX) (hg : x ∈ GL) (hb : Bi mg x (.type n)) (h : Q (.ty n) H) : E X (.Name x pos) σ H Q := e_bltn (v := .ty n) xk hg hb rfl h
theorem k_ii {i : Int} (xk : Xk X P w K mg base sc N GL k EX) (h : Q (.bl true) H) : C X (.builtin "isinstance") [.int i, .ty "int"] H Q := k_isi xk (.ty _) (.base (.int i)) (kit_ty (by decide +kernel)) h
theorem k_ib {i : Int} (xk : Xk X P w K mg base sc N GL k EX) (h : Q (.bl false) H) : C X (.builtin "isinstance") [.int i, .ty "bool"] H Q := k_isi xk (.ty _) (.base (.int i)) (kit_ty (by decide +kernel)) h
theorem k_minG {i j : Int} (xk : Xk X P w K mg base sc N GL k EX) (h : ∀ r : Int, (r = i ∨ r = j) → r ≤ i → r ≤ j → Q (.int r) H) : C X (.builtin "min") [.int i, .int j] H Q := k_min xk (h _ (by split <;> omega) (by split <;> omega) (by split <;> omega))
theorem k_maxG {i j : Int} (xk : Xk X P w K mg base sc N GL k EX) (h : ∀ r : Int, (r = i ∨ r = j) → i ≤ r → j ≤ r → Q (.int r) H) : C X (.builtin "max") [.int i, .int j] H Q := k_max xk (h _ (by split <;> omega) (by split <;> omega) (by split <;> omega))
theorem k_absG {i : Int} (h : ∀ r : Int, 0 ≤ r → Q (.int r) H) : C X (.builtin "abs") [.int i] H Q := k_abs (h _ (by split <;> omega))
/-- list + list -/
theorem b_cat {p q : Addr} {xs ys : List V} (xk : Xk X P w K mg base sc N GL k EX) (hp : H p = some (.lst xs)) (hq : H q = some (.lst ys)) (hl : xs.length + ys.length ≤ sizeLine) (h : ∀ r H', H r = none → Kp [] H H' → H' r = some (.lst (xs ++ ys)) → Q (.ref r) H') : Bo X .Add (.ref p) (.ref q) H Q :=
  .of op_cat (by
    refine ⟨p, q, xs, ys, rfl, rfl, ?_, ?_, ?_, ?_⟩
    all_goals first | exact hp | exact hq | exact hl | (intro r nr; exact h r _ nr (kp_new nr) upd_same))
/-- an argument list all of whose values are good -/
def NoSt : Expr → Bool
  | .Starred .. => false
  | _ => true
theorem star_cons {env : Env} (h : NoSt e = true) : starEach (e :: es) env = (false, eval e env) :: starEach es env := by
  cases e <;> first | rfl | cases h
def AllE (Pd : Expr → Prop) : List Expr → Prop
  | [] => True
  | e :: es => Pd e ∧ AllE Pd es
theorem AllE.imp {Pd Pd' : Expr → Prop} (i : ∀ e, Pd e → Pd' e) : ∀ {es : List Expr}, AllE Pd es → AllE Pd' es
  | [], _ => trivial
  | _ :: _, h => ⟨i _ h.1, AllE.imp i h.2⟩
theorem as_all {D : Hp → V → Prop} {R : List V → Hp → Prop} (mon : ∀ H H' v, Kp [] H H' → D H v → D H' v) : ∀ {es : List Expr} {H : Hp}, es.all NoSt = true → (∀ xs H', xs.length = es.length → Kp [] H H' → (∀ v ∈ xs, D H' v) → R xs H') →
    AllE (fun e => ∀ H1, Kp [] H H1 → ∀ Q : VK, (∀ v H2, Kp [] H1 H2 → D H2 v → Q v H2) → E X e σ H1 Q) es → As X es σ H R
  | [], H, _, k, _ => as_nil (k [] H rfl .refl fun _ z => nomatch z)
  | e :: es, H, n, k, h => by
    rw [List.all_cons, Bool.and_eq_true] at n
    refine as_cons (h.1 H .refl _ fun v H1 k1 d1 => ?_) (star_cons n.1)
    refine as_all mon n.2 (fun xs H2 l k2 d2 => k (v :: xs) H2 (by rw [List.length_cons, List.length_cons, l]) (k1.trans k2) fun u hu => ?_) (h.2.imp fun e' m H2 k2 Q q => m H2 (k1.trans k2) Q q)
    rcases List.mem_cons.mp hu with rfl | hu
    · exact mon _ _ _ k2 d1
    · exact d2 u hu
/-! ### guards: which judgement, which construct -/
theorem gE {e : Expr} (h : E X e σ H Q) : E X e σ H Q := h
theorem gT {e : Expr} (h : T X e σ H TQ) : T X e σ H TQ := h
theorem gW {e : Expr} (h : W X e σ H TQ) : W X e σ H TQ := h
theorem gAs {R : List V → Hp → Prop} (h : As X es σ H R) : As X es σ H R := h
theorem gS (h : S X st nx rt bk ct σ H) : S X st nx rt bk ct σ H := h
theorem gSs (h : Ss X sts nx rt bk ct σ H) : Ss X sts nx rt bk ct σ H := h
theorem gG {tg : Expr} {R : St → Hp → Prop} (h : G X tg v σ H R) : G X tg v σ H R := h
theorem gGs {ts : List Expr} {vs : List V} {R : St → Hp → Prop} (h : Gs X ts vs σ H R) : Gs X ts vs σ H R := h
theorem gB {op : Operator} {x y : V} (h : Bo X op x y H Q) : Bo X op x y H Q := h
theorem gC {op : CmpOp} {x y : V} (h : Co X op x y H Q) : Co X op x y H Q := h
theorem gU {op : UnaryOp} {x : V} (h : Uo X op x H Q) : Uo X op x H Q := h
theorem gK {f : Value} {vs : List V} (h : C X f vs H Q) : C X f vs H Q := h
theorem gKlen {x : V} (h : C X (.builtin "len") [x] H Q) : C X (.builtin "len") [x] H Q := h
theorem gGt {ts : List Expr} {j : Nat} {q : Addr} {R : St → Hp → Prop} (h : G X (.Tuple ts j pos) (.ref q) σ H R) : G X (.Tuple ts j pos) (.ref q) σ H R := h
theorem gGs2 {i : Expr} {R : St → Hp → Prop} (h : G X (.Subscript o i pos) v σ H R) : G X (.Subscript o i pos) v σ H R := h
theorem gFr {x : V} {f : Str} (h : FldR K x f H Q) : FldR K x f H Q := h
theorem gFs {x y : V} {f : Str} {R : Hp → Prop} (h : FldS K x f y H R) : FldS K x f y H R := h
theorem gBrr {op : Operator} {a b : Addr} (h : Bo X op (.ref a) (.ref b) H Q) : Bo X op (.ref a) (.ref b) H Q := h
theorem gBrrA {a b : Addr} (h : Bo X .Add (.ref a) (.ref b) H Q) : Bo X .Add (.ref a) (.ref b) H Q := h
theorem gBrrS {a b : Addr} (h : Bo X .Sub (.ref a) (.ref b) H Q) : Bo X .Sub (.ref a) (.ref b) H Q := h
theorem gUr {op : UnaryOp} {a : Addr} (h : Uo X op (.ref a) H Q) : Uo X op (.ref a) H Q := h
theorem gKr {f : Value} {a : Addr} {vs : List V} (h : C X f (.ref a :: vs) H Q) : C X f (.ref a :: vs) H Q := h
theorem gKisi {a c : Addr} (h : C X (.builtin "isinstance") [.ref a, .ref c] H Q) : C X (.builtin "isinstance") [.ref a, .ref c] H Q := h
theorem gKabs {a : Addr} (h : C X (.builtin "abs") [.ref a] H Q) : C X (.builtin "abs") [.ref a] H Q := h
theorem gTr {x : V} (h : Tr X x H TQ) : Tr X x H TQ := h
theorem gIx {x y : V} (h : Ix X a b x y H Q) : Ix X a b x y H Q := h
theorem gSt {o i u : V} {R : Hp → Prop} (h : St3 X o i u H R) : St3 X o i u H R := h
theorem gMt {id : String} {x : V} {xs : List V} (h : Mt X id x xs H Q) : Mt X id x xs H Q := h
theorem gBr {q : Bool} {A B : Prop} (h : Br q A B) : Br q A B := h
theorem gName (h : E X (.Name x pos) σ H Q) : E X (.Name x pos) σ H Q := h
theorem gCall {fe : Expr} {kws : List Keyword} (h : E X (.Call fe es kws pos) σ H Q) : E X (.Call fe es kws pos) σ H Q := h
theorem gCallN {kws : List Keyword} (h : E X (.Call (.Name x p) es kws pos) σ H Q) : E X (.Call (.Name x p) es kws pos) σ H Q := h
theorem gCallA {f : Str} {kws : List Keyword} (h : E X (.Call (.Attribute e f p) es kws pos) σ H Q) : E X (.Call (.Attribute e f p) es kws pos) σ H Q := h
theorem gAttr {f : Str} (h : E X (.Attribute e f pos) σ H Q) : E X (.Attribute e f pos) σ H Q := h
theorem gCmp {ops : List CmpOp} (h : E X (.Compare e ops es pos) σ H Q) : E X (.Compare e ops es pos) σ H Q := h
theorem gCmpT {ops : List CmpOp} (h : T X (.Compare e ops es pos) σ H TQ) : T X (.Compare e ops es pos) σ H TQ := h
theorem gAsg {tgs : List Expr} (h : S X (.Assign tgs e pos) nx rt bk ct σ H) : S X (.Assign tgs e pos) nx rt bk ct σ H := h
theorem gAsgN {pos' : Pos} (h : S X (.Assign [.Name x pos'] e pos) nx rt bk ct σ H) : S X (.Assign [.Name x pos'] e pos) nx rt bk ct σ H := h
theorem gAsgA {f : Str} {pos' : Pos} (h : S X (.Assign [.Attribute o f pos'] e pos) nx rt bk ct σ H) : S X (.Assign [.Attribute o f pos'] e pos) nx rt bk ct σ H := h
theorem gAsgP {ts vs : List Expr} {j j' : Nat} {p' p'' : Pos} (h : S X (.Assign [.Tuple ts j p'] (.Tuple vs j' p'') pos) nx rt bk ct σ H) : S X (.Assign [.Tuple ts j p'] (.Tuple vs j' p'') pos) nx rt bk ct σ H := h
theorem sq_l {q : Addr} {xs : List V} (h : H q = some (.lst xs)) : SqL K H q xs := .inl (.inl h)
theorem sq_t {q : Addr} {xs : List V} (h : H q = some (.tup xs)) : SqT K H q xs := .inl (.inl h)
end
end Sx
set_option Elab.async false
set_option linter.all false
set_option maxRecDepth 100000
set_option maxHeartbeats 4000000
/-! SxO: operators of the text's own classes. -/
namespace Sx
open PySem L2

section
variable {X : Cx} {P : Program} {w : World} {K : PySem.W.Frag} {mg : Str → Option Value} {base : Heap} {sc : Scope} {N GL : List Str} {k : Nat} {EX : XK}
variable {σ : St} {H : Hp} {Q : VK} {TQ : Bool → Hp → Prop} {a b Cl dx dy : Addr} {fs gs : List (Str × V)} {j : Nat} {sp : Sp} {m : Str}

/-- a callee runs somewhere below the body -/
theorem run_at {CX : CXT} {f : Addr} {fd : FuncData} {ps : List Str} {E : XK} {pins : List (Addr × Obj)} {s : Shared} {us : List Value} {vs : List V} {A : Around} (F : FnOk X.prog X.w X.K X.mg X.base CX j f fd ps sp) (hr : Room j A) (fr : A.frames = X.A.frames)
    (hb : Binds X.K fd ps []) (hx : Passes CX X E) (I : L2.Inv X pins σ H s) (r : Vals vs us) (h : sp vs H Q E) : wpAny (model X.prog X.w) A (call (.ref f) us) (EP X pins σ Q) X.xe s := by
  have hl : us.length = ps.length := by rw [← r.length]; exact F.len _ _ _ _ h
  have e0 : Env0 X.prog X.w X.K X.mg X.base A X.stack s H := by
    have e := I.env0
    exact ⟨by rw [fr]; exact e.frames, e.mod, e.bs, e.bsz, e.funs, e.frf, e.hok, e.bare⟩
  refine wpAny_call (codeAny_mono (F.run A X.stack s H ⟨us, []⟩ us vs Q E hr e0 (by
    have := hb s us I.kIn (by simpa using hl)
    simpa using this) r h) fun r s' hq => ?_)
  cases r with
  | error e => exact hx pins σ H s e s' I hq
  | ok fl =>
    cases fl with
    | ret u => exact I.after hq
    | next => exact False.elim hq
    | brk => exact False.elim hq
    | cont => exact False.elim hq
theorem ep_cmp {pins : List (Addr × Obj)} {u : Value} {s' : Shared} (h : EP X pins σ Q u s') : PySem.W.CmpBack (EP X pins σ Q) u s' := by
  obtain ⟨v, H', I, r, q⟩ := id h
  cases v with
  | non => cases r; exact h
  | bl b => cases r; exact h
  | int i => obtain ⟨t, rfl⟩ := r; exact h
  | str i => obtain ⟨t, rfl⟩ := r; exact h
  | byt i => obtain ⟨t, rfl⟩ := r; exact h
  | flt i => obtain ⟨t, rfl⟩ := r; exact h
  | ref i => cases r; exact h
  | ty i => cases r; exact h
/-- an instance of the heap, for the library's rules -/
theorem inst_at {pins : List (Addr × Obj)} {s : Shared} (I : L2.Inv X pins σ H s) (h : H a = some (.ins Cl dx fs)) : ∃ od, PySem.W.InstAt s.heap a (PySem.W.instObj Cl dx) Cl (some od) := by
  obtain ⟨mA, J, _⟩ := ins_get I.hok h
  obtain ⟨od, J, _⟩ := J.look
  exact ⟨od, J⟩
/-- a op b, both instances of one class -/
theorem b_own {op : Operator} (xk : Xk X P w K mg base sc N GL k EX) (D : Dm P w K mg base Cl m j sp) (hj : j ≤ k) (hc : PySem.W.selfFirst K Cl = true) (ha : H a = some (.ins Cl dx fs)) (hb : H b = some (.ins Cl dy gs)) (h : sp [.ref a, .ref b] H Q EX)
    (hn : PySem.dunder op.info.2 = m := by rfl) : Bo X op (.ref a) (.ref b) H Q := by
  obtain ⟨f, fd, ps, F, hm, bb⟩ := D
  obtain ⟨rfl, rfl, rfl, rfl, rfl, -, -, -, gl, -, room, -, tk, -, -⟩ := xk
  refine ⟨fun pins s σ v u I rx ry => ?_⟩
  cases rx
  cases ry
  obtain ⟨m', hF⟩ := I.fr
  obtain ⟨od, J⟩ := inst_at I ha
  obtain ⟨od', J'⟩ := inst_at I hb
  refine PySem.W.binop_K hF I.ok.mod.kin J J'.type hc (by rw [hn]; exact hm.at_) hm.fn ?_
  exact wpAny_mono (run_at F (room.mono hj) rfl bb (passes_call tk fun _ _ _ _ z => z) I (vs := [.ref a, .ref b]) (.cons rfl (.cons rfl .nil)) h) (fun _ _ z => ep_cmp z) fun _ _ z => z
theorem u_own_neg (xk : Xk X P w K mg base sc N GL k EX) (D : Dm P w K mg base Cl "__neg__" j sp) (hj : j ≤ k) (ha : H a = some (.ins Cl dx fs)) (h : sp [.ref a] H Q EX) : Uo X .USub (.ref a) H Q := by
  obtain ⟨f, fd, ps, F, hm, bb⟩ := D
  obtain ⟨rfl, rfl, rfl, rfl, rfl, -, -, -, gl, -, room, -, tk, -, -⟩ := xk
  refine ⟨fun pins s σ v I rx => ?_⟩
  cases rx
  obtain ⟨m', hF⟩ := I.fr
  obtain ⟨od, J⟩ := inst_at I ha
  exact PySem.W.ksp_neg hF I.ok.mod.kin J hm.at_ hm.fn (run_at F (room.mono hj) rfl bb (passes_call tk fun _ _ _ _ z => z) I (vs := [.ref a]) (.cons rfl .nil) h)
theorem k_own_abs (xk : Xk X P w K mg base sc N GL k EX) (D : Dm P w K mg base Cl "__abs__" j sp) (hj : j + 1 ≤ k) (ha : H a = some (.ins Cl dx fs)) (h : sp [.ref a] H Q EX) : C X (.builtin "abs") [.ref a] H Q := by
  obtain ⟨f, fd, ps, F, hm, bb⟩ := D
  obtain ⟨rfl, rfl, rfl, rfl, rfl, -, -, -, gl, -, room, -, tk, -, -⟩ := xk
  refine ⟨fun pins s σ us I r => ?_⟩
  obtain ⟨u, rfl, rx⟩ := vals1 r
  cases rx
  obtain ⟨m', hF⟩ := I.fr
  obtain ⟨od, J⟩ := inst_at I ha
  refine Calls.call_function_entry PyProof.Rows.kind_abs PyProof.Rows.plain_abs PyProof.Rows.entry_abs (PyProof.Rows.args_abs _) ?_
  unfold Builtin.«abs»
  refine wpAny_bind (m := oneArg "abs" _) (wpAny_pure ?_)
  refine wpAny_bind (m := callSpecial? (.ref a) (Str.ofString "__abs__")) (PySem.W.special_fn I.kIn J hm.at_ (beq_iff_eq.mp hm.fn) (wpAny_mono (run_at F (room.mono hj).in1 rfl bb (passes_call tk fun _ _ _ _ z => z) I (vs := [.ref a]) (.cons rfl .nil) h) (fun v s' z => ?_) fun _ _ z => z))
  exact wpAny_pure ⟨_, rfl, z⟩
/-! ### keywords -/
structure Ks (X : Cx) (kws : List Keyword) (σ : St) (H : Hp) (R : List V → Hp → Prop) : Prop where
  run : ∀ (pos : Pos) (pins : List (Addr × Obj)) (s : Shared), L2.Inv X pins σ H s → wpAny (model X.prog X.w) X.A (evalAll ((backToKw pos (keywordEach kws X.env)).map (·.2))) (AP X pins σ R) X.xe s
theorem pks {kws : List Keyword} : PK X kws (fun σ H Q => Ks X kws σ H Q) := ⟨fun pos pins s _ _ _ I h => h.run pos pins s I⟩
theorem Ks.of {kws : List Keyword} {t : TA} {R : List V → Hp → Prop} (h : PK X kws t) (q : t σ H R) : Ks X kws σ H R := ⟨fun pos pins s I => h.run pos pins s σ H R I q⟩
theorem ks_nil {R : List V → Hp → Prop} (h : R [] H) : Ks X [] σ H R := .of pk_nil h
theorem ks_cons {e : Expr} {nm : Option Str} {kpos : Pos} {kws : List Keyword} {R : List V → Hp → Prop} (h : E X e σ H fun x H1 => Ks X kws σ H1 fun xs H2 => R (x :: xs) H2) : Ks X (⟨nm, e, kpos⟩ :: kws) σ H R := .of (pk_cons pe pks) h
theorem Ks.mono {kws : List Keyword} {R R' : List V → Hp → Prop} (h : Ks X kws σ H R) (i : ∀ v H, R v H → R' v H) : Ks X kws σ H R' := ⟨fun pos pins s I => wpAny_mono (h.run pos pins s I) (fun _ _ ⟨v, H', I', r, q⟩ => ⟨v, H', I', r, i _ _ q⟩) fun _ _ z => z⟩
/-- a class that is made by keywords alone -/
def Dck (P : Program) (w : World) (K : PySem.W.Frag) (mg : Str → Option Value) (base : Heap) (x : Str) (Cl : Addr) (ks : List Str) (j : Nat) (sp : Sp) : Prop :=
  ∃ (f : Addr) (fd : FuncData) (ps : List Str), FnOk P w K mg base (L2.CX P w) j f fd ps sp ∧ mg x = some (.ref Cl) ∧ Mk K Cl f ∧ KBn K fd ps 1 ks (fun us ws => us ++ ws) (fun vs zs => vs ++ zs)
theorem kb_of {x qual : Str} {st : Stmt} {f : Addr} {fd : FuncData} {ps ks : List Str} (F : Fun K x qual st f fd)
    (h : ∀ (kV doc pm : Value) (an : Option Addr) (cdv ct : Value) (us ws : List Value), us.length = 1 → ws.length = ks.length → bindArgs (PySem.W.fnOf x qual (defArgs st) (defBody st) (defScope st) .none kV doc pm an cdv ct) ⟨us, ks.zip ws⟩ = pure (ps.zip (us ++ ws))) :
    KBn K fd ps 1 ks (fun us ws => us ++ ws) (fun vs zs => vs ++ zs) := by
  obtain ⟨oc, od, kV, doc, pm, an, cdv, ct, osl, rfl, lk, hcd⟩ := F.ex
  exact ⟨fun s us ws _ l1 l2 => .of_eq (h kV doc pm an cdv ct us ws l1 l2), fun r1 r2 => r1.append r2⟩
theorem e_makeK {x : Str} {p pos : Pos} {kws : List Keyword} {ks : List Str} (xk : Xk X P w K mg base sc N GL k EX) (hg : x ∈ GL) (D : Dck P w K mg base x Cl ks j sp) (hj : j + 1 ≤ k)
    (h : Ks X kws σ H fun zs H1 => zs.length = ks.length ∧ ∀ x dx H2, H1 x = none → H1 dx = none → dx ≠ x → Kp [] H1 H2 → H2 x = some (.ins Cl dx []) → sp (.ref x :: zs) H2 (fun v H3 => v = .non ∧ Q (.ref x) H3) EX)
    (hall : (backToKw pos (keywordEach kws X.env)).all (·.1.isSome) = true := by rfl) (hks : (backToKw pos (keywordEach kws X.env)).filterMap (·.1) = ks := by rfl)
    (hpl : ((backTo pos (starEach [] X.env)).any (·.1) || (backToKw pos (keywordEach kws X.env)).any (·.1.isNone)) = false := by rfl) : E X (.Call (.Name x p) [] kws pos) σ H Q := by
  obtain ⟨f, fd, ps, F, hm, M, b⟩ := D
  obtain ⟨rfl, rfl, rfl, rfl, rfl, -, -, -, gl, -, room, -, tk, -, -⟩ := xk
  refine .of (pe_makeK0 M F (room.mono hj) (gl x hg).1 hm b (passes_call tk fun _ _ _ _ z => z) pks hall hks (gl x hg).2.1 hpl) (h.mono fun zs H1 ⟨l, z⟩ => ?_)
  refine ⟨rfl, l, fun x dx n1 n2 n3 => z x dx _ n1 n2 n3 ?_ upd_same⟩
  exact (kp_new n2).trans (kp_new (by rw [upd_ne n3.symm]; exact n1))
end
end Sx
set_option Elab.async false
set_option linter.all false
set_option maxRecDepth 100000
set_option maxHeartbeats 4000000
/-! SxM: own times int, int times own. -/
namespace Sx
open PySem L2


section
variable {X : Cx} {P : Program} {w : World} {K : PySem.W.Frag} {mg : Str → Option Value} {base : Heap} {sc : Scope} {N GL : List Str} {k : Nat} {EX : XK}
variable {σ : St} {H : Hp} {Q : VK} {TQ : Bool → Hp → Prop} {a b Cl dx dy : Addr} {fs gs : List (Str × V)} {j : Nat} {sp : Sp} {m : Str}

/-- own * int -/
theorem b_ownT {op : Operator} {i : Int} {fo ro rc : Option Value} (xk : Xk X P w K mg base sc N GL k EX) (D : Dm P w K mg base Cl m j sp) (hj : j ≤ k) (hc : PySem.W.selfFirst K Cl = true) (hr : PySem.W.findIn K (.ref Cl) (PySem.dunderR op.info.2) = some rc) (hp : rc = none ∨ ∃ g : Addr, rc = some (.ref g))
    (h1 : PySem.W.findIn K (.type "int") (PySem.dunder op.info.2) = some fo) (h2 : PySem.W.findIn K (.type "int") (PySem.dunderR op.info.2) = some ro) (hsub : PySem.W.subIn K (.type "int") (.ref Cl) = some false)
    (ha : H a = some (.ins Cl dx fs)) (h : sp [.ref a, .int i] H Q EX) (hn : PySem.dunder op.info.2 = m := by rfl) : Bo X op (.ref a) (.int i) H Q := by
  obtain ⟨f, fd, ps, F, hm, bb⟩ := D
  obtain ⟨rfl, rfl, rfl, rfl, rfl, -, -, -, gl, -, room, -, tk, -, -⟩ := xk
  refine ⟨fun pins s σ v u I rx ry => ?_⟩
  cases rx
  obtain ⟨t, rfl⟩ := id ry
  obtain ⟨m', hF⟩ := I.fr
  obtain ⟨od, J⟩ := inst_at I ha
  refine PySem.W.ksp_binT (T := "int") hF I.ok.mod.kin J rfl hc (by rw [hn]; exact hm.at_) hm.fn hr hp h1 h2 hsub ?_
  exact wpAny_mono (run_at F (room.mono hj) rfl bb (passes_call tk fun _ _ _ _ z => z) I (vs := [.ref a, .int i]) (.cons rfl (.cons ry .nil)) h) (fun _ _ z => ep_cmp z) fun _ _ z => z
theorem int_mul_inst (i : Int) (t : Tok) (x C d0 : Addr) : Meets (Builtin.«int.__mul__» ⟨[.int i t, .ref x], []⟩) (fun _ R s => s.heap.get? x = some (PySem.W.instObj C d0) ∧ R (.ok (.ret Value.notImplemented)) s) :=
  .of_wp fun prog w A R s h => by obtain ⟨hp, g, d, tk, os⟩ := s; obtain ⟨hl, h⟩ := h; simp only [PySem.W.instObj] at hl; wp_walk; exact ⟨_, rfl, h⟩
/-- int * own -/
theorem b_ownR {i : Int} {g : Addr} (xk : Xk X P w K mg base sc N GL k EX) (D : Dm P w K mg base Cl "__rmul__" j sp) (hj : j ≤ k) (hc : PySem.W.selfFirst K Cl = true) (hg : PySem.W.findIn K (.ref Cl) "__mul__" = some (some (.ref g)))
    (h1 : PySem.W.findIn K (.type "int") "__mul__" = some (some (.builtin "int.__mul__"))) (h2 : PySem.W.findIn K (.type "int") "__rmul__" = some (some (.builtin "int.__rmul__"))) (hsub : PySem.W.subIn K (.ref Cl) (.type "int") = some false)
    (ha : H a = some (.ins Cl dx fs)) (h : sp [.ref a, .int i] H Q EX) : Bo X .Mult (.int i) (.ref a) H Q := by
  obtain ⟨f, fd, ps, F, hm, bb⟩ := D
  obtain ⟨rfl, rfl, rfl, rfl, rfl, -, -, -, gl, -, room, -, tk, -, -⟩ := xk
  refine ⟨fun pins s σ v u I rx ry => ?_⟩
  cases ry
  obtain ⟨t, rfl⟩ := id rx
  have hx := (ins_get I.hok ha).choose_spec.1.obj
  obtain ⟨m', hF⟩ := I.fr
  obtain ⟨od, J⟩ := inst_at I ha
  have run := wpAny_mono (run_at F (room.mono hj) rfl bb (passes_call tk fun _ _ _ _ z => z) I (vs := [.ref a, .int i]) (.cons rfl (.cons rx .nil)) h) (fun _ _ z => ep_cmp z) fun _ _ z => z
  have one := PySem.W.ksp_try I.kIn J hm.at_ hm.fn run
  have X' := I.kIn
  obtain ⟨cd, rest, hcd, hmr⟩ := PySem.W.ksp_first hc
  have e1 : PySem.dunder "mul" = ("__mul__" : Str) := by decide +kernel
  have e2 : PySem.dunderR "mul" = ("__rmul__" : Str) := by decide +kernel
  obtain ⟨hh, gg, d, tt, os⟩ := s
  have L1 : PySem.W.Looks (model X.prog X.w) hh (typeOf (.int i t)) (.type "int") := PySem.W.Looks.of_pure rfl
  have L2 : PySem.W.Looks (model X.prog X.w) hh (typeOf (.ref a)) (.ref Cl) := J.type
  have L3 : PySem.W.Looks (model X.prog X.w) hh (fillsNumberSlot (.type "int") "mul") true := PySem.W.ksp_fillsT X' (by rw [e1]; exact h1) (by rw [e2]; exact h2)
  have L4 : PySem.W.Looks (model X.prog X.w) hh (fillsNumberSlot (.ref Cl) "mul") true := PySem.W.fills_K X' hcd hmr (by rw [e1]; exact hg)
  have L5 : PySem.W.Looks (model X.prog X.w) hh (isSubtype (.ref Cl) (.type "int")) false := PySem.W.looks_subIn X' hsub
  have L6 : PySem.W.Looks (model X.prog X.w) hh (numberSlotInPython (.type "int") "mul") false := PySem.W.Looks.of_pure rfl
  have hne : (Value.type "int" == Value.ref Cl) = false := Bool.eq_false_iff.mpr fun q => by cases beq_iff_eq.mp q
  unfold binaryOp
  refine wpAny_holding (wpAny_bind ?_)
  show wpAny _ _ (binaryOp1 "mul" _ _) _ _ _
  unfold binaryOp1
  refine wpAny_bind (L1.at (wpAny_bind (L2.at (wpAny_bind (L3.at ?_)))))
  simp only [hne, Bool.false_eq_true, if_false]
  refine wpAny_bind (L4.at ?_)
  ksp_lk
  have sl : Slot "int" (PySem.dunder "mul") "int.__mul__" := by rw [e1]; exact PySem.F.slot_int_mul
  have key : wpAny (model X.prog X.w) X.A (call (.builtin "int.__mul__") [.int i t, .ref a]) (fun v s' => v = .notImplemented ∧ s' = ⟨hh, gg, d, tt, os⟩) X.xe ⟨hh, gg, d, tt, os⟩ :=
    call_meets PySem.F.slot_int_mul (typeIs_int _ _ _) PySem.F.entry_int_mul (PySem.F.args_int_mul_2 _ _) (int_mul_inst i t a Cl dx) ⟨hx, rfl, rfl⟩
  have step : ∀ Q0 : Option Value → Shared → Prop, Q0 none ⟨hh, gg, d, tt, os⟩ → wpAny (model X.prog X.w) X.A (tryMethod (.int i t) (PySem.dunder "mul") (.ref a)) Q0 X.xe ⟨hh, gg, d, tt, os⟩ := fun Q0 h0 => by
    refine wpAny_tryMethod_declines (T := "int") (id := "int.__mul__") ?_ ?_ ?_
    · exact typeIs_int _ _ _
    · exact sl
    · exact wpAny_mono key (fun v s' hv => ⟨hv.1, by rw [hv.2]; exact h0⟩) fun _ _ e => e
  refine step _ ?_
  ksp_lk
  rw [e2]
  refine wpAny_mono one (fun r s' hr' => ?_) fun _ _ e => e
  obtain ⟨v, rfl, hq⟩ := hr'
  ksp_lk
  exact hq
end
end Sx
set_option Elab.async false
set_option linter.all false
set_option maxRecDepth 100000
set_option maxHeartbeats 4000000
/-! SxN: comparisons of own classes; methods that hand back NotImplemented. -/
namespace Sx
open PySem L2

/-! ### a def that hands back NotImplemented and changes nothing -/
def NiR (outer : List Env) (P : Program) (w : World) (H : Hp) (s : Shared) (r : Result) (s' : Shared) : Prop :=
  match r with
  | .ok (.ret u) => u = .notImplemented ∧ s'.os = s.os ∧ PyProof.Rows.AllBare s'.gens ∧ Un (frs outer) [] H H s.heap s'.heap ∧ HOk P w H s'.heap
  | .ok _ => False
  | .error _ => False
structure NiOk (P : Program) (w : World) (K : PySem.W.Frag) (mg : Str → Option Value) (base : Heap) (k : Nat) (f : Addr) (fd : FuncData) (ps : List Str) (pre : List V → Hp → Prop) : Prop where
  len : ∀ vs H, pre vs H → vs.length = ps.length
  run : ∀ (A : Around) (outer : List Env) (s : Shared) (H : Hp) (args : Args) (us : List Value) (vs : List V), Room k A → Env0 P w K mg base A outer s H → BindsTo s fd args (ps.zip us) → Vals vs us → pre vs H →
    codeAny (model P w) A (.call (.ref f) args) (NiR outer P w H s) s
structure Ni (X : Cx) (sts : List Stmt) (σ : St) (H : Hp) : Prop where
  run : ∀ (pins : List (Addr × Obj)) (s : Shared), L2.Inv X pins σ H s → wpAny (model X.prog X.w) X.A (execs sts X.env) (fun fl s' => fl = .ret .notImplemented ∧ ∃ σ', L2.Inv X pins σ' H s') X.xe s
theorem cx_no {P : Program} {w : World} {outer : List Env} {H : Hp} {s : Shared} {e : Value} {s' : Shared} (h : L2.CX P w outer H s (fun _ _ _ => False) e s') : False := by
  obtain ⟨_, _, _, _, _, _, _, _, _, _, _, _, z⟩ := h
  exact z.elim
section
variable {P : Program} {w : World} {K : PySem.W.Frag} {mg : Str → Option Value} {base : Heap}
theorem ni_go {x qual : Str} {st : Stmt} {f : Addr} {fd : FuncData} {N ps : List Str} (GL : List Str) {k : Nat} {pre : List V → Hp → Prop} (F : Fun K x qual st f fd) (S : FnScope N ps (defScope st)) (hok : okNames N GL (defScope st) = true) (len : ∀ vs H, pre vs H → vs.length = ps.length)
    (body : ∀ (X : Cx) (H : Hp) (vs : List V), Xk X P w K mg base (defScope st) N GL k (fun _ _ _ => False) → pre vs H → Ni X (defBody st) (L2.start N vs) H) : NiOk P w K mg base (k + 1) f fd ps pre := by
  obtain ⟨oc, od, kV, doc, pm, an, cdv, ct, osl, rfl, lk, hcd⟩ := F.ex
  refine ⟨len, fun A outer s H args us vs hr e0 hb r hsp => ?_⟩
  have hl := len _ _ hsp
  have KX : K.In s.heap := e0.mod.kin.keeps fun b o e => (e0.bs b o e).1
  have lim : s.heap.NoLimit := e0.mod.nolimit.keeps fun b o e => (e0.bs b o e).1
  have hkind : ∀ y ∈ ps.zip us, (defScope st).names.lookup y.1 = some .local ∨ ((defScope st).names.lookup y.1 = some .cell ∧ ((cellsFrom (s.heap.objs.size + 1) (defScope st).names []).lookup y.1).isSome = true) := fun ⟨n, v⟩ hy => by
    rcases S.par n (List.of_mem_zip hy).1 with q | q
    · exact .inl q
    · exact .inr ⟨q, PySem.W.cellsFrom_some _ _ _ (.inl q)⟩
  refine codeAny_call_function hr.depth (KX _ _ lk) rfl S.co S.gen rfl (PySem.W.codeRec_of KX hcd) (hb _ _ _ _ ?_)
  refine wpAny_newFunctionEnv_cells S.kind hkind fun env he s1 x => ?_
  subst he
  refine ⟨lim.keeps x.toInCall.keep, codeAny_func ?_⟩
  have q := names_ok (X := cxOf (L2.CX P w) P w K mg base N qual (defScope st) f cdv A outer s H (fun _ _ _ => False)) (N := N) (GL := GL) hok
  have hB := body (cxOf (L2.CX P w) P w K mg base N qual (defScope st) f cdv A outer s H (fun _ _ _ => False)) H vs ⟨rfl, rfl, rfl, rfl, rfl, rfl, S.nd, q.1, q.2, fun _ => rfl, hr.deeper _, rfl, takes_of rfl rfl rfl rfl, passes_of rfl, _, _, _, _, rfl⟩ hsp
  have I : L2.Inv (cxOf (L2.CX P w) P w K mg base N qual (defScope st) f cdv A outer s H (fun _ _ _ => False)) [] (L2.start N vs) H s1 := inv_start S hr.hd e0 hl r x
  refine wpAny_mono (hB.run [] s1 I) (fun fl s' hs => ?_) fun e s' hs => ?_
  · obtain ⟨rfl, σ', J⟩ := hs
    exact ⟨rfl, J.os, J.bare, J.base, J.hok⟩
  · exact wpAny_mono hs (fun _ _ z => (cx_no z).elim) fun _ _ z => (cx_no z).elim
/-- a method that hands back NotImplemented where pre holds -/
def Dn (P : Program) (w : World) (K : PySem.W.Frag) (mg : Str → Option Value) (base : Heap) (Cl : Addr) (m : Str) (j : Nat) (pre : List V → Hp → Prop) : Prop :=
  ∃ (f : Addr) (fd : FuncData) (ps : List Str), NiOk P w K mg base j f fd ps pre ∧ Meth K Cl m f ∧ Binds K fd ps []
end
section
variable {X : Cx} {P : Program} {w : World} {K : PySem.W.Frag} {mg : Str → Option Value} {base : Heap} {sc : Scope} {N GL : List Str} {k : Nat} {EX : XK}
variable {σ : St} {H : Hp} {Q : VK} {TQ : Bool → Hp → Prop} {a b Cl Dl dx dy : Addr} {fs gs : List (Str × V)} {j j' : Nat} {sp : Sp} {m : Str} {c : Expr} {bd rest : List Stmt} {pos p : Pos} {pre pre' : List V → Hp → Prop}
theorem ni_if (h : T X c σ H fun q H1 => q = true ∧ H1 = H) (hb : Ni X bd σ H) : Ni X (.If c bd [] pos :: rest) σ H := by
  refine ⟨fun pins s I => ?_⟩
  refine wpAny_execs_cons (wpAny_If (wpAny_mono (h.run pins s I) (fun q s1 z => ?_) fun _ _ z => z))
  obtain ⟨H1, I1, rfl, rfl⟩ := z
  refine wpAny_mono (hb.run pins s1 I1) (fun fl s2 z => ?_) fun _ _ z => z
  obtain ⟨rfl, z⟩ := z
  exact ⟨rfl, z⟩
theorem ni_no (h : T X c σ H fun q H1 => q = false ∧ H1 = H) (hb : Ni X rest σ H) : Ni X (.If c bd [] pos :: rest) σ H := by
  refine ⟨fun pins s I => ?_⟩
  refine wpAny_execs_cons (wpAny_If (wpAny_mono (h.run pins s I) (fun q s1 z => ?_) fun _ _ z => z))
  obtain ⟨H1, I1, rfl, rfl⟩ := z
  refine wpAny_execs_nil ?_
  exact hb.run pins s1 I1
theorem ni_ret (xk : Xk X P w K mg base sc N GL k EX) (hg : ("NotImplemented" : Str) ∈ GL) (hb : mg "NotImplemented" = none) : Ni X (.Return (some (.Name "NotImplemented" p)) pos :: rest) σ H := by
  refine ⟨fun pins s I => ?_⟩
  refine wpAny_execs_cons (wpAny_Return_some (ld_blt I (xk.gl _ hg).1 (by rw [xk.mg]; exact hb) (u := .notImplemented) (by decide +kernel) ?_ (xk.gl _ hg).2.2 (xk.gl _ hg).2.1))
  exact ⟨rfl, σ, I⟩
/-- such a method, called somewhere below the body -/
theorem ni_at {f : Addr} {fd : FuncData} {ps : List Str} {pins : List (Addr × Obj)} {s : Shared} {us : List Value} {vs : List V} {A : Around} (F : NiOk X.prog X.w X.K X.mg X.base j f fd ps pre) (hr : Room j A) (fr : A.frames = X.A.frames)
    (hb : Binds X.K fd ps []) (I : L2.Inv X pins σ H s) (r : Vals vs us) (h : pre vs H) : wpAny (model X.prog X.w) A (call (.ref f) us) (fun u s' => u = .notImplemented ∧ L2.Inv X pins σ H s') X.xe s := by
  have hl : us.length = ps.length := by rw [← r.length]; exact F.len _ _ h
  have e0 : Env0 X.prog X.w X.K X.mg X.base A X.stack s H := by
    have e := I.env0
    exact ⟨by rw [fr]; exact e.frames, e.mod, e.bs, e.bsz, e.funs, e.frf, e.hok, e.bare⟩
  refine wpAny_call (codeAny_mono (F.run A X.stack s H ⟨us, []⟩ us vs hr e0 (by
    have := hb s us I.kIn (by simpa using hl)
    simpa using this) r h) fun r s' hq => ?_)
  cases r with
  | error e => exact False.elim hq
  | ok fl =>
    cases fl with
    | ret u =>
      obtain ⟨rfl, os, bare, un, hok⟩ := hq
      obtain ⟨hh, g, d, t, os'⟩ := s'
      obtain rfl : os' = s.os := os
      exact ⟨rfl, I.call (h' := hh) (g' := g) (d' := d) (t' := t) (ch := []) un hok bare (fun b z => absurd z (by simp))⟩
    | next => exact False.elim hq
    | brk => exact False.elim hq
    | cont => exact False.elim hq
/-- a op b, both instances of one class: ==, <, <=, >, >= -/
theorem c_own {op : CmpOp} (xk : Xk X P w K mg base sc N GL k EX) (D : Dm P w K mg base Cl m j sp) (hj : j ≤ k) (ha : H a = some (.ins Cl dx fs)) (hb : H b = some (.ins Cl dy gs)) (h : sp [.ref a, .ref b] H Q EX)
    (hn : (cmpInfo op).2.1 = m) (hc : ∀ v u, compareOp op v u = richCompare op v u) : Co X op (.ref a) (.ref b) H Q := by
  obtain ⟨f, fd, ps, F, hm, bb⟩ := D
  obtain ⟨rfl, rfl, rfl, rfl, rfl, -, -, -, gl, -, room, -, tk, -, -⟩ := xk
  refine ⟨fun pins s σ v u I rx ry => ?_⟩
  cases rx
  cases ry
  obtain ⟨m', hF⟩ := I.fr
  obtain ⟨od, J⟩ := inst_at I ha
  obtain ⟨od', J'⟩ := inst_at I hb
  rw [hc]
  refine PySem.W.cmp_K (tb := .ref Cl) room.units0 hF I.ok.mod.kin J J'.type (by simp [PySem.W.notFirst]) (by rw [hn]; exact hm.at_) hm.fn ?_
  exact wpAny_mono (run_at F (room.mono hj) rfl bb (passes_call tk fun _ _ _ _ z => z) I (vs := [.ref a, .ref b]) (.cons rfl (.cons rfl .nil)) h) (fun _ _ z => ep_cmp z) fun _ _ z => z
/-- a special method that is a built-in's, of an own instance -/
theorem ifBound_B {M : Model} {A : Around} {E : Value → Shared → Prop} {s : Shared} {x C : Addr} {ox : Obj} {od : Option Obj} {name : Str} {id : String} {args : List Value} {R : Option Value → Shared → Prop} (Y : K.In s.heap) (I : PySem.W.InstAt s.heap x ox C od) (hs : PySem.W.findIn K (.ref C) name = some (some (.builtin id)))
    (hb : ∀ self, bindSpecial (.builtin id) self = pure (.builtin id, [self])) (h : wpAny M A (call (.builtin id) (.ref x :: args)) (fun v => R (some v)) E s) : wpAny M A (callSpecialIfBound? (.ref x) name args) R E s := by
  simp only [callSpecialIfBound?, bindSpecialIfBound?]
  refine wpAny_holding (wpAny_bind (wpAny_bind (wpAny_bind (I.type.here ((PySem.W.looks_findIn Y hs).here ?_)))))
  refine wpAny_bind (wpAny_askSetting (wpAny_ite ?_))
  have fin : wpAny M A (call (.builtin id) ([.ref x] ++ args) >>= fun v => pure (some v)) R E s := wpAny_bind (wpAny_mono h (fun v s' h' => wpAny_pure h') fun _ _ h' => h')
  split
  · exact wpAny_bind ((PySem.W.Looks.of_pure (hb _)).here (wpAny_pure (by exact fin)))
  · exact wpAny_tryCatch (wpAny_bind ((PySem.W.Looks.of_pure (hb _)).here (wpAny_pure (by exact fin))))
/-- object.__ne__ of an own instance, by its own __eq__ -/
theorem call_one {A : Around} {E : Value → Shared → Prop} {s : Shared} {x C f : Addr} {ox : Obj} {od : Option Obj} {y : Value} {prog : Program} {w : World} {R : Value → Shared → Prop} (hu : A.in1.units < cLine) (Y : K.In s.heap) (I : PySem.W.InstAt s.heap x ox C od) (hm : PySem.W.mroIn K C (.type "object") = some true)
    (hr : PySem.W.findIn K (.ref C) "__eq__" = some (some (.ref f))) (hf : PySem.W.isFn K (.ref f) = true)
    (h : wpAny (model prog w) A.in1 (call (.ref f) [.ref x, y]) (fun v s' => (v = .notImplemented ∧ R .notImplemented s') ∨ ∃ q, v = .bool q ∧ R (.bool (!q)) s') E s) : wpAny (model prog w) A (call (.builtin "object.__ne__") [.ref x, y]) R E s := by
  refine wpAny_call (codeAny_call_builtin PySem.F.slot_object_ne.plain PySem.F.cmpEntry_ne (PySem.W.check_slot (i := "object.__ne__") (owner := "object") (n := "__ne__") PySem.F.cmpKind_ne PySem.F.cmpSplit_ne (I.type.andThen (PySem.W.looks_mroIn Y hm)) (PySem.F.cmpArgs_ne _ _) ?_))
  unfold Builtin.«object.__ne__»
  refine wpAny_bind (m := slotArgs "__ne__" 1 _) (wpAny_pure ?_)
  refine wpAny_bind (m := cRoomFor _ _) (wpAny_cRoomFor hu ?_)
  refine wpAny_bind (m := callSpecialIfBound? (.ref x) (Str.ofString "__eq__") _) (PySem.W.ifBound_K Y I hr hf (wpAny_mono h (fun r s' hq => ?_) fun _ _ y => y))
  rcases hq with ⟨rfl, hq⟩ | ⟨q, rfl, hq⟩
  · exact wpAny_pure hq
  · refine wpAny_bind (m := truthy (.bool q)) (wpAny_truthy_bool ?_)
    exact wpAny_pure hq
/-- a comparison by a given first try -/
theorem cmp_by {op : CmpOp} {A : Around} {E : Value → Shared → Prop} {s : Shared} {h₀ : Heap} {L x C : Addr} {y tb : Value} {m : Str → Option Value} {ox : Obj} {od : Option Obj} {prog : Program} {w : World} {R : Value → Shared → Prop} (hu : A.units < cLine) (F : PyProof.Rows.Fr h₀ L s.heap m) (X₀ : K.In h₀) (I : PySem.W.InstAt s.heap x ox C od) (hb : PySem.W.Looks (model prog w) s.heap (typeOf y) tb) (hn : PySem.W.notFirst K C tb = true)
    (one : wpAny (model prog w) A (tryCompare (.ref x) (cmpInfo op).2.1 y) (fun r s' => ∃ v, r = some v ∧ R v s') E s) : wpAny (model prog w) A (richCompare op (.ref x) y) R E s := by
  have X := X₀.keeps F.keep
  unfold richCompare
  simp only [oneThing_ref]
  refine wpAny_holding (wpAny_bind (wpAny_cRoomFor hu ?_))
  refine wpAny_bind (I.type.here (wpAny_bind (hb.here ?_)))
  split
  · rename_i q
    have e : PySem.W.subIn K tb (.ref C) = some false := by
      rcases Bool.or_eq_true_iff.mp hn with e | e
      · rw [beq_iff_eq.mp e] at q; simp at q
      · exact beq_iff_eq.mp e
    refine wpAny_bind ((PySem.W.looks_subIn X e).here ?_)
    simp only [Bool.false_eq_true, if_false]
    refine wpAny_bind (wpAny_mono one (fun r s' z => ?_) fun _ _ e => e)
    obtain ⟨v, rfl, hq⟩ := z
    exact wpAny_pure hq
  · refine wpAny_bind (wpAny_pure ?_)
    simp only [Bool.false_eq_true, if_false]
    refine wpAny_bind (wpAny_mono one (fun r s' z => ?_) fun _ _ e => e)
    obtain ⟨v, rfl, hq⟩ := z
    exact wpAny_pure hq
/-- a != b of one class, by its __eq__ -/
theorem c_ownNe (xk : Xk X P w K mg base sc N GL k EX) (D : Dm P w K mg base Cl "__eq__" j sp) (hj : j + 2 ≤ k) (hne : PySem.W.findIn K (.ref Cl) "__ne__" = some (some (.builtin "object.__ne__"))) (hmr : PySem.W.mroIn K Cl (.type "object") = some true)
    (ha : H a = some (.ins Cl dx fs)) (hb : H b = some (.ins Cl dy gs)) (h : sp [.ref a, .ref b] H (fun v H' => ∃ q, v = .bl q ∧ Q (.bl (!q)) H') EX) : Co X .NotEq (.ref a) (.ref b) H Q := by
  obtain ⟨f, fd, ps, F, hm, bb⟩ := D
  obtain ⟨rfl, rfl, rfl, rfl, rfl, -, -, -, gl, -, room, -, tk, -, -⟩ := xk
  refine ⟨fun pins s σ v u I rx ry => ?_⟩
  cases rx
  cases ry
  obtain ⟨m', hF⟩ := I.fr
  obtain ⟨od, J⟩ := inst_at I ha
  obtain ⟨od', J'⟩ := inst_at I hb
  show wpAny _ _ (richCompare .NotEq _ _) _ _ _
  refine cmp_by (tb := .ref Cl) room.units0 hF I.ok.mod.kin J J'.type (by simp [PySem.W.notFirst]) ?_
  unfold tryCompare
  refine wpAny_bind (ifBound_B I.kIn J (name := (cmpInfo CmpOp.NotEq).2.1) hne (fun self => PySem.F.slot_object_ne.bind self) ?_)
  refine call_one (f := f) (by have := room.un; show X.A.units + 1 < _; omega) I.kIn J hmr hm.at_ hm.fn ?_
  refine wpAny_mono (run_at F (Room.in1 (room.mono (by omega : j + 1 ≤ k))) rfl bb (passes_call tk fun _ _ _ _ z => z) I (vs := [.ref a, .ref b]) (.cons rfl (.cons rfl .nil)) h) (fun u s' z => ?_) fun _ _ z => z
  obtain ⟨v, H', I', r, q, rfl, hq⟩ := z
  cases r
  exact .inr ⟨q, rfl, wpAny_pure ⟨_, rfl, .bl (!q), _, I', rfl, hq⟩⟩

/-! ### comparisons that both sides decline -/
structure Ty (X : Cx) (H : Hp) (x : V) (t : Value) : Prop where
  run : ∀ (pins : List (Addr × Obj)) (s : Shared) (σ : St) (u : Value), L2.Inv X pins σ H s → RelV x u → PySem.W.Looks (model X.prog X.w) s.heap (typeOf u) t
structure Dec (X : Cx) (H : Hp) (nm : Str) (x y : V) : Prop where
  run : ∀ (pins : List (Addr × Obj)) (s : Shared) (σ : St) (u v : Value), L2.Inv X pins σ H s → RelV x u → RelV y v → wpAny (model X.prog X.w) X.A (tryCompare u nm v) (fun r s' => r = none ∧ L2.Inv X pins σ H s') X.xe s
structure Ns (X : Cx) (H : Hp) (x y : V) : Prop where
  one : ∀ (op : CmpOp) (u v : Value), RelV x u → RelV y v → oneThing? op u v = none
  run : ∀ (pins : List (Addr × Obj)) (s : Shared) (σ : St) (u v : Value) (R : Bool → Shared → Prop), L2.Inv X pins σ H s → RelV x u → RelV y v → R false s → wpAny (model X.prog X.w) X.A (isSame u v) R X.xe s
/-- == and != where both decline -/
theorem c_decl {x y : V} {ta tb : Value} {op : CmpOp} {q : Bool} (xk : Xk X P w K mg base sc N GL k EX) (t1 : Ty X H x ta) (t2 : Ty X H y tb) (hne : (ta != tb) = true) (hs : PySem.W.subIn K tb ta = some false) (ns : Ns X H x y) (d1 : Dec X H (cmpInfo op).2.1 x y) (d2 : Dec X H (cmpInfo op).2.2 y x)
    (ho : (op = .Eq ∧ q = false) ∨ (op = .NotEq ∧ q = true)) (h : Q (.bl q) H) : Co X op x y H Q := by
  obtain ⟨rfl, rfl, rfl, rfl, rfl, -, -, -, gl, -, room, -, tk, -, -⟩ := xk
  refine ⟨fun pins s σ v u I rx ry => ?_⟩
  have main : wpAny (model X.prog X.w) X.A (richCompare op v u) (EP X pins σ Q) X.xe s := by
    have e1 := d1.run
    have e2 := d2.run
    rcases hi : cmpInfo op with ⟨sym, f, r⟩
    rw [hi] at e1 e2
    simp only [richCompare, hi, ns.one op v u rx ry]
    refine wpAny_holding ?_
    refine wpAny_bind (wpAny_cRoomFor_or (.inr room.units0) ?_)
    refine wpAny_bind ((t1.run pins s σ v I rx).here (wpAny_bind ((t2.run pins s σ u I ry).here ?_)))
    simp only [hne, if_true]
    refine wpAny_bind ((PySem.W.looks_subIn I.kIn hs).here ?_)
    simp only [Bool.false_eq_true, if_false, Bool.not_false, if_true]
    refine wpAny_bind (wpAny_mono (e1 pins s σ v u I rx ry) (fun r0 s1 z => ?_) fun _ _ z => z)
    obtain ⟨rfl, I1⟩ := z
    refine wpAny_bind (wpAny_mono (e2 pins s1 σ u v I1 ry rx) (fun r0 s2 z => ?_) fun _ _ z => z)
    obtain ⟨rfl, I2⟩ := z
    rcases ho with ⟨rfl, rfl⟩ | ⟨rfl, rfl⟩
    · exact wpAny_bind (wpAny_rule (wpAny_bind (ns.run pins s2 σ v u _ I2 rx ry (wpAny_pure ⟨.bl _, _, I2, rfl, h⟩))))
    · exact wpAny_bind (wpAny_rule (wpAny_bind (ns.run pins s2 σ v u _ I2 rx ry (wpAny_pure ⟨.bl _, _, I2, rfl, h⟩))))
  rcases ho with ⟨rfl, rfl⟩ | ⟨rfl, rfl⟩ <;> exact main
theorem ty_own (ha : H a = some (.ins Cl dx fs)) : Ty X H (.ref a) (.ref Cl) := ⟨fun pins s σ u I r => by cases r; obtain ⟨od, J⟩ := inst_at I ha; exact J.type⟩
theorem ty_int {i : Int} : Ty X H (.int i) (.type "int") := ⟨fun pins s σ u I r => by obtain ⟨t, rfl⟩ := r; exact PySem.W.Looks.of_pure rfl⟩
theorem ty_str {i : Str} : Ty X H (.str i) (.type "str") := ⟨fun pins s σ u I r => by obtain ⟨t, rfl⟩ := r; exact PySem.W.Looks.of_pure rfl⟩
theorem ty_non : Ty X H .non (.type "NoneType") := ⟨fun pins s σ u I r => by cases r; exact PySem.W.Looks.of_pure rfl⟩
theorem dec_own {x : V} (xk : Xk X P w K mg base sc N GL k EX) (D : Dn P w K mg base Cl m j pre) (hj : j ≤ k) (ha : H a = some (.ins Cl dx fs)) (h : pre [.ref a, x] H) : Dec X H m (.ref a) x := by
  obtain ⟨f, fd, ps, F, hm, bb⟩ := D
  obtain ⟨rfl, rfl, rfl, rfl, rfl, -, -, -, gl, -, room, -, tk, -, -⟩ := xk
  refine ⟨fun pins s σ u v I rx ry => ?_⟩
  cases rx
  obtain ⟨od, J⟩ := inst_at I ha
  unfold tryCompare
  refine wpAny_bind (PySem.W.ifBound_K I.kIn J hm.at_ hm.fn (wpAny_mono (ni_at F (room.mono hj) rfl bb I (vs := [.ref a, x]) (.cons rfl (.cons ry .nil)) h) (fun u s' z => ?_) fun _ _ z => z))
  obtain ⟨rfl, I'⟩ := z
  exact wpAny_pure ⟨rfl, I'⟩
theorem dec_ownNe {x : V} (xk : Xk X P w K mg base sc N GL k EX) (D : Dn P w K mg base Cl "__eq__" j pre) (hj : j + 2 ≤ k) (hne : PySem.W.findIn K (.ref Cl) "__ne__" = some (some (.builtin "object.__ne__"))) (hmr : PySem.W.mroIn K Cl (.type "object") = some true)
    (ha : H a = some (.ins Cl dx fs)) (h : pre [.ref a, x] H) : Dec X H "__ne__" (.ref a) x := by
  obtain ⟨f, fd, ps, F, hm, bb⟩ := D
  obtain ⟨rfl, rfl, rfl, rfl, rfl, -, -, -, gl, -, room, -, tk, -, -⟩ := xk
  refine ⟨fun pins s σ u v I rx ry => ?_⟩
  cases rx
  obtain ⟨od, J⟩ := inst_at I ha
  unfold tryCompare
  refine wpAny_bind (ifBound_B I.kIn J hne (fun self => PySem.F.slot_object_ne.bind self) ?_)
  refine call_one (f := f) (by have := room.un; show X.A.units + 1 < _; omega) I.kIn J hmr hm.at_ hm.fn ?_
  refine wpAny_mono (ni_at F (Room.in1 (room.mono (by omega : j + 1 ≤ k))) rfl bb I (vs := [.ref a, x]) (.cons rfl (.cons ry .nil)) h) (fun u s' z => ?_) fun _ _ z => z
  obtain ⟨rfl, I'⟩ := z
  exact .inl ⟨rfl, wpAny_pure ⟨rfl, I'⟩⟩

/-! the built-ins' own __eq__, __ne__ against an own instance -/
theorem int_eq_inst (i : Int) (t : Tok) (x C d0 : Addr) : Meets (Builtin.«int.__eq__» ⟨[.int i t, .ref x], []⟩) (fun _ R s => s.heap.get? x = some (PySem.W.instObj C d0) ∧ R (.ok (.ret Value.notImplemented)) s) :=
  .of_wp fun prog w A R s h => by obtain ⟨hp, g, d, tk, os⟩ := s; obtain ⟨hl, h⟩ := h; simp only [PySem.W.instObj] at hl; wp_walk using wpAny_loadPart' hl, wpAny_load hl; exact ⟨_, rfl, h⟩
theorem int_ne_inst (i : Int) (t : Tok) (x C d0 : Addr) : Meets (Builtin.«int.__ne__» ⟨[.int i t, .ref x], []⟩) (fun _ R s => s.heap.get? x = some (PySem.W.instObj C d0) ∧ R (.ok (.ret Value.notImplemented)) s) :=
  .of_wp fun prog w A R s h => by obtain ⟨hp, g, d, tk, os⟩ := s; obtain ⟨hl, h⟩ := h; simp only [PySem.W.instObj] at hl; wp_walk using wpAny_loadPart' hl, wpAny_load hl; exact ⟨_, rfl, h⟩
theorem str_eq_inst (i : Str) (t : Tok) (x C d0 : Addr) : Meets (Builtin.«str.__eq__» ⟨[.str i t, .ref x], []⟩) (fun _ R s => s.heap.get? x = some (PySem.W.instObj C d0) ∧ R (.ok (.ret Value.notImplemented)) s) :=
  .of_wp fun prog w A R s h => by obtain ⟨hp, g, d, tk, os⟩ := s; obtain ⟨hl, h⟩ := h; simp only [PySem.W.instObj] at hl; wp_walk using wpAny_loadPart' hl, wpAny_load hl; exact ⟨_, rfl, h⟩
theorem str_ne_inst (i : Str) (t : Tok) (x C d0 : Addr) : Meets (Builtin.«str.__ne__» ⟨[.str i t, .ref x], []⟩) (fun _ R s => s.heap.get? x = some (PySem.W.instObj C d0) ∧ R (.ok (.ret Value.notImplemented)) s) :=
  .of_wp fun prog w A R s h => by obtain ⟨hp, g, d, tk, os⟩ := s; obtain ⟨hl, h⟩ := h; simp only [PySem.W.instObj] at hl; wp_walk using wpAny_loadPart' hl, wpAny_load hl; exact ⟨_, rfl, h⟩

theorem list_eq_inst (l : Addr) (items : Array Value) (n : Nat) (dd : Option Addr) (sl : Array (Option Value)) (x C d0 : Addr) : Meets (Builtin.«list.__eq__» ⟨[.ref l, .ref x], []⟩) (fun _ R s => s.heap.get? x = some (PySem.W.instObj C d0) ∧ s.heap.get? l = some { cls := .type "list", dict := dd, data := .seq items n, slots := sl } ∧ K.In s.heap ∧ PySem.W.subIn K (.ref C) (.type "list") = some false ∧ R (.ok (.ret Value.notImplemented)) s) :=
  .of_wp fun prog w A R s h => by obtain ⟨hp, g, d, tk, os⟩ := s; obtain ⟨hx, hl, hK, hS, h⟩ := h; simp only [PySem.W.instObj] at hx; wp_walk using wpAny_loadPart' hl, wpAny_load hl, wpAny_loadPart' hx, wpAny_load hx; refine (PySem.W.looks_subIn hK hS).here ?_; wp_walk; exact ⟨_, rfl, h⟩

theorem dec_int_eq {i : Int} (ha : H a = some (.ins Cl dx fs)) : Dec X H (cmpInfo .Eq).2.1 (.int i) (.ref a) := by
  refine ⟨fun pins s σ u v I rx ry => ?_⟩
  obtain ⟨t, rfl⟩ := id rx
  cases ry
  have hx := (ins_get I.hok ha).choose_spec.1.obj
  refine wpAny_tryCompare_declines (T := "int") (id := "int.__eq__") ?_ ?_ ?_
  · exact typeIs_int _ _ _
  · exact PySem.F.slot_int_eq
  · exact call_meets PySem.F.slot_int_eq (typeIs_int _ _ _) PySem.F.entry_int_eq (PySem.F.args_int_eq_2 _ _) (int_eq_inst i t a Cl dx) ⟨hx, rfl, rfl, I⟩

theorem dec_str_eq {i : Str} (ha : H a = some (.ins Cl dx fs)) : Dec X H (cmpInfo .Eq).2.1 (.str i) (.ref a) := by
  refine ⟨fun pins s σ u v I rx ry => ?_⟩
  obtain ⟨t, rfl⟩ := id rx
  cases ry
  have hx := (ins_get I.hok ha).choose_spec.1.obj
  refine wpAny_tryCompare_declines (T := "str") (id := "str.__eq__") ?_ ?_ ?_
  · exact typeIs_str _ _ _
  · exact PySem.F.slot_str_eq
  · exact call_meets PySem.F.slot_str_eq (typeIs_str _ _ _) PySem.F.entry_str_eq (PySem.F.args_str_eq_2 _ _) (str_eq_inst i t a Cl dx) ⟨hx, rfl, rfl, I⟩

theorem dec_non_eq : Dec X H (cmpInfo .Eq).2.1 .non (.ref a) := by
  refine ⟨fun pins s σ u v I rx ry => ?_⟩
  cases rx
  cases ry
  refine wpAny_tryCompare_declines (T := "NoneType") (id := "NoneType.__eq__") ?_ ?_ ?_
  · rfl
  · exact PySem.F.slot_NoneType_eq
  · exact call_gives PySem.F.slot_NoneType_eq rfl PySem.F.entry_NoneType_eq (PySem.F.args_NoneType_eq_2 _ _) (SeqAt.NoneType___eq___none_ref_0 a) ⟨rfl, rfl, I⟩
theorem dec_lst_eq {l : Addr} {xs : List V} (xk : Xk X P w K mg base sc N GL k EX) (hs : PySem.W.subIn K (.ref Cl) (.type "list") = some false) (hl : H l = some (.lst xs)) (ha : H a = some (.ins Cl dx fs)) : Dec X H (cmpInfo .Eq).2.1 (.ref l) (.ref a) := by
  obtain ⟨rfl, rfl, rfl, rfl, rfl, -, -, -, gl, -, room, -, tk, -, -⟩ := xk
  refine ⟨fun pins s σ u v I rx ry => ?_⟩
  cases rx
  cases ry
  have hx := (ins_get I.hok ha).choose_spec.1.obj
  obtain ⟨_, its, n, _, _, ho⟩ := I.lstM hl
  refine wpAny_tryCompare_declines (T := "list") (id := "list.__eq__") ?_ ?_ ?_
  · exact ⟨_, ho, rfl⟩
  · exact PySem.F.slot_list_eq
  · exact call_meets PySem.F.slot_list_eq ⟨_, ho, rfl⟩ PySem.F.entry_list_eq (PySem.F.args_list_eq_2 _ _) (list_eq_inst l its.toArray n none #[] a Cl dx) ⟨hx, ho, I.kIn, hs, rfl, rfl, I⟩

theorem list_ne_inst (l : Addr) (items : Array Value) (n : Nat) (dd : Option Addr) (sl : Array (Option Value)) (x C d0 : Addr) : Meets (Builtin.«list.__ne__» ⟨[.ref l, .ref x], []⟩) (fun _ R s => s.heap.get? x = some (PySem.W.instObj C d0) ∧ s.heap.get? l = some { cls := .type "list", dict := dd, data := .seq items n, slots := sl } ∧ K.In s.heap ∧ PySem.W.subIn K (.ref C) (.type "list") = some false ∧ R (.ok (.ret Value.notImplemented)) s) :=
  .of_wp fun prog w A R s h => by obtain ⟨hp, g, d, tk, os⟩ := s; obtain ⟨hx, hl, hK, hS, h⟩ := h; simp only [PySem.W.instObj] at hx; wp_walk using wpAny_loadPart' hl, wpAny_load hl, wpAny_loadPart' hx, wpAny_load hx; refine (PySem.W.looks_subIn hK hS).here ?_; wp_walk; exact ⟨_, rfl, h⟩

theorem dec_int_ne {i : Int} (ha : H a = some (.ins Cl dx fs)) : Dec X H (cmpInfo .NotEq).2.1 (.int i) (.ref a) := by
  refine ⟨fun pins s σ u v I rx ry => ?_⟩
  obtain ⟨t, rfl⟩ := id rx
  cases ry
  have hx := (ins_get I.hok ha).choose_spec.1.obj
  refine wpAny_tryCompare_declines (T := "int") (id := "int.__ne__") ?_ ?_ ?_
  · exact typeIs_int _ _ _
  · exact PySem.F.slot_int_ne
  · exact call_meets PySem.F.slot_int_ne (typeIs_int _ _ _) PySem.F.entry_int_ne (PySem.F.args_int_ne_2 _ _) (int_ne_inst i t a Cl dx) ⟨hx, rfl, rfl, I⟩

theorem dec_str_ne {i : Str} (ha : H a = some (.ins Cl dx fs)) : Dec X H (cmpInfo .NotEq).2.1 (.str i) (.ref a) := by
  refine ⟨fun pins s σ u v I rx ry => ?_⟩
  obtain ⟨t, rfl⟩ := id rx
  cases ry
  have hx := (ins_get I.hok ha).choose_spec.1.obj
  refine wpAny_tryCompare_declines (T := "str") (id := "str.__ne__") ?_ ?_ ?_
  · exact typeIs_str _ _ _
  · exact PySem.F.slot_str_ne
  · exact call_meets PySem.F.slot_str_ne (typeIs_str _ _ _) PySem.F.entry_str_ne (PySem.F.args_str_ne_2 _ _) (str_ne_inst i t a Cl dx) ⟨hx, rfl, rfl, I⟩

theorem dec_non_ne : Dec X H (cmpInfo .NotEq).2.1 .non (.ref a) := by
  refine ⟨fun pins s σ u v I rx ry => ?_⟩
  cases rx
  cases ry
  refine wpAny_tryCompare_declines (T := "NoneType") (id := "NoneType.__ne__") ?_ ?_ ?_
  · rfl
  · exact PySem.F.slot_NoneType_ne
  · exact call_gives PySem.F.slot_NoneType_ne rfl PySem.F.entry_NoneType_ne (PySem.F.args_NoneType_ne_2 _ _) (SeqAt.NoneType___ne___none_ref_0 a) ⟨rfl, rfl, I⟩
theorem dec_lst_ne {l : Addr} {xs : List V} (xk : Xk X P w K mg base sc N GL k EX) (hs : PySem.W.subIn K (.ref Cl) (.type "list") = some false) (hl : H l = some (.lst xs)) (ha : H a = some (.ins Cl dx fs)) : Dec X H (cmpInfo .NotEq).2.1 (.ref l) (.ref a) := by
  obtain ⟨rfl, rfl, rfl, rfl, rfl, -, -, -, gl, -, room, -, tk, -, -⟩ := xk
  refine ⟨fun pins s σ u v I rx ry => ?_⟩
  cases rx
  cases ry
  have hx := (ins_get I.hok ha).choose_spec.1.obj
  obtain ⟨_, its, n, _, _, ho⟩ := I.lstM hl
  refine wpAny_tryCompare_declines (T := "list") (id := "list.__ne__") ?_ ?_ ?_
  · exact ⟨_, ho, rfl⟩
  · exact PySem.F.slot_list_ne
  · exact call_meets PySem.F.slot_list_ne ⟨_, ho, rfl⟩ PySem.F.entry_list_ne (PySem.F.args_list_ne_2 _ _) (list_ne_inst l its.toArray n none #[] a Cl dx) ⟨hx, ho, I.kIn, hs, rfl, rfl, I⟩

theorem ty_lst {l : Addr} {xs : List V} (hl : H l = some (.lst xs)) : Ty X H (.ref l) (.type "list") := ⟨fun pins s σ u I r => by
  cases r
  obtain ⟨_, its, n, _, _, ho⟩ := I.lstM hl
  exact fun _ _ _ _ k q => wpAny_typeOf (T := "list") ⟨_, k _ _ ho, rfl⟩ q⟩
theorem ns_int {i : Int} : Ns X H (.ref a) (.int i) := ⟨fun op u v r1 r2 => by cases r1; exact oneThing_ref _ _ _, fun pins s σ u v R I r1 r2 h => by cases r1; obtain ⟨t, rfl⟩ := r2; exact wpAny_of_eq (rfl : isSame (.ref a) (.int i t) = pure false) h⟩
theorem ns_str {i : Str} : Ns X H (.ref a) (.str i) := ⟨fun op u v r1 r2 => by cases r1; exact oneThing_ref _ _ _, fun pins s σ u v R I r1 r2 h => by cases r1; obtain ⟨t, rfl⟩ := r2; exact wpAny_of_eq (rfl : isSame (.ref a) (.str i t) = pure false) h⟩
theorem ns_non : Ns X H (.ref a) .non := ⟨fun op u v r1 r2 => by cases r1; exact oneThing_ref _ _ _, fun pins s σ u v R I r1 r2 h => by cases r1; cases r2; exact wpAny_of_eq (rfl : isSame (.ref a) .none = pure false) h⟩
theorem sn_int {i : Int} : Ns X H (.int i) (.ref a) := ⟨fun op u v r1 r2 => by cases r2; obtain ⟨t, rfl⟩ := r1; rfl, fun pins s σ u v R I r1 r2 h => by cases r2; obtain ⟨t, rfl⟩ := r1; exact wpAny_of_eq (rfl : isSame (.int i t) (.ref a) = pure false) h⟩
theorem sn_str {i : Str} : Ns X H (.str i) (.ref a) := ⟨fun op u v r1 r2 => by cases r2; obtain ⟨t, rfl⟩ := r1; rfl, fun pins s σ u v R I r1 r2 h => by cases r2; obtain ⟨t, rfl⟩ := r1; exact wpAny_of_eq (rfl : isSame (.str i t) (.ref a) = pure false) h⟩
theorem sn_non : Ns X H .non (.ref a) := ⟨fun op u v r1 r2 => by cases r2; cases r1; rfl, fun pins s σ u v R I r1 r2 h => by cases r2; cases r1; exact wpAny_of_eq (rfl : isSame .none (.ref a) = pure false) h⟩
theorem ns_own {b : Addr} (ha : H a = some (.ins Cl dx fs)) (hb : H b = some (.ins Dl dy gs)) (hne : Cl ≠ Dl) : Ns X H (.ref a) (.ref b) := ⟨fun op u v r1 r2 => by cases r1; exact oneThing_ref _ _ _, fun pins s σ u v R I r1 r2 h => by
  cases r1; cases r2
  have hx := (ins_get I.hok ha).choose_spec.1.obj
  have hy := (ins_get I.hok hb).choose_spec.1.obj
  have hab : a ≠ b := fun e => by subst e; rw [ha] at hb; cases hb; exact hne rfl
  exact wpAny_isSame_ref_other hab hx hy (by simp [PySem.W.instObj]) h⟩
theorem ns_ownL {b : Addr} {xs : List V} (ha : H a = some (.ins Cl dx fs)) (hb : H b = some (.lst xs)) : Ns X H (.ref a) (.ref b) := ⟨fun op u v r1 r2 => by cases r1; exact oneThing_ref _ _ _, fun pins s σ u v R I r1 r2 h => by
  cases r1; cases r2
  have hx := (ins_get I.hok ha).choose_spec.1.obj
  obtain ⟨_, its, n, _, _, ho⟩ := I.lstM hb
  have hab : a ≠ b := fun e => by subst e; rw [ha] at hb; cases hb
  exact wpAny_isSame_ref_other hab hx ho (by simp [PySem.W.instObj]) h⟩
theorem sn_own {b : Addr} {xs : List V} (hb : H b = some (.lst xs)) (ha : H a = some (.ins Cl dx fs)) : Ns X H (.ref b) (.ref a) := ⟨fun op u v r1 r2 => by cases r1; exact oneThing_ref _ _ _, fun pins s σ u v R I r1 r2 h => by
  cases r1; cases r2
  have hx := (ins_get I.hok ha).choose_spec.1.obj
  obtain ⟨_, its, n, _, _, ho⟩ := I.lstM hb
  have hab : b ≠ a := fun e => by subst e; rw [ha] at hb; cases hb
  exact SeqAt.wpAny_isSame_ref_other' hab ho hx (by simp [PySem.W.instObj]) h⟩
end
end Sx
set_option Elab.async false
set_option linter.all false
set_option maxRecDepth 100000
set_option maxHeartbeats 4000000
/-! SxP: truth, repr, str of own instances; f-strings; zip of lists; isinstance that says no. -/
namespace Sx
open PySem L2
open PyProof.Rows (UnaryOp_ not_of)

section
variable {X : Cx} {P : Program} {w : World} {K : PySem.W.Frag} {mg : Str → Option Value} {base : Heap} {sc : Scope} {N GL : List Str} {k : Nat} {EX : XK}
variable {σ : St} {H : Hp} {Q : VK} {TQ : Bool → Hp → Prop} {a b Cl Dl dx dy : Addr} {fs gs : List (Str × V)} {j j' : Nat} {sp : Sp} {m : Str} {e e1 e2 : Expr} {es : List Expr} {bd rest : List Stmt} {pos p pt : Pos} {st : Stmt} {nx bk ct : St → Hp → Prop} {rt : VK}

/-! ### not of any value -/
theorem pTr : TruR X (fun x H Q => Tr X x H Q) := fun pins s σ _ _ u _ I rx h => h.run pins s σ u I rx
theorem e_notW (h : E X e σ H fun x H1 => Tr X x H1 fun c H2 => Q (.bl (!c)) H2) : E X (.UnaryOp .Not e pos) σ H Q := by
  refine ⟨fun pins s I => ?_⟩
  refine UnaryOp_ (thn (h.run pins s I) fun v s1 ⟨x, H1, I1, r1, q1⟩ => ?_)
  exact not_of (thn (q1.run pins s1 σ v I1 r1) fun c s2 ⟨H2, I2, q2⟩ => ⟨.bl (!c), H2, I2, rfl, q2⟩)
/-! ### truth of an own instance -/
theorem ep_bool {pins : List (Addr × Obj)} {u : Value} {s' : Shared} (h : EP X pins σ (fun v H' => ∃ q, v = .bl q ∧ TQ q H') u s') : PySem.W.BoolBack (TP X pins σ TQ) u s' := by
  obtain ⟨v, H', I, r, q, rfl, h⟩ := h
  cases r
  exact ⟨H', I, h⟩
theorem tr_own (xk : Xk X P w K mg base sc N GL k EX) (D : Dm P w K mg base Cl "__bool__" j sp) (hj : j ≤ k) (ha : H a = some (.ins Cl dx fs)) (h : sp [.ref a] H (fun v H' => ∃ q, v = .bl q ∧ TQ q H') EX) : Tr X (.ref a) H TQ := by
  obtain ⟨f, fd, ps, F, hm, bb⟩ := D
  obtain ⟨rfl, rfl, rfl, rfl, rfl, -, -, -, gl, -, room, -, tk, -, -⟩ := xk
  refine ⟨fun pins s σ u I rx => ?_⟩
  cases rx
  obtain ⟨m', hF⟩ := I.fr
  obtain ⟨od, J⟩ := inst_at I ha
  exact PySem.W.truthy_K hF I.ok.mod.kin J hm.at_ hm.fn (wpAny_mono (run_at F (room.mono hj) rfl bb (passes_call tk fun _ _ _ _ z => z) I (vs := [.ref a]) (.cons rfl .nil) h) (fun _ _ z => ep_bool z) fun _ _ z => z)
/-- bool(a) -/
theorem k_boolOwn (xk : Xk X P w K mg base sc N GL k EX) (D : Dm P w K mg base Cl "__bool__" j sp) (hj : j + 2 ≤ k) (ha : H a = some (.ins Cl dx fs)) (h : sp [.ref a] H (fun v H' => ∃ q, v = .bl q ∧ Q (.bl q) H') EX) : C X (.type "bool") [.ref a] H Q := by
  obtain ⟨f, fd, ps, F, hm, bb⟩ := D
  obtain ⟨rfl, rfl, rfl, rfl, rfl, -, -, -, gl, -, room, -, tk, -, -⟩ := xk
  refine ⟨fun pins s σ us I r => ?_⟩
  obtain ⟨u, rfl, rx⟩ := vals1 r
  cases rx
  obtain ⟨m', hF⟩ := I.fr
  obtain ⟨od, J⟩ := inst_at I ha
  have run := PySem.W.truthy_K (M := model X.prog X.w) (A := X.A.in1.in1) hF I.ok.mod.kin J hm.at_ hm.fn (wpAny_mono (run_at F (Room.in1 (Room.in1 (room.mono hj))) rfl bb (passes_call tk fun _ _ _ _ z => z) I (vs := [.ref a]) (.cons rfl .nil) h) (fun _ _ z => ep_bool (TQ := fun q H' => Q (.bl q) H') z) fun _ _ z => z)
  refine callType_codes (T := "bool") (Bi := Builtin.«object.__init__») (Q₁ := fun r s₁ => ∃ q, r = .bool q ∧ EP X pins σ Q r s₁) PySem.F.called_bool (PySem.F.typeCall_bool_1 _) PySem.F.entry_object_init ?_ ?_
  · refine codeAny_of_tree ?_
    show wpAny _ X.A.in1.in1 (do checkBuiltinCall "bool.__new__" ⟨[.type "bool", .ref a], []⟩; again (.builtin "bool.__new__" ⟨[.type "bool", .ref a], []⟩)) _ _ s
    refine wpAny_bind (wpAny_of_eq (PySem.F.newCall_bool_1 _) (wpAny_pure ⟨plainId_quiet (by decide +kernel) _, codeAny_builtin PySem.F.entry_bool_new ?_⟩))
    rw [Around.under_plainId (by decide +kernel) _]
    unfold Builtin.«bool.__new__»
    refine wpAny_bind (wpAny_pure ?_)
    refine wpAny_bind (wpAny_of_eq PySem.F.conv_sub_bool ?_)
    refine wpAny_bind (wpAny_pure ?_)
    refine wpAny_bind (wpAny_mono run (fun q s₁ hr => ?_) fun _ _ y => y)
    obtain ⟨H', I', hq⟩ := hr
    exact wpAny_pure ⟨_, rfl, .bl q, H', I', rfl, hq⟩
  · rintro obj s₁ ⟨q, rfl, hq⟩
    exact ⟨rfl, PySem.F.args_object_init_2 _ _, object_init_meets PySem.F.called_bool.init.lookup PySem.F.called_bool.made (by decide) X.prog X.w X.A.in1 _ s₁ ⟨rfl, rfl, hq⟩⟩
/-! ### repr(a), str(a) of an own instance -/
theorem ep_str {pins : List (Addr × Obj)} {u : Value} {s' : Shared} (h : EP X pins σ (fun v H' => ∃ q, v = .str q ∧ Q (.str q) H') u s') : PySem.W.StrBack (EP X pins σ Q) u s' := by
  obtain ⟨v, H', I, r, q, rfl, h⟩ := h
  obtain ⟨t, rfl⟩ := id r
  exact ⟨_, H', I, r, h⟩
theorem k_reprOwn (xk : Xk X P w K mg base sc N GL k EX) (D : Dm P w K mg base Cl "__repr__" j sp) (hj : j + 1 ≤ k) (ha : H a = some (.ins Cl dx fs)) (h : sp [.ref a] H (fun v H' => ∃ q, v = .str q ∧ Q (.str q) H') EX) : C X (.builtin "repr") [.ref a] H Q := by
  obtain ⟨f, fd, ps, F, hm, bb⟩ := D
  obtain ⟨rfl, rfl, rfl, rfl, rfl, -, -, -, gl, -, room, -, tk, -, -⟩ := xk
  refine ⟨fun pins s σ us I r => ?_⟩
  obtain ⟨u, rfl, rx⟩ := vals1 r
  cases rx
  obtain ⟨m', hF⟩ := I.fr
  obtain ⟨od, J⟩ := inst_at I ha
  exact PySem.W.repr_K (by have := room.un; show X.A.units + 1 < _; omega) hF I.ok.mod.kin J hm.at_ hm.fn (wpAny_mono (run_at F (Room.in1 (room.mono hj)) rfl bb (passes_call tk fun _ _ _ _ z => z) I (vs := [.ref a]) (.cons rfl .nil) h) (fun _ _ z => ep_str z) fun _ _ z => z)
theorem k_strOwn (xk : Xk X P w K mg base sc N GL k EX) (D : Dm P w K mg base Cl "__str__" j sp) (hj : j + 2 ≤ k) (ha : H a = some (.ins Cl dx fs)) (h : sp [.ref a] H (fun v H' => ∃ q, v = .str q ∧ Q (.str q) H') EX) : C X (.type "str") [.ref a] H Q := by
  obtain ⟨f, fd, ps, F, hm, bb⟩ := D
  obtain ⟨rfl, rfl, rfl, rfl, rfl, -, -, -, gl, -, room, -, tk, -, -⟩ := xk
  refine ⟨fun pins s σ us I r => ?_⟩
  obtain ⟨u, rfl, rx⟩ := vals1 r
  cases rx
  obtain ⟨od, J⟩ := inst_at I ha
  exact PySem.W.kso_call (by have := room.un; show X.A.units + 1 + 1 < _; omega) I.kIn J hm.at_ hm.fn (wpAny_mono (run_at F (Room.in1 (Room.in1 (room.mono hj))) rfl bb (passes_call tk fun _ _ _ _ z => z) I (vs := [.ref a]) (.cons rfl .nil) h) (fun _ _ z => ep_str z) fun _ _ z => z)
theorem k_strI {i : Int} (hz : i.natAbs.log2 < 1920) (h : Q (.str (toString i)) H) : C X (.type "str") [.int i] H Q := .of call_str_int ⟨i, rfl, hz, h⟩
theorem k_strS {i : Str} (h : Q (.str i) H) : C X (.type "str") [.str i] H Q := .of SkE.call_str_str ⟨i, rfl, h⟩
theorem k_boolI {i : Int} (h : Q (.bl (i != 0)) H) : C X (.type "bool") [.int i] H Q := .of call_bool1 (.inl ⟨i, rfl, h⟩)
/-! ### f-strings -/
structure Fm (x : V) (H : Hp) (Q : VK) : Prop where
  run : (∃ y : Str, x = .str y ∧ y.length ≤ sizeLine ∧ Q (.str y) H) ∨ ∃ i : Int, x = .int i ∧ i.natAbs.log2 < 1920 ∧ Q (.str (toString i)) H
theorem fm_i {i : Int} (hz : i.natAbs.log2 < 1920) (h : Q (.str (toString i)) H) : Fm (.int i) H Q := ⟨.inr ⟨i, rfl, hz, h⟩⟩
theorem fm_s {y : Str} (hz : y.length ≤ sizeLine) (h : Q (.str y) H) : Fm (.str y) H Q := ⟨.inl ⟨y, rfl, hz, h⟩⟩
theorem e_fmt (h : E X e σ H fun x H1 => Fm x H1 Q) : E X (.FormattedValue e (-1) none pos) σ H Q := .of (pe_fmt pe) (h.mono fun _ _ z => z.run)
structure JsV (X : Cx) (es : List Expr) (acc : Str) (x : V) (σ : St) (H : Hp) (R : Str → Hp → Prop) : Prop where
  run : ∃ y : Str, x = .str y ∧ (acc ++ y).length ≤ sizeLine ∧ tJs (es.map fun e σ H Q => E X e σ H Q) (acc ++ y) σ H R
structure Js (X : Cx) (es : List Expr) (acc : Str) (σ : St) (H : Hp) (R : Str → Hp → Prop) : Prop where
  run : tJs (es.map fun e σ H Q => E X e σ H Q) acc σ H R
theorem js_nil {acc : Str} {R : Str → Hp → Prop} (h : R acc H) : Js X [] acc σ H R := ⟨h⟩
theorem js_cons {acc : Str} {R : Str → Hp → Prop} (h : E X e σ H fun x H1 => JsV X es acc x σ H1 R) : Js X (e :: es) acc σ H R := ⟨h.mono fun x H1 z => z.run⟩
theorem js_v {acc y : Str} {R : Str → Hp → Prop} (h1 : (acc ++ y).length ≤ sizeLine) (h : Js X es (acc ++ y) σ H R) : JsV X es acc (.str y) σ H R := ⟨⟨y, rfl, h1, h.run⟩⟩
theorem pj_all : ∀ es : List Expr, PJ X es (es.map fun e σ H Q => E X e σ H Q)
  | [] => .nil
  | _ :: es => .cons pe (pj_all es)
theorem e_join (h : Js X (e1 :: e2 :: es) Str.empty σ H fun out H1 => Q (.str out) H1) : E X (.JoinedStr (e1 :: e2 :: es) pos) σ H Q := .of (pe_joined (pj_all _)) h.run
/-! ### zip of two lists -/
theorem s_zip {ts : List Expr} {jt : Nat} {p2 : Pos} (xk : Xk X P w K mg base sc N GL k EX) (hg : ("zip" : Str) ∈ GL) (hm : mg "zip" = none)
    (h : As X [e1, e2] σ H fun vs H1 => ∃ a b xs ys, vs = [.ref a, .ref b] ∧ SqL K H1 a xs ∧ SqL K H1 b ys ∧ xs.length = ys.length ∧ ∃ Pv : Nat → St → Hp → Prop, Pv 0 σ H1 ∧ (∀ i σ' H', Pv i σ' H' → SqL K H' a xs ∧ SqL K H' b ys) ∧
      (∀ i x y T σ' H' H'', xs[i]? = some x → ys[i]? = some y → Pv i σ' H' → H' T = none → Kp [] H' H'' → H'' T = some (.tup [x, y]) → G X (.Tuple ts jt pt) (.ref T) σ' H'' fun σ2 H2 => Ss X bd (Pv (i + 1)) rt nx (Pv (i + 1)) σ2 H2) ∧ ∀ σ' H', Pv xs.length σ' H' → nx σ' H')
    (h1 : NoSt e1 = true) (h2 : NoSt e2 = true) (hs : ∀ x, foldedSetIterable (.Call (.Name "zip" p) [e1, e2] [] p2) X.env x = pure x := by intro _; rfl) :
    S X (.For (.Tuple ts jt pt) (.Call (.Name "zip" p) [e1, e2] [] p2) bd [] pos) nx rt bk ct σ H := by
  obtain ⟨-, -, rfl, rfl, -, -, -, -, gl, -, -, calm, -, po, -⟩ := xk
  refine .of (ps_for po calm (RZ.pi_zipA (gl _ hg).1 hm pa (star_cons h1) (by rw [star_cons h2]; rfl)) pg pss hs) (h.mono fun vs H1 ⟨a, b, xs, ys, e0, e1, e2, e3, Pv, p0, p1, p2, p3⟩ => ⟨a, b, xs, ys, e0, .inl ⟨e1, e2, ?_⟩⟩)
  exact RZ.for_zipL (g := fun v σ H Q => G X (.Tuple ts jt pt) v σ H Q) (tb := fun D σ H => Ss X bd D.nx D.rt D.bk D.ct σ H) (D := ⟨nx, rt, bk, ct⟩) e3 Pv p0 p1 (fun i x y T σ' H' hx hy hp hT => p2 i x y T σ' H' _ hx hy hp hT (kp_new hT) upd_same) p3
end
end Sx
set_option Elab.async false
set_option linter.all false
set_option maxRecDepth 100000
set_option maxHeartbeats 4000000
/-! SxQ: operators between two own classes. -/
namespace Sx
open PySem L2
section
variable {X : Cx} {P : Program} {w : World} {K : PySem.W.Frag} {mg : Str → Option Value} {base : Heap} {sc : Scope} {N GL : List Str} {k : Nat} {EX : XK}
variable {σ : St} {H : Hp} {Q : VK} {a b Cl Dl dx dy g : Addr} {fs gs : List (Str × V)} {j : Nat} {sp : Sp} {m : Str}
/-- a op b, instances of two own classes that both have the method -/
theorem b_own2 {op : Operator} {rc rd : Option Value} (xk : Xk X P w K mg base sc N GL k EX) (D : Dm P w K mg base Cl m j sp) (hj : j ≤ k) (hc : PySem.W.selfFirst K Cl = true) (hd : PySem.W.selfFirst K Dl = true) (hg : PySem.W.findIn K (.ref Dl) m = some (some (.ref g)))
    (hr : PySem.W.findIn K (.ref Cl) (PySem.dunderR op.info.2) = some rc) (hp : rc = none ∨ ∃ g : Addr, rc = some (.ref g)) (hr' : PySem.W.findIn K (.ref Dl) (PySem.dunderR op.info.2) = some rd) (hp' : rd = none ∨ ∃ g : Addr, rd = some (.ref g))
    (hsub : PySem.W.subIn K (.ref Dl) (.ref Cl) = some false) (hcd : Cl ≠ Dl) (ha : H a = some (.ins Cl dx fs)) (hb : H b = some (.ins Dl dy gs)) (h : sp [.ref a, .ref b] H Q EX) (hn : PySem.dunder op.info.2 = m) : Bo X op (.ref a) (.ref b) H Q := by
  obtain ⟨f, fd, ps, F, hm, bb⟩ := D
  obtain ⟨rfl, rfl, rfl, rfl, rfl, -, -, -, gl, -, room, -, tk, -, -⟩ := xk
  refine ⟨fun pins s σ v u I rx ry => ?_⟩
  cases rx
  cases ry
  subst hn
  obtain ⟨od, J⟩ := inst_at I ha
  obtain ⟨od', J'⟩ := inst_at I hb
  have run := wpAny_mono (run_at F (room.mono hj) rfl bb (passes_call tk fun _ _ _ _ z => z) I (vs := [.ref a, .ref b]) (.cons rfl (.cons rfl .nil)) h) (fun _ _ z => ep_cmp z) fun _ _ z => z
  have one := PySem.W.ksp_try I.kIn J hm.at_ hm.fn run
  have X' := I.kIn
  have hs1 := hm.at_
  obtain ⟨cd, rest, hcc, hmr⟩ := PySem.W.ksp_first hc
  obtain ⟨cd', rest', hcc', hmr'⟩ := PySem.W.ksp_first hd
  rcases hi : op.info with ⟨sym, nm⟩
  rw [hi] at one hg hr hr' hs1
  dsimp only at one hg hr hr' hs1
  obtain ⟨hh, gg, d, tt, os⟩ := s
  have L1 : PySem.W.Looks (model X.prog X.w) hh (typeOf (.ref a)) (.ref Cl) := J.type
  have L2 : PySem.W.Looks (model X.prog X.w) hh (typeOf (.ref b)) (.ref Dl) := J'.type
  have L3 : PySem.W.Looks (model X.prog X.w) hh (fillsNumberSlot (.ref Cl) nm) true := PySem.W.fills_K X' hcc hmr hs1
  have L4 : PySem.W.Looks (model X.prog X.w) hh (fillsNumberSlot (.ref Dl) nm) true := PySem.W.fills_K X' hcc' hmr' hg
  have L5 : PySem.W.Looks (model X.prog X.w) hh (isSubtype (.ref Dl) (.ref Cl)) false := PySem.W.looks_subIn X' hsub
  have L6 : PySem.W.Looks (model X.prog X.w) hh (numberSlotInPython (.ref Cl) nm) true := PySem.W.ksp_inPy X' hs1 hr hp
  have L7 : PySem.W.Looks (model X.prog X.w) hh (numberSlotInPython (.ref Dl) nm) true := PySem.W.ksp_inPy X' hg hr' hp'
  have hne : (Value.ref Cl == Value.ref Dl) = false := Bool.eq_false_iff.mpr fun q => hcd (by have := beq_iff_eq.mp q; injection this)
  simp only [binaryOp, hi]
  refine wpAny_holding (wpAny_bind ?_)
  unfold binaryOp1
  refine wpAny_bind (L1.at (wpAny_bind (L2.at (wpAny_bind (L3.at ?_)))))
  simp only [hne, Bool.false_eq_true, if_false]
  refine wpAny_bind (L4.at ?_)
  simp only [Bool.and_self, if_true]
  refine wpAny_bind (L5.at ?_)
  simp only [Bool.false_eq_true, if_false, Bool.not_false, Bool.and_self, if_true]
  refine wpAny_bind (L6.at ?_)
  simp only [if_true]
  refine wpAny_bind (L7.at ?_)
  simp only [Bool.not_true, Bool.false_eq_true, if_false]
  refine wpAny_bind (wpAny_mono one (fun r s' hr'' => ?_) fun _ _ e => e)
  obtain ⟨v, rfl, hq⟩ := hr''
  ksp_lk
  exact hq
end
end Sx
set_option Elab.async false
set_option linter.all false
set_option maxRecDepth 100000
set_option maxHeartbeats 4000000
/-! Rx: what a piece of syntax computes, as a plain function over values (tuples, lists that stand still, instances that stand still are values; what is changed stands in a small heap by number). -/
namespace Rx
open PySem L2 Sx
open PyProof.Rows (subscriptTail)

/-! ### values, objects, outcomes -/
inductive A where
  | non | bl (b : Bool) | int (i : Int) | str (x : Str) | ty (n : String) | cls (c : Nat) | scr (ns : List Int)
  | tup (xs : List A) | lst (xs : List A) | dk (kvs : List (Key × A)) | dt (kvs : List (List Key × A)) | ins (c : Nat) (fs : List A) | ref (n : Nat)
  deriving Inhabited
inductive O where
  | dead | lst (xs : List A) | dk (kvs : List (Key × A)) | dt (kvs : List (List Key × A)) | ins (c : Nat) (fs : List A)
  deriving Inhabited
abbrev Hs := List O
abbrev Sl := List (Option A)
structure Xc where
  cls : Nat
  fs : List A
inductive Out (α : Type) where
  | ok (a : α) (h : Hs) | ex (x : Xc) (h : Hs) | bad
inductive OutS where
  | nx (sl : Sl) (h : Hs) | rt (a : A) (h : Hs) | bk (sl : Sl) (h : Hs) | ct (sl : Sl) (h : Hs) | ex (x : Xc) (sl : Sl) (h : Hs) | bad
def Out.bind {α β : Type} (m : Out α) (k : α → Hs → Out β) : Out β :=
  match m with
  | .ok a h => k a h
  | .ex x h => .ex x h
  | .bad => .bad
/-- an expression's outcome within a statement -/
def Out.bindS {α : Type} (m : Out α) (sl : Sl) (k : α → Hs → OutS) : OutS :=
  match m with
  | .ok a h => k a h
  | .ex x h => .ex x sl h
  | .bad => .bad
def OutS.bind (m : OutS) (k : Sl → Hs → OutS) : OutS :=
  match m with
  | .nx sl h => k sl h
  | o => o
/-- what cannot be -/
def chk {α : Type} (c : Bool) (o : Out α) : Out α := match c with | true => o | false => .bad
def need {α β : Type} (o : Option α) (k : α → Out β) : Out β := match o with | some a => k a | none => .bad

structure Gc where
  P : Program
  w : World
  K : PySem.W.Frag
  mg : Str → Option Value
  base : Heap
  cad : Nat → Addr
  cfs : Nat → List Str

/-- the addresses of the numbered objects; hd: what is being built behind the scenes -/
structure Rho where
  l : List (Option Addr)
  hd : List Addr
abbrev Rho.add (ρ : Rho) (p : Addr) : Rho := ⟨ρ.l ++ [some p], ρ.hd⟩
abbrev Rho.kill (ρ : Rho) (n : Nat) : Rho := ⟨ρ.l.set n none, ρ.hd⟩
abbrev Rho.hide (ρ : Rho) (p : Addr) : Rho := ⟨ρ.l, p :: ρ.hd⟩
def Live (ρ : Rho) (a : Addr) : Prop := (∃ i : Nat, ρ.l[i]? = some (some a)) ∨ a ∈ ρ.hd

/-- the script, a list that is never written -/
def ScrAt (K : PySem.W.Frag) (H : Hp) (ρ : Rho) (a : Addr) (vs : List V) : Prop :=
  (H a = some (.lst vs) ∧ ¬ Live ρ a) ∨ (∃ o, H a = some (.frz o (.lst vs))) ∨
    ∃ (o : Obj) (its : Array Value) (n : Nat), K.lookup a = some o ∧ o.cls = .type "list" ∧ o.dict = none ∧ o.data = .seq its n ∧ its.size ≤ sizeLine ∧ Vals vs its.toList

inductive RA (G : Gc) (H : Hp) (ρ : Rho) : A → V → Prop where
  | non : RA G H ρ .non .non
  | bl {b : Bool} : RA G H ρ (.bl b) (.bl b)
  | int {i : Int} : RA G H ρ (.int i) (.int i)
  | str {x : Str} : RA G H ρ (.str x) (.str x)
  | ty {n : String} : RA G H ρ (.ty n) (.ty n)
  | cls {c : Nat} : RA G H ρ (.cls c) (.ref (G.cad c))
  | scr {ns : List Int} {a : Addr} (h : ScrAt G.K H ρ a (ns.map V.int)) : RA G H ρ (.scr ns) (.ref a)
  | tup {xs : List A} {a : Addr} {vs : List V} (h : SqT G.K H a vs) (l : xs.length = vs.length) (r : ∀ (i : Nat) x v, xs[i]? = some x → vs[i]? = some v → RA G H ρ x v) : RA G H ρ (.tup xs) (.ref a)
  | lst {xs : List A} {a : Addr} {vs : List V} (h : H a = some (.lst vs)) (nl : ¬ Live ρ a) (l : xs.length = vs.length) (r : ∀ (i : Nat) x v, xs[i]? = some x → vs[i]? = some v → RA G H ρ x v) : RA G H ρ (.lst xs) (.ref a)
  | dk {xs : List (Key × A)} {a : Addr} {vs : List (Key × V)} (h : H a = some (.dK vs)) (nl : ¬ Live ρ a) (l : xs.map (·.1) = vs.map (·.1)) (r : ∀ (i : Nat) k x k' v, xs[i]? = some (k, x) → vs[i]? = some (k', v) → RA G H ρ x v) : RA G H ρ (.dk xs) (.ref a)
  | dt {xs : List (List Key × A)} {a : Addr} {vs : List (List Key × V)} (h : H a = some (.dT vs)) (nl : ¬ Live ρ a) (l : xs.map (·.1) = vs.map (·.1)) (r : ∀ (i : Nat) k x k' v, xs[i]? = some (k, x) → vs[i]? = some (k', v) → RA G H ρ x v) : RA G H ρ (.dt xs) (.ref a)
  | ins {c : Nat} {xs : List A} {a dx : Addr} {vs : List (Str × V)} (h : H a = some (.ins (G.cad c) dx vs)) (nl : ¬ Live ρ a) (l : vs.map (·.1) = (G.cfs c).take xs.length) (l' : xs.length = vs.length) (r : ∀ (i : Nat) x k v, xs[i]? = some x → vs[i]? = some (k, v) → RA G H ρ x v) : RA G H ρ (.ins c xs) (.ref a)
  | ref {n : Nat} {a : Addr} (hn : n < ρ.l.length) (h : ∀ b, ρ.l[n]? = some (some b) → a = b) : RA G H ρ (.ref n) (.ref a)
def RAs (G : Gc) (H : Hp) (ρ : Rho) (xs : List A) (vs : List V) : Prop := xs.length = vs.length ∧ ∀ (i : Nat) x v, xs[i]? = some x → vs[i]? = some v → RA G H ρ x v
def RKs {κ : Type} (G : Gc) (H : Hp) (ρ : Rho) (xs : List (κ × A)) (vs : List (κ × V)) : Prop := xs.map (·.1) = vs.map (·.1) ∧ ∀ (i : Nat) k x k' v, xs[i]? = some (k, x) → vs[i]? = some (k', v) → RA G H ρ x v
/-- an instance's fields, by their places -/
def RFs (G : Gc) (H : Hp) (ρ : Rho) (c : Nat) (xs : List A) (vs : List (Str × V)) : Prop := vs.map (·.1) = (G.cfs c).take xs.length ∧ xs.length = vs.length ∧ ∀ (i : Nat) x k v, xs[i]? = some x → vs[i]? = some (k, v) → RA G H ρ x v
def RO (G : Gc) (H : Hp) (ρ : Rho) (a : Addr) : O → Prop
  | .dead => False
  | .lst xs => ∃ vs, H a = some (.lst vs) ∧ RAs G H ρ xs vs
  | .dk kvs => ∃ vs, H a = some (.dK vs) ∧ RKs G H ρ kvs vs
  | .dt kvs => ∃ vs, H a = some (.dT vs) ∧ RKs G H ρ kvs vs
  | .ins c fs => ∃ dx vs, H a = some (.ins (G.cad c) dx vs) ∧ RFs G H ρ c fs vs
structure HR (G : Gc) (H : Hp) (ρ : Rho) (h : Hs) : Prop where
  len : ρ.l.length = h.length
  nd : ∀ (i j : Nat) a, ρ.l[i]? = some (some a) → ρ.l[j]? = some (some a) → i = j
  live : ∀ (i : Nat) o, h[i]? = some o → o ≠ .dead → ∃ a, ρ.l[i]? = some (some a)
  obj : ∀ (i : Nat) a o, ρ.l[i]? = some (some a) → h[i]? = some o → RO G H ρ a o
  sep : ∀ (i : Nat) a, ρ.l[i]? = some (some a) → a ∉ ρ.hd
  hid : ∀ a ∈ ρ.hd, ∃ u, H a = some u ∧ (∀ xs, u ≠ .tup xs) ∧ ∀ o' u', u ≠ .frz o' u'
structure Ext (H : Hp) (ρ : Rho) (H' : Hp) (ρ' : Rho) : Prop where
  len : ρ.l.length ≤ ρ'.l.length
  old : ∀ (i : Nat) a, i < ρ.l.length → ρ'.l[i]? = some (some a) → ρ.l[i]? = some (some a)
  new : ∀ (i : Nat) a, ρ.l.length ≤ i → ρ'.l[i]? = some (some a) → H a = none
  keep : ∀ a o, H a = some o → ¬ Live ρ a → H' a = some o
  tup : ∀ a xs, H a = some (.tup xs) → H' a = some (.tup xs)
  frz : ∀ a o u, H a = some (.frz o u) → H' a = some (.frz o u)
  dom : ∀ a, H' a = none → H a = none
  hds : ρ'.hd = ρ.hd
  hidk : ∀ a ∈ ρ.hd, H' a = H a
section
variable {G : Gc} {H H1 H2 H' : Hp} {ρ ρ1 ρ2 ρ' : Rho} {h h1 : Hs}
theorem Ext.refl : Ext H ρ H ρ := ⟨Nat.le_refl _, fun _ _ _ e => e, fun i a hi e => (by rw [List.getElem?_eq_none hi] at e; cases e), fun _ _ e _ => e, fun _ _ e => e, fun _ _ _ e => e, fun _ e => e, rfl, fun _ _ => rfl⟩
theorem Ext.dead (x : Ext H ρ H1 ρ1) {a : Addr} {o : HO} (e : H a = some o) (n : ¬ Live ρ a) : ¬ Live ρ1 a := by
  rintro (⟨i, hi⟩ | hi)
  · by_cases hl : i < ρ.l.length
    · exact n (.inl ⟨i, x.old i a hl hi⟩)
    · have := x.new i a (by omega) hi
      rw [e] at this; cases this
  · exact n (.inr (by rw [x.hds] at hi; exact hi))
theorem Ext.trans (x : Ext H ρ H1 ρ1) (y : Ext H1 ρ1 H2 ρ2) : Ext H ρ H2 ρ2 where
  len := Nat.le_trans x.len y.len
  old := fun i a hi e => x.old i a hi (y.old i a (Nat.lt_of_lt_of_le hi x.len) e)
  new := fun i a hi e => by
    by_cases hl : i < ρ1.l.length
    · exact x.new i a hi (y.old i a hl e)
    · exact x.dom a (y.new i a (by omega) e)
  keep := fun a o e n => y.keep a o (x.keep a o e n) (x.dead e n)
  tup := fun a xs e => y.tup a xs (x.tup a xs e)
  frz := fun a o u e => y.frz a o u (x.frz a o u e)
  dom := fun a e => x.dom a (y.dom a e)
  hds := y.hds.trans x.hds
  hidk := fun a ha => (y.hidk a (by rw [x.hds]; exact ha)).trans (x.hidk a ha)
theorem Ext.sqT (x : Ext H ρ H1 ρ1) {K : PySem.W.Frag} {a : Addr} {vs : List V} (q : SqT K H a vs) : SqT K H1 a vs := by
  rcases q with (q | ⟨o, q⟩) | q
  · exact .inl (.inl (x.tup _ _ q))
  · exact .inl (.inr ⟨o, x.frz _ _ _ q⟩)
  · exact .inr q
theorem Ext.scr (x : Ext H ρ H1 ρ1) {K : PySem.W.Frag} {a : Addr} {vs : List V} (q : ScrAt K H ρ a vs) : ScrAt K H1 ρ1 a vs := by
  rcases q with ⟨q, n⟩ | ⟨o, q⟩ | q
  · exact .inl ⟨x.keep _ _ q n, x.dead q n⟩
  · exact .inr (.inl ⟨o, x.frz _ _ _ q⟩)
  · exact .inr (.inr q)
theorem ScrAt.sqL {K : PySem.W.Frag} {a : Addr} {vs : List V} (q : ScrAt K H ρ a vs) : SqL K H a vs := by
  rcases q with ⟨q, n⟩ | ⟨o, q⟩ | q
  · exact .inl (.inl q)
  · exact .inl (.inr ⟨o, q⟩)
  · exact .inr q
/-- what values lean on is kept -/
structure Kq (H : Hp) (ρ : Rho) (H' : Hp) (ρ' : Rho) : Prop where
  len : ρ.l.length ≤ ρ'.l.length
  old : ∀ (i : Nat) a, i < ρ.l.length → ρ'.l[i]? = some (some a) → ρ.l[i]? = some (some a)
  keep : ∀ a o, H a = some o → ¬ Live ρ a → H' a = some o ∧ ¬ Live ρ' a
  tup : ∀ a xs, H a = some (.tup xs) → H' a = some (.tup xs)
  frz : ∀ a o u, H a = some (.frz o u) → H' a = some (.frz o u)
theorem Ext.kq (x : Ext H ρ H1 ρ1) : Kq H ρ H1 ρ1 := ⟨x.len, x.old, fun a o e n => ⟨x.keep a o e n, x.dead e n⟩, x.tup, x.frz⟩
theorem Kq.refl : Kq H ρ H ρ := Ext.refl.kq
theorem Kq.trans (x : Kq H ρ H1 ρ1) (y : Kq H1 ρ1 H2 ρ2) : Kq H ρ H2 ρ2 where
  len := Nat.le_trans x.len y.len
  old := fun i a hi e => x.old i a hi (y.old i a (Nat.lt_of_lt_of_le hi x.len) e)
  keep := fun a o e n => let ⟨h1, h2⟩ := x.keep a o e n; y.keep a o h1 h2
  tup := fun a xs e => y.tup a xs (x.tup a xs e)
  frz := fun a o u e => y.frz a o u (x.frz a o u e)
theorem Kq.sqT (x : Kq H ρ H1 ρ1) {K : PySem.W.Frag} {a : Addr} {vs : List V} (q : SqT K H a vs) : SqT K H1 a vs := by
  rcases q with (q | ⟨o, q⟩) | q
  · exact .inl (.inl (x.tup _ _ q))
  · exact .inl (.inr ⟨o, x.frz _ _ _ q⟩)
  · exact .inr q
theorem Kq.scr (x : Kq H ρ H1 ρ1) {K : PySem.W.Frag} {a : Addr} {vs : List V} (q : ScrAt K H ρ a vs) : ScrAt K H1 ρ1 a vs := by
  rcases q with ⟨q, n⟩ | ⟨o, q⟩ | q
  · exact .inl (x.keep _ _ q n)
  · exact .inr (.inl ⟨o, x.frz _ _ _ q⟩)
  · exact .inr (.inr q)
theorem RA.mono' {x : A} {v : V} (r : RA G H ρ x v) (e : Kq H ρ H1 ρ1) : RA G H1 ρ1 x v := by
  induction r with
  | non => exact .non
  | bl => exact .bl
  | int => exact .int
  | str => exact .str
  | ty => exact .ty
  | cls => exact .cls
  | scr h => exact .scr (e.scr h)
  | tup h l _ ih => exact .tup (e.sqT h) l ih
  | lst h n l _ ih => exact .lst (e.keep _ _ h n).1 (e.keep _ _ h n).2 l ih
  | dk h n l _ ih => exact .dk (e.keep _ _ h n).1 (e.keep _ _ h n).2 l ih
  | dt h n l _ ih => exact .dt (e.keep _ _ h n).1 (e.keep _ _ h n).2 l ih
  | ins h n l l' _ ih => exact .ins (e.keep _ _ h n).1 (e.keep _ _ h n).2 l l' ih
  | ref hn h => exact .ref (Nat.lt_of_lt_of_le hn e.len) fun b q => h b (e.old _ b hn q)
theorem RAs.mono' {xs : List A} {vs : List V} (r : RAs G H ρ xs vs) (e : Kq H ρ H1 ρ1) : RAs G H1 ρ1 xs vs := ⟨r.1, fun i x v a b => (r.2 i x v a b).mono' e⟩
theorem RKs.mono' {κ : Type} {xs : List (κ × A)} {vs : List (κ × V)} (r : RKs G H ρ xs vs) (e : Kq H ρ H1 ρ1) : RKs G H1 ρ1 xs vs := ⟨r.1, fun i k x k' v a b => (r.2 i k x k' v a b).mono' e⟩
theorem RFs.mono' {c : Nat} {xs : List A} {vs : List (Str × V)} (r : RFs G H ρ c xs vs) (e : Kq H ρ H1 ρ1) : RFs G H1 ρ1 c xs vs := ⟨r.1, r.2.1, fun i x k v a b => (r.2.2 i x k v a b).mono' e⟩
theorem RA.mono {x : A} {v : V} (r : RA G H ρ x v) (e : Ext H ρ H1 ρ1) : RA G H1 ρ1 x v := r.mono' e.kq
theorem RAs.mono {xs : List A} {vs : List V} (r : RAs G H ρ xs vs) (e : Ext H ρ H1 ρ1) : RAs G H1 ρ1 xs vs := ⟨r.1, fun i x v a b => (r.2 i x v a b).mono e⟩
theorem RKs.mono {κ : Type} {xs : List (κ × A)} {vs : List (κ × V)} (r : RKs G H ρ xs vs) (e : Ext H ρ H1 ρ1) : RKs G H1 ρ1 xs vs := ⟨r.1, fun i k x k' v a b => (r.2 i k x k' v a b).mono e⟩
theorem RFs.mono {c : Nat} {xs : List A} {vs : List (Str × V)} (r : RFs G H ρ c xs vs) (e : Ext H ρ H1 ρ1) : RFs G H1 ρ1 c xs vs := ⟨r.1, r.2.1, fun i x k v a b => (r.2.2 i x k v a b).mono e⟩
theorem RAs.nil : RAs G H ρ [] [] := ⟨rfl, fun _ _ _ e => by simp at e⟩
theorem RAs.cons {x : A} {v : V} {xs : List A} {vs : List V} (r : RA G H ρ x v) (rs : RAs G H ρ xs vs) : RAs G H ρ (x :: xs) (v :: vs) := by
  refine ⟨by simp [rs.1], fun i y u e1 e2 => ?_⟩
  cases i with
  | zero => simp at e1 e2; subst e1 e2; exact r
  | succ i => exact rs.2 i y u (by simpa using e1) (by simpa using e2)
theorem RAs.uncons {x : A} {xs : List A} {vs : List V} (r : RAs G H ρ (x :: xs) vs) : ∃ v us, vs = v :: us ∧ RA G H ρ x v ∧ RAs G H ρ xs us := by
  obtain ⟨l, r⟩ := r
  cases vs with
  | nil => simp at l
  | cons v us => exact ⟨v, us, rfl, r 0 x v rfl rfl, by simpa using l, fun i y u e1 e2 => r (i + 1) y u (by simpa using e1) (by simpa using e2)⟩
theorem RAs.unnil {vs : List V} (r : RAs G H ρ [] vs) : vs = [] := by
  cases vs with
  | nil => rfl
  | cons v us => exact absurd r.1 (by simp)
theorem RAs.append {xs ys : List A} {vs us : List V} (r : RAs G H ρ xs vs) (q : RAs G H ρ ys us) : RAs G H ρ (xs ++ ys) (vs ++ us) := by
  induction xs generalizing vs with
  | nil => rw [r.unnil]; exact q
  | cons x xs ih =>
    obtain ⟨v, us', rfl, rv, rs⟩ := r.uncons
    exact .cons rv (ih rs)
theorem RAs.get {xs : List A} {vs : List V} (r : RAs G H ρ xs vs) {i : Nat} {x : A} (e : xs[i]? = some x) : ∃ v, vs[i]? = some v ∧ RA G H ρ x v := by
  have hi : i < xs.length := by
    by_cases hi : i < xs.length
    · exact hi
    · rw [List.getElem?_eq_none (by omega)] at e; cases e
  have hv : i < vs.length := by rw [← r.1]; exact hi
  exact ⟨vs[i], List.getElem?_eq_getElem hv, r.2 i x _ e (List.getElem?_eq_getElem hv)⟩
theorem RAs.set {xs : List A} {vs : List V} {x : A} {v : V} (r : RAs G H ρ xs vs) (q : RA G H ρ x v) (i : Nat) : RAs G H ρ (xs.set i x) (vs.set i v) := by
  refine ⟨by simp [r.1], fun j y u e1 e2 => ?_⟩
  by_cases hj : i = j
  · subst hj
    by_cases hl : i < xs.length
    · rw [List.getElem?_set_self hl] at e1
      rw [List.getElem?_set_self (by rw [← r.1]; exact hl)] at e2
      cases e1; cases e2; exact q
    · rw [List.getElem?_eq_none (by simp; omega)] at e1; cases e1
  · rw [List.getElem?_set_ne hj] at e1 e2
    exact r.2 j y u e1 e2
theorem RKs.nil {κ : Type} : RKs (κ := κ) G H ρ [] [] := ⟨rfl, fun _ _ _ _ _ e => by simp at e⟩
theorem RKs.cons {κ : Type} {k : κ} {x : A} {v : V} {xs : List (κ × A)} {vs : List (κ × V)} (r : RA G H ρ x v) (rs : RKs G H ρ xs vs) : RKs G H ρ ((k, x) :: xs) ((k, v) :: vs) := by
  refine ⟨by simp [rs.1], fun i k1 y k2 u e1 e2 => ?_⟩
  cases i with
  | zero =>
    simp only [List.getElem?_cons_zero, Option.some.injEq, Prod.mk.injEq] at e1 e2
    obtain ⟨_, rfl⟩ := e1
    obtain ⟨_, rfl⟩ := e2
    exact r
  | succ i => exact rs.2 i k1 y k2 u (by simpa using e1) (by simpa using e2)
theorem RKs.uncons {κ : Type} {k : κ} {x : A} {xs : List (κ × A)} {vs : List (κ × V)} (r : RKs G H ρ ((k, x) :: xs) vs) : ∃ v us, vs = (k, v) :: us ∧ RA G H ρ x v ∧ RKs G H ρ xs us := by
  obtain ⟨l, r⟩ := r
  cases vs with
  | nil => simp at l
  | cons p us =>
    obtain ⟨k', v⟩ := p
    simp only [List.map_cons, List.cons.injEq] at l
    obtain ⟨rfl, l⟩ := l
    exact ⟨v, us, rfl, r 0 k x k v rfl rfl, l, fun i k1 y k2 u e1 e2 => r (i + 1) k1 y k2 u (by simpa using e1) (by simpa using e2)⟩
theorem RKs.unnil {κ : Type} {vs : List (κ × V)} (r : RKs G H ρ [] vs) : vs = [] := by
  cases vs with
  | nil => rfl
  | cons v us => exact absurd r.1 (by simp)
theorem RKs.length {κ : Type} {xs : List (κ × A)} {vs : List (κ × V)} (r : RKs G H ρ xs vs) : xs.length = vs.length := by simpa using congrArg List.length r.1
/-- the slots -/
structure SR (G : Gc) (H : Hp) (ρ : Rho) (sl : Sl) (σ : St) : Prop where
  len : sl.length = σ.length
  get : ∀ (i : Nat) a, sl[i]? = some (some a) → ∃ v, σ[i]? = some (some v) ∧ RA G H ρ a v
theorem SR.mono' {sl : Sl} {σ : St} (r : SR G H ρ sl σ) (e : Kq H ρ H1 ρ1) : SR G H1 ρ1 sl σ := ⟨r.len, fun i a q => let ⟨v, e1, e2⟩ := r.get i a q; ⟨v, e1, e2.mono' e⟩⟩
theorem SR.mono {sl : Sl} {σ : St} (r : SR G H ρ sl σ) (e : Ext H ρ H1 ρ1) : SR G H1 ρ1 sl σ := ⟨r.len, fun i a q => let ⟨v, e1, e2⟩ := r.get i a q; ⟨v, e1, e2.mono e⟩⟩
theorem SR.set {sl : Sl} {σ : St} {a : A} {v : V} (r : SR G H ρ sl σ) (q : RA G H ρ a v) (i : Nat) : SR G H ρ (sl.set i (some a)) (σ.set i (some v)) := by
  refine ⟨by simp [r.len], fun j b e => ?_⟩
  by_cases hj : i = j
  · subst hj
    by_cases hl : i < sl.length
    · rw [List.getElem?_set_self hl] at e
      cases e
      exact ⟨v, List.getElem?_set_self (by rw [← r.len]; exact hl), q⟩
    · rw [List.getElem?_eq_none (by simp; omega)] at e; cases e
  · rw [List.getElem?_set_ne hj] at e ⊢
    exact r.get j b e
theorem SR.unset {sl : Sl} {σ : St} (r : SR G H ρ sl σ) (i : Nat) : SR G H ρ (sl.set i none) (σ.set i none) := by
  refine ⟨by simp [r.len], fun j b e => ?_⟩
  by_cases hj : i = j
  · subst hj
    by_cases hl : i < sl.length
    · rw [List.getElem?_set_self hl] at e; cases e
    · rw [List.getElem?_eq_none (by simp; omega)] at e; cases e
  · rw [List.getElem?_set_ne hj] at e ⊢
    exact r.get j b e
/-! ### heaps -/
theorem RO.stands {a : Addr} {o : O} (r : RO G H ρ a o) : ∃ u, H a = some u ∧ (∀ xs, u ≠ .tup xs) ∧ ∀ o' u', u ≠ .frz o' u' := by
  cases o with
  | dead => exact r.elim
  | lst xs => obtain ⟨vs, e, _⟩ := r; exact ⟨_, e, (fun _ z => by cases z), fun _ _ z => by cases z⟩
  | dk xs => obtain ⟨vs, e, _⟩ := r; exact ⟨_, e, (fun _ z => by cases z), fun _ _ z => by cases z⟩
  | dt xs => obtain ⟨vs, e, _⟩ := r; exact ⟨_, e, (fun _ z => by cases z), fun _ _ z => by cases z⟩
  | ins c xs => obtain ⟨dx, vs, e, _⟩ := r; exact ⟨_, e, (fun _ z => by cases z), fun _ _ z => by cases z⟩
theorem RO.mono' {a : Addr} {o : O} (r : RO G H ρ a o) (e : Kq H ρ H1 ρ1) (k : H1 a = H a) : RO G H1 ρ1 a o := by
  cases o with
  | dead => exact r
  | lst xs => obtain ⟨vs, q, z⟩ := r; exact ⟨vs, k.trans q, z.mono' e⟩
  | dk xs => obtain ⟨vs, q, z⟩ := r; exact ⟨vs, k.trans q, z.mono' e⟩
  | dt xs => obtain ⟨vs, q, z⟩ := r; exact ⟨vs, k.trans q, z.mono' e⟩
  | ins c xs => obtain ⟨dx, vs, q, z⟩ := r; exact ⟨dx, vs, k.trans q, z.mono' e⟩
theorem RO.mono {a : Addr} {o : O} (r : RO G H ρ a o) (e : Ext H ρ H1 ρ1) (k : H1 a = H a) : RO G H1 ρ1 a o := by
  cases o with
  | dead => exact r
  | lst xs => obtain ⟨vs, q, z⟩ := r; exact ⟨vs, k.trans q, z.mono e⟩
  | dk xs => obtain ⟨vs, q, z⟩ := r; exact ⟨vs, k.trans q, z.mono e⟩
  | dt xs => obtain ⟨vs, q, z⟩ := r; exact ⟨vs, k.trans q, z.mono e⟩
  | ins c xs => obtain ⟨dx, vs, q, z⟩ := r; exact ⟨dx, vs, k.trans q, z.mono e⟩
theorem HR.at_ (r : HR G H ρ h) {i : Nat} {a : Addr} (e : ρ.l[i]? = some (some a)) : ∃ o, h[i]? = some o ∧ RO G H ρ a o := by
  have hi : i < ρ.l.length := by
    by_cases hi : i < ρ.l.length
    · exact hi
    · rw [List.getElem?_eq_none (by omega)] at e; cases e
  have hh : i < h.length := by rw [← r.len]; exact hi
  exact ⟨h[i], List.getElem?_eq_getElem hh, r.obj i a _ e (List.getElem?_eq_getElem hh)⟩
theorem HR.stands (r : HR G H ρ h) {a : Addr} (l : Live ρ a) : ∃ u, H a = some u ∧ (∀ xs, u ≠ .tup xs) ∧ ∀ o' u', u ≠ .frz o' u' := by
  rcases l with ⟨i, e⟩ | l
  · obtain ⟨o, _, q⟩ := r.at_ e
    exact q.stands
  · exact r.hid a l
/-- a new object that is not tracked -/
theorem HR.ext_new (r : HR G H ρ h) {p : Addr} {o : HO} (n : H p = none) : Ext H ρ (upd H p o) ρ :=
  ⟨Nat.le_refl _, fun _ _ _ e => e, fun i a hi e => (by rw [List.getElem?_eq_none hi] at e; cases e), fun a u e _ => (by rw [upd_ne (ne_of_none e n)]; exact e), fun a xs e => (by rw [upd_ne (ne_of_none e n)]; exact e), fun a o u e => (by rw [upd_ne (ne_of_none e n)]; exact e),
    fun a e => (by
      by_cases ha : a = p
      · rw [ha]; exact n
      · rw [upd_ne ha] at e; exact e), rfl, fun a ha => (by
      obtain ⟨u, e, _⟩ := r.hid a ha
      rw [upd_ne (ne_of_none e n)])⟩
theorem HR.nlive (r : HR G H ρ h) {p : Addr} (n : H p = none) : ¬ Live ρ p := fun l => by
  obtain ⟨u, e, _⟩ := r.stands l
  rw [n] at e; cases e
theorem HR.mono (r : HR G H ρ h) (e : Ext H ρ H1 ρ) (k : ∀ a, Live ρ a → H1 a = H a) : HR G H1 ρ h :=
  ⟨r.len, r.nd, r.live, fun i a o e1 e2 => (r.obj i a o e1 e2).mono e (k a (.inl ⟨i, e1⟩)), r.sep, fun a ha => by rw [e.hidk a ha]; exact r.hid a ha⟩
theorem HR.new (r : HR G H ρ h) {p : Addr} {o : HO} (n : H p = none) : HR G (upd H p o) ρ h :=
  r.mono (r.ext_new n) fun a l => by
    obtain ⟨u, e, _⟩ := r.stands l
    rw [upd_ne (ne_of_none e n)]
/-- a new object that is tracked -/
theorem HR.ext_track (r : HR G H ρ h) {p : Addr} {o : HO} (n : H p = none) : Ext H ρ (upd H p o) (ρ.add p) := by
  have e := r.ext_new (o := o) n
  refine ⟨by simp, fun i a hi q => ?_, fun i a hi q => ?_, e.keep, e.tup, e.frz, e.dom, rfl, e.hidk⟩
  · rw [List.getElem?_append_left hi] at q; exact q
  · rw [List.getElem?_append_right hi] at q
    cases hk : i - ρ.l.length with
    | zero => rw [hk] at q; simp at q; rw [← q]; exact n
    | succ m => rw [hk] at q; simp at q
theorem HR.track (r : HR G H ρ h) {p : Addr} {o : HO} {ob : O} (n : H p = none) (q : RO G (upd H p o) (ρ.add p) p ob) : HR G (upd H p o) (ρ.add p) (h ++ [ob]) := by
  have nl := r.nlive n
  have split : ∀ {α : Type} {l : List α} {x : α} {i : Nat} {y : α}, (l ++ [x])[i]? = some y → (i < l.length ∧ l[i]? = some y) ∨ (i = l.length ∧ y = x) := by
    intro α l x i y e
    by_cases hi : i < l.length
    · rw [List.getElem?_append_left hi] at e; exact .inl ⟨hi, e⟩
    · rw [List.getElem?_append_right (by omega)] at e
      cases hk : i - l.length with
      | zero => rw [hk] at e; simp at e; exact .inr ⟨by omega, e.symm⟩
      | succ m => rw [hk] at e; simp at e
  refine ⟨by simp [r.len], fun i j a e1 e2 => ?_, fun i o' e1 nd => ?_, fun i a o' e1 e2 => ?_, fun i a e1 ha => ?_, fun a ha => ?_⟩
  · rcases split e1 with ⟨h1, e1⟩ | ⟨h1, e1⟩ <;> rcases split e2 with ⟨h2, e2⟩ | ⟨h2, e2⟩
    · exact r.nd i j a e1 e2
    · cases e2; exact absurd (.inl ⟨i, e1⟩) nl
    · cases e1; exact absurd (.inl ⟨j, e2⟩) nl
    · omega
  · rcases split e1 with ⟨h1, e1⟩ | ⟨h1, e1⟩
    · obtain ⟨a, ha⟩ := r.live i o' e1 nd
      exact ⟨a, by rw [List.getElem?_append_left (by rw [r.len]; exact h1)]; exact ha⟩
    · exact ⟨p, by rw [h1, ← r.len]; simp⟩
  · rcases split e1 with ⟨h1, e1⟩ | ⟨h1, e1⟩
    · have hh : i < h.length := by rw [← r.len]; exact h1
      rw [List.getElem?_append_left hh] at e2
      obtain ⟨u, eu, _⟩ := r.stands (.inl ⟨i, e1⟩)
      exact (r.obj i a o' e1 e2).mono (r.ext_track n) (upd_ne (ne_of_none eu n))
    · cases e1
      rw [h1, r.len] at e2
      simp at e2
      subst e2
      exact q
  · rcases split e1 with ⟨h1, e1⟩ | ⟨h1, e1⟩
    · exact r.sep i a e1 ha
    · cases e1; exact nl (.inr ha)
  · rw [(r.ext_new (o := o) n).hidk a ha]; exact r.hid a ha
/-- an object that is tracked changes -/
theorem HR.ext_set (r : HR G H ρ h) {n : Nat} {a : Addr} {o : HO} (e : ρ.l[n]? = some (some a)) : Ext H ρ (upd H a o) ρ := by
  obtain ⟨u, eu, nt, nf⟩ := r.stands (.inl ⟨n, e⟩)
  refine ⟨Nat.le_refl _, fun _ _ _ e => e, fun i a hi e => (by rw [List.getElem?_eq_none hi] at e; cases e), fun b w q nl => ?_, fun b xs q => ?_, fun b o' u' q => ?_, fun b q => ?_, rfl, fun b hb => ?_⟩
  · rw [upd_ne fun z => nl (by rw [z]; exact .inl ⟨n, e⟩)]; exact q
  · rw [upd_ne fun z => by rw [z, eu] at q; exact nt xs (Option.some.inj q)]; exact q
  · rw [upd_ne fun z => by rw [z, eu] at q; exact nf o' u' (Option.some.inj q)]; exact q
  · by_cases hb : b = a
    · rw [hb, upd_same] at q; cases q
    · rw [upd_ne hb] at q; exact q
  · rw [upd_ne fun z => r.sep n a e (by rw [← z]; exact hb)]
theorem HR.set (r : HR G H ρ h) {n : Nat} {a : Addr} {o : HO} {ob : O} (e : ρ.l[n]? = some (some a)) (q : RO G (upd H a o) ρ a ob) : HR G (upd H a o) ρ (h.set n ob) := by
  refine ⟨by simp [r.len], r.nd, fun i o' e1 nd => ?_, fun i b o' e1 e2 => ?_, r.sep, fun b hb => by rw [(r.ext_set (o := o) e).hidk b hb]; exact r.hid b hb⟩
  · by_cases hi : n = i
    · subst hi; exact ⟨a, e⟩
    · rw [List.getElem?_set_ne hi] at e1; exact r.live i o' e1 nd
  · by_cases hi : n = i
    · subst hi
      rw [e] at e1
      cases e1
      have hl : n < h.length := by
        by_cases hl : n < h.length
        · exact hl
        · rw [List.getElem?_eq_none (by simp; omega)] at e2; cases e2
      rw [List.getElem?_set_self hl] at e2
      cases e2
      exact q
    · rw [List.getElem?_set_ne hi] at e2
      have nb : b ≠ a := fun z => hi (r.nd n i a e (by rw [← z]; exact e1))
      exact (r.obj i b o' e1 e2).mono (r.ext_set e) (upd_ne nb)
/-- a tracked object stands still from now on: its number dies -/
theorem HR.ext_die {n : Nat} : Ext H ρ H (ρ.kill n) := by
  refine ⟨by simp, fun i a hi q => ?_, fun i a hi q => ?_, fun _ _ e _ => e, fun _ _ e => e, fun _ _ _ e => e, fun _ e => e, rfl, fun _ _ => rfl⟩
  · by_cases hn : n = i
    · subst hn; rw [List.getElem?_set_self hi] at q; cases q
    · rw [List.getElem?_set_ne hn] at q; exact q
  · rw [List.getElem?_eq_none (by simp; omega)] at q; cases q
theorem HR.die (r : HR G H ρ h) {n : Nat} : HR G H (ρ.kill n) (h.set n .dead) := by
  have back : ∀ {i : Nat} {a : Addr}, (ρ.l.set n none)[i]? = some (some a) → ρ.l[i]? = some (some a) := fun {i a} q => by
    by_cases hi : i < ρ.l.length
    · exact (HR.ext_die (H := H) (ρ := ρ) (n := n)).old i a hi q
    · rw [List.getElem?_eq_none (by simp; omega)] at q; cases q
  refine ⟨by simp [r.len], fun i j a e1 e2 => r.nd i j a (back e1) (back e2), fun i o e1 nd => ?_, fun i a o e1 e2 => ?_, fun i a e1 => r.sep i a (back e1), r.hid⟩
  · by_cases hi : n = i
    · subst hi
      by_cases hl : n < h.length
      · rw [List.getElem?_set_self hl] at e1; cases e1; exact absurd rfl nd
      · rw [List.getElem?_eq_none (by simp; omega)] at e1; cases e1
    · rw [List.getElem?_set_ne hi] at e1 ⊢; exact r.live i o e1 nd
  · by_cases hi : n = i
    · subst hi
      by_cases hl : n < ρ.l.length
      · rw [List.getElem?_set_self hl] at e1; cases e1
      · rw [List.getElem?_eq_none (by simp; omega)] at e1; cases e1
    · rw [List.getElem?_set_ne hi] at e1 e2
      exact (r.obj i a o e1 e2).mono HR.ext_die rfl
theorem HR.nlive_die (r : HR G H ρ h) {n : Nat} {a : Addr} (e : ρ.l[n]? = some (some a)) : ¬ Live (ρ.kill n) a := by
  rintro (⟨i, q⟩ | q)
  · by_cases hi : n = i
    · subst hi
      by_cases hl : n < ρ.l.length
      · rw [List.getElem?_set_self hl] at q; cases q
      · rw [List.getElem?_eq_none (by simp; omega)] at q; cases q
    · rw [List.getElem?_set_ne hi] at q
      exact hi (r.nd n i a e q)
  · exact r.sep n a e q
/-- a number that is known -/
theorem HR.look (r : HR G H ρ h) {n : Nat} {v : V} {o : O} (q : RA G H ρ (.ref n) v) (e : h[n]? = some o) (nd : o ≠ .dead) : ∃ a, v = .ref a ∧ ρ.l[n]? = some (some a) ∧ RO G H ρ a o := by
  obtain ⟨b, hb⟩ := r.live n o e nd
  cases q with
  | ref hn h => exact ⟨_, rfl, by rw [h b hb]; exact hb, by rw [h b hb]; exact r.obj n b o hb e⟩
/-! ### what is built behind the scenes -/
theorem HR.kq_hide (r : HR G H ρ h) {p : Addr} {o : HO} (n : H p = none) : Kq H ρ (upd H p o) (ρ.hide p) :=
  ⟨Nat.le_refl _, fun _ _ _ e => e, fun a u e nl => ⟨by rw [upd_ne (ne_of_none e n)]; exact e, fun z => z.elim (fun z => nl (.inl z)) fun z => (List.mem_cons.mp z).elim (fun z => by rw [z, n] at e; cases e) fun z => nl (.inr z)⟩,
    fun a xs e => (by rw [upd_ne (ne_of_none e n)]; exact e), fun a o u e => (by rw [upd_ne (ne_of_none e n)]; exact e)⟩
theorem HR.hide (r : HR G H ρ h) {p : Addr} {vs : List V} (n : H p = none) : HR G (upd H p (.lst vs)) (ρ.hide p) h := by
  have nl := r.nlive n
  refine ⟨r.len, r.nd, r.live, fun i a o e1 e2 => ?_, fun i a e1 z => ?_, fun a ha => ?_⟩
  · obtain ⟨u, eu, _⟩ := r.stands (.inl ⟨i, e1⟩)
    exact (r.obj i a o e1 e2).mono' (r.kq_hide n) (upd_ne (ne_of_none eu n))
  · rcases List.mem_cons.mp z with z | z
    · exact nl (.inl ⟨i, by rw [← z]; exact e1⟩)
    · exact r.sep i a e1 z
  · rcases List.mem_cons.mp ha with z | z
    · rw [z, upd_same]; exact ⟨_, rfl, (fun _ z => by cases z), fun _ _ z => by cases z⟩
    · obtain ⟨u, e, k⟩ := r.hid a z
      exact ⟨u, by rw [upd_ne (ne_of_none e n)]; exact e, k⟩
theorem kq_hid {p : Addr} {o u : HO} (hp : p ∈ ρ.hd) (e : H p = some u) (nt : ∀ xs, u ≠ .tup xs) (nf : ∀ o' u', u ≠ .frz o' u') : Kq H ρ (upd H p o) ρ :=
  ⟨Nat.le_refl _, fun _ _ _ e => e, fun a u' e' nl => ⟨by rw [upd_ne fun z => nl (.inr (by rw [z]; exact hp))]; exact e', nl⟩,
    fun a xs q => (by rw [upd_ne fun z => by rw [z, e] at q; exact nt xs (Option.some.inj q)]; exact q), fun a o' u' q => (by rw [upd_ne fun z => by rw [z, e] at q; exact nf o' u' (Option.some.inj q)]; exact q)⟩
theorem HR.upd_hid (r : HR G H ρ h) {p : Addr} {vs : List V} (hp : p ∈ ρ.hd) : HR G (upd H p (.lst vs)) ρ h := by
  obtain ⟨u, e, nt, nf⟩ := r.hid p hp
  refine ⟨r.len, r.nd, r.live, fun i a o e1 e2 => ?_, r.sep, fun a ha => ?_⟩
  · exact (r.obj i a o e1 e2).mono' (kq_hid hp e nt nf) (upd_ne fun z => r.sep i a e1 (by rw [z]; exact hp))
  · by_cases hz : a = p
    · rw [hz, upd_same]; exact ⟨_, rfl, (fun _ z => by cases z), fun _ _ z => by cases z⟩
    · rw [upd_ne hz]; exact r.hid a ha
theorem kq_show {p : Addr} {ρ0 : Rho} (e : ρ.hd = p :: ρ0.hd) : Kq H ρ H ⟨ρ.l, ρ0.hd⟩ :=
  ⟨Nat.le_refl _, fun _ _ _ e => e, fun a o q nl => ⟨q, fun z => nl (z.elim .inl fun z => .inr (by rw [e]; exact List.mem_cons_of_mem _ z))⟩, fun _ _ q => q, fun _ _ _ q => q⟩
theorem HR.unhide (r : HR G H ρ h) {p : Addr} {ρ0 : Rho} (e : ρ.hd = p :: ρ0.hd) : HR G H ⟨ρ.l, ρ0.hd⟩ h :=
  ⟨r.len, r.nd, r.live, fun i a o e1 e2 => (r.obj i a o e1 e2).mono' (kq_show e) rfl, fun i a e1 z => r.sep i a e1 (by rw [e]; exact List.mem_cons_of_mem _ z), fun a ha => r.hid a (by rw [e]; exact List.mem_cons_of_mem _ ha)⟩
end
end Rx
set_option Elab.async false
set_option linter.all false
set_option maxRecDepth 100000
set_option maxHeartbeats 4000000
/-! RxJ: the judgements (DE, DT, DA, DS, DSs, DG, DGs) and the first rules. -/
namespace Rx
open PySem L2 Sx
open PyProof.Rows (subscriptTail)

/-- where one stands; cm: nothing is being handled; fb: in a def's own body -/
structure Wh where
  sc : Scope
  N : List Str
  rd : List Nat
  wr : List Nat
  GL : List Str
  k : Nat
  W : WX
  cm : Bool
  fb : Bool
structure Xr (G : Gc) (X : Cx) (L : Wh) : Prop where
  prog : X.prog = G.P
  w : X.w = G.w
  K : X.K = G.K
  mg : X.mg = G.mg
  base : X.base = G.base
  n : X.N = L.N
  nd : L.N.Nodup
  scp : X.env.scope = L.sc
  rdv : ∀ i ∈ L.rd, ∀ x, L.N[i]? = some x → Vis X.env.scope x ∧ (x == ("__debug__" : Str)) = false ∧ (x == ("__classdict__" : Str)) = false
  wrv : ∀ i ∈ L.wr, ∀ x, L.N[i]? = some x → Loc X.env.scope x ∧ (X.fn x = true ∨ X.env.scope.names.lookup x = some .local)
  gl : ∀ x ∈ L.GL, Gl X x ∧ (x == ("__debug__" : Str)) = false ∧ x ≠ ("__name__" : Str)
  room : L.cm = true → Room L.k X.A
  calm : L.cm = true → X.calm = true
  tk : Takes X L.W
  po : PassesOwn (model X.prog X.w) X.A X.env X.xe
  ev : L.fb = true → ∃ (q : Str) (Lo f : Addr) (cd : Value), X.env = PyProof.Rows.envOfC q L.sc Lo f cd

/-- an exception's class and own dict -/
def RX (G : Gc) (H : Hp) (ρ : Rho) (x : Xc) (c : Value) (d : Option Addr) : Prop := c = .ref (G.cad x.cls) ∧ ∃ a vs, d = some a ∧ H a = some (.xd vs) ∧ ¬ Live ρ a ∧ RFs G H ρ x.cls x.fs vs
theorem RX.mono {G : Gc} {H H1 : Hp} {ρ ρ1 : Rho} {x : Xc} {c : Value} {d : Option Addr} (r : RX G H ρ x c d) (e : Ext H ρ H1 ρ1) : RX G H1 ρ1 x c d :=
  let ⟨a, b, vs, h1, h2, h3, h4⟩ := r; ⟨a, b, vs, h1, e.keep _ _ h2 h3, e.dead h2 h3, h4.mono e⟩

theorem RX.mono' {G : Gc} {H H1 : Hp} {ρ ρ1 : Rho} {x : Xc} {c : Value} {d : Option Addr} (r : RX G H ρ x c d) (e : Kq H ρ H1 ρ1) : RX G H1 ρ1 x c d :=
  let ⟨a, b, vs, h1, h2, h3, h4⟩ := r; ⟨a, b, vs, h1, (e.keep _ _ h2 h3).1, (e.keep _ _ h2 h3).2, h4.mono' e⟩
/-- what is wished of an outcome -/
def Po {α : Type} (G : Gc) (W : WX) (σ : St) (H : Hp) (ρ : Rho) (R : α → Hp → Rho → Prop) : Out α → Prop
  | .ok a h' => ∀ H' ρ', Ext H ρ H' ρ' → HR G H' ρ' h' → R a H' ρ'
  | .ex x h' => ∀ c d H' ρ', Ext H ρ H' ρ' → HR G H' ρ' h' → RX G H' ρ' x c d → W c d σ H'
  | .bad => False
theorem Po.at1 {α : Type} {G : Gc} {W : WX} {σ : St} {H H1 : Hp} {ρ ρ1 : Rho} {R : α → Hp → Rho → Prop} {m : Out α} (q : Po G W σ H ρ R m) (e : Ext H ρ H1 ρ1) : Po G W σ H1 ρ1 R m := by
  cases m with
  | ok a h' => exact fun H' ρ' e' r => q H' ρ' (e.trans e') r
  | ex x h' => exact fun c d H' ρ' e' r rx => q c d H' ρ' (e.trans e') r rx
  | bad => exact q
def RQ (G : Gc) (Q : VK) : A → Hp → Rho → Prop := fun a H ρ => ∀ v, RA G H ρ a v → Q v H
def RQs (G : Gc) (Q : List V → Hp → Prop) : List A → Hp → Rho → Prop := fun a H ρ => ∀ v, RAs G H ρ a v → Q v H
def RB (Q : Bool → Hp → Prop) : Bool → Hp → Rho → Prop := fun b H _ => Q b H
def RU (Q : Hp → Prop) : Unit → Hp → Rho → Prop := fun _ H _ => Q H

abbrev FE := Sl → Hs → Out A
abbrev FT := Sl → Hs → Out Bool
abbrev FA := Sl → Hs → Out (List A)
abbrev FS := Sl → Hs → OutS
abbrev FG := A → Sl → Hs → OutS
abbrev F := List A → Hs → Out A
structure DE (G : Gc) (L : Wh) (e : Expr) (f : FE) : Prop where
  run : ∀ X, Xr G X L → ∀ σ H ρ sl h, SR G H ρ sl σ → HR G H ρ h → ∀ Q : VK, Po G L.W σ H ρ (RQ G Q) (f sl h) → E X e σ H Q
structure DT (G : Gc) (L : Wh) (e : Expr) (f : FT) : Prop where
  run : ∀ X, Xr G X L → ∀ σ H ρ sl h, SR G H ρ sl σ → HR G H ρ h → ∀ Q : Bool → Hp → Prop, Po G L.W σ H ρ (RB Q) (f sl h) → T X e σ H Q
structure DW (G : Gc) (L : Wh) (e : Expr) (f : FT) : Prop where
  run : ∀ X, Xr G X L → ∀ σ H ρ sl h, SR G H ρ sl σ → HR G H ρ h → ∀ Q : Bool → Hp → Prop, Po G L.W σ H ρ (RB Q) (f sl h) → W X e σ H Q
structure DA (G : Gc) (L : Wh) (es : List Expr) (f : FA) : Prop where
  run : ∀ X, Xr G X L → ∀ σ H ρ sl h, SR G H ρ sl σ → HR G H ρ h → ∀ Q : List V → Hp → Prop, Po G L.W σ H ρ (RQs G Q) (f sl h) → As X es σ H Q
/-- what is wished of a statement's outcome -/
def PoS (G : Gc) (W : WX) (H : Hp) (ρ : Rho) (nx : St → Hp → Prop) (rt : VK) (bk ct : St → Hp → Prop) : OutS → Prop
  | .nx sl h => ∀ σ H' ρ', Ext H ρ H' ρ' → HR G H' ρ' h → SR G H' ρ' sl σ → nx σ H'
  | .rt a h => ∀ v H' ρ', Ext H ρ H' ρ' → HR G H' ρ' h → RA G H' ρ' a v → rt v H'
  | .bk sl h => ∀ σ H' ρ', Ext H ρ H' ρ' → HR G H' ρ' h → SR G H' ρ' sl σ → bk σ H'
  | .ct sl h => ∀ σ H' ρ', Ext H ρ H' ρ' → HR G H' ρ' h → SR G H' ρ' sl σ → ct σ H'
  | .ex x sl h => ∀ c d σ H' ρ', Ext H ρ H' ρ' → HR G H' ρ' h → SR G H' ρ' sl σ → RX G H' ρ' x c d → W c d σ H'
  | .bad => False
theorem PoS.at1 {G : Gc} {W : WX} {H H1 : Hp} {ρ ρ1 : Rho} {nx : St → Hp → Prop} {rt : VK} {bk ct : St → Hp → Prop} {m : OutS} (q : PoS G W H ρ nx rt bk ct m) (e : Ext H ρ H1 ρ1) : PoS G W H1 ρ1 nx rt bk ct m := by
  cases m with
  | nx sl h => exact fun σ H' ρ' e' r => q σ H' ρ' (e.trans e') r
  | rt a h => exact fun σ H' ρ' e' r => q σ H' ρ' (e.trans e') r
  | bk sl h => exact fun σ H' ρ' e' r => q σ H' ρ' (e.trans e') r
  | ct sl h => exact fun σ H' ρ' e' r => q σ H' ρ' (e.trans e') r
  | ex x sl h => exact fun c d σ H' ρ' e' r => q c d σ H' ρ' (e.trans e') r
  | bad => exact q
structure DS (G : Gc) (L : Wh) (st : Stmt) (f : FS) : Prop where
  run : ∀ X, Xr G X L → ∀ σ H ρ sl h, SR G H ρ sl σ → HR G H ρ h → ∀ nx rt bk ct, PoS G L.W H ρ nx rt bk ct (f sl h) → S X st nx rt bk ct σ H
structure DSs (G : Gc) (L : Wh) (st : List Stmt) (f : FS) : Prop where
  run : ∀ X, Xr G X L → ∀ σ H ρ sl h, SR G H ρ sl σ → HR G H ρ h → ∀ nx rt bk ct, PoS G L.W H ρ nx rt bk ct (f sl h) → Ss X st nx rt bk ct σ H
/-- a target: the outcome is nx alone -/
def PoG (G : Gc) (W : WX) (H : Hp) (ρ : Rho) (Q : St → Hp → Prop) (m : OutS) : Prop := PoS G W H ρ Q (fun _ _ => False) (fun _ _ => False) (fun _ _ => False) m
structure DG (G : Gc) (L : Wh) (tg : Expr) (f : FG) : Prop where
  run : ∀ X, Xr G X L → ∀ σ H ρ sl h a v, SR G H ρ sl σ → HR G H ρ h → RA G H ρ a v → ∀ Q, PoG G L.W H ρ Q (f a sl h) → Sx.G X tg v σ H Q
structure DGs (G : Gc) (L : Wh) (ts : List Expr) (f : List A → Sl → Hs → OutS) : Prop where
  run : ∀ X, Xr G X L → ∀ σ H ρ sl h as vs, SR G H ρ sl σ → HR G H ρ h → RAs G H ρ as vs → ∀ Q, PoG G L.W H ρ Q (f as sl h) → Sx.Gs X ts vs σ H Q

section
variable {G : Gc} {L : Wh} {X : Cx} {σ : St} {H : Hp} {ρ : Rho} {sl : Sl} {h : Hs} {a b c e o : Expr} {es : List Expr} {fa fb fc : FE}
/-! ### sequencing -/
theorem DE.bind {β : Type} {k : A → Hs → Out β} {R : β → Hp → Rho → Prop} {Q : VK} (ha : DE G L a fa) (xr : Xr G X L) (sr : SR G H ρ sl σ) (hr : HR G H ρ h) (q : Po G L.W σ H ρ R ((fa sl h).bind k))
    (c : ∀ x h1 v H1 ρ1, Ext H ρ H1 ρ1 → HR G H1 ρ1 h1 → RA G H1 ρ1 x v → SR G H1 ρ1 sl σ → Po G L.W σ H1 ρ1 R (k x h1) → Q v H1) : E X a σ H Q := by
  refine ha.run X xr σ H ρ sl h sr hr Q ?_
  cases hm : fa sl h with
  | ok x h1 =>
    rw [hm] at q
    exact fun H1 ρ1 e1 r1 v ra => c x h1 v H1 ρ1 e1 r1 ra (sr.mono e1) (Po.at1 (m := k x h1) q e1)
  | ex x h1 => rw [hm] at q; exact q
  | bad => rw [hm] at q; exact q
theorem DE.bindS {k : A → Hs → OutS} {nx : St → Hp → Prop} {rt : VK} {bk ct : St → Hp → Prop} {Q : VK} (ha : DE G L a fa) (xr : Xr G X L) (sr : SR G H ρ sl σ) (hr : HR G H ρ h) (q : PoS G L.W H ρ nx rt bk ct ((fa sl h).bindS sl k))
    (c : ∀ x h1 v H1 ρ1, Ext H ρ H1 ρ1 → HR G H1 ρ1 h1 → RA G H1 ρ1 x v → SR G H1 ρ1 sl σ → PoS G L.W H1 ρ1 nx rt bk ct (k x h1) → Q v H1) : E X a σ H Q := by
  refine ha.run X xr σ H ρ sl h sr hr Q ?_
  cases hm : fa sl h with
  | ok x h1 =>
    rw [hm] at q
    exact fun H1 ρ1 e1 r1 v ra => c x h1 v H1 ρ1 e1 r1 ra (sr.mono e1) (PoS.at1 (m := k x h1) q e1)
  | ex x h1 => rw [hm] at q; exact fun cl d H' ρ' e' r' rx => q cl d σ H' ρ' e' r' (sr.mono e') rx
  | bad => rw [hm] at q; exact q
theorem DT.bind {β : Type} {ft : FT} {k : Bool → Hs → Out β} {R : β → Hp → Rho → Prop} {Q : Bool → Hp → Prop} (ha : DT G L a ft) (xr : Xr G X L) (sr : SR G H ρ sl σ) (hr : HR G H ρ h) (q : Po G L.W σ H ρ R ((ft sl h).bind k))
    (c : ∀ x h1 H1 ρ1, Ext H ρ H1 ρ1 → HR G H1 ρ1 h1 → SR G H1 ρ1 sl σ → Po G L.W σ H1 ρ1 R (k x h1) → Q x H1) : T X a σ H Q := by
  refine ha.run X xr σ H ρ sl h sr hr Q ?_
  cases hm : ft sl h with
  | ok x h1 =>
    rw [hm] at q
    exact fun H1 ρ1 e1 r1 => c x h1 H1 ρ1 e1 r1 (sr.mono e1) (Po.at1 (m := k x h1) q e1)
  | ex x h1 => rw [hm] at q; exact q
  | bad => rw [hm] at q; exact q
theorem DT.bindS {ft : FT} {k : Bool → Hs → OutS} {nx : St → Hp → Prop} {rt : VK} {bk ct : St → Hp → Prop} {Q : Bool → Hp → Prop} (ha : DT G L a ft) (xr : Xr G X L) (sr : SR G H ρ sl σ) (hr : HR G H ρ h) (q : PoS G L.W H ρ nx rt bk ct ((ft sl h).bindS sl k))
    (c : ∀ x h1 H1 ρ1, Ext H ρ H1 ρ1 → HR G H1 ρ1 h1 → SR G H1 ρ1 sl σ → PoS G L.W H1 ρ1 nx rt bk ct (k x h1) → Q x H1) : T X a σ H Q := by
  refine ha.run X xr σ H ρ sl h sr hr Q ?_
  cases hm : ft sl h with
  | ok x h1 =>
    rw [hm] at q
    exact fun H1 ρ1 e1 r1 => c x h1 H1 ρ1 e1 r1 (sr.mono e1) (PoS.at1 (m := k x h1) q e1)
  | ex x h1 => rw [hm] at q; exact fun cl d H' ρ' e' r' rx => q cl d σ H' ρ' e' r' (sr.mono e') rx
  | bad => rw [hm] at q; exact q
theorem DA.bind {β : Type} {ft : FA} {k : List A → Hs → Out β} {R : β → Hp → Rho → Prop} {Q : List V → Hp → Prop} (ha : DA G L es ft) (xr : Xr G X L) (sr : SR G H ρ sl σ) (hr : HR G H ρ h) (q : Po G L.W σ H ρ R ((ft sl h).bind k))
    (c : ∀ x h1 v H1 ρ1, Ext H ρ H1 ρ1 → HR G H1 ρ1 h1 → RAs G H1 ρ1 x v → SR G H1 ρ1 sl σ → Po G L.W σ H1 ρ1 R (k x h1) → Q v H1) : As X es σ H Q := by
  refine ha.run X xr σ H ρ sl h sr hr Q ?_
  cases hm : ft sl h with
  | ok x h1 =>
    rw [hm] at q
    exact fun H1 ρ1 e1 r1 v ra => c x h1 v H1 ρ1 e1 r1 ra (sr.mono e1) (Po.at1 (m := k x h1) q e1)
  | ex x h1 => rw [hm] at q; exact q
  | bad => rw [hm] at q; exact q

/-! ### names, constants -/
def eVar (i : Nat) : FE := fun sl h => match sl[i]? with | some (some a) => .ok a h | _ => .bad
def eC (a : A) : FE := fun _ h => .ok a h
theorem de_var (i : Nat) {x : Str} {pos : Pos} (hi : L.N[i]? = some x := by rfl) (hr : L.rd.contains i = true := by rfl) : DE G L (.Name x pos) (eVar i) := by
  refine ⟨fun X xr σ H ρ sl h sr hh Q q => ?_⟩
  unfold eVar at q
  have z := xr.rdv i (by simpa using hr) x hi
  cases hs : sl[i]? with
  | none => rw [hs] at q; exact q.elim
  | some o =>
    cases o with
    | none => rw [hs] at q; exact q.elim
    | some a =>
      rw [hs] at q
      obtain ⟨v, e1, e2⟩ := sr.get i a hs
      exact .of (pe_var (i := i) (by rw [xr.n]; exact hi) z.1 z.2.1 z.2.2) ⟨v, e1, q H ρ .refl hh v e2⟩
theorem de_int {i : Int} {j : Nat} {pos : Pos} : DE G L (.Constant (.int i) j pos) (eC (.int i)) := ⟨fun X xr σ H ρ sl h sr hh Q q => e_int (q H ρ .refl hh _ .int)⟩
theorem de_bl {i : Bool} {j : Nat} {pos : Pos} : DE G L (.Constant (.bool i) j pos) (eC (.bl i)) := ⟨fun X xr σ H ρ sl h sr hh Q q => e_bl (q H ρ .refl hh _ .bl)⟩
theorem de_non {j : Nat} {pos : Pos} : DE G L (.Constant .none j pos) (eC .non) := ⟨fun X xr σ H ρ sl h sr hh Q q => e_non (q H ρ .refl hh _ .non)⟩
theorem de_str {i : Str} {j : Nat} {pos : Pos} : DE G L (.Constant (.str i) j pos) (eC (.str i)) := ⟨fun X xr σ H ρ sl h sr hh Q q => e_str (q H ρ .refl hh _ .str)⟩
/-- a module's constant -/
structure GlobC (G : Gc) (x : Str) (a : A) : Prop where
  ex : ∃ v u, G.mg x = some u ∧ RelV v u ∧ ∀ H ρ, RA G H ρ a v
theorem de_glob {x : Str} {a : A} {pos : Pos} (g : GlobC G x a) (hg : x ∈ L.GL) : DE G L (.Name x pos) (eC a) := by
  refine ⟨fun X xr σ H ρ sl h sr hh Q q => ?_⟩
  obtain ⟨v, u, e, r, ra⟩ := g.ex
  exact .of (pe_glob (xr.gl x hg).1 (by rw [xr.mg]; exact e) r (xr.gl x hg).2.1) (q H ρ .refl hh v (ra H ρ))
theorem de_bty {x : Str} {n : String} {pos : Pos} (hb : Bi G.mg x (.type n)) (hg : x ∈ L.GL) : DE G L (.Name x pos) (eC (.ty n)) := by
  refine ⟨fun X xr σ H ρ sl h sr hh Q q => ?_⟩
  exact .of (pe_bltn (v := .ty n) (xr.gl x hg).1 (by rw [xr.mg]; exact hb.1) hb.2 rfl (xr.gl x hg).2.2 (xr.gl x hg).2.1) (q H ρ .refl hh _ .ty)
/-! ### operators by values, the slots fixed -/
structure Bv (X : Cx) (σ : St) (op : Operator) (x y : V) (H : Hp) (Q : VK) : Prop where
  run : ∀ (pins : List (Addr × Obj)) (s : Shared) (v u : Value), Inv X pins σ H s → RelV x v → RelV y u → wpAny (model X.prog X.w) X.A (binaryOp op v u) (EP X pins σ Q) X.xe s
structure Cv (X : Cx) (σ : St) (op : CmpOp) (x y : V) (H : Hp) (Q : VK) : Prop where
  run : ∀ (pins : List (Addr × Obj)) (s : Shared) (v u : Value), Inv X pins σ H s → RelV x v → RelV y u → wpAny (model X.prog X.w) X.A (compareOp op v u) (EP X pins σ Q) X.xe s
structure Iv (X : Cx) (σ : St) (op : Operator) (x y : V) (H : Hp) (Q : VK) : Prop where
  run : ∀ (pins : List (Addr × Obj)) (s : Shared) (v u : Value), Inv X pins σ H s → RelV x v → RelV y u → wpAny (model X.prog X.w) X.A (inplaceOp op v u) (EP X pins σ Q) X.xe s
structure Uv (X : Cx) (σ : St) (op : UnaryOp) (x : V) (H : Hp) (Q : VK) : Prop where
  run : ∀ (pins : List (Addr × Obj)) (s : Shared) (v : Value), Inv X pins σ H s → RelV x v → wpAny (model X.prog X.w) X.A (unaryOp op v) (EP X pins σ Q) X.xe s
structure Kv (X : Cx) (σ : St) (f : Value) (vs : List V) (H : Hp) (Q : VK) : Prop where
  run : ∀ (pins : List (Addr × Obj)) (s : Shared) (us : List Value), Inv X pins σ H s → Vals vs us → wpAny (model X.prog X.w) X.A (call f us) (EP X pins σ Q) X.xe s
structure Tv (X : Cx) (σ : St) (x : V) (H : Hp) (Q : Bool → Hp → Prop) : Prop where
  run : ∀ (pins : List (Addr × Obj)) (s : Shared) (u : Value), Inv X pins σ H s → RelV x u → wpAny (model X.prog X.w) X.A (truthy u) (TP X pins σ Q) X.xe s
structure Xv (X : Cx) (σ : St) (a b : Expr) (x y : V) (H : Hp) (Q : VK) : Prop where
  run : ∀ (pins : List (Addr × Obj)) (s : Shared) (v u : Value), Inv X pins σ H s → RelV x v → RelV y u → wpAny (model X.prog X.w) X.A (subscriptTail a b v u) (EP X pins σ Q) X.xe s
structure Sv (X : Cx) (σ : St) (o i v : V) (H : Hp) (Q : Hp → Prop) : Prop where
  run : ∀ (pins : List (Addr × Obj)) (s : Shared) (ov iv u : Value), Inv X pins σ H s → RelV o ov → RelV i iv → RelV v u → wpAny (model X.prog X.w) X.A (setItem ov iv u) (fun _ s' => ∃ H', Inv X pins σ H' s' ∧ Q H') X.xe s
variable {op : Operator} {cop : CmpOp} {uop : UnaryOp} {x y z : V} {Q : VK} {f : Value} {vs : List V} {TQ : Bool → Hp → Prop}
theorem Bv.of (h : Bo X op x y H Q) : Bv X σ op x y H Q := ⟨fun pins s v u I => h.run pins s σ v u I⟩
theorem Cv.of (h : Co X cop x y H Q) : Cv X σ cop x y H Q := ⟨fun pins s v u I => h.run pins s σ v u I⟩
theorem Iv.of (h : Io X op x y H Q) : Iv X σ op x y H Q := ⟨fun pins s v u I => h.run pins s σ v u I⟩
theorem Uv.of (h : Uo X uop x H Q) : Uv X σ uop x H Q := ⟨fun pins s v I => h.run pins s σ v I⟩
theorem Kv.of (h : C X f vs H Q) : Kv X σ f vs H Q := ⟨fun pins s v I => h.run pins s σ v I⟩
theorem Tv.of (h : Tr X x H TQ) : Tv X σ x H TQ := ⟨fun pins s v I => h.run pins s σ v I⟩
theorem Xv.of (h : Ix X a b x y H Q) : Xv X σ a b x y H Q := ⟨fun pins s v u I => h.run pins s σ v u I⟩
theorem Sv.of {R : Hp → Prop} (h : St3 X x y z H R) : Sv X σ x y z H R := ⟨fun pins s v u w I => h.run pins s σ v u w I⟩
theorem Cv.mono {Q' : VK} (h : Cv X σ cop x y H Q) (i : ∀ v H, Q v H → Q' v H) : Cv X σ cop x y H Q' := ⟨fun pins s v u I r1 r2 => wpAny_mono (h.run pins s v u I r1 r2) (fun _ _ ⟨v, H', I', r, q⟩ => ⟨v, H', I', r, i _ _ q⟩) fun _ _ z => z⟩
/-- the operators' functions -/
structure OpB (G : Gc) (L : Wh) (op : Operator) (g : A → A → Hs → Out A) : Prop where
  run : ∀ X, Xr G X L → ∀ σ H ρ h x y v u, HR G H ρ h → RA G H ρ x v → RA G H ρ y u → ∀ Q, Po G L.W σ H ρ (RQ G Q) (g x y h) → Bv X σ op v u H Q
structure OpI (G : Gc) (L : Wh) (op : Operator) (g : A → A → Hs → Out A) : Prop where
  run : ∀ X, Xr G X L → ∀ σ H ρ h x y v u, HR G H ρ h → RA G H ρ x v → RA G H ρ y u → ∀ Q, Po G L.W σ H ρ (RQ G Q) (g x y h) → Iv X σ op v u H Q
structure OpC (G : Gc) (L : Wh) (op : CmpOp) (g : A → A → Hs → Out A) : Prop where
  run : ∀ X, Xr G X L → ∀ σ H ρ h x y v u, HR G H ρ h → RA G H ρ x v → RA G H ρ y u → ∀ Q, Po G L.W σ H ρ (RQ G Q) (g x y h) → Cv X σ op v u H Q
structure OpU (G : Gc) (L : Wh) (op : UnaryOp) (g : A → Hs → Out A) : Prop where
  run : ∀ X, Xr G X L → ∀ σ H ρ h x v, HR G H ρ h → RA G H ρ x v → ∀ Q, Po G L.W σ H ρ (RQ G Q) (g x h) → Uv X σ op v H Q
structure OpK (G : Gc) (L : Wh) (f : Value) (g : F) : Prop where
  run : ∀ X, Xr G X L → ∀ σ H ρ h xs vs, HR G H ρ h → RAs G H ρ xs vs → ∀ Q, Po G L.W σ H ρ (RQ G Q) (g xs h) → Kv X σ f vs H Q
structure OpT (G : Gc) (L : Wh) (g : A → Hs → Out Bool) : Prop where
  run : ∀ X, Xr G X L → ∀ σ H ρ h x v, HR G H ρ h → RA G H ρ x v → ∀ Q, Po G L.W σ H ρ (RB Q) (g x h) → Tv X σ v H Q
structure OpX (G : Gc) (L : Wh) (g : A → A → Hs → Out A) : Prop where
  run : ∀ X, Xr G X L → ∀ σ H ρ h x y v u (a b : Expr), PlainIx b → HR G H ρ h → RA G H ρ x v → RA G H ρ y u → ∀ Q, Po G L.W σ H ρ (RQ G Q) (g x y h) → Xv X σ a b v u H Q
structure OpS (G : Gc) (L : Wh) (g : A → A → A → Hs → Out Unit) : Prop where
  run : ∀ X, Xr G X L → ∀ σ H ρ h x y z v u w, HR G H ρ h → RA G H ρ x v → RA G H ρ y u → RA G H ρ z w → ∀ Q, Po G L.W σ H ρ (RU Q) (g x y z h) → Sv X σ v u w H Q
def e2 (fa fb : FE) (g : A → A → Hs → Out A) : FE := fun sl h => (fa sl h).bind fun x h1 => (fb sl h1).bind fun y h2 => g x y h2
def e1 (fa : FE) (g : A → Hs → Out A) : FE := fun sl h => (fa sl h).bind g
theorem two (ha : DE G L a fa) (hb : DE G L b fb) (xr : Xr G X L) (sr : SR G H ρ sl σ) (hr : HR G H ρ h) {g : A → A → Hs → Out A} {R : A → Hp → Rho → Prop} {Q2 : V → V → Hp → Prop} (q : Po G L.W σ H ρ R (e2 fa fb g sl h))
    (c : ∀ x y h2 v u H2 ρ2, HR G H2 ρ2 h2 → SR G H2 ρ2 sl σ → RA G H2 ρ2 x v → RA G H2 ρ2 y u → Po G L.W σ H2 ρ2 R (g x y h2) → Q2 v u H2) : E X a σ H fun v H1 => E X b σ H1 fun u H2 => Q2 v u H2 :=
  DE.bind ha xr sr hr q fun x h1 v H1 ρ1 e1 r1 ra s1 q1 => DE.bind hb xr s1 r1 q1 fun y h2 u H2 ρ2 e2 r2 rb s2 q2 => c x y h2 v u H2 ρ2 r2 s2 (ra.mono e2) rb q2
theorem de_bin {g : A → A → Hs → Out A} {pos : Pos} (ho : OpB G L op g) (ha : DE G L a fa) (hb : DE G L b fb) : DE G L (.BinOp a op b pos) (e2 fa fb g) := by
  refine ⟨fun X xr σ H ρ sl h sr hh Q q => ?_⟩
  have z := two ha hb xr sr hh q (Q2 := fun v u H2 => Bv X σ op v u H2 Q) fun x y h2 v u H2 ρ2 r2 s2 ra rb q2 => ho.run X xr σ H2 ρ2 h2 x y v u r2 ra rb Q q2
  exact ⟨fun pins s I => wpAny_BinOp (binT pe pe I z fun v u s2 x y H2 I2 rx ry q => q.run pins s2 v u I2 rx ry)⟩
theorem de_un {g : A → Hs → Out A} {pos : Pos} (ho : OpU G L uop g) (ha : DE G L a fa) : DE G L (.UnaryOp uop a pos) (e1 fa g) := by
  refine ⟨fun X xr σ H ρ sl h sr hh Q q => ?_⟩
  have z := DE.bind ha xr sr hh q (Q := fun v H1 => Uv X σ uop v H1 Q) fun x h1 v H1 ρ1 e1 r1 ra s1 q1 => ho.run X xr σ H1 ρ1 h1 x v r1 ra Q q1
  exact ⟨fun pins s I => PyProof.Rows.UnaryOp_ (thn (z.run pins s I) fun v s1 ⟨x, H1, I1, r1, q1⟩ => q1.run pins s1 v I1 r1)⟩
theorem de_cmp {g : A → A → Hs → Out A} {pos : Pos} (ho : OpC G L cop g) (ha : DE G L a fa) (hb : DE G L b fb) (hm : behindInMarks cop b = false) : DE G L (.Compare a [cop] [b] pos) (e2 fa fb g) := by
  refine ⟨fun X xr σ H ρ sl h sr hh Q q => ?_⟩
  have z := two ha hb xr sr hh q (Q2 := fun v u H2 => Cv X σ cop v u H2 Q) fun x y h2 v u H2 ρ2 r2 s2 ra rb q2 => ho.run X xr σ H2 ρ2 h2 x y v u r2 ra rb Q q2
  exact ⟨fun pins s I => wpAny_Compare1 (binT pe pe I z fun v u s2 x y H2 I2 rx ry q => q.run pins s2 v u I2 rx ry) hm⟩
/-- a value as a truth: True, False alone -/
def isB (a : A) (h : Hs) : Out Bool := match a with | .bl b => .ok b h | _ => .bad
def e2t (fa fb : FE) (g : A → A → Hs → Out A) : FT := fun sl h => (fa sl h).bind fun x h1 => (fb sl h1).bind fun y h2 => (g x y h2).bind isB
theorem isB_ok {W : WX} {m : Out A} {Q : Bool → Hp → Prop} (q : Po G W σ H ρ (RB Q) (m.bind isB)) : Po G W σ H ρ (RQ G fun v H' => ∃ k, v = .bl k ∧ Q k H') m := by
  cases m with
  | ok a h' =>
    cases a <;> try exact q.elim
    rename_i b
    intro H' ρ' e r v rv
    cases rv
    exact ⟨b, rfl, q H' ρ' e r⟩
  | ex x h' => exact q
  | bad => exact q
theorem dt_cmp {g : A → A → Hs → Out A} {pos : Pos} (ho : OpC G L cop g) (ha : DE G L a fa) (hb : DE G L b fb) (hm : behindInMarks cop b = false) : DT G L (.Compare a [cop] [b] pos) (e2t fa fb g) := by
  refine ⟨fun X xr σ H ρ sl h sr hh Q q => ?_⟩
  have z : E X a σ H fun v H1 => E X b σ H1 fun u H2 => Cv X σ cop v u H2 fun z H3 => ∃ k, z = .bl k ∧ Q k H3 :=
    DE.bind ha xr sr hh q fun x h1 v H1 ρ1 e1 r1 ra s1 q1 => DE.bind hb xr s1 r1 q1 fun y h2 u H2 ρ2 e2 r2 rb s2 q2 => ho.run X xr σ H2 ρ2 h2 x y v u r2 (ra.mono e2) rb _ (isB_ok q2)
  refine ⟨fun pins s I => wpAny_isTrue_Compare1 (thn (z.run pins s I) fun v s1 ⟨x, H1, I1, r1, q1⟩ => thn (q1.run pins s1 I1) fun u s2 ⟨y, H2, I2, r2, q2⟩ =>
    thn (q2.run pins s2 v u I2 r1 r2) fun c s3 ⟨z, H3, I3, r3, k, e, q3⟩ => ?_) hm⟩
  subst e
  cases r3
  exact wpAny_truthy_bool ⟨H3, I3, q3⟩
/-! ### tests -/
def t1 (fa : FE) (g : A → Hs → Out Bool) : FT := fun sl h => (fa sl h).bind g
theorem dt_val {g : A → Hs → Out Bool} (ho : OpT G L g) (ha : DE G L e fa) (he : ∀ env whole, isTrue e env whole = (do let v ← whole; standAt e.pos; holding [v] (truthy v)) := by intro _ _; rfl) : DT G L e (t1 fa g) := by
  refine ⟨fun X xr σ H ρ sl h sr hh Q q => ?_⟩
  have z := DE.bind ha xr sr hh q (Q := fun v H1 => Tv X σ v H1 Q) fun x h1 v H1 ρ1 e1 r1 ra s1 q1 => ho.run X xr σ H1 ρ1 h1 x v r1 ra Q q1
  refine ⟨fun pins s I => PyProof.Rows.isTrue_plain (wpAny_mono (z.run pins s I) (fun v s1 ⟨x, H1, I1, r1, q1⟩ => ?_) fun _ _ z => z) (he _ _)⟩
  exact q1.run pins s1 v I1 r1
def tNot (ft : FT) : FT := fun sl h => (ft sl h).bind fun b h1 => .ok (!b) h1
def tAnd (fa fb : FT) : FT := fun sl h => (fa sl h).bind fun b h1 => match b with | true => fb sl h1 | false => .ok false h1
def tOr (fa fb : FT) : FT := fun sl h => (fa sl h).bind fun b h1 => match b with | true => .ok true h1 | false => fb sl h1
variable {rest : List Expr} {ft fu : FT} {pos : Pos}
theorem dt_not (ha : DT G L a ft) : DT G L (.UnaryOp .Not a pos) (tNot ft) :=
  ⟨fun X xr σ H ρ sl h sr hh Q q => t_not (DT.bind ha xr sr hh q fun x h1 H1 ρ1 e1 r1 s1 q1 => q1 H1 ρ1 .refl r1)⟩
theorem dw_and1 (ha : DT G L a ft) : DW G L (.BoolOp .And [a] pos) ft := ⟨fun X xr σ H ρ sl h sr hh Q q => w_and1 (ha.run X xr σ H ρ sl h sr hh Q q)⟩
theorem dw_or1 (ha : DT G L a ft) : DW G L (.BoolOp .Or [a] pos) ft := ⟨fun X xr σ H ρ sl h sr hh Q q => w_or1 (ha.run X xr σ H ρ sl h sr hh Q q)⟩
theorem and_br (xr : Xr G X L) (sr : SR G H ρ sl σ) (hr : HR G H ρ h) (ha : DT G L a ft) (hb : DW G L b fu) {Q : Bool → Hp → Prop} (q : Po G L.W σ H ρ (RB Q) (tAnd ft fu sl h)) :
    T X a σ H fun q H1 => Br q (W X b σ H1 Q) (Q false H1) := DT.bind ha xr sr hr q fun x h1 H1 ρ1 e1 r1 s1 q1 => by
  cases x with
  | true => exact br_t (hb.run X xr σ H1 ρ1 sl h1 s1 r1 Q q1)
  | false => exact br_f (q1 H1 ρ1 .refl r1)
theorem or_br (xr : Xr G X L) (sr : SR G H ρ sl σ) (hr : HR G H ρ h) (ha : DT G L a ft) (hb : DW G L b fu) {Q : Bool → Hp → Prop} (q : Po G L.W σ H ρ (RB Q) (tOr ft fu sl h)) :
    T X a σ H fun q H1 => Br q (Q true H1) (W X b σ H1 Q) := DT.bind ha xr sr hr q fun x h1 H1 ρ1 e1 r1 s1 q1 => by
  cases x with
  | true => exact br_t (q1 H1 ρ1 .refl r1)
  | false => exact br_f (hb.run X xr σ H1 ρ1 sl h1 s1 r1 Q q1)
theorem dw_and (ha : DT G L a ft) (hb : DW G L (.BoolOp .And (b :: rest) pos) fu) : DW G L (.BoolOp .And (a :: b :: rest) pos) (tAnd ft fu) := ⟨fun X xr σ H ρ sl h sr hh Q q => w_and (and_br xr sr hh ha hb q)⟩
theorem dw_or (ha : DT G L a ft) (hb : DW G L (.BoolOp .Or (b :: rest) pos) fu) : DW G L (.BoolOp .Or (a :: b :: rest) pos) (tOr ft fu) := ⟨fun X xr σ H ρ sl h sr hh Q q => w_or (or_br xr sr hh ha hb q)⟩
theorem dt_and (ha : DT G L a ft) (hb : DW G L (.BoolOp .And (b :: rest) pos) fu) : DT G L (.BoolOp .And (a :: b :: rest) pos) (tAnd ft fu) := ⟨fun X xr σ H ρ sl h sr hh Q q => t_and (and_br xr sr hh ha hb q)⟩
theorem dt_or (ha : DT G L a ft) (hb : DW G L (.BoolOp .Or (b :: rest) pos) fu) : DT G L (.BoolOp .Or (a :: b :: rest) pos) (tOr ft fu) := ⟨fun X xr σ H ρ sl h sr hh Q q => t_or (or_br xr sr hh ha hb q)⟩
end
end Rx
set_option Elab.async false
set_option linter.all false
set_option maxRecDepth 100000
set_option maxHeartbeats 4000000
/-! RxE: expressions: and, or, if, chains, arguments, displays, calls of defs, fields, subscripts. -/
namespace Rx
open PySem L2 Sx
open PyProof.Rows (subscriptTail)
section
variable {G : Gc} {L : Wh} {X : Cx} {σ : St} {H : Hp} {ρ : Rho} {sl : Sl} {h : Hs} {a b c e o : Expr} {es rest : List Expr} {fa fb fc : FE} {ft fu : FT} {fs : FA} {pos p apos : Pos} {Q : VK} {cop cop' : CmpOp}
/-! ### and, or, not as values; if; chains of ints -/
def eAnd (fa fb : FE) : FE := fun sl h => (fa sl h).bind fun x h1 => match x with | .bl true => fb sl h1 | .bl false => .ok (.bl false) h1 | _ => .bad
def eOr (fa fb : FE) : FE := fun sl h => (fa sl h).bind fun x h1 => match x with | .bl true => .ok (.bl true) h1 | .bl false => fb sl h1 | _ => .bad
def eNot (fa : FE) : FE := fun sl h => (fa sl h).bind fun x h1 => match x with | .bl b => .ok (.bl (!b)) h1 | _ => .bad
def eIf (ft : FT) (fa fb : FE) : FE := fun sl h => (ft sl h).bind fun b h1 => match b with | true => fa sl h1 | false => fb sl h1
theorem de_one {op : BoolOp} (ha : DE G L a fa) : DE G L (.BoolOp op [a] pos) fa := ⟨fun X xr σ H ρ sl h sr hh Q q => e_one (ha.run X xr σ H ρ sl h sr hh Q q)⟩
theorem de_and (ha : DE G L a fa) (hb : DE G L (.BoolOp .And (b :: rest) pos) fb) : DE G L (.BoolOp .And (a :: b :: rest) pos) (eAnd fa fb) :=
  ⟨fun X xr σ H ρ sl h sr hh Q q => e_and (DE.bind ha xr sr hh q fun x h1 v H1 ρ1 e1 r1 ra s1 q1 => by
    cases ra <;> try exact q1.elim
    rename_i k
    cases k with
    | true => exact ⟨true, rfl, br_t (hb.run X xr σ H1 ρ1 sl h1 s1 r1 Q q1)⟩
    | false => exact ⟨false, rfl, br_f (q1 H1 ρ1 .refl r1 _ .bl)⟩)⟩
theorem de_or (ha : DE G L a fa) (hb : DE G L (.BoolOp .Or (b :: rest) pos) fb) : DE G L (.BoolOp .Or (a :: b :: rest) pos) (eOr fa fb) :=
  ⟨fun X xr σ H ρ sl h sr hh Q q => e_or (DE.bind ha xr sr hh q fun x h1 v H1 ρ1 e1 r1 ra s1 q1 => by
    cases ra <;> try exact q1.elim
    rename_i k
    cases k with
    | true => exact ⟨true, rfl, br_t (q1 H1 ρ1 .refl r1 _ .bl)⟩
    | false => exact ⟨false, rfl, br_f (hb.run X xr σ H1 ρ1 sl h1 s1 r1 Q q1)⟩)⟩
theorem de_not (ha : DE G L a fa) : DE G L (.UnaryOp .Not a pos) (eNot fa) :=
  ⟨fun X xr σ H ρ sl h sr hh Q q => e_notV (DE.bind ha xr sr hh q fun x h1 v H1 ρ1 e1 r1 ra s1 q1 => by
    cases ra <;> try exact q1.elim
    exact ⟨_, rfl, q1 H1 ρ1 .refl r1 _ .bl⟩)⟩
theorem de_if (hc : DT G L c ft) (ha : DE G L a fa) (hb : DE G L b fb) : DE G L (.IfExp c a b pos) (eIf ft fa fb) :=
  ⟨fun X xr σ H ρ sl h sr hh Q q => e_if (DT.bind hc xr sr hh q fun x h1 H1 ρ1 e1 r1 s1 q1 => by
    cases x with
    | true => exact br_t (ha.run X xr σ H1 ρ1 sl h1 s1 r1 Q q1)
    | false => exact br_f (hb.run X xr σ H1 ρ1 sl h1 s1 r1 Q q1))⟩
/-- a comparison of ints -/
structure CmpI (op : CmpOp) (p : Int → Int → Bool) : Prop where
  run : ∀ (X : Cx) (H : Hp) (i j : Int) (Q : VK), Q (.bl (p i j)) H → Co X op (.int i) (.int j) H Q
theorem ci_lt : CmpI .Lt (fun i j => decide (i < j)) := ⟨fun X H i j Q h => c_lt h⟩
theorem ci_le : CmpI .LtE (fun i j => decide (i ≤ j)) := ⟨fun X H i j Q h => c_le h⟩
theorem ci_gt : CmpI .Gt (fun i j => decide (j < i)) := ⟨fun X H i j Q h => c_gt h⟩
theorem ci_ge : CmpI .GtE (fun i j => decide (j ≤ i)) := ⟨fun X H i j Q h => c_ge h⟩
def eChain (p p' : Int → Int → Bool) (fa fb fc : FE) : FE := fun sl h => (fa sl h).bind fun x h1 => (fb sl h1).bind fun y h2 => match x, y with
  | .int i, .int j => (match p i j with
    | true => (fc sl h2).bind fun z h3 => (match z with | .int k => .ok (.bl (p' j k)) h3 | _ => .bad)
    | false => .ok (.bl false) h2)
  | _, _ => .bad
theorem chain_ok {p1 p2 : Int → Int → Bool} (h1 : CmpI cop p1) (h2 : CmpI cop' p2) (ha : DE G L a fa) (hb : DE G L b fb) (hc : DE G L c fc) (xr : Xr G X L) (sr : SR G H ρ sl σ) (hh : HR G H ρ h) (q : Po G L.W σ H ρ (RQ G Q) (eChain p1 p2 fa fb fc sl h)) :
    E X a σ H fun x H1 => E X b σ H1 fun y H2 => Co X cop x y H2 fun z H3 => ∃ q, z = .bl q ∧ Br q (E X c σ H3 fun z' H4 => Co X cop' y z' H4 Q) (Q (.bl false) H3) :=
  DE.bind ha xr sr hh q fun x h1' v H1 ρ1 e1 r1 ra s1 q1 => DE.bind hb xr s1 r1 q1 fun y h2' u H2 ρ2 e2 r2 rb s2 q2 => by
    cases ra <;> try exact q2.elim
    cases rb <;> try exact q2.elim
    rename_i i j
    refine h1.run X H2 i j _ ⟨_, rfl, ?_⟩
    revert q2
    dsimp only
    cases p1 i j with
    | true =>
      intro q2
      refine br_t (DE.bind hc xr s2 r2 q2 fun z h3 w H3 ρ3 e3 r3 rc s3 q3 => ?_)
      cases rc <;> try exact q3.elim
      exact h2.run X H3 _ _ _ (q3 H3 ρ3 .refl r3 _ .bl)
    | false => exact fun q2 => br_f (q2 H2 ρ2 .refl r2 _ .bl)
theorem de_chain {p1 p2 : Int → Int → Bool} (h1 : CmpI cop p1) (h2 : CmpI cop' p2) (ha : DE G L a fa) (hb : DE G L b fb) (hc : DE G L c fc) (hm : lastMarks [cop, cop'] [b, c] = false := by with_unfolding_all rfl) : DE G L (.Compare a [cop, cop'] [b, c] pos) (eChain p1 p2 fa fb fc) :=
  ⟨fun X xr σ H ρ sl h sr hh Q q => e_chain (chain_ok h1 h2 ha hb hc xr sr hh q) hm⟩
theorem dt_chain {p1 p2 : Int → Int → Bool} (h1 : CmpI cop p1) (h2 : CmpI cop' p2) (ha : DE G L a fa) (hb : DE G L b fb) (hc : DE G L c fc) (hm : lastMarks [cop, cop'] [b, c] = false := by with_unfolding_all rfl) : DT G L (.Compare a [cop, cop'] [b, c] pos) (t1 (eChain p1 p2 fa fb fc) isB) := by
  refine ⟨fun X xr σ H ρ sl h sr hh Q q => Sx.t_chain ?_ hm⟩
  have z := chain_ok h1 h2 ha hb hc xr sr hh (Q := fun v H' => ∃ k, v = .bl k ∧ Q k H') (isB_ok q)
  exact z.mono fun _ _ z => z.mono fun _ _ z => z.mono fun _ _ ⟨q, e, b⟩ => ⟨q, e, b.1, fun e => by
    obtain ⟨k, e1, e2⟩ := b.2 e
    cases e1
    exact e2⟩
/-! ### arguments, displays -/
def aNil : FA := fun _ h => .ok [] h
def aCons (fa : FE) (fs : FA) : FA := fun sl h => (fa sl h).bind fun x h1 => (fs sl h1).bind fun xs h2 => .ok (x :: xs) h2
/-- *e: the items of a tuple or a list -/
def itemsOf (x : A) (h : Hs) : Option (List A) := match x with
  | .tup xs => some xs
  | .lst xs => some xs
  | .ref n => (match h[n]? with | some (.lst xs) => some xs | _ => none)
  | _ => none
def aStar (fa : FE) (fs : FA) : FA := fun sl h => (fa sl h).bind fun x h1 => need (itemsOf x h1) fun xs => (fs sl h1).bind fun ys h2 => .ok (xs ++ ys) h2
theorem da_nil : DA G L [] aNil := ⟨fun X xr σ H ρ sl h sr hh Q q => as_nil (q H ρ .refl hh _ .nil)⟩
theorem da_cons (ha : DE G L e fa) (hs : DA G L es fs) (he : NoSt e = true := by rfl) : DA G L (e :: es) (aCons fa fs) :=
  ⟨fun X xr σ H ρ sl h sr hh Q q => as_cons (DE.bind ha xr sr hh q fun x h1 v H1 ρ1 e1 r1 ra s1 q1 => DA.bind hs xr s1 r1 q1 fun xs h2 vs H2 ρ2 e2 r2 rs s2 q2 => q2 H2 ρ2 .refl r2 _ (.cons (ra.mono e2) rs)) (star_cons he)⟩
def eTup (fs : FA) : FE := fun sl h => (fs sl h).bind fun xs h1 => chk (Nat.ble xs.length sizeLine) (.ok (.tup xs) h1)
def eLst (fs : FA) : FE := fun sl h => (fs sl h).bind fun xs h1 => chk (Nat.ble xs.length sizeLine) (.ok (.lst xs) h1)
/-- a list that will be changed -/
def eLstT (fs : FA) : FE := fun sl h => (fs sl h).bind fun xs h1 => chk (Nat.ble xs.length sizeLine) (.ok (.ref h1.length) (h1 ++ [.lst xs]))
theorem chk_ok {α : Type} {k : Bool} {m : Out α} {W : WX} {R : α → Hp → Rho → Prop} (q : Po G W σ H ρ R (chk k m)) : k = true ∧ Po G W σ H ρ R m := by
  cases k with
  | true => exact ⟨rfl, q⟩
  | false => exact q.elim
theorem need_ok {α β : Type} {k : Option α} {m : α → Out β} {W : WX} {R : β → Hp → Rho → Prop} (q : Po G W σ H ρ R (need k m)) : ∃ x, k = some x ∧ Po G W σ H ρ R (m x) := by
  cases k with
  | some x => exact ⟨x, rfl, q⟩
  | none => exact q.elim
theorem new_tupA (hr : HR G H ρ h) {xs : List A} {vs : List V} {p : Addr} (n : H p = none) (rs : RAs G H ρ xs vs) : RA G (upd H p (.tup vs)) ρ (.tup xs) (.ref p) :=
  let r := rs.mono (hr.ext_new (o := .tup vs) n)
  .tup (.inl (.inl upd_same)) r.1 r.2
theorem new_lstA (hr : HR G H ρ h) {xs : List A} {vs : List V} {p : Addr} (n : H p = none) (rs : RAs G H ρ xs vs) : RA G (upd H p (.lst vs)) ρ (.lst xs) (.ref p) :=
  let r := rs.mono (hr.ext_new (o := .lst vs) n)
  .lst upd_same (hr.nlive n) r.1 r.2
theorem new_lstT (hr : HR G H ρ h) {xs : List A} {vs : List V} {p : Addr} (n : H p = none) (rs : RAs G H ρ xs vs) : RA G (upd H p (.lst vs)) (ρ.add p) (.ref h.length) (.ref p) ∧ HR G (upd H p (.lst vs)) (ρ.add p) (h ++ [.lst xs]) :=
  ⟨.ref (by simp [hr.len]) fun b e => by rw [← hr.len] at e; simpa using e, hr.track n ⟨vs, upd_same, rs.mono (hr.ext_track n)⟩⟩
theorem de_tup {j : Nat} (hs : DA G L es fs) : DE G L (.Tuple es j pos) (eTup fs) :=
  ⟨fun X xr σ H ρ sl h sr hh Q q => .of (pe_tup pa) (DA.bind hs xr sr hh q fun xs h1 vs H1 ρ1 e1 r1 rs s1 q1 => by
    obtain ⟨k, q1⟩ := chk_ok q1
    exact ⟨by rw [← rs.1]; exact Nat.le_of_ble_eq_true k, fun p np => q1 _ ρ1 (r1.ext_new np) (r1.new np) _ (new_tupA r1 np rs)⟩)⟩
theorem de_lst (hs : DA G L es fs) : DE G L (.List es pos) (eLst fs) :=
  ⟨fun X xr σ H ρ sl h sr hh Q q => .of (pe_lst pa) (DA.bind hs xr sr hh q fun xs h1 vs H1 ρ1 e1 r1 rs s1 q1 => by
    obtain ⟨k, q1⟩ := chk_ok q1
    exact ⟨by rw [← rs.1]; exact Nat.le_of_ble_eq_true k, fun p np => q1 _ ρ1 (r1.ext_new np) (r1.new np) _ (new_lstA r1 np rs)⟩)⟩
theorem de_lstT (hs : DA G L es fs) : DE G L (.List es pos) (eLstT fs) :=
  ⟨fun X xr σ H ρ sl h sr hh Q q => .of (pe_lst pa) (DA.bind hs xr sr hh q fun xs h1 vs H1 ρ1 e1 r1 rs s1 q1 => by
    obtain ⟨k, q1⟩ := chk_ok q1
    refine ⟨by rw [← rs.1]; exact Nat.le_of_ble_eq_true k, fun p np => ?_⟩
    obtain ⟨z1, z2⟩ := new_lstT r1 np rs
    exact q1 _ _ (r1.ext_track np) z2 _ z1)⟩
/-! ### defs: what they promise -/
def spF (G : Gc) (n : Nat) (f : F) : Sp := fun vs H Q E => vs.length = n ∧ ∃ xs ρ h, RAs G H ρ xs vs ∧ HR G H ρ h ∧ Po G (fun c d _ H => E c d H) [] H ρ (RQ G Q) (f xs h)
theorem Po.wish {α : Type} {W : WX} {R : α → Hp → Rho → Prop} {m : Out α} (q : Po G W σ H ρ R m) : Po G (fun c d _ H => W c d σ H) [] H ρ R m := by
  cases m <;> exact q
def OutS.fin : OutS → Out A
  | .nx _ h => .ok .non h
  | .rt a h => .ok a h
  | .ex x _ h => .ex x h
  | _ => .bad
/-- a def by its body: n parameters, nl names in all -/
def runF (n nl : Nat) (fb : FS) : F := fun xs h => match Nat.beq xs.length n with | true => (fb (xs.map some ++ List.replicate (nl - n) none) h).fin | false => .bad
/-- a function that asks for n arguments -/
def Ar (n : Nat) (f : F) : Prop := ∀ xs h, xs.length ≠ n → f xs h = .bad
theorem ar_run {n nl : Nat} {fb : FS} : Ar n (runF n nl fb) := fun xs h e => by
  unfold runF
  have z : Nat.beq xs.length n = false := by
    cases k : Nat.beq xs.length n with
    | false => rfl
    | true => exact absurd (Nat.eq_of_beq_eq_true k) e
  rw [z]
theorem Ar.len {n : Nat} {f : F} (ar : Ar n f) {W : WX} {R : A → Hp → Rho → Prop} {xs : List A} (q : Po G W σ H ρ R (f xs h)) : xs.length = n := by
  by_cases e : xs.length = n
  · exact e
  · rw [ar xs h e] at q; exact q.elim
def okN (N : List Str) (rd wr : List Nat) (GL : List Str) (sc : Scope) : Bool :=
  (rd.all fun i => match N[i]? with
    | some x => (decide (sc.names.lookup x = some .local) || decide (sc.names.lookup x = some .cell)) && !(x == ("__debug__" : Str)) && !(x == ("__classdict__" : Str))
    | none => true) &&
  (wr.all fun i => match N[i]? with
    | some x => decide (sc.names.lookup x = some .local) || decide (sc.names.lookup x = some .cell)
    | none => true) &&
  (GL.all fun x => decide (sc.names.lookup x = some .globalImplicit) && !(x == ("__debug__" : Str)) && decide (x ≠ ("__name__" : Str)))
abbrev wh (st : Stmt) (N : List Str) (rd wr : List Nat) (GL : List Str) (k : Nat) (W : WX) : Wh := ⟨defScope st, N, rd, wr, GL, k, W, true, true⟩
theorem fn_rx {x qual : Str} {st : Stmt} {f : Addr} {fd : FuncData} {N ps : List Str} {rd wr : List Nat} {GL : List Str} {k n nl : Nat} {fb : FS} (Fn : Fun G.K x qual st f fd) (S : FnScope N ps (defScope st)) (hok : okN N rd wr GL (defScope st) = true)
    (hn : ps.length = n) (hnl : N.length = nl) (body : ∀ W, DSs G (wh st N rd wr GL k W) (defBody st) fb) : FnOk G.P G.w G.K G.mg G.base (L2.CX G.P G.w) (k + 1) f fd ps (spF G n (runF n nl fb)) := by
  refine Fn.okX S (fun vs H Q E q => by rw [hn]; exact q.1) fun cdv A outer s H vs Q E hr q => ⟨_, pss, ?_⟩
  obtain ⟨hl, xs, ρ, h, ra, hh, po⟩ := q
  unfold okN at hok
  simp only [Bool.and_eq_true, List.all_eq_true] at hok
  obtain ⟨⟨o1, o2⟩, o3⟩ := hok
  have xr : Xr G (cxOf (L2.CX G.P G.w) G.P G.w G.K G.mg G.base N qual (defScope st) f cdv A outer s H E) (wh st N rd wr GL k fun c d _ H => E c d H) := by
    refine ⟨rfl, rfl, rfl, rfl, rfl, rfl, S.nd, rfl, fun i hi x hx => ?_, fun i hi x hx => ?_, fun x hx => ?_, fun _ => hr, fun _ => rfl, takes_of rfl rfl rfl rfl, passes_of rfl, fun _ => ⟨_, _, _, _, rfl⟩⟩
    · have z := o1 i hi
      have hx : N[i]? = some x := hx
      rw [hx] at z
      simp only [Bool.and_eq_true, Bool.or_eq_true, decide_eq_true_eq, Bool.not_eq_true'] at z
      exact ⟨z.1.1.elim .inl fun z => .inr (.inl z), z.1.2, z.2⟩
    · have z := o2 i hi
      have hx : N[i]? = some x := hx
      rw [hx] at z
      simp only [Bool.or_eq_true, decide_eq_true_eq] at z
      exact ⟨z, .inl rfl⟩
    · have z := o3 x hx
      simp only [Bool.and_eq_true, decide_eq_true_eq, Bool.not_eq_true'] at z
      exact ⟨z.1.1, z.1.2, z.2⟩
  have len : xs.length = n := by rw [ra.1, hl]
  have sr : SR G H ρ (xs.map some ++ List.replicate (nl - n) none) (L2.start N vs) := by
    unfold L2.start
    refine ⟨by simp [ra.1, hnl, hl], fun i a e => ?_⟩
    by_cases hi : i < xs.length
    · rw [List.getElem?_append_left (by simpa using hi), List.getElem?_map] at e
      have e' : xs[i]? = some a := by
        cases q : xs[i]? with
        | none => rw [q] at e; cases e
        | some z => rw [q] at e; cases e; rfl
      obtain ⟨v, e1, e2⟩ := ra.get e'
      exact ⟨v, by rw [List.getElem?_append_left (by rw [List.length_map, ← ra.1]; exact hi), List.getElem?_map, e1]; rfl, e2⟩
    · rw [List.getElem?_append_right (by simpa using hi), List.getElem?_replicate] at e
      split at e <;> cases e
  refine (body _).run _ xr _ H ρ _ h sr hh _ _ _ _ ?_
  have beq : Nat.beq xs.length n = true := by rw [len]; exact Nat.beq_refl n
  unfold runF at po
  rw [beq] at po
  revert po
  dsimp only
  cases fb (xs.map some ++ List.replicate (nl - n) none) h with
  | nx sl' h' => exact fun po σ' H' ρ' e r _ => po H' ρ' e r _ .non
  | rt a h' => exact fun po v H' ρ' e r ra => po H' ρ' e r v ra
  | bk sl' h' => exact fun po => po.elim
  | ct sl' h' => exact fun po => po.elim
  | ex x' sl' h' => exact fun po c d σ' H' ρ' e r _ rx => po c d H' ρ' e r rx
  | bad => exact fun po => po.elim
/-- a def that stands at its name -/
def DfR (G : Gc) (x : Str) (j n : Nat) (f : F) : Prop :=
  Ar n f ∧ ∃ (fa : Addr) (fd : FuncData) (ps : List Str), FnOk G.P G.w G.K G.mg G.base (L2.CX G.P G.w) j fa fd ps (spF G n f) ∧ G.mg x = some (.ref fa) ∧ PySem.W.keepIn G.K (.ref fa) = true ∧ Binds G.K fd ps []
def eK (fs : FA) (f : F) : FE := fun sl h => (fs sl h).bind f
theorem sp_of {n : Nat} {f : F} (ar : Ar n f) {W : WX} {xs : List A} {vs : List V} (hr : HR G H ρ h) (rs : RAs G H ρ xs vs) (q : Po G W σ H ρ (RQ G Q) (f xs h)) : spF G n f vs H Q (WE W σ) :=
  ⟨by rw [← rs.1]; exact ar.len q, xs, ρ, h, rs, hr, q.wish⟩
theorem Xr.fn (xr : Xr G X L) {j : Nat} {fa : Addr} {fd : FuncData} {ps : List Str} {sp : Sp} (Fn : FnOk G.P G.w G.K G.mg G.base (L2.CX G.P G.w) j fa fd ps sp) : FnOk X.prog X.w X.K X.mg X.base (L2.CX X.prog X.w) j fa fd ps sp := by
  rw [xr.prog, xr.w, xr.K, xr.mg, xr.base]; exact Fn
theorem Xr.pass (xr : Xr G X L) (σ : St) : PassesAt (L2.CX X.prog X.w) X σ (WE L.W σ) := passAt xr.tk σ
theorem de_call {x : Str} {j n : Nat} {f : F} (D : DfR G x j n f) (hg : x ∈ L.GL) (hj : j ≤ L.k) (ha : DA G L (e :: es) fs) (he : NoSt e = true := by rfl) (hpl : ∀ env, (backTo pos (starEach es env)).any (·.1) = false := by intro _; rfl) (hc : L.cm = true := by rfl) : DE G L (.Call (.Name x p) (e :: es) [] pos) (eK fs f) := by
  refine ⟨fun X xr σ H ρ sl h sr hh Q q => ?_⟩
  obtain ⟨ar, fa, fd, ps, Fn, hm, kp, b⟩ := D
  refine .of (pe_callS (xr.fn Fn) ((xr.room hc).mono hj) (xr.gl x hg).1 (by rw [xr.mg]; exact hm) (by rw [xr.K]; exact kp) (by rw [xr.K]; exact b) (fun σ => xr.pass σ) pa (xr.gl x hg).2.1 (star_cons he) (hpl _)) ?_
  exact DA.bind ha xr sr hh q fun xs h1 vs H1 ρ1 e1 r1 rs s1 q1 => sp_of ar r1 rs q1
theorem de_call0 {x : Str} {j : Nat} {f : F} (D : DfR G x j 0 f) (hg : x ∈ L.GL) (hj : j ≤ L.k) (hc : L.cm = true := by rfl) : DE G L (.Call (.Name x p) [] [] pos) (fun _ h => f [] h) := by
  refine ⟨fun X xr σ H ρ sl h sr hh Q q => ?_⟩
  obtain ⟨ar, fa, fd, ps, Fn, hm, kp, b⟩ := D
  refine ⟨fun pins s I => ?_⟩
  refine wpAny_Call_Name_kw (ld_glob I (xr.gl x hg).1 (by rw [xr.mg]; exact hm) ?_ (xr.gl x hg).2.1)
  exact PySem.W.callWith_K0 I.kIn (by rw [xr.K]; exact kp) (run_fnS (E := WE L.W) (us := []) (vs := []) (xr.fn Fn) ((xr.room hc).mono hj) (by rw [xr.K]; exact b) (xr.pass σ) I .nil (sp_of ar hh .nil q))
/-! ### built-in functions and types, called by name -/
theorem de_callB {x : Str} {id : String} {f : F} (hb : Bi G.mg x (.builtin id)) (ho : OpK G L (.builtin id) f) (hg : x ∈ L.GL) (ha : DA G L (e :: es) fs) (he : NoSt e = true := by rfl) (hpl : ∀ env, (backTo pos (starEach es env)).any (·.1) = false := by intro _; rfl) : DE G L (.Call (.Name x p) (e :: es) [] pos) (eK fs f) := by
  refine ⟨fun X xr σ H ρ sl h sr hh Q q => ⟨fun pins s I => ?_⟩⟩
  have z : As X (e :: es) σ H fun vs H1 => Kv X σ (.builtin id) vs H1 Q := DA.bind ha xr sr hh q fun xs h1 vs H1 ρ1 e1 r1 rs s1 q1 => ho.run X xr σ H1 ρ1 h1 xs vs r1 rs Q q1
  refine wpAny_Call_Name_kw (ld_blt I (xr.gl x hg).1 (by rw [xr.mg]; exact hb.1) hb.2 ?_ (xr.gl x hg).2.2 (xr.gl x hg).2.1)
  exact PyProof.Rows.callWith_builtin1 (thn (z.run pos pins s I) fun us s1 ⟨vs, H1, I1, r1, q1⟩ => q1.run pins s1 us I1 r1) (star_cons he) (hpl _)
theorem de_callT {x : Str} {id : String} {f : F} (hb : Bi G.mg x (.type id)) (ho : OpK G L (.type id) f) (hg : x ∈ L.GL) (ha : DA G L (e :: es) fs) (he : NoSt e = true := by rfl) (hpl : ∀ env, (backTo pos (starEach es env)).any (·.1) = false := by intro _; rfl) : DE G L (.Call (.Name x p) (e :: es) [] pos) (eK fs f) := by
  refine ⟨fun X xr σ H ρ sl h sr hh Q q => ⟨fun pins s I => ?_⟩⟩
  have z : As X (e :: es) σ H fun vs H1 => Kv X σ (.type id) vs H1 Q := DA.bind ha xr sr hh q fun xs h1 vs H1 ρ1 e1 r1 rs s1 q1 => ho.run X xr σ H1 ρ1 h1 xs vs r1 rs Q q1
  refine wpAny_Call_Name_kw (ld_blt I (xr.gl x hg).1 (by rw [xr.mg]; exact hb.1) hb.2 ?_ (xr.gl x hg).2.2 (xr.gl x hg).2.1)
  exact PyProof.Rows.callWith_type1 (thn (z.run pos pins s I) fun us s1 ⟨vs, H1, I1, r1, q1⟩ => q1.run pins s1 us I1 r1) (star_cons he) (hpl _)
/-! ### instances -/
def instOf (x : A) (h : Hs) : Option (Nat × List A) := match x with
  | .ins c xs => some (c, xs)
  | .ref n => (match h[n]? with | some (.ins c xs) => some (c, xs) | _ => none)
  | _ => none
theorem inst_ok (hr : HR G H ρ h) {x : A} {v : V} {c : Nat} {xs : List A} (r : RA G H ρ x v) (e : instOf x h = some (c, xs)) : ∃ a dx vs, v = .ref a ∧ H a = some (.ins (G.cad c) dx vs) ∧ RFs G H ρ c xs vs := by
  unfold instOf at e
  cases r with
  | ins h1 nl l l' r => cases e; exact ⟨_, _, _, rfl, h1, l, l', r⟩
  | ref hn hr' =>
    dsimp only at e
    split at e
    · cases e
      rename_i q
      obtain ⟨a, e1, e2, dx, vs, e3, e4⟩ := hr.look (.ref hn hr') q (fun z => by cases z)
      exact ⟨a, dx, vs, e1, e3, e4⟩
    · cases e
  | _ => cases e
/-- what a class has under a name -/
inductive At where
  | fld (i : Nat) | con (a : A) | prp (f : F) | no
/-- a class: its facts -/
structure ClsR (G : Gc) (c : Nat) : Prop where
  cl : Cls G.K (G.cad c)
  nd : (G.cfs c).Nodup
theorem fld_get {c : Nat} {xs : List A} {vs : List (Str × V)} {i : Nat} {x : A} {f : Str} (nd : (G.cfs c).Nodup) (rf : RFs G H ρ c xs vs) (hi : xs[i]? = some x) (hf : (G.cfs c)[i]? = some f) : ∃ v, vs.lookup f = some v ∧ RA G H ρ x v := by
  obtain ⟨l, l', r⟩ := rf
  have hlt : i < xs.length := by
    by_cases hi' : i < xs.length
    · exact hi'
    · rw [List.getElem?_eq_none (by omega)] at hi; cases hi
  have hv : i < vs.length := by omega
  have e := congrArg (fun z => z[i]?) l
  rw [List.getElem?_map, List.getElem?_eq_getElem hv, List.getElem?_take_of_lt hlt, hf] at e
  have e' : vs[i].1 = f := Option.some.inj e
  have nv : (vs.map (·.1)).Nodup := by rw [l]; exact nd.sublist (List.take_sublist _ _)
  refine ⟨vs[i].2, ?_, r i x vs[i].1 vs[i].2 hi (by rw [List.getElem?_eq_getElem hv])⟩
  clear r l hi hf e nd l'
  induction vs generalizing i xs with
  | nil => simp at hv
  | cons p vs ih =>
    cases i with
    | zero =>
      simp only [List.getElem_cons_zero] at e' ⊢
      obtain ⟨k, v⟩ := p
      cases e'
      exact lk_here
    | succ i =>
      simp only [List.getElem_cons_succ] at e' ⊢
      simp only [List.length_cons] at hv
      rw [List.map_cons, List.nodup_cons] at nv
      obtain ⟨k, v⟩ := p
      have nk : f ≠ k := fun z => nv.1 (by rw [← z, ← e']; exact List.mem_map.mpr ⟨vs[i], List.getElem_mem _, rfl⟩)
      exact lk_there nk (ih (xs := List.replicate (i + 1) .non) (by simp) (by omega) e' nv.2)
theorem fld_none {c : Nat} {xs : List A} {vs : List (Str × V)} {f : Str} (rf : RFs G H ρ c xs vs) (hf : f ∉ G.cfs c) : vs.lookup f = none := by
  have hm : f ∉ vs.map (·.1) := fun z => hf (List.mem_of_mem_take (by rw [rf.1] at z; exact z))
  clear rf
  induction vs with
  | nil => rfl
  | cons p vs ih =>
    obtain ⟨k, v⟩ := p
    simp only [List.map_cons, List.mem_cons, not_or] at hm
    exact lkn_there hm.1 (ih hm.2)
/-- a method, by the class of its object -/
structure MtC (G : Gc) (m : Str) (j : Nat) (c n : Nat) (f : F) : Prop where
  cr : ClsR G c
  ar : Ar n f
  no : m ∉ G.cfs c
  ex : ∃ (fa : Addr) (fd : FuncData) (ps : List Str), FnOk G.P G.w G.K G.mg G.base (L2.CX G.P G.w) j fa fd ps (spF G n f) ∧ Meth G.K (G.cad c) m fa ∧ Binds G.K fd ps []
abbrev Mt := Nat → Option F
def MtOk (G : Gc) (m : Str) (j : Nat) (mt : Mt) : Prop := ∀ c f, mt c = some f → ∃ n, MtC G m j c n f
def eM (mt : Mt) (fa : FE) (fs : FA) : FE := fun sl h => (fa sl h).bind fun x h1 => need (instOf x h1) fun p => need (mt p.1) fun f => (fs sl h1).bind fun xs h2 => f (x :: xs) h2
theorem de_meth {m : Str} {j : Nat} {mt : Mt} (D : MtOk G m j mt) (hj : j ≤ L.k) (ho : DE G L o fa) (ha : DA G L (e :: es) fs) {pl : Sem Bool} (he : NoSt e = true := by rfl) (hpl : ∀ env, (backTo pos (starEach es env)).any (·.1) = false := by intro _; rfl)
    (ht : ∀ env, eval (.Call (.Attribute o m apos) (e :: es) [] pos) env = (do
      let ov ← eval o env
      standAt apos.atName
      let (f, first) ← holding [ov] (getMethod ov m pl)
      callWith pos f first (backTo pos (starEach (e :: es) env)) (backToKw pos (keywordEach [] env))) := by intro _; rfl) (hc : L.cm = true := by rfl) :
    DE G L (.Call (.Attribute o m apos) (e :: es) [] pos) (eM mt fa fs) := by
  refine ⟨fun X xr σ H ρ sl h sr hh Q q => ⟨fun pins s I => ?_⟩⟩
  have z : E X o σ H fun v H1 => ∃ c a dx vs n f, v = .ref a ∧ H1 a = some (.ins (G.cad c) dx vs) ∧ vs.lookup m = none ∧ MtC G m j c n f ∧ As X (e :: es) σ H1 fun us H2 => spF G n f (.ref a :: us) H2 Q (WE L.W σ) :=
    DE.bind ho xr sr hh q fun x h1 v H1 ρ1 e1 r1 ra s1 q1 => by
      obtain ⟨⟨c, ys⟩, e1, q1⟩ := need_ok q1
      obtain ⟨f, e2, q1⟩ := need_ok q1
      obtain ⟨n, M⟩ := D c f e2
      obtain ⟨a, dx, vs, rfl, e3, e4⟩ := inst_ok r1 ra e1
      exact ⟨c, a, dx, vs, n, f, rfl, e3, fld_none e4 M.no, M, DA.bind ha xr s1 r1 q1 fun xs h2 us H2 ρ2 e5 r2 rs s2 q2 => sp_of M.ar r2 (.cons (ra.mono e5) rs) q2⟩
  refine PySem.W.methodCall_KW (pl := pl) (thn (z.run pins s I) fun u s1 ⟨x, H1, I1, rx, c, a, dx, vs, n, f, ex, ea, l, M, q⟩ => ?_) (ht _)
  subst ex
  obtain rfl : u = Value.ref a := rx
  obtain ⟨fa', fd, ps, Fn, hm, b⟩ := M.ex
  have hm' : Meth X.K (G.cad c) m fa' := by rw [xr.K]; exact hm
  refine getmeth_ok I1 ea (by rw [xr.K]; exact M.cr.cl) hm' l ?_
  refine PySem.W.callWith_K (first := [.ref a]) (h₀ := X.base) I.ok.mod.kin hm'.kp (thn (q.run pos pins s1 I1) fun us s2 ⟨ws, H2, I2, r, q2⟩ => ⟨I2.kIn, ?_⟩) (star_cons he) (hpl _)
  exact run_fnS (E := WE L.W) (us := .ref a :: us) (vs := .ref a :: ws) (xr.fn Fn) ((xr.room hc).mono hj) (by rw [xr.K]; exact b) (xr.pass σ) I2 (.cons rfl r) q2
def eM0 (mt : Mt) (fa : FE) : FE := fun sl h => (fa sl h).bind fun x h1 => need (instOf x h1) fun p => need (mt p.1) fun f => f [x] h1
theorem de_meth0 {m : Str} {j : Nat} {mt : Mt} (D : MtOk G m j mt) (hj : j ≤ L.k) (ho : DE G L o fa) {pl : Sem Bool}
    (ht : ∀ env, eval (.Call (.Attribute o m apos) [] [] pos) env = (do
      let ov ← eval o env
      standAt apos.atName
      let (f, first) ← holding [ov] (getMethod ov m pl)
      callWith pos f first (backTo pos (starEach [] env)) (backToKw pos (keywordEach [] env))) := by intro _; rfl) (hc : L.cm = true := by rfl) :
    DE G L (.Call (.Attribute o m apos) [] [] pos) (eM0 mt fa) := by
  refine ⟨fun X xr σ H ρ sl h sr hh Q q => ⟨fun pins s I => ?_⟩⟩
  have z : E X o σ H fun v H1 => ∃ c a dx vs n f, v = .ref a ∧ H1 a = some (.ins (G.cad c) dx vs) ∧ vs.lookup m = none ∧ MtC G m j c n f ∧ spF G n f [.ref a] H1 Q (WE L.W σ) :=
    DE.bind ho xr sr hh q fun x h1 v H1 ρ1 e1 r1 ra s1 q1 => by
      obtain ⟨⟨c, ys⟩, e1, q1⟩ := need_ok q1
      obtain ⟨f, e2, q1⟩ := need_ok q1
      obtain ⟨n, M⟩ := D c f e2
      obtain ⟨a, dx, vs, rfl, e3, e4⟩ := inst_ok r1 ra e1
      exact ⟨c, a, dx, vs, n, f, rfl, e3, fld_none e4 M.no, M, sp_of M.ar r1 (.cons ra .nil) q1⟩
  refine PySem.W.methodCall_KW (pl := pl) (thn (z.run pins s I) fun u s1 ⟨x, H1, I1, rx, c, a, dx, vs, n, f, ex, ea, l, M, q⟩ => ?_) (ht _)
  subst ex
  obtain rfl : u = Value.ref a := rx
  obtain ⟨fa', fd, ps, Fn, hm, b⟩ := M.ex
  have hm' : Meth X.K (G.cad c) m fa' := by rw [xr.K]; exact hm
  refine getmeth_ok I1 ea (by rw [xr.K]; exact M.cr.cl) hm' l ?_
  exact PySem.W.callWith_K0 (first := [.ref a]) I1.kIn hm'.kp (run_fnS (E := WE L.W) (us := [.ref a]) (vs := [.ref a]) (xr.fn Fn) ((xr.room hc).mono hj) (by rw [xr.K]; exact b) (xr.pass σ) I1 (.cons rfl .nil) q)
/-! ### fields, constants of the class, properties -/
structure PrC (G : Gc) (m : Str) (j : Nat) (c : Nat) (f : F) : Prop where
  ar : Ar 1 f
  ex : ∃ (pa fa : Addr) (fd : FuncData) (ps : List Str), FnOk G.P G.w G.K G.mg G.base (L2.CX G.P G.w) j fa fd ps (spF G 1 f) ∧ PropOf G.K (G.cad c) m pa fa ∧ Binds G.K fd ps []
def AtC (G : Gc) (m : Str) (j c : Nat) : At → Prop
  | .fld i => ClsR G c ∧ (G.cfs c)[i]? = some m ∧ NoAttr G.K (G.cad c) m
  | .con a => ClsR G c ∧ m ∉ G.cfs c ∧ ∃ v u, Con G.K (G.cad c) m v u ∧ ∀ H ρ, RA G H ρ a v
  | .prp f => ClsR G c ∧ PrC G m j c f
  | .no => True
def AtOk (G : Gc) (m : Str) (j : Nat) (att : Nat → At) : Prop := ∀ c, AtC G m j c (att c)
def getAt (att : Nat → At) (x : A) (h : Hs) : Out A := need (instOf x h) fun p => match att p.1 with
  | .fld i => need p.2[i]? fun y => .ok y h
  | .con a => .ok a h
  | .prp f => (match f [x] h with | .ok y h1 => .ok y h1 | _ => .bad)
  | .no => .bad
def eAt (att : Nat → At) (fa : FE) : FE := fun sl h => (fa sl h).bind (getAt att)
theorem de_att {m : Str} {j : Nat} {att : Nat → At} (D : AtOk G m j att) (hj : j + 1 ≤ L.k) (ho : DE G L e fa) (hb : ∀ env, attributeBase e m env (eval e env) = eval e env := by intro _; rfl) (hc : L.cm = true := by rfl) : DE G L (.Attribute e m pos) (eAt att fa) := by
  refine ⟨fun X xr σ H ρ sl h sr hh Q q => ⟨fun pins s I => ?_⟩⟩
  have z : E X e σ H fun v H1 => ∃ a, v = .ref a ∧ ∀ pins s, Inv X pins σ H1 s → wpAny (model X.prog X.w) X.A (getAttr (.ref a) m true) (EP X pins σ Q) X.xe s := by
    refine DE.bind ho xr sr hh q fun x h1 v H1 ρ1 e1 r1 ra s1 q1 => ?_
    obtain ⟨⟨c, ys⟩, e1, q1⟩ := need_ok q1
    obtain ⟨a, dx, vs, rfl, e3, e4⟩ := inst_ok r1 ra e1
    refine ⟨a, rfl, fun pins s I => ?_⟩
    have dc := D c
    revert q1 dc
    dsimp only
    cases att c with
    | no => exact fun q1 => q1.elim
    | fld i =>
      rintro q1 ⟨cr, hf, na⟩
      obtain ⟨y, hy, q1⟩ := need_ok q1
      obtain ⟨w', l, rw'⟩ := fld_get cr.nd e4 hy hf
      exact getattr_ok I e3 (by rw [xr.K]; exact cr.cl) (by rw [xr.K]; exact na) l fun u' s2 I2 ru => ⟨w', H1, I2, ru, q1 H1 ρ1 .refl r1 w' rw'⟩
    | con a' =>
      rintro q1 ⟨cr, hf, w', u0, k, rw'⟩
      have k' : Con X.K (G.cad c) m w' u0 := by rw [xr.K]; exact k
      exact getcon_ok I e3 (by rw [xr.K]; exact cr.cl) k' (fld_none e4 hf) fun s2 I2 => ⟨w', H1, I2, k'.rel, q1 H1 ρ1 .refl r1 w' (rw' H1 ρ1)⟩
    | prp f =>
      rintro q1 ⟨cr, pr⟩
      dsimp only at q1
      obtain ⟨pa', fa', fd, ps, Fn, hp, b⟩ := pr.ex
      cases hm : f [x] h1 with
      | ok y h2 =>
        rw [hm] at q1
        have q2 : Po G (fun _ _ _ _ => False) ([] : St) H1 ρ1 (RQ G Q) (f [x] h1) := by rw [hm]; exact q1
        refine getprop_ok (E := fun _ _ _ => False) (dvs := []) (ds := []) I e3 (by rw [xr.K]; exact cr.cl) (by rw [xr.K]; exact hp) (xr.fn Fn) ((xr.room hc).mono hj) (by rw [xr.K]; exact b) .nil (passes_call (W := fun _ _ _ _ => False) (fun _ _ z => ?_) fun _ _ _ _ z => z) ?_
        · obtain ⟨_, _, _, _, _, _, _, _, _, _, _, _, _, _, _, _, z⟩ := z
          exact z.elim
        · exact ⟨rfl, [x], ρ1, h1, .cons ra .nil, r1, q2⟩
      | ex y h2 => rw [hm] at q1; exact q1.elim
      | bad => rw [hm] at q1; exact q1.elim
  exact attr_of (hb _) (thn (z.run pins s I) fun u s1 ⟨x, H1, I1, rx, a, ex, q⟩ => by
    subst ex
    obtain rfl : u = Value.ref a := rx
    exact q pins s1 I1)
/-! ### subscripts -/
theorem de_sub {g : A → A → Hs → Out A} (ho : OpX G L g) (ha : DE G L a fa) (hb : DE G L b fb) (hs : PlainIx b := by intro _ _; rfl) : DE G L (.Subscript a b pos) (e2 fa fb g) := by
  refine ⟨fun X xr σ H ρ sl h sr hh Q q => ?_⟩
  have z := two ha hb xr sr hh q (Q2 := fun v u H2 => Xv X σ a b v u H2 Q) fun x y h2 v u H2 ρ2 r2 s2 ra rb q2 => ho.run X xr σ H2 ρ2 h2 x y v u a b hs r2 ra rb Q q2
  exact ⟨fun pins s I => PyProof.Rows.Subscript_ (binT pe pe I z fun v u s2 x y H2 I2 rx ry q => q.run pins s2 v u I2 rx ry)⟩
end
end Rx
set_option Elab.async false
set_option linter.all false
set_option maxRecDepth 100000
set_option maxHeartbeats 4000000
/-! RxS: statements, targets, loops, comprehensions, new instances. -/
namespace Rx
open PySem L2 Sx
open PyProof.Rows (subscriptTail)
section
variable {G : Gc} {L : Wh} {X : Cx} {σ : St} {H : Hp} {ρ : Rho} {sl : Sl} {h : Hs} {a b c e o tg iter : Expr} {es rest : List Expr} {fa fb fc : FE} {ft fu : FT} {fs : FA} {pos p apos pos' : Pos} {Q : VK} {st : Stmt} {sts bd el : List Stmt} {f g : FS} {nx bk ct : St → Hp → Prop} {rt : VK}
/-! ### blocks -/
def sNx : FS := fun sl h => .nx sl h
def sSeq (f g : FS) : FS := fun sl h => (f sl h).bind g
theorem dss_nil : DSs G L [] sNx := ⟨fun X xr σ H ρ sl h sr hh nx rt bk ct q => ss_nil (q σ H ρ .refl hh sr)⟩
theorem dss_one (hs : DS G L st f) : DSs G L [st] f := ⟨fun X xr σ H ρ sl h sr hh nx rt bk ct q => ss_one (hs.run X xr σ H ρ sl h sr hh nx rt bk ct q)⟩
theorem DS.bind (hs : DS G L st f) (xr : Xr G X L) (sr : SR G H ρ sl σ) (hr : HR G H ρ h) {k : FS} {nx' : St → Hp → Prop} (q : PoS G L.W H ρ nx rt bk ct ((f sl h).bind k))
    (cc : ∀ sl1 h1 σ1 H1 ρ1, Ext H ρ H1 ρ1 → HR G H1 ρ1 h1 → SR G H1 ρ1 sl1 σ1 → PoS G L.W H1 ρ1 nx rt bk ct (k sl1 h1) → nx' σ1 H1) : S X st nx' rt bk ct σ H := by
  refine hs.run X xr σ H ρ sl h sr hr nx' rt bk ct ?_
  cases hm : f sl h with
  | nx sl1 h1 => rw [hm] at q; exact fun σ1 H1 ρ1 e1 r1 s1 => cc sl1 h1 σ1 H1 ρ1 e1 r1 s1 (PoS.at1 (m := k sl1 h1) q e1)
  | rt a h1 => rw [hm] at q; exact q
  | bk sl1 h1 => rw [hm] at q; exact q
  | ct sl1 h1 => rw [hm] at q; exact q
  | ex x sl1 h1 => rw [hm] at q; exact q
  | bad => rw [hm] at q; exact q
theorem dss_cons (hs : DS G L st f) (ht : DSs G L sts g) : DSs G L (st :: sts) (sSeq f g) :=
  ⟨fun X xr σ H ρ sl h sr hh nx rt bk ct q => ss_cons (DS.bind hs xr sr hh q fun sl1 h1 σ1 H1 ρ1 e1 r1 s1 q1 => ht.run X xr σ1 H1 ρ1 sl1 h1 s1 r1 nx rt bk ct q1)⟩
/-! ### plain statements -/
def sExpr (fa : FE) : FS := fun sl h => (fa sl h).bindS sl fun _ h1 => .nx sl h1
def sRet (fa : FE) : FS := fun sl h => (fa sl h).bindS sl fun a h1 => .rt a h1
def sRetN : FS := fun _ h => .rt .non h
def sIf (ft : FT) (f g : FS) : FS := fun sl h => (ft sl h).bindS sl fun b h1 => match b with | true => f sl h1 | false => g sl h1
def sSet (i : Nat) (fa : FE) : FS := fun sl h => (fa sl h).bindS sl fun a h1 => .nx (sl.set i (some a)) h1
def sBk : FS := fun sl h => .bk sl h
def sCt : FS := fun sl h => .ct sl h
theorem ds_expr (ha : DE G L e fa) (hs : ∀ env, swapsWith e none pos.line env = pure false := by intro _; rfl) : DS G L (.Expr e pos) (sExpr fa) :=
  ⟨fun X xr σ H ρ sl h sr hh nx rt bk ct q => s_expr (DE.bindS ha xr sr hh q fun x h1 v H1 ρ1 e1 r1 ra s1 q1 => q1 σ H1 ρ1 .refl r1 s1) (hs _)⟩
theorem ds_ret (ha : DE G L e fa) : DS G L (.Return (some e) pos) (sRet fa) :=
  ⟨fun X xr σ H ρ sl h sr hh nx rt bk ct q => s_ret (DE.bindS ha xr sr hh q fun x h1 v H1 ρ1 e1 r1 ra s1 q1 => q1 v H1 ρ1 .refl r1 ra)⟩
theorem ds_retN : DS G L (.Return none pos) sRetN := ⟨fun X xr σ H ρ sl h sr hh nx rt bk ct q => s_retN (q _ H ρ .refl hh .non)⟩
theorem ds_pass : DS G L (.Pass pos) sNx := ⟨fun X xr σ H ρ sl h sr hh nx rt bk ct q => s_pass (q σ H ρ .refl hh sr)⟩
theorem ds_bk : DS G L (.Break pos) sBk := ⟨fun X xr σ H ρ sl h sr hh nx rt bk ct q => .of ps_break (q σ H ρ .refl hh sr)⟩
theorem ds_ct : DS G L (.Continue pos) sCt := ⟨fun X xr σ H ρ sl h sr hh nx rt bk ct q => .of ps_continue (q σ H ρ .refl hh sr)⟩
theorem ds_if (hc : DT G L c ft) (ha : DSs G L bd f) (hb : DSs G L el g) : DS G L (.If c bd el pos) (sIf ft f g) :=
  ⟨fun X xr σ H ρ sl h sr hh nx rt bk ct q => s_if (DT.bindS hc xr sr hh q fun x h1 H1 ρ1 e1 r1 s1 q1 => by
    cases x with
    | true => exact br_t (ha.run X xr σ H1 ρ1 sl h1 s1 r1 nx rt bk ct q1)
    | false => exact br_f (hb.run X xr σ H1 ρ1 sl h1 s1 r1 nx rt bk ct q1))⟩
theorem ds_set (i : Nat) {x : Str} (ha : DE G L e fa) (hs : ∀ env, swapsWith e (some (.Name x pos')) pos.line env = pure false := by intro _; rfl) (hi : L.N[i]? = some x := by rfl) (hw : L.wr.contains i = true := by rfl) : DS G L (.Assign [.Name x pos'] e pos) (sSet i fa) := by
  refine ⟨fun X xr σ H ρ sl h sr hh nx rt bk ct q => ?_⟩
  have z := xr.wrv i (by simpa using hw) x hi
  refine .of (L2.ps_set (i := i) (by rw [xr.n]; exact xr.nd) (by rw [xr.n]; exact hi) z.1 pe (hs _) z.2) ?_
  exact DE.bindS ha xr sr hh q fun x h1 v H1 ρ1 e1 r1 ra s1 q1 => q1 _ H1 ρ1 .refl r1 (s1.set ra i)
/-! ### targets; ws: the slots that may be written -/
def Off (ws : List Nat) (σ σ' : St) : Prop := σ'.length = σ.length ∧ ∀ i : Nat, ws.contains i = false → σ'[i]? = σ[i]?
theorem Off.refl {ws : List Nat} : Off ws σ σ := ⟨rfl, fun _ _ => rfl⟩
theorem Off.trans {ws : List Nat} {σ1 σ2 : St} (x : Off ws σ σ1) (y : Off ws σ1 σ2) : Off ws σ σ2 := ⟨y.1.trans x.1, fun i hi => (y.2 i hi).trans (x.2 i hi)⟩
structure DGw (G : Gc) (L : Wh) (ws : List Nat) (tg : Expr) (f : FG) : Prop where
  run : ∀ X, Xr G X L → ∀ σ H ρ sl h a v, SR G H ρ sl σ → HR G H ρ h → RA G H ρ a v → ∀ Q, PoG G L.W H ρ Q (f a sl h) → Sx.G X tg v σ H fun σ' H' => Off ws σ σ' ∧ Q σ' H'
structure DGsw (G : Gc) (L : Wh) (ws : List Nat) (ts : List Expr) (f : List A → Sl → Hs → OutS) : Prop where
  run : ∀ X, Xr G X L → ∀ σ H ρ sl h as vs, SR G H ρ sl σ → HR G H ρ h → RAs G H ρ as vs → ∀ Q, PoG G L.W H ρ Q (f as sl h) → Sx.Gs X ts vs σ H fun σ' H' => Off ws σ σ' ∧ Q σ' H'
def gName (i : Nat) : FG := fun a sl h => .nx (sl.set i (some a)) h
def gsNil : List A → Sl → Hs → OutS := fun as sl h => match as with | [] => .nx sl h | _ => .bad
def gsCons (g : FG) (gs : List A → Sl → Hs → OutS) : List A → Sl → Hs → OutS := fun as sl h => match as with | a :: r => (g a sl h).bind (gs r) | [] => .bad
def gTup (n : Nat) (gs : List A → Sl → Hs → OutS) : FG := fun a sl h => match a with | .tup xs => (match Nat.beq xs.length n with | true => gs xs sl h | false => .bad) | _ => .bad
variable {ws : List Nat} {g1 : FG} {gs : List A → Sl → Hs → OutS} {ts : List Expr}
theorem dg_name (i : Nat) {x : Str} (hi : L.N[i]? = some x := by rfl) (hw : L.wr.contains i = true := by rfl) (hm : ws.contains i = true := by rfl) : DGw G L ws (.Name x pos) (gName i) := by
  refine ⟨fun X xr σ H ρ sl h a v sr hh ra Q q => ?_⟩
  have z := xr.wrv i (by simpa using hw) x hi
  refine .of (pg_name (i := i) (by rw [xr.n]; exact xr.nd) (by rw [xr.n]; exact hi) z.1 z.2) ⟨⟨by simp, fun j hj => ?_⟩, q _ H ρ .refl hh (sr.set ra i)⟩
  rw [List.getElem?_set_ne fun e => by rw [← e, hm] at hj; cases hj]
theorem sxG_mono {v : V} {Q Q' : St → Hp → Prop} (x : Sx.G X tg v σ H Q) (i : ∀ σ H, Q σ H → Q' σ H) : Sx.G X tg v σ H Q' := ⟨fun pins s u I r => wpAny_mono (x.run pins s u I r) (fun _ _ ⟨σ', H', I', q⟩ => ⟨σ', H', I', i _ _ q⟩) fun _ _ z => z⟩
theorem sxGs_mono {vs : List V} {Q Q' : St → Hp → Prop} (x : Sx.Gs X ts vs σ H Q) (i : ∀ σ H, Q σ H → Q' σ H) : Sx.Gs X ts vs σ H Q' := ⟨fun pins s u I r => wpAny_mono (x.run pins s u I r) (fun _ _ ⟨σ', H', I', q⟩ => ⟨σ', H', I', i _ _ q⟩) fun _ _ z => z⟩
theorem dgs_nil : DGsw G L ws [] gsNil := ⟨fun X xr σ H ρ sl h as vs sr hh ra Q q => by
  cases as with
  | nil => rw [ra.unnil]; exact gs_nil ⟨.refl, q σ H ρ .refl hh sr⟩
  | cons _ _ => exact q.elim⟩
theorem PoG.bind {f : OutS} {k : FS} {Q : St → Hp → Prop} (q : PoG G L.W H ρ Q (f.bind k)) : PoG G L.W H ρ (fun σ1 H1 => ∃ sl1 h1 ρ1, Ext H ρ H1 ρ1 ∧ HR G H1 ρ1 h1 ∧ SR G H1 ρ1 sl1 σ1 ∧ PoG G L.W H1 ρ1 Q (k sl1 h1)) f := by
  cases f with
  | nx sl1 h1 => exact fun σ1 H1 ρ1 e1 r1 s1 => ⟨sl1, h1, ρ1, e1, r1, s1, PoS.at1 (m := k sl1 h1) q e1⟩
  | rt a h1 => exact q
  | bk sl1 h1 => exact q
  | ct sl1 h1 => exact q
  | ex x sl1 h1 => exact q
  | bad => exact q
theorem dgs_cons (hg : DGw G L ws e g1) (hs : DGsw G L ws es gs) (ha : ∀ env, (assignEach (e :: es) env).map (·.2) = assign e env :: (assignEach es env).map (·.2) := by intro _; rfl) : DGsw G L ws (e :: es) (gsCons g1 gs) := ⟨fun X xr σ H ρ sl h as vs sr hh ra Q q => by
  cases as with
  | nil => exact q.elim
  | cons x r =>
    obtain ⟨v, us, rfl, rv, rs⟩ := ra.uncons
    refine gs_cons ?_ (ha _)
    refine sxG_mono (hg.run X xr σ H ρ sl h x v sr hh rv _ (PoG.bind q)) ?_
    rintro σ1 H1 ⟨o1, sl1, h1, ρ1, e1, r1, s1, q1⟩
    exact sxGs_mono (hs.run X xr σ1 H1 ρ1 sl1 h1 r us s1 r1 (rs.mono e1) Q q1) fun σ2 H2 ⟨o2, q2⟩ => ⟨o1.trans o2, q2⟩⟩
theorem dg_tup {j n : Nat} (hs : DGsw G L ws es gs) (hn : ∀ env, (assignEach es env).length = n := by intro _; rfl) (hst : ∀ env, (assignEach es env).findIdx? (·.1) = none := by intro _; rfl) (hc : L.cm = true := by rfl) : DGw G L ws (.Tuple es j pos) (gTup n gs) := by
  refine ⟨fun X xr σ H ρ sl h a v sr hh ra Q q => ?_⟩
  cases ra <;> try exact q.elim
  rename_i xs ad vs hq l r
  unfold gTup at q
  dsimp only at q
  cases hb : Nat.beq xs.length n with
  | false => rw [hb] at q; exact q.elim
  | true =>
    rw [hb] at q
    refine .of (pg_tup (xr.calm hc) pgs (hn _) (hst _)) ⟨_, vs, rfl, by rw [xr.K]; exact hq, by rw [← l]; exact Nat.eq_of_beq_eq_true hb, ?_⟩
    exact hs.run X xr σ H ρ sl h xs vs sr hh ⟨l, r⟩ Q q
/-- o[i] as a target -/
def gSub (fo fi : FE) (g : A → A → A → Hs → Out Unit) : FG := fun a sl h => (fo sl h).bindS sl fun o h1 => (fi sl h1).bindS sl fun i h2 => (g o i a h2).bindS sl fun _ h3 => .nx sl h3
theorem dg_sub {fo fi : FE} {i : Expr} {g : A → A → A → Hs → Out Unit} (hg : OpS G L g) (ho : DE G L o fo) (hi : DE G L i fi)
    (ha : ∀ env v, assign (.Subscript o i pos) env v = (do
      let ov ← holding [v] (eval o env)
      let iv ← holding [v, ov] (eval i env)
      standAt pos
      holding [v, ov, iv] (setItem ov iv v)
      release [v, ov, iv] []) := by intro _ _; rfl) : DGw G L ws (.Subscript o i pos) (gSub fo fi g) := by
  refine ⟨fun X xr σ H ρ sl h a v sr hh ra Q q => ?_⟩
  have z : E X o σ H fun ov H1 => E X i σ H1 fun iv H2 => Sv X σ ov iv v H2 fun H3 => Off ws σ σ ∧ Q σ H3 := by
    refine DE.bindS ho xr sr hh q fun x h1 v1 H1 ρ1 e1 r1 ra1 s1 q1 => DE.bindS hi xr s1 r1 q1 fun y h2 v2 H2 ρ2 e2 r2 ra2 s2 q2 => ?_
    refine hg.run X xr σ H2 ρ2 h2 x y a v1 v2 v r2 (ra1.mono e2) ra2 (ra.mono (e1.trans e2)) _ ?_
    cases hm : g x y a h2 with
    | ok u h3 => rw [hm] at q2; exact fun H3 ρ3 e3 r3 => ⟨.refl, q2 σ H3 ρ3 e3 r3 (s2.mono e3)⟩
    | ex u h3 => rw [hm] at q2; exact fun c d H3 ρ3 e3 r3 rx => q2 c d σ H3 ρ3 e3 r3 (s2.mono e3) rx
    | bad => rw [hm] at q2; exact q2
  refine ⟨fun pins s u I rv => ?_⟩
  rw [ha]
  refine wpAny_bind (wpAny_holding (thn (z.run pins s I) fun ov s1 ⟨x, H1, I1, r1, q1⟩ => ?_))
  refine wpAny_bind (wpAny_holding (thn (q1.run pins s1 I1) fun iv s2 ⟨y, H2, I2, r2, q2⟩ => ?_))
  refine wpAny_bind (wpAny_standAt ?_)
  refine wpAny_bind (wpAny_holding (thn (q2.run pins s2 ov iv u I2 r1 r2 rv) fun _ s3 ⟨H3, I3, q3⟩ => ?_))
  exact wpAny_release ⟨σ, H3, I3, q3⟩
/-- target = e -/
def sAsg (fa : FE) (g : FG) : FS := fun sl h => (fa sl h).bindS sl fun a h1 => match g a sl h1 with
  | .nx sl2 h2 => .nx sl2 h2
  | .ex x sl2 h2 => .ex x sl2 h2
  | _ => .bad
theorem asg_ok {m : OutS} {R : St → Hp → Prop} (q : PoS G L.W H ρ nx rt bk ct (match m with
  | .nx sl2 h2 => .nx sl2 h2
  | .ex x sl2 h2 => .ex x sl2 h2
  | _ => .bad)) (i : ∀ σ H, nx σ H → R σ H) : PoG G L.W H ρ R m := by
  cases m with
  | nx sl2 h2 => exact fun σ' H' ρ' e r s => i _ _ (q σ' H' ρ' e r s)
  | ex x sl2 h2 => exact q
  | rt _ _ => exact q.elim
  | bk _ _ => exact q.elim
  | ct _ _ => exact q.elim
  | bad => exact q.elim
theorem ds_asg (ha : DE G L e fa) (hg : DGw G L ws tg g1) (hs : ∀ env, swapsWithSole [tg] e pos.line env = pure false := by intro _; rfl) (hw : ∀ env, swappedStores [tg] e env = pure none := by intro _; rfl)
    (h1 : ∀ env, (assignEach [tg] env).map (·.2) = [assign tg env] := by intro _; rfl) : DS G L (.Assign [tg] e pos) (sAsg fa g1) :=
  ⟨fun X xr σ H ρ sl h sr hh nx rt bk ct q => .of (ps_asg pe pg (hs _) (hw _) (h1 _)) (DE.bindS ha xr sr hh q fun x h1 v H1 ρ1 e1 r1 ra s1 q1 =>
    sxG_mono (hg.run X xr σ H1 ρ1 sl h1 x v s1 r1 ra _ (asg_ok q1 fun _ _ z => z)) fun _ _ z => z.2)⟩
theorem ds_asgP (ha : DE G L e fa) (hg : DGw G L ws tg g1) (hw : ∀ (q : Str) (Lo f : Addr) (cd : Value), swappedStores [tg] e (PyProof.Rows.envOfC q L.sc Lo f cd) = pure none := by intros; rfl) (hs : ∀ env, swapsWithSole [tg] e pos.line env = pure false := by intro _; rfl)
    (h1 : ∀ env, (assignEach [tg] env).map (·.2) = [assign tg env] := by intro _; rfl) (hf : L.fb = true := by rfl) : DS G L (.Assign [tg] e pos) (sAsg fa g1) :=
  ⟨fun X xr σ H ρ sl h sr hh nx rt bk ct q => by
    obtain ⟨qn, Lo, f, cd, ev⟩ := xr.ev hf
    exact .of (ps_asg pe pg (hs _) (by rw [ev]; exact hw _ _ _ _) (h1 _)) (DE.bindS ha xr sr hh q fun x h1 v H1 ρ1 e1 r1 ra s1 q1 =>
      sxG_mono (hg.run X xr σ H1 ρ1 sl h1 x v s1 r1 ra _ (asg_ok q1 fun _ _ z => z)) fun _ _ z => z.2)⟩
/-- a, b = e1, e2 with plain local names -/
def sPar (i j : Nat) (fa fb : FE) : FS := fun sl h => (fa sl h).bindS sl fun x h1 => (fb sl h1).bindS sl fun y h2 => .nx ((sl.set i (some x)).set j (some y)) h2
theorem ds_par (i j : Nat) {x y : Str} {px py pt pt2 : Pos} {kt k2 : Nat} (ha : DE G L a fa) (hb : DE G L b fb) (hw : ∀ (q : Str) (Lo f : Addr) (cd : Value), swappedStores [.Tuple [.Name x px, .Name y py] kt pt] (.Tuple [a, b] k2 pt2) (PyProof.Rows.envOfC q L.sc Lo f cd) = pure (some [x, y]))
    (lx : L.sc.names.lookup x = some .local) (ly : L.sc.names.lookup y = some .local) (hi : L.N[i]? = some x := by rfl) (hj : L.N[j]? = some y := by rfl) (hij : i ≠ j := by decide) (na : NoSt a = true := by rfl) (nb : NoSt b = true := by rfl)
    (hc : L.cm = true := by rfl) (hf : L.fb = true := by rfl) : DS G L (.Assign [.Tuple [.Name x px, .Name y py] kt pt] (.Tuple [a, b] k2 pt2) pos) (sPar i j fa fb) :=
  ⟨fun X xr σ H ρ sl h sr hh nx rt bk ct q => by
    obtain ⟨qn, Lo, f, cd, ev⟩ := xr.ev hf
    refine .of (ps_par (i := i) (j := j) (xr.calm hc) (by rw [xr.n]; exact xr.nd) (by rw [xr.n]; exact hi) (by rw [xr.n]; exact hj) hij (by rw [xr.scp]; exact lx) (by rw [xr.scp]; exact ly) pa (by rw [ev]; exact hw _ _ _ _) rfl) ?_
    exact as_cons (DE.bindS ha xr sr hh q fun x h1 v H1 ρ1 e1 r1 ra s1 q1 => as_cons (DE.bindS hb xr s1 r1 q1 fun y h2 u H2 ρ2 e2 r2 rb s2 q2 => as_nil ⟨v, u, rfl, q2 _ H2 ρ2 .refl r2 ((s2.set (ra.mono e2) i).set rb j)⟩) (star_cons nb)) (star_cons na)⟩
def sPar3 (i j l : Nat) (fa fb fc : FE) : FS := fun sl h => (fa sl h).bindS sl fun x h1 => (fb sl h1).bindS sl fun y h2 => (fc sl h2).bindS sl fun z h3 => .nx (((sl.set i (some x)).set j (some y)).set l (some z)) h3
theorem ds_par3 (i j l : Nat) {x y z : Str} {px py pz pt pt2 : Pos} {kt k2 : Nat} (ha : DE G L a fa) (hb : DE G L b fb) (hcc : DE G L c fc) (hw : ∀ (q : Str) (Lo f : Addr) (cd : Value), swappedStores [.Tuple [.Name x px, .Name y py, .Name z pz] kt pt] (.Tuple [a, b, c] k2 pt2) (PyProof.Rows.envOfC q L.sc Lo f cd) = pure (some [x, y, z]))
    (lx : L.sc.names.lookup x = some .local) (ly : L.sc.names.lookup y = some .local) (lz : L.sc.names.lookup z = some .local) (hi : L.N[i]? = some x := by rfl) (hj : L.N[j]? = some y := by rfl) (hl : L.N[l]? = some z := by rfl) (hij : i ≠ j := by decide) (hil : i ≠ l := by decide) (hjl : j ≠ l := by decide)
    (na : NoSt a = true := by rfl) (nb : NoSt b = true := by rfl) (nc : NoSt c = true := by rfl) (hc : L.cm = true := by rfl) (hf : L.fb = true := by rfl) : DS G L (.Assign [.Tuple [.Name x px, .Name y py, .Name z pz] kt pt] (.Tuple [a, b, c] k2 pt2) pos) (sPar3 i j l fa fb fc) :=
  ⟨fun X xr σ H ρ sl h sr hh nx rt bk ct q => by
    obtain ⟨qn, Lo, f, cd, ev⟩ := xr.ev hf
    refine .of (ps_par3 (i := i) (j := j) (l := l) (xr.calm hc) (by rw [xr.n]; exact xr.nd) (by rw [xr.n]; exact hi) (by rw [xr.n]; exact hj) (by rw [xr.n]; exact hl) hij hil hjl (by rw [xr.scp]; exact lx) (by rw [xr.scp]; exact ly) (by rw [xr.scp]; exact lz) pa (by rw [ev]; exact hw _ _ _ _) rfl) ?_
    exact as_cons (DE.bindS ha xr sr hh q fun x h1 v H1 ρ1 e1 r1 ra s1 q1 => as_cons (DE.bindS hb xr s1 r1 q1 fun y h2 u H2 ρ2 e2 r2 rb s2 q2 => as_cons (DE.bindS hcc xr s2 r2 q2 fun z h3 t H3 ρ3 e3 r3 rc s3 q3 =>
      as_nil ⟨v, u, t, rfl, q3 _ H3 ρ3 .refl r3 (((s3.set (ra.mono (e2.trans e3)) i).set (rb.mono e3) j).set rc l)⟩) (star_cons nc)) (star_cons nb)) (star_cons na)⟩
/-- x op= e at a name -/
def sAug (i : Nat) (fa : FE) (g : A → A → Hs → Out A) : FS := fun sl h => match sl[i]? with
  | some (some x) => (fa sl h).bindS sl fun y h1 => (g x y h1).bindS sl fun z h2 => .nx (sl.set i (some z)) h2
  | _ => .bad
theorem ds_aug (i : Nat) {x : Str} {op : Operator} {g : A → A → Hs → Out A} (ho : OpI G L op g) (ha : DE G L e fa) (hi : L.N[i]? = some x := by rfl) (hw : L.wr.contains i = true := by rfl) : DS G L (.AugAssign (.Name x pos') op e pos) (sAug i fa g) := by
  refine ⟨fun X xr σ H ρ sl h sr hh nx rt bk ct q => ⟨fun pins s I => ?_⟩⟩
  have z := xr.wrv i (by simpa using hw) x hi
  have hN : X.N.Nodup := by rw [xr.n]; exact xr.nd
  have hi' : X.N[i]? = some x := by rw [xr.n]; exact hi
  unfold sAug at q
  cases hs : sl[i]? with
  | none => rw [hs] at q; exact q.elim
  | some o =>
    cases o with
    | none => rw [hs] at q; exact q.elim
    | some av =>
      rw [hs] at q
      obtain ⟨v, e1, rv⟩ := sr.get i av hs
      obtain ⟨m, hn, hl⟩ := I.loc
      have vis : Vis X.env.scope x := by rcases z.1 with k | k; exact .inl k; exact .inr (.inl k)
      obtain ⟨u, r, l⟩ := hl i x v hi' e1 vis
      refine wpAny_AugAssign_Name ?_
      have w : E X e σ H fun y H1 => Iv X σ op v y H1 fun z H2 => nx (σ.set i (some z)) H2 := by
        refine DE.bindS ha xr sr hh q fun y h1 u1 H1 ρ1 e1 r1 ra s1 q1 => ?_
        refine ho.run X xr σ H1 ρ1 h1 av y v u1 r1 (rv.mono e1) ra _ ?_
        cases hm : g av y h1 with
        | ok z h2 => rw [hm] at q1; exact fun H2 ρ2 e2 r2 w rw' => q1 _ H2 ρ2 e2 r2 ((s1.mono e2).set rw' i)
        | ex z h2 => rw [hm] at q1; exact fun c d H2 ρ2 e2 r2 rx => q1 c d σ H2 ρ2 e2 r2 (s1.mono e2) rx
        | bad => rw [hm] at q1; exact q1
      have go : wpAny (model X.prog X.w) X.A (eval e X.env) (fun w s₂ => wpAny (model X.prog X.w) X.A (inplaceOp op u w) (fun r s₃ => wpAny (model X.prog X.w) X.A (storeName X.env x r) (fun _ => SP X pins ⟨nx, rt, bk, ct⟩ .next) X.xe s₃) X.xe s₂) X.xe s := by
        refine thn (w.run pins s I) fun w s1 ⟨y, H1, I1, r1, q1⟩ => ?_
        refine thn (q1.run pins s1 u w I1 r r1) fun z' s2 ⟨zv, H2, I2, r2, q2⟩ => ?_
        exact store_ok I2 hN hi' z.1 r2 (fun s3 I3 => ⟨_, H2, I3, q2⟩) z.2
      rcases l with ⟨hk, hm⟩ | ⟨hk, c, hc, hcell⟩
      · exact wpAny_loadName_local I.ok.kind hk hn hm go
      · rcases hk with hk | hk
        · exact wpAny_loadName_cell I.ok.kind hk hc hcell go
        · rcases z.1 with k | k
          · have : X.env.scope.names.lookup x = some .free := hk
            rw [k] at this; cases this
          · have : X.env.scope.names.lookup x = some .free := hk
            rw [k] at this; cases this
end
end Rx
set_option Elab.async false
set_option linter.all false
set_option maxRecDepth 100000
set_option maxHeartbeats 4000000
/-! RxL: fields stored, what is walked, for, while, comprehensions, new instances, what stands still from now on. -/
namespace Rx
open PySem L2 Sx
open PyProof.Rows (subscriptTail)
section
variable {G : Gc} {L : Wh} {X : Cx} {σ : St} {H : Hp} {ρ : Rho} {sl : Sl} {h : Hs} {a b c e o tg iter : Expr} {es rest : List Expr} {fa fb fc : FE} {ft fu : FT} {fs fi : FA} {pos p apos pos' : Pos} {Q : VK} {st : Stmt} {sts bd el : List Stmt} {f g : FS} {nx bk ct : St → Hp → Prop} {rt : VK} {ws : List Nat} {g1 : FG}
/-! ### o.f = e -/
def putI (i : Nat) (y : A) (xs : List A) : Option (List A) := match Nat.blt i xs.length with
  | true => some (xs.set i y)
  | false => (match Nat.beq i xs.length with | true => some (xs ++ [y]) | false => none)
theorem putF_set {f : Str} {v : V} : ∀ (vs : List (Str × V)) (m : Nat) (hm : m < vs.length), vs[m].1 = f → (vs.map (·.1)).Nodup → putF f v vs = vs.set m (f, v)
  | [], m, hm, _, _ => by simp at hm
  | (k, w) :: vs, m, hm, hq, nv => by
    rw [List.map_cons, List.nodup_cons] at nv
    show (if k = f then (k, v) :: vs else (k, w) :: putF f v vs) = _
    cases m with
    | zero =>
      have hq : k = f := hq
      rw [if_pos hq, hq]; rfl
    | succ m =>
      simp only [List.length_cons] at hm
      have hm' : m < vs.length := by omega
      have hq : vs[m].1 = f := hq
      have nk : k ≠ f := fun z => nv.1 (by rw [show (k, w).1 = f from z, ← hq]; exact List.mem_map.mpr ⟨vs[m], List.getElem_mem _, rfl⟩)
      rw [if_neg nk, List.set_cons_succ, putF_set vs m hm' hq nv.2]
theorem putI_ok {c i : Nat} {xs xs' : List A} {y : A} {v : V} {vs : List (Str × V)} {f : Str} (nd : (G.cfs c).Nodup) (hf : (G.cfs c)[i]? = some f) (rf : RFs G H ρ c xs vs) (ry : RA G H ρ y v) (e : putI i y xs = some xs') : RFs G H ρ c xs' (putF f v vs) := by
  obtain ⟨l, l', r⟩ := rf
  have hil : i < (G.cfs c).length := by
    by_cases hi : i < (G.cfs c).length
    · exact hi
    · rw [List.getElem?_eq_none (by omega)] at hf; cases hf
  have lle : xs.length ≤ (G.cfs c).length := by
    have := congrArg List.length l
    rw [List.length_map, List.length_take] at this
    omega
  unfold putI at e
  cases hb : Nat.blt i xs.length with
  | true =>
    rw [hb] at e
    cases e
    have hlt : i < xs.length := Nat.le_of_ble_eq_true hb
    have hvi : i < vs.length := by omega
    have key : ∀ (j : Nat) (hj : j < vs.length), vs[j].1 = (G.cfs c)[j]'(by omega) := fun j hj => by
      have e2 := congrArg (fun z => z[j]?) l
      rw [List.getElem?_map, List.getElem?_eq_getElem hj, List.getElem?_take_of_lt (by omega), List.getElem?_eq_getElem (by omega)] at e2
      exact Option.some.inj e2
    have put : putF f v vs = vs.set i (f, v) := by
      have h1 : vs[i].1 = f := by
        rw [key i hvi]
        rw [List.getElem?_eq_getElem hil] at hf
        exact Option.some.inj hf
      have nv : (vs.map (·.1)).Nodup := by rw [l]; exact nd.sublist (List.take_sublist _ _)
      exact putF_set vs i hvi h1 nv
    rw [put]
    refine ⟨?_, by simp [l'], fun j x k w e1 e2 => ?_⟩
    · rw [List.length_set, List.map_set, l]
      refine List.ext_getElem? fun j => ?_
      by_cases hj : i = j
      · subst hj
        rw [List.getElem?_set_self (by rw [List.length_take]; omega), List.getElem?_take_of_lt hlt, hf]
      · rw [List.getElem?_set_ne hj]
    · by_cases hj : i = j
      · subst hj
        rw [List.getElem?_set_self hlt] at e1
        rw [List.getElem?_set_self hvi] at e2
        cases e1; cases e2; exact ry
      · rw [List.getElem?_set_ne hj] at e1 e2
        exact r j x k w e1 e2
  | false =>
    rw [hb] at e
    dsimp only at e
    cases hq : Nat.beq i xs.length with
    | false => rw [hq] at e; cases e
    | true =>
      rw [hq] at e
      cases e
      have hi : i = xs.length := Nat.eq_of_beq_eq_true hq
      have put : putF f v vs = vs ++ [(f, v)] := by
        have nm : f ∉ vs.map (·.1) := by
          rw [l]
          intro z
          obtain ⟨j, hj, ej⟩ := List.mem_iff_getElem.mp z
          rw [List.length_take] at hj
          rw [List.getElem_take] at ej
          have : j = i := nd_ix nd (x := f) (by rw [List.getElem?_eq_getElem (by omega), ej]) hf
          omega
        clear r l l'
        induction vs with
        | nil => rfl
        | cons q vs ih =>
          obtain ⟨k, w⟩ := q
          simp only [List.map_cons, List.mem_cons, not_or] at nm
          show (if k = f then (k, v) :: vs else (k, w) :: putF f v vs) = _
          rw [if_neg fun z => nm.1 z.symm, ih nm.2]; rfl
      rw [put]
      refine ⟨?_, by simp [l'], fun j x k w e1 e2 => ?_⟩
      · rw [List.map_append, l, List.length_append, List.length_singleton, List.take_succ, ← hi, hf]; rfl
      · by_cases hj : j < xs.length
        · rw [List.getElem?_append_left hj] at e1
          rw [List.getElem?_append_left (by omega)] at e2
          exact r j x k w e1 e2
        · rw [List.getElem?_append_right (by omega)] at e1
          rw [List.getElem?_append_right (by omega)] at e2
          rw [l'] at e1
          cases hk : j - vs.length with
          | zero => rw [hk] at e1 e2; simp at e1 e2; rw [← e1, ← e2.2]; exact ry
          | succ m => rw [hk] at e1; simp at e1
def setAt (att : Nat → At) (x y : A) (h : Hs) : Out Unit := match x with
  | .ref n => (match h[n]? with
    | some (.ins c xs) => (match att c with
      | .fld i => chk (Nat.blt xs.length 1000) (need (putI i y xs) fun xs' => .ok () (h.set n (.ins c xs')))
      | _ => .bad)
    | _ => .bad)
  | _ => .bad
def sFld (att : Nat → At) (fo fa : FE) : FS := fun sl h => (fa sl h).bindS sl fun y h1 => (fo sl h1).bindS sl fun x h2 => (setAt att x y h2).bindS sl fun _ h3 => .nx sl h3
theorem ds_fld {m : Str} {j : Nat} {att : Nat → At} {fo : FE} (D : AtOk G m j att) (ho : DE G L o fo) (ha : DE G L e fa) (hs : ∀ env, swapsWith e (some (.Attribute o m pos')) pos.line env = pure false := by intro _; rfl) : DS G L (.Assign [.Attribute o m pos'] e pos) (sFld att fo fa) := by
  refine ⟨fun X xr σ H ρ sl h sr hh nx rt bk ct q => .of (ps_fld pe pe (hs _)) ?_⟩
  refine DE.bindS ha xr sr hh q fun y h1 v1 H1 ρ1 e1 r1 ra1 s1 q1 => DE.bindS ho xr s1 r1 q1 fun x h2 v2 H2 ρ2 e2 r2 ra2 s2 q2 => ?_
  unfold setAt at q2
  cases x <;> try exact q2.elim
  rename_i n
  dsimp only at q2
  cases hn : h2[n]? with
  | none => rw [hn] at q2; exact q2.elim
  | some ob =>
    rw [hn] at q2
    cases ob <;> try exact q2.elim
    rename_i c xs
    have dc := D c
    dsimp only at q2
    revert q2 dc
    cases att c <;> try exact fun q2 => q2.elim
    rename_i i
    rintro q2 ⟨cr, hf, na⟩
    dsimp only at q2
    cases hb : Nat.blt xs.length 1000 with
    | false => rw [hb] at q2; exact q2.elim
    | true =>
      rw [hb] at q2
      cases hp : putI i y xs with
      | none => rw [hp] at q2; exact q2.elim
      | some xs' =>
        rw [hp] at q2
        obtain ⟨ad, rfl, e3, dx, vs, e4, rf⟩ := r2.look ra2 hn (fun z => by cases z)
        have hb' : xs.length < 1000 := Nat.le_of_ble_eq_true hb
        refine ⟨ad, G.cad c, dx, vs, rfl, e4, by rw [xr.K]; exact cr.cl, by rw [xr.K]; exact na, by rw [← rf.2.1]; exact hb', ?_⟩
        have ex := r2.ext_set (o := .ins (G.cad c) dx (putF m v1 vs)) e3
        refine q2 σ _ ρ2 ex (r2.set e3 ⟨dx, _, upd_same, ?_⟩) (s2.mono ex)
        exact putI_ok cr.nd hf (rf.mono ex) ((ra1.mono e2).mono ex) hp
end
end Rx
set_option Elab.async false
set_option linter.all false
set_option maxRecDepth 100000
set_option maxHeartbeats 4000000
/-! RxM: what is walked, for, while, comprehensions. -/
namespace Rx
open PySem L2 Sx
open PyProof.Rows (subscriptTail)
section
variable {G : Gc} {L : Wh} {X : Cx} {σ : St} {H : Hp} {ρ : Rho} {sl : Sl} {h : Hs} {a b c e o tg iter : Expr} {es rest : List Expr} {fa fb fc : FE} {ft fu : FT} {fs fi : FA} {pos p apos pos' : Pos} {Q : VK} {st : Stmt} {sts bd el : List Stmt} {f g : FS} {nx bk ct : St → Hp → Prop} {rt : VK} {ws : List Nat} {g1 : FG}
/-! ### what is walked -/
structure PIr (X : Cx) (tg iter : Expr) (σ : St) (H : Hp) (R : It → Hp → Prop) : Prop where
  run : ∀ (pins : List (Addr × Obj)) (s : Shared), Inv X pins σ H s → wpAny (model X.prog X.w) X.A (eval iter X.env) (fun v s1 => wpAny (model X.prog X.w) X.A (pyIter v) (PIE X pins σ tg R) X.xe s1) X.xe s
theorem pir : PI X tg iter (fun σ H R => PIr X tg iter σ H R) := ⟨fun pins s σ H R I q => q.run pins s I⟩
theorem PIr.of {wi : TI} {R : It → Hp → Prop} (x : PI X tg iter wi) (q : wi σ H R) : PIr X tg iter σ H R := ⟨fun pins s I => x.run pins s σ H R I q⟩
/-- behind a turn: nothing, or a new tuple -/
def YOk (H H' : Hp) : Prop := H' = H ∨ ∃ p vs, H p = none ∧ H' = upd H p (.tup vs)
/-- the walk J yields xs, whatever else happens -/
def ItS (G : Gc) (J : It) (H : Hp) (ρ : Rho) (xs : List A) : Prop := ∀ H2 ρ2 h2, Kq H ρ H2 ρ2 → HR G H2 ρ2 h2 → ∀ i : Nat, (∀ x, xs[i]? = some x → J.go i H2 ∧ ∀ v H3, J.yld i H2 v H3 → YOk H2 H3 ∧ RA G H3 ρ2 x v) ∧ (xs.length ≤ i → J.stop i H2)
structure DI (G : Gc) (L : Wh) (tg iter : Expr) (fi : FA) : Prop where
  run : ∀ X, Xr G X L → ∀ σ H ρ sl h, SR G H ρ sl σ → HR G H ρ h → ∀ R : It → Hp → Prop, Po G L.W σ H ρ (fun xs H1 ρ1 => ∀ J, ItS G J H1 ρ1 xs → R J H1) (fi sl h) → PIr X tg iter σ H R
theorem DI.bindS {k : List A → Hs → OutS} {R : It → Hp → Prop} (ha : DI G L tg iter fi) (xr : Xr G X L) (sr : SR G H ρ sl σ) (hr : HR G H ρ h) (q : PoS G L.W H ρ nx rt bk ct ((fi sl h).bindS sl k))
    (cc : ∀ xs h1 J H1 ρ1, Ext H ρ H1 ρ1 → HR G H1 ρ1 h1 → ItS G J H1 ρ1 xs → SR G H1 ρ1 sl σ → PoS G L.W H1 ρ1 nx rt bk ct (k xs h1) → R J H1) : PIr X tg iter σ H R := by
  refine ha.run X xr σ H ρ sl h sr hr R ?_
  cases hm : fi sl h with
  | ok x h1 =>
    rw [hm] at q
    exact fun H1 ρ1 e1 r1 J it => cc x h1 J H1 ρ1 e1 r1 it (sr.mono e1) (PoS.at1 (m := k x h1) q e1)
  | ex x h1 => rw [hm] at q; exact fun cl d H' ρ' e' r' rx => q cl d σ H' ρ' e' r' (sr.mono e') rx
  | bad => rw [hm] at q; exact q
theorem DI.bind {β : Type} {k : List A → Hs → Out β} {R' : β → Hp → Rho → Prop} {R : It → Hp → Prop} (ha : DI G L tg iter fi) (xr : Xr G X L) (sr : SR G H ρ sl σ) (hr : HR G H ρ h) (q : Po G L.W σ H ρ R' ((fi sl h).bind k))
    (cc : ∀ xs h1 J H1 ρ1, Ext H ρ H1 ρ1 → HR G H1 ρ1 h1 → ItS G J H1 ρ1 xs → SR G H1 ρ1 sl σ → Po G L.W σ H1 ρ1 R' (k xs h1) → R J H1) : PIr X tg iter σ H R := by
  refine ha.run X xr σ H ρ sl h sr hr R ?_
  cases hm : fi sl h with
  | ok x h1 =>
    rw [hm] at q
    exact fun H1 ρ1 e1 r1 J it => cc x h1 J H1 ρ1 e1 r1 it (sr.mono e1) (Po.at1 (m := k x h1) q e1)
  | ex x h1 => rw [hm] at q; exact q
  | bad => rw [hm] at q; exact q
/-- a list that stands still, a tuple -/
def iSeq (fa : FE) : FA := fun sl h => (fa sl h).bind fun x h1 => match x with | .lst xs => .ok xs h1 | .tup xs => .ok xs h1 | _ => .bad
theorem its_list {ad : Addr} {xs : List A} {vs : List V} (e : H ad = some (.lst vs)) (nl : ¬ Live ρ ad) (rs : RAs G H ρ xs vs) : ItS G (Itl G.K ad) H ρ xs := fun H2 ρ2 h2 k hr i => by
  have e2 := (k.keep ad _ e nl).1
  refine ⟨fun x hx => ?_, fun hi => ⟨vs, .inl (.inl e2), by rw [← rs.1]; exact hi⟩⟩
  obtain ⟨v, hv, rv⟩ := rs.get hx
  refine ⟨⟨vs, v, .inl (.inl e2), hv⟩, fun v' H3 ⟨y1, y2⟩ => ⟨.inl y1, ?_⟩⟩
  have : vs[i]? = some v' := y2 vs (.inl (.inl e2))
  rw [hv] at this; cases this
  rw [y1]
  exact rv.mono' k
theorem its_tup {ad : Addr} {xs : List A} {vs : List V} (e : SqT G.K H ad vs) (rs : RAs G H ρ xs vs) : ItS G (Itt G.K ad) H ρ xs := fun H2 ρ2 h2 k hr i => by
  have e2 := k.sqT e
  refine ⟨fun x hx => ?_, fun hi => ⟨vs, e2, by rw [← rs.1]; exact hi⟩⟩
  obtain ⟨v, hv, rv⟩ := rs.get hx
  refine ⟨⟨vs, v, e2, hv⟩, fun v' H3 ⟨y1, y2⟩ => ⟨.inl y1, ?_⟩⟩
  have : vs[i]? = some v' := y2 vs e2
  rw [hv] at this; cases this
  rw [y1]
  exact rv.mono' k
theorem di_list (ha : DE G L iter fa) : DI G L tg iter (fun sl h => (fa sl h).bind fun x h1 => match x with | .lst xs => .ok xs h1 | _ => .bad) := by
  refine ⟨fun X xr σ H ρ sl h sr hh R q => ?_⟩
  refine .of (pi_list pe) (DE.bind ha xr sr hh q fun x h1 v H1 ρ1 e1 r1 ra s1 q1 => ?_)
  cases ra <;> try exact q1.elim
  rename_i xs ad vs e2 nl l r
  refine ⟨ad, rfl, ⟨vs, .inl (.inl e2)⟩, ?_⟩
  rw [xr.K]
  exact q1 H1 ρ1 .refl r1 _ (its_list e2 nl ⟨l, r⟩)
theorem di_tup (ha : DE G L iter fa) : DI G L tg iter (fun sl h => (fa sl h).bind fun x h1 => match x with | .tup xs => .ok xs h1 | _ => .bad) := by
  refine ⟨fun X xr σ H ρ sl h sr hh R q => ?_⟩
  refine .of (pi_tup pe) (DE.bind ha xr sr hh q fun x h1 v H1 ρ1 e1 r1 ra s1 q1 => ?_)
  cases ra <;> try exact q1.elim
  rename_i xs ad vs e2 l r
  refine ⟨ad, rfl, ⟨vs, by rw [xr.K]; exact e2⟩, ?_⟩
  rw [xr.K]
  exact q1 H1 ρ1 .refl r1 _ (its_tup e2 ⟨l, r⟩)
/-- range(n) -/
def rangeA (n : Nat) : List A := (List.range n).map fun i => .int (Int.ofNat i)
def iRange (fa : FE) : FA := fun sl h => (fa sl h).bind fun x h1 => match x with
  | .int n => chk (decide (-4611686018427387904 ≤ n ∧ n < 4611686018427387904)) (.ok (rangeA n.toNat) h1)
  | _ => .bad
theorem di_range {pr : Pos} (hm : G.mg "range" = none) (hg : ("range" : Str) ∈ L.GL) (ha : DE G L a fa) (hn : NoSt a = true := by rfl) : DI G L tg (.Call (.Name "range" pr) [a] [] pos) (iRange fa) := by
  refine ⟨fun X xr σ H ρ sl h sr hh R q => ?_⟩
  have hse : starEach [a] X.env = [(false, eval a X.env)] := star_cons hn
  refine .of (pi_range1 (xr.gl _ hg).1 (by rw [xr.mg]; exact hm) pa hse) ?_
  refine as_cons (DE.bind ha xr sr hh q fun x h1 v H1 ρ1 e1 r1 ra s1 q1 => as_nil ?_) (star_cons hn)
  cases ra <;> try exact q1.elim
  rename_i n
  obtain ⟨hk, q1⟩ := chk_ok q1
  have hk := of_decide_eq_true hk
  refine ⟨n, rfl, by omega, by omega, q1 H1 ρ1 .refl r1 _ fun H2 ρ2 h2 k hr i => ⟨fun x hx => ?_, fun hi => ?_⟩⟩
  · unfold rangeA at hx
    rw [List.getElem?_map] at hx
    have hi : i < n.toNat := by
      by_cases hi : i < n.toNat
      · exact hi
      · rw [List.getElem?_eq_none (by simp; omega)] at hx; cases hx
    rw [List.getElem?_range hi] at hx
    cases hx
    refine ⟨hi, fun v H3 ⟨y1, y2⟩ => ⟨.inl y1, ?_⟩⟩
    rw [y2, Int.zero_add]
    exact .int
  · show n.toNat ≤ i
    unfold rangeA at hi
    simpa using hi
/-- range(a, b) -/
def rangeB (lo : Int) (n : Nat) : List A := (List.range n).map fun i => .int (lo + Int.ofNat i)
def iRange2 (fa fb : FE) : FA := fun sl h => (fa sl h).bind fun x h1 => (fb sl h1).bind fun y h2 => match x, y with
  | .int lo, .int hi => chk (decide (-4611686018427387904 ≤ lo ∧ lo < 4611686018427387904 ∧ -4611686018427387904 ≤ hi ∧ hi < 4611686018427387904)) (.ok (rangeB lo (hi - lo).toNat) h2)
  | _, _ => .bad
theorem di_range2 {pr : Pos} (hm : G.mg "range" = none) (hg : ("range" : Str) ∈ L.GL) (ha : DE G L a fa) (hb : DE G L b fb) (hn : NoSt a = true := by rfl) (hn2 : NoSt b = true := by rfl) : DI G L tg (.Call (.Name "range" pr) [a, b] [] pos) (iRange2 fa fb) := by
  refine ⟨fun X xr σ H ρ sl h sr hh R q => ?_⟩
  have hse2 : starEach [b] X.env = [(false, eval b X.env)] := star_cons hn2
  have hse : starEach [a, b] X.env = [(false, eval a X.env), (false, eval b X.env)] := by rw [star_cons hn, hse2]
  refine .of (pi_range2 (xr.gl _ hg).1 (by rw [xr.mg]; exact hm) pa hse hse2) ?_
  refine as_cons (DE.bind ha xr sr hh q fun x h1 v H1 ρ1 e1 r1 ra s1 q1 => as_cons (DE.bind hb xr s1 r1 q1 fun y h2 u H2 ρ2 e2 r2 rb s2 q2 => as_nil ?_) (star_cons hn2)) (star_cons hn)
  cases ra <;> try exact q2.elim
  cases rb <;> try exact q2.elim
  rename_i lo hi
  obtain ⟨hk, q2⟩ := chk_ok q2
  have hk := of_decide_eq_true hk
  refine ⟨lo, hi, rfl, ⟨by omega, by omega, by omega, by omega⟩, q2 H2 ρ2 .refl r2 _ fun H3 ρ3 h3 k hr i => ⟨fun x hx => ?_, fun hi' => ?_⟩⟩
  · unfold rangeB at hx
    rw [List.getElem?_map] at hx
    have hi' : i < (hi - lo).toNat := by
      by_cases hi' : i < (hi - lo).toNat
      · exact hi'
      · rw [List.getElem?_eq_none (by simp; omega)] at hx; cases hx
    rw [List.getElem?_range hi'] at hx
    cases hx
    refine ⟨hi', fun v H4 ⟨y1, y2⟩ => ⟨.inl y1, ?_⟩⟩
    rw [y2]
    exact .int
  · show (hi - lo).toNat ≤ i
    unfold rangeB at hi'
    simpa using hi'
/-! ### for -/
def forV (g : FG) (b : FS) : List A → FS
  | [], sl, h => .nx sl h
  | x :: xs, sl, h => match g x sl h with
    | .nx sl1 h1 => (match b sl1 h1 with
      | .nx sl2 h2 => forV g b xs sl2 h2
      | .ct sl2 h2 => forV g b xs sl2 h2
      | .bk sl2 h2 => .nx sl2 h2
      | .rt a h2 => .rt a h2
      | .ex x sl2 h2 => .ex x sl2 h2
      | .bad => .bad)
    | .ex x sl1 h1 => .ex x sl1 h1
    | _ => .bad
def sFor (fi : FA) (g : FG) (b : FS) : FS := fun sl h => (fi sl h).bindS sl fun xs h1 => forV g b xs sl h1
theorem YOk.ext {H2 H3 : Hp} {ρ2 : Rho} {h2 : Hs} (y : YOk H2 H3) (r : HR G H2 ρ2 h2) : Ext H2 ρ2 H3 ρ2 ∧ HR G H3 ρ2 h2 := by
  rcases y with y | ⟨p, vs, n, y⟩
  · subst y; exact ⟨.refl, r⟩
  · subst y; exact ⟨r.ext_new n, r.new n⟩
theorem ds_for {b : FS} (hi : DI G L tg iter fi) (hg : DGw G L ws tg g1) (hb : DSs G L bd b) (hs : ∀ env x, foldedSetIterable iter env x = pure x := by intro _ _; rfl) (hc : L.cm = true := by rfl) : DS G L (.For tg iter bd [] pos) (sFor fi g1 b) := by
  refine ⟨fun X xr σ H ρ sl h sr hh nx rt bk ct q => .of (ps_for xr.po (xr.calm hc) pir pg pss (hs _)) ?_⟩
  refine DI.bindS hi xr sr hh q fun xs h1 J H1 ρ1 e1 r1 it s1 q1 => ?_
  refine ⟨fun i m σ' H' => m = xs.length - i ∧ i ≤ xs.length ∧ ∃ sl' h' ρ', Ext H1 ρ1 H' ρ' ∧ HR G H' ρ' h' ∧ SR G H' ρ' sl' σ' ∧ PoS G L.W H' ρ' nx rt bk ct (forV g1 b (xs.drop i) sl' h'), ⟨_, rfl, Nat.zero_le _, sl, h1, ρ1, .refl, r1, s1, q1⟩, ?_⟩
  rintro i m σ' H' ⟨rfl, hi', sl', h', ρ', e', r', s', q'⟩
  obtain ⟨ig, is⟩ := it H' ρ' h' e'.kq r' i
  by_cases hlt : i < xs.length
  · rw [List.drop_eq_getElem_cons hlt] at q'
    obtain ⟨go, yld⟩ := ig xs[i] (List.getElem?_eq_getElem hlt)
    refine .inr ⟨go, fun σ2 H2 => ∃ sl2 h2 ρ2, Ext H1 ρ1 H2 ρ2 ∧ HR G H2 ρ2 h2 ∧ SR G H2 ρ2 sl2 σ2 ∧ PoS G L.W H2 ρ2 nx rt bk ct (forV g1 b (xs.drop (i + 1)) sl2 h2), fun σ2 H2 ⟨sl2, h2, ρ2, z⟩ => ⟨_, by omega, rfl, hlt, sl2, h2, ρ2, z⟩, fun v H3 y => ?_⟩
    obtain ⟨yo, ra⟩ := yld v H3 y
    obtain ⟨e3, r3⟩ := yo.ext r'
    have q3 := PoS.at1 q' e3
    have s3 := s'.mono e3
    have e13 := e'.trans e3
    unfold forV at q3
    refine sxG_mono (hg.run X xr σ' H3 ρ' sl' h' xs[i] v s3 r3 ra (fun σ4 H4 => ∃ sl4 h4 ρ4, Ext H1 ρ1 H4 ρ4 ∧ HR G H4 ρ4 h4 ∧ SR G H4 ρ4 sl4 σ4 ∧ PoS G L.W H4 ρ4 nx rt bk ct (match b sl4 h4 with
      | .nx sl2 h2 => forV g1 b (xs.drop (i + 1)) sl2 h2
      | .ct sl2 h2 => forV g1 b (xs.drop (i + 1)) sl2 h2
      | .bk sl2 h2 => .nx sl2 h2
      | .rt a h2 => .rt a h2
      | .ex x sl2 h2 => .ex x sl2 h2
      | .bad => .bad)) ?_) fun σ4 H4 z => ?_
    · revert q3
      cases g1 xs[i] sl' h' with
      | nx sl4 h4 => exact fun q3 σ4 H4 ρ4 e4 r4 s4 => ⟨sl4, h4, ρ4, e13.trans e4, r4, s4, PoS.at1 q3 e4⟩
      | ex x sl4 h4 => exact fun q3 => q3
      | rt _ _ => exact fun q3 => q3.elim
      | bk _ _ => exact fun q3 => q3.elim
      | ct _ _ => exact fun q3 => q3.elim
      | bad => exact fun q3 => q3.elim
    · obtain ⟨-, sl4, h4, ρ4, e4, r4, s4, q4⟩ := z
      refine hb.run X xr σ4 H4 ρ4 sl4 h4 s4 r4 _ _ _ _ ?_
      revert q4
      cases b sl4 h4 with
      | nx sl5 h5 => exact fun q4 σ5 H5 ρ5 e5 r5 s5 => ⟨sl5, h5, ρ5, e4.trans e5, r5, s5, PoS.at1 q4 e5⟩
      | ct sl5 h5 => exact fun q4 σ5 H5 ρ5 e5 r5 s5 => ⟨sl5, h5, ρ5, e4.trans e5, r5, s5, PoS.at1 q4 e5⟩
      | bk sl5 h5 => exact fun q4 => q4
      | rt a h5 => exact fun q4 => q4
      | ex x sl5 h5 => exact fun q4 => q4
      | bad => exact fun q4 => q4
  · have hd : xs.drop i = [] := List.drop_eq_nil_of_le (by omega)
    rw [hd] at q'
    exact .inl ⟨is (by omega), q' σ' H' ρ' .refl r' s'⟩
/-! ### while: by a number of turns -/
def whlN (c : FT) (b : FS) : Nat → FS
  | 0, _, _ => .bad
  | n + 1, sl, h => (c sl h).bindS sl fun k h1 => match k with
    | true => (match b sl h1 with
      | .nx sl2 h2 => whlN c b n sl2 h2
      | .ct sl2 h2 => whlN c b n sl2 h2
      | .bk sl2 h2 => .nx sl2 h2
      | .rt a h2 => .rt a h2
      | .ex x sl2 h2 => .ex x sl2 h2
      | .bad => .bad)
    | false => .nx sl h1
theorem ds_while {b : FS} (n : Nat) (hc : DT G L c ft) (hb : DSs G L bd b) : DS G L (.While c bd [] pos) (whlN ft b n) := by
  refine ⟨fun X xr σ H ρ sl h sr hh nx rt bk ct q => .of (ps_while xr.po pt pss) ?_⟩
  refine ⟨fun m σ' H' => ∃ sl' h' ρ', HR G H' ρ' h' ∧ SR G H' ρ' sl' σ' ∧ PoS G L.W H' ρ' nx rt bk ct (whlN ft b m sl' h'), ⟨n, sl, h, ρ, hh, sr, q⟩, ?_⟩
  rintro m σ' H' ⟨sl', h', ρ', r', s', q'⟩
  cases m with
  | zero => exact q'.elim
  | succ m =>
    refine DT.bindS hc xr s' r' q' fun k h1 H1 ρ1 e1 r1 s1 q1 => ?_
    cases k with
    | false => exact q1 σ' H1 ρ1 .refl r1 s1
    | true =>
      refine ⟨fun σ2 H2 => ∃ sl2 h2 ρ2, HR G H2 ρ2 h2 ∧ SR G H2 ρ2 sl2 σ2 ∧ PoS G L.W H2 ρ2 nx rt bk ct (whlN ft b m sl2 h2), fun σ2 H2 z => ⟨m, Nat.lt_succ_self m, z⟩, ?_⟩
      refine hb.run X xr σ' H1 ρ1 sl' h1 s1 r1 _ _ _ _ ?_
      revert q1
      dsimp only
      cases b sl' h1 with
      | nx sl5 h5 => exact fun q4 σ5 H5 ρ5 e5 r5 s5 => ⟨sl5, h5, ρ5, r5, s5, PoS.at1 q4 e5⟩
      | ct sl5 h5 => exact fun q4 σ5 H5 ρ5 e5 r5 s5 => ⟨sl5, h5, ρ5, r5, s5, PoS.at1 q4 e5⟩
      | bk sl5 h5 => exact fun q4 => q4
      | rt a h5 => exact fun q4 => q4
      | ex x sl5 h5 => exact fun q4 => q4
      | bad => exact fun q4 => q4
end
end Rx
set_option Elab.async false
set_option linter.all false
set_option maxRecDepth 100000
set_option maxHeartbeats 4000000
/-! RxC: list comprehensions; new instances; what stands still from now on. -/
namespace Rx
open PySem L2 Sx
open PyProof.Rows (subscriptTail)
section
variable {G : Gc} {L : Wh} {X : Cx} {σ : St} {H : Hp} {ρ : Rho} {sl : Sl} {h : Hs} {a b c e o tg iter elt : Expr} {es rest : List Expr} {fa fb fc : FE} {ft fu : FT} {fs fi : FA} {pos p apos pos' : Pos} {Q : VK} {st : Stmt} {sts bd el : List Stmt} {f g : FS} {nx bk ct : St → Hp → Prop} {rt : VK} {ws : List Nat} {g1 : FG}
/-! ### the slots of a block -/
def wipeA (sl : Sl) : List Nat → Sl
  | [] => sl
  | v :: vs => (wipeA sl vs).set v none
theorem wipe_SR (r : SR G H ρ sl σ) : ∀ vs : List Nat, SR G H ρ (wipeA sl vs) (wipe σ vs)
  | [] => r
  | v :: vs => (wipe_SR r vs).unset v
theorem wipe_get (σ : St) (i : Nat) : ∀ vs : List Nat, (wipe σ vs)[i]? = if vs.contains i = true ∧ i < σ.length then some none else σ[i]?
  | [] => by simp [wipe]
  | v :: vs => by
    unfold wipe
    by_cases hv : v = i
    · subst hv
      by_cases hl : v < σ.length
      · rw [List.getElem?_set_self (by rw [wipe_length]; exact hl)]
        rw [if_pos ⟨by simp, hl⟩]
      · rw [List.getElem?_eq_none (by simp [wipe_length]; omega), List.getElem?_eq_none (by omega), if_neg fun z => hl z.2]
    · rw [List.getElem?_set_ne hv, wipe_get σ i vs]
      have : (v :: vs).contains i = vs.contains i := by
        simp only [List.contains_cons]
        have : (i == v) = false := beq_eq_false_iff_ne.mpr fun z => hv z.symm
        rw [this, Bool.false_or]
      rw [this]
theorem wipe_off {vs ws : List Nat} {σ2 : St} (hw : ws.all (fun i => vs.contains i) = true) (o : Off ws (wipe σ vs) σ2) : wipe σ2 vs = wipe σ vs := by
  refine List.ext_getElem? fun i => ?_
  have hl : σ2.length = σ.length := o.1.trans (wipe_length σ vs)
  rw [wipe_get, hl]
  by_cases hi : vs.contains i = true
  · rw [wipe_get]
    by_cases hlt : i < σ.length
    · rw [if_pos ⟨hi, hlt⟩, if_pos ⟨hi, hlt⟩]
    · rw [if_neg fun z => hlt z.2, if_neg fun z => hlt z.2, List.getElem?_eq_none (by omega), List.getElem?_eq_none (by omega)]
  · rw [if_neg fun z => hi z.1]
    refine o.2 i ?_
    cases hc : ws.contains i with
    | false => rfl
    | true =>
      rw [List.all_eq_true] at hw
      exact absurd (hw i (by simpa using hc)) hi
/-! ### the block's place -/
def okB (N : List Str) (rd wr : List Nat) (GL : List Str) (scope sc : Scope) : Bool :=
  (rd.all fun i => match N[i]? with
    | some x => (match sc.names.lookup x with | some .local => true | some .cell => true | some .free => true | _ => false) && !(x == ("__debug__" : Str)) && !(x == ("__classdict__" : Str))
    | none => true) &&
  (wr.all fun i => match N[i]? with
    | some x => (match sc.names.lookup x with | some .local => true | some .cell => scope.names.lookup x == some .cell | _ => false)
    | none => true) &&
  (GL.all fun x => decide (sc.names.lookup x = some .globalImplicit) && !(x == ("__debug__" : Str)) && decide (x ≠ ("__name__" : Str)))
abbrev blkW (L : Wh) (scope : Scope) (rd wr : List Nat) (GL : List Str) : Wh := ⟨relS scope L.sc, L.N, rd, wr, GL, L.k, fun _ _ _ _ => False, true, false⟩
theorem Xr.blk {scope : Scope} {rd wr : List Nat} {GL : List Str} (xr : Xr G X L) (hc : L.cm = true) (ok : okB L.N rd wr GL scope (relS scope L.sc) = true) (s : Shared) (H0 : Hp) (C : Addr) (cl : List (Str × Addr)) (fp : List Addr) :
    Xr G (X.blk s H0 scope (compEnvC scope cl C X.env) fp) (blkW L scope rd wr GL) := by
  have hsc : (compEnvC scope cl C X.env).scope = relS scope L.sc := by
    show relS scope X.env.scope = _
    rw [xr.scp]
  unfold okB at ok
  simp only [Bool.and_eq_true, List.all_eq_true] at ok
  obtain ⟨⟨o1, o2⟩, o3⟩ := ok
  refine ⟨xr.prog, xr.w, xr.K, xr.mg, xr.base, xr.n, xr.nd, hsc, fun i hi x hx => ?_, fun i hi x hx => ?_, fun x hx => ?_, fun _ => xr.room hc, fun _ => xr.calm hc, fun u s' z => ?_, PassesOwn.never, fun z => by cases z⟩
  · have z := o1 i hi
    have hx : L.N[i]? = some x := hx
    rw [hx] at z
    simp only [Bool.and_eq_true, Bool.not_eq_true'] at z
    refine ⟨?_, z.1.2, z.2⟩
    have z1 := z.1.1
    show Vis (compEnvC scope cl C X.env).scope x
    rw [hsc]
    unfold Vis
    revert z1
    cases (relS scope L.sc).names.lookup x with
    | none => intro z; cases z
    | some k => cases k <;> intro z <;> first | exact .inl rfl | exact .inr (.inl rfl) | exact .inr (.inr rfl) | cases z
  · have z := o2 i hi
    have hx : L.N[i]? = some x := hx
    rw [hx] at z
    dsimp only at z
    show L2.Loc (compEnvC scope cl C X.env).scope x ∧ ((scope.names.lookup x == some .cell) = true ∨ (compEnvC scope cl C X.env).scope.names.lookup x = some .local)
    rw [hsc]
    unfold L2.Loc
    revert z
    cases (relS scope L.sc).names.lookup x with
    | none => intro z; cases z
    | some k => cases k <;> intro z <;> first | exact ⟨.inl rfl, .inr rfl⟩ | exact ⟨.inr rfl, .inl z⟩ | cases z
  · have z := o3 x hx
    simp only [Bool.and_eq_true, decide_eq_true_eq, Bool.not_eq_true'] at z
    refine ⟨?_, z.1.2, z.2⟩
    show (compEnvC scope cl C X.env).scope.names.lookup x = some .globalImplicit
    rw [hsc]
    exact z.1.1
  · obtain ⟨_, _, _, _, _, _, _, _, _, _, _, _, _, _, _, _, z⟩ := z
    exact z
/-! ### list comprehensions -/
/-- the turns: nothing raised within is let out -/
def lcV (g : FG) (t : FT) (fe : FE) (sl : Sl) : List A → List A → Hs → Out (List A)
  | [], acc, h => .ok acc h
  | x :: xs, acc, h => match g x sl h with
    | .nx sl1 h1 => (match t sl1 h1 with
      | .ok true h2 => (match fe sl1 h2 with
        | .ok y h3 => lcV g t fe sl xs (acc ++ [y]) h3
        | _ => .bad)
      | .ok false h2 => lcV g t fe sl xs acc h2
      | _ => .bad)
    | _ => .bad
def lcAll (fi : FA) (own : List Nat) (g : FG) (t : FT) (fe : FE) : FA := fun sl h => (fi sl h).bind fun xs h1 => chk (Nat.ble xs.length sizeLine) (lcV g t fe (wipeA sl own) xs [] h1)
def eLc (fi : FA) (own : List Nat) (g : FG) (t : FT) (fe : FE) : FE := fun sl h => (lcAll fi own g t fe sl h).bind fun ys h1 => .ok (.lst ys) h1
/-- .. as a list that will be changed -/
def eLcT (fi : FA) (own : List Nat) (g : FG) (t : FT) (fe : FE) : FE := fun sl h => (lcAll fi own g t fe sl h).bind fun ys h1 => .ok (.ref h1.length) (h1 ++ [.lst ys])
/-- a clause's tests -/
structure Tst (X : Cx) (ifs : List Expr) (σ : St) (H : Hp) (Q : Bool → Hp → Prop) : Prop where
  run : ∀ (pins : List (Addr × Obj)) (s : Shared), Inv X pins σ H s → wpAny (model X.prog X.w) X.A (forIn ifs true fun c r => if r = true then do let ok ← isTrue c X.env (eval c X.env); pure (ForInStep.yield ok) else pure (ForInStep.yield r)) (TP X pins σ Q) X.xe s
structure DTs (G : Gc) (L : Wh) (ifs : List Expr) (f : FT) : Prop where
  run : ∀ X, Xr G X L → ∀ σ H ρ sl h, SR G H ρ sl σ → HR G H ρ h → ∀ Q : Bool → Hp → Prop, Po G L.W σ H ρ (RB Q) (f sl h) → Tst X ifs σ H Q
def tYes : FT := fun _ h => .ok true h
theorem dts_nil : DTs G L [] tYes := ⟨fun X xr σ H ρ sl h sr hh Q q => ⟨fun pins s I => pts_nil.run pins s σ H Q I (q H ρ .refl hh)⟩⟩
theorem dts_one (hc : DT G L c ft) : DTs G L [c] ft := ⟨fun X xr σ H ρ sl h sr hh Q q => ⟨fun pins s I => (pts_one pt).run pins s σ H Q I (hc.run X xr σ H ρ sl h sr hh Q q)⟩⟩
theorem ext_lift {H1 H' H6 : Hp} {ρ1 ρ' ρ6 : Rho} {h1 : Hs} {D : Addr} (r1 : HR G H1 ρ1 h1) (x : Ext H1 ρ1 H' ⟨ρ'.l, ρ1.hd⟩) (hd : ρ'.hd = D :: ρ1.hd) (n : H1 D = none) (y : Ext H' ρ' H6 ρ6) : Ext H1 ρ1 H6 ⟨ρ6.l, ρ1.hd⟩ := by
  have nlv : ∀ a o, H1 a = some o → ¬ Live ρ1 a → ¬ Live ρ' a := fun a o e nl z => by
    rcases z with z | z
    · exact x.dead e nl (.inl z)
    · rw [hd] at z
      rcases List.mem_cons.mp z with z | z
      · rw [z, n] at e; cases e
      · exact nl (.inr z)
  refine ⟨Nat.le_trans x.len y.len, fun i a hi e => x.old i a hi (y.old i a (Nat.lt_of_lt_of_le hi x.len) e), fun i a hi e => ?_, fun a o e nl => y.keep a o (x.keep a o e nl) (nlv a o e nl), fun a xs e => y.tup a xs (x.tup a xs e), fun a o u e => y.frz a o u (x.frz a o u e), fun a e => x.dom a (y.dom a e), rfl, fun a ha => ?_⟩
  · by_cases hl : i < ρ'.l.length
    · exact x.new i a hi (y.old i a hl e)
    · exact x.dom a (y.new i a (by omega) e)
  · exact (y.hidk a (by rw [hd]; exact List.mem_cons_of_mem _ ha)).trans (x.hidk a ha)
theorem ext_updD {H1 H6 : Hp} {ρ1 ρ6 : Rho} {h1 : Hs} {D : Addr} {o : HO} (r1 : HR G H1 ρ1 h1) (x : Ext H1 ρ1 H6 ρ6) (n : H1 D = none) : Ext H1 ρ1 (upd H6 D o) ρ6 := by
  have ne : ∀ {a u}, H1 a = some u → a ≠ D := fun e => ne_of_none e n
  refine ⟨x.len, x.old, x.new, fun a u e nl => by rw [upd_ne (ne e)]; exact x.keep a u e nl, fun a xs e => by rw [upd_ne (ne e)]; exact x.tup a xs e, fun a u w e => by rw [upd_ne (ne e)]; exact x.frz a u w e, fun a e => ?_, x.hds, fun a ha => ?_⟩
  · by_cases hz : a = D
    · rw [hz]; exact n
    · rw [upd_ne hz] at e; exact x.dom a e
  · obtain ⟨u, e, _⟩ := r1.hid a ha
    rw [upd_ne (ne e)]; exact x.hidk a ha
/-- what a comprehension leaves -/
structure LcEnd (G : Gc) (ys : List A) (hF : Hs) (D : Addr) (HF : Hp) (H1 : Hp) (ρ1 : Rho) : Prop where
  ex : ∃ (us : List V) (ρF : Rho), HF D = some (.lst us) ∧ ρF.hd = D :: ρ1.hd ∧ RAs G HF ρF ys us ∧ HR G HF ρF hF ∧ Ext H1 ρ1 HF ⟨ρF.l, ρ1.hd⟩ ∧ H1 D = none
abbrev gB (X : Cx) (scope : Scope) (tg : Expr) : TG := fun v σ H Q => ∀ s H0 C cl fp, Sx.G (X.blk s H0 scope (compEnvC scope cl C X.env) fp) tg v σ H Q
abbrev tB' (X : Cx) (scope : Scope) (ifs : List Expr) : TT := fun σ H Q => ∀ s H0 C cl fp, Tst (X.blk s H0 scope (compEnvC scope cl C X.env) fp) ifs σ H Q
abbrev eB (X : Cx) (scope : Scope) (elt : Expr) : TE := fun σ H Q => ∀ s H0 C cl fp, E (X.blk s H0 scope (compEnvC scope cl C X.env) fp) elt σ H Q
theorem lc_ok {β : Type} {scope : Scope} {rd wr vs : List Nat} {GL : List Str} {ifs : List Expr} {fe : FE} {k : List A → Hs → Out β} {R : β → Hp → Rho → Prop} {Q : VK} (hc : L.cm = true) (hi : DI G L tg iter fi) (okb : okB L.N rd wr GL scope (relS scope L.sc) = true)
    (hg : DGw G (blkW L scope rd wr GL) ws tg g1) (ht : DTs G (blkW L scope rd wr GL) ifs ft) (he : DE G (blkW L scope rd wr GL) elt fe) (hw : ws.all (fun i => vs.contains i) = true)
    (xr : Xr G X L) (sr : SR G H ρ sl σ) (hh : HR G H ρ h) (q : Po G L.W σ H ρ R ((lcAll fi vs g1 ft fe sl h).bind k))
    (cc : ∀ ys hF D HF H1 ρ1 h1, Ext H ρ H1 ρ1 → HR G H1 ρ1 h1 → LcEnd G ys hF D HF H1 ρ1 → Po G L.W σ H1 ρ1 R (k ys hF) → Q (.ref D) HF) :
    tLc (fun σ H R => PIr X tg iter σ H R) (gB X scope tg) (tB' X scope ifs) (eB X scope elt) vs σ H Q := by
  have q0 : Po G L.W σ H ρ R ((fi sl h).bind fun xs h1 => (chk (Nat.ble xs.length sizeLine) (lcV g1 ft fe (wipeA sl vs) xs [] h1)).bind k) := by
    unfold lcAll at q
    revert q
    cases fi sl h <;> exact fun q => q
  refine DI.bind hi xr sr hh q0 fun xs h1 J H1 ρ1 e1 r1 it s1 q1 D nD => ?_
  cases hsz : Nat.ble xs.length sizeLine with
  | false => rw [hsz] at q1; exact q1.elim
  | true =>
  rw [hsz] at q1
  have hsz := Nat.le_of_ble_eq_true hsz
  have q1 : Po G L.W σ H1 ρ1 R ((lcV g1 ft fe (wipeA sl vs) (xs.drop 0) [] h1).bind k) := q1
  refine ⟨fun i m H' => m = xs.length - i ∧ i ≤ xs.length ∧ ∃ acc us h' ρ', H' D = some (.lst us) ∧ ρ'.hd = D :: ρ1.hd ∧ RAs G H' ρ' acc us ∧ HR G H' ρ' h' ∧ Kq H1 ρ1 H' ρ' ∧ Ext H1 ρ1 H' ⟨ρ'.l, ρ1.hd⟩ ∧ SR G H' ρ' (wipeA sl vs) (wipe σ vs) ∧ acc.length ≤ i ∧
    Po G L.W σ H1 ρ1 R ((lcV g1 ft fe (wipeA sl vs) (xs.drop i) acc h').bind k), ⟨_, rfl, Nat.zero_le _, [], [], h1, ρ1.hide D, upd_same, rfl, .nil, r1.hide nD, r1.kq_hide nD, r1.ext_new nD, (wipe_SR s1 vs).mono' (r1.kq_hide nD), Nat.le_refl _, q1⟩, ?_⟩
  rintro i m H' ⟨rfl, hi', acc, us, h', ρ', hD, hhd, ras, r', kq', ex', s', hacc, q'⟩
  obtain ⟨ig, is⟩ := it H' ρ' h' kq' r' i
  by_cases hlt : i < xs.length
  · rw [List.drop_eq_getElem_cons hlt] at q'
    obtain ⟨go, yld⟩ := ig xs[i] (List.getElem?_eq_getElem hlt)
    refine .inr ⟨go, fun H2 => ∃ acc us h' ρ', H2 D = some (.lst us) ∧ ρ'.hd = D :: ρ1.hd ∧ RAs G H2 ρ' acc us ∧ HR G H2 ρ' h' ∧ Kq H1 ρ1 H2 ρ' ∧ Ext H1 ρ1 H2 ⟨ρ'.l, ρ1.hd⟩ ∧ SR G H2 ρ' (wipeA sl vs) (wipe σ vs) ∧ acc.length ≤ i + 1 ∧
      Po G L.W σ H1 ρ1 R ((lcV g1 ft fe (wipeA sl vs) (xs.drop (i + 1)) acc h').bind k), fun H2 z => ⟨_, by omega, rfl, hlt, z⟩, fun v H3 y s H0 C cl fp => ?_⟩
    obtain ⟨yo, ra⟩ := yld v H3 y
    obtain ⟨e3, r3⟩ := yo.ext r'
    have xb := fun s H0 C cl fp => xr.blk (scope := scope) hc okb s H0 C cl fp
    unfold lcV at q'
    have s3 := s'.mono e3
    -- from any later place of the turn
    have fin : ∀ {H4 : Hp} {ρ4 : Rho}, Ext H3 ρ' H4 ρ4 → H4 D = some (.lst us) ∧ ρ4.hd = D :: ρ1.hd ∧ RAs G H4 ρ4 acc us ∧ Kq H1 ρ1 H4 ρ4 ∧ Ext H1 ρ1 H4 ⟨ρ4.l, ρ1.hd⟩ ∧ SR G H4 ρ4 (wipeA sl vs) (wipe σ vs) := fun {H4 ρ4} e4 => by
      have e34 := e3.trans e4
      exact ⟨by rw [e34.hidk D (by rw [hhd]; exact List.mem_cons_self)]; exact hD, by rw [e34.hds]; exact hhd, ras.mono e34, kq'.trans e34.kq, ext_lift r1 ex' hhd nD e34, s'.mono e34⟩
    cases hgx : g1 xs[i] (wipeA sl vs) h' with
    | nx sl4 h4 =>
      rw [hgx] at q'
      refine sxG_mono (hg.run _ (xb s H0 C cl fp) (wipe σ vs) H3 ρ' (wipeA sl vs) h' xs[i] v s3 r3 ra (fun σ4 H4 => ∃ ρ4, Ext H3 ρ' H4 ρ4 ∧ HR G H4 ρ4 h4 ∧ SR G H4 ρ4 sl4 σ4) (by rw [hgx]; exact fun σ4 H4 ρ4 e4 r4 s4 => ⟨ρ4, e4, r4, s4⟩)) fun σ4 H4 ⟨off, ρ4, e4, r4, s4⟩ => ?_
      refine ⟨wipe_off hw off, fun s H0 C cl fp => ?_⟩
      dsimp only at q'
      refine ht.run _ (xb s H0 C cl fp) σ4 H4 ρ4 sl4 h4 s4 r4 _ ?_
      cases htx : ft sl4 h4 with
      | ok b h5 =>
        rw [htx] at q'
        cases b with
        | false =>
          intro H5 ρ5 e5 r5
          obtain ⟨a1, a2, a3, a4, a5, a6⟩ := fin (e4.trans e5)
          exact ⟨acc, us, h5, ρ5, a1, a2, a3, r5, a4, a5, a6, by omega, q'⟩
        | true =>
          intro H5 ρ5 e5 r5
          unfold RB
          dsimp only
          rw [if_pos rfl]
          intro s H0 C cl fp
          dsimp only at q'
          refine he.run _ (xb s H0 C cl fp) σ4 H5 ρ5 sl4 h5 (s4.mono e5) r5 _ ?_
          cases hex : fe sl4 h5 with
          | ok y h6 =>
            rw [hex] at q'
            intro H6 ρ6 e6 r6 w rw'
            obtain ⟨a1, a2, a3, a4, a5, a6⟩ := fin ((e4.trans e5).trans e6)
            obtain ⟨u0, eu0, nt, nf⟩ := r6.hid D (by rw [a2]; exact List.mem_cons_self)
            have kq7 := kq_hid (ρ := ρ6) (o := .lst (us ++ [w])) (by rw [a2]; exact List.mem_cons_self) eu0 nt nf
            exact ⟨us, a1, by rw [← ras.1]; omega, acc ++ [y], us ++ [w], h6, ρ6, upd_same, a2, (a3.append (.cons rw' .nil)).mono' kq7, r6.upd_hid (by rw [a2]; exact List.mem_cons_self), a4.trans kq7, ext_updD r1 a5 nD, a6.mono' kq7, by simp; omega, q'⟩
          | ex y h6 => rw [hex] at q'; exact q'.elim
          | bad => rw [hex] at q'; exact q'.elim
      | ex b h5 => rw [htx] at q'; exact q'.elim
      | bad => rw [htx] at q'; exact q'.elim
    | rt _ _ => rw [hgx] at q'; exact q'.elim
    | bk _ _ => rw [hgx] at q'; exact q'.elim
    | ct _ _ => rw [hgx] at q'; exact q'.elim
    | ex _ _ _ => rw [hgx] at q'; exact q'.elim
    | bad => rw [hgx] at q'; exact q'.elim
  · have hd : xs.drop i = [] := List.drop_eq_nil_of_le (by omega)
    rw [hd] at q'
    exact .inl ⟨is (by omega), cc acc h' D H' H1 ρ1 h1 e1 r1 ⟨us, ρ', hD, hhd, ras, r', ex', nD⟩ q'⟩
theorem lc_frozen {ys : List A} {hF h1 : Hs} {D : Addr} {HF H1 : Hp} {ρ1 : Rho} (r1 : HR G H1 ρ1 h1) (x : LcEnd G ys hF D HF H1 ρ1) : ∃ ρ', Ext H1 ρ1 HF ρ' ∧ HR G HF ρ' hF ∧ RA G HF ρ' (.lst ys) (.ref D) := by
  obtain ⟨us, ρF, e1, e2, e3, e4, e5, e6⟩ := x.ex
  have k := kq_show (H := HF) (ρ0 := ρ1) e2
  have z := e3.mono' k
  exact ⟨_, e5, e4.unhide e2, .lst e1 (fun z => by
    rcases z with ⟨i, z⟩ | z
    · exact e4.sep i D z (by rw [e2]; exact List.mem_cons_self)
    · obtain ⟨u, e, _⟩ := r1.hid D z
      rw [e6] at e; cases e) z.1 z.2⟩
theorem lc_tracked {ys : List A} {hF h1 : Hs} {D : Addr} {HF H1 : Hp} {ρ1 : Rho} (r1 : HR G H1 ρ1 h1) (x : LcEnd G ys hF D HF H1 ρ1) : ∃ ρ', Ext H1 ρ1 HF ρ' ∧ HR G HF ρ' (hF ++ [.lst ys]) ∧ RA G HF ρ' (.ref hF.length) (.ref D) := by
  obtain ⟨us, ρF, e1, e2, e3, e4, e5, e6⟩ := x.ex
  have nD : D ∉ ρ1.hd := fun z => by
    obtain ⟨u, e, _⟩ := r1.hid D z
    rw [e6] at e; cases e
  have spl : ∀ {i : Nat} {y : Option Addr}, (ρF.l ++ [some D])[i]? = some y → (i < ρF.l.length ∧ ρF.l[i]? = some y) ∨ (i = ρF.l.length ∧ y = some D) := by
    intro i y e
    by_cases hi : i < ρF.l.length
    · rw [List.getElem?_append_left hi] at e; exact .inl ⟨hi, e⟩
    · rw [List.getElem?_append_right (by omega)] at e
      cases hk : i - ρF.l.length with
      | zero => rw [hk] at e; simp at e; exact .inr ⟨by omega, e.symm⟩
      | succ m => rw [hk] at e; simp at e
  have k : Kq HF ρF HF ⟨ρF.l ++ [some D], ρ1.hd⟩ := by
    refine ⟨by simp, fun i a hi e => ?_, fun a o e nl => ⟨e, fun z => ?_⟩, fun _ _ e => e, fun _ _ _ e => e⟩
    · rw [List.getElem?_append_left hi] at e; exact e
    · rcases z with ⟨i, z⟩ | z
      · rcases spl z with ⟨_, z⟩ | ⟨_, z⟩
        · exact nl (.inl ⟨i, z⟩)
        · cases z; exact nl (.inr (by rw [e2]; exact List.mem_cons_self))
      · exact nl (.inr (by rw [e2]; exact List.mem_cons_of_mem _ z))
  refine ⟨⟨ρF.l ++ [some D], ρ1.hd⟩, ⟨by have := e5.len; simp at this ⊢; omega, fun i a hi e => ?_, fun i a hi e => ?_, e5.keep, e5.tup, e5.frz, e5.dom, rfl, e5.hidk⟩, ⟨by simp [e4.len], fun i j a q1 q2 => ?_, fun i o q nd => ?_, fun i a o q1 q2 => ?_, fun i a q z => ?_, fun a ha => e4.hid a (by rw [e2]; exact List.mem_cons_of_mem _ ha)⟩, .ref (by simp [e4.len]) fun b q => ?_⟩
  · have hl := e5.len
    rw [List.getElem?_append_left (Nat.lt_of_lt_of_le hi hl)] at e
    exact e5.old i a hi e
  · rcases spl e with ⟨_, z⟩ | ⟨_, z⟩
    · exact e5.new i a hi z
    · cases z; exact e6
  · rcases spl q1 with ⟨_, z1⟩ | ⟨h1, z1⟩ <;> rcases spl q2 with ⟨_, z2⟩ | ⟨h2, z2⟩
    · exact e4.nd i j a z1 z2
    · cases z2; exact absurd (by rw [e2]; exact List.mem_cons_self) (e4.sep i D z1)
    · cases z1; exact absurd (by rw [e2]; exact List.mem_cons_self) (e4.sep j D z2)
    · omega
  · by_cases hi : i < hF.length
    · rw [List.getElem?_append_left hi] at q
      obtain ⟨a, ha⟩ := e4.live i o q nd
      exact ⟨a, by rw [List.getElem?_append_left (by rw [e4.len]; exact hi)]; exact ha⟩
    · have hi2 : i = hF.length := by
        by_cases hz : i = hF.length
        · exact hz
        · rw [List.getElem?_eq_none (by simp; omega)] at q; cases q
      exact ⟨D, by rw [hi2, ← e4.len]; simp⟩
  · rcases spl q1 with ⟨h1, z1⟩ | ⟨h1, z1⟩
    · rw [List.getElem?_append_left (by rw [← e4.len]; exact h1)] at q2
      exact (e4.obj i a o z1 q2).mono' k rfl
    · cases z1
      rw [h1, e4.len] at q2
      simp at q2
      subst q2
      exact ⟨us, e1, e3.mono' k⟩
  · rcases spl q with ⟨_, z1⟩ | ⟨_, z1⟩
    · exact e4.sep i a z1 (by rw [e2]; exact List.mem_cons_of_mem _ z)
    · cases z1; exact nD z
  · rw [← e4.len] at q
    simpa using q
theorem de_lc {scope : Scope} {own : List (Str × Nat)} {rd wr : List Nat} {GL : List Str} {ifs : List Expr} {fe : FE} (own' : List Nat) (hi : DI G L tg iter fi) (ok : BlkOk L.N L.sc scope own) (okb : okB L.N rd wr GL scope (relS scope L.sc) = true)
    (hg : DGw G (blkW L scope rd wr GL) ws tg g1) (ht : DTs G (blkW L scope rd wr GL) ifs ft) (he : DE G (blkW L scope rd wr GL) elt fe) (ho : own.map (·.2) = own' := by rfl) (hw : ws.all (fun i => own'.contains i) = true := by rfl) (hs : ∀ env x, foldedSetIterable iter env x = pure x := by intro _ _; rfl) (hc : L.cm = true := by rfl) :
    DE G L (.ListComp elt [⟨tg, iter, ifs, 0⟩] scope pos) (eLc fi own' g1 ft fe) := by
  subst ho
  refine ⟨fun X xr σ H ρ sl h sr hh Q q => .of (pe_lc (own := own) (xr.calm hc) (by rw [xr.n]; exact xr.nd) pir (by rw [xr.n, xr.scp]; exact ok) (fun s H0 C cl fp => ⟨fun pins s σ H x u Q I r q => (q _ _ _ _ _).run pins s u I r⟩) (fun s H0 C cl fp => ⟨fun pins s σ H Q I q => (q _ _ _ _ _).run pins s I⟩) (fun s H0 C cl fp => ⟨fun pins s σ H Q I q => (q _ _ _ _ _).run pins s I⟩) (hs _))
    (lc_ok hc hi okb hg ht he hw xr sr hh q fun ys hF D HF H1 ρ1 h1 e1 r1 le q1 => ?_)⟩
  obtain ⟨ρ', ex, r', ra⟩ := lc_frozen r1 le
  exact q1 HF ρ' ex r' _ ra
theorem de_lcT {scope : Scope} {own : List (Str × Nat)} {rd wr : List Nat} {GL : List Str} {ifs : List Expr} {fe : FE} (own' : List Nat) (hi : DI G L tg iter fi) (ok : BlkOk L.N L.sc scope own) (okb : okB L.N rd wr GL scope (relS scope L.sc) = true)
    (hg : DGw G (blkW L scope rd wr GL) ws tg g1) (ht : DTs G (blkW L scope rd wr GL) ifs ft) (he : DE G (blkW L scope rd wr GL) elt fe) (ho : own.map (·.2) = own' := by rfl) (hw : ws.all (fun i => own'.contains i) = true := by rfl) (hs : ∀ env x, foldedSetIterable iter env x = pure x := by intro _ _; rfl) (hc : L.cm = true := by rfl) :
    DE G L (.ListComp elt [⟨tg, iter, ifs, 0⟩] scope pos) (eLcT fi own' g1 ft fe) := by
  subst ho
  refine ⟨fun X xr σ H ρ sl h sr hh Q q => .of (pe_lc (own := own) (xr.calm hc) (by rw [xr.n]; exact xr.nd) pir (by rw [xr.n, xr.scp]; exact ok) (fun s H0 C cl fp => ⟨fun pins s σ H x u Q I r q => (q _ _ _ _ _).run pins s u I r⟩) (fun s H0 C cl fp => ⟨fun pins s σ H Q I q => (q _ _ _ _ _).run pins s I⟩) (fun s H0 C cl fp => ⟨fun pins s σ H Q I q => (q _ _ _ _ _).run pins s I⟩) (hs _))
    (lc_ok hc hi okb hg ht he hw xr sr hh q fun ys hF D HF H1 ρ1 h1 e1 r1 le q1 => ?_)⟩
  obtain ⟨ρ', ex, r', ra⟩ := lc_tracked r1 le
  exact q1 HF ρ' ex r' _ ra
/-- y = [..], stored within the comprehension's frame -/
theorem ds_setLc (i : Nat) {y : Str} {py spos : Pos} {scope : Scope} {own : List (Str × Nat)} {rd wr : List Nat} {GL : List Str} {ifs : List Expr} {fe : FE} (own' : List Nat) (hsw : ∀ (q : Str) (Lo f : Addr) (cd : Value), swapsWith (.ListComp elt [⟨tg, iter, ifs, 0⟩] scope pos) (some (.Name y py)) spos.line (PyProof.Rows.envOfC q L.sc Lo f cd) = pure true)
    (hyl : L.sc.names.lookup y = some .local) (hi : DI G L tg iter fi) (ok : BlkOk L.N L.sc scope own) (okb : okB L.N rd wr GL scope (relS scope L.sc) = true) (hg : DGw G (blkW L scope rd wr GL) ws tg g1) (ht : DTs G (blkW L scope rd wr GL) ifs ft) (he : DE G (blkW L scope rd wr GL) elt fe) (tr : Bool)
    (ho : own.map (·.2) = own' := by rfl) (hy : L.N[i]? = some y := by rfl) (hw : ws.all (fun i => own'.contains i) = true := by rfl) (hs : ∀ env x, foldedSetIterable iter env x = pure x := by intro _ _; rfl) (hc : L.cm = true := by rfl) (hf : L.fb = true := by rfl) :
    DS G L (.Assign [.Name y py] (.ListComp elt [⟨tg, iter, ifs, 0⟩] scope pos) spos) (sSet i (match tr with | true => eLcT fi own' g1 ft fe | false => eLc fi own' g1 ft fe)) := by
  subst ho
  refine ⟨fun X xr σ H ρ sl h sr hh nx rt bk ct q => ?_⟩
  obtain ⟨qn, Lo, f, cd, ev⟩ := xr.ev hf
  refine .of (ps_setLc (i := i) (own := own) (g := gB X scope tg) (tt := tB' X scope ifs) (te := eB X scope elt) (xr.calm hc) (by rw [xr.n]; exact xr.nd) (by rw [xr.n]; exact hy) (by rw [xr.scp]; exact hyl) (by rw [ev]; exact hsw _ _ _ _) pir (by rw [xr.n, xr.scp]; exact ok) (fun s H0 C cl fp => ⟨fun pins s σ H x u Q I r q => (q _ _ _ _ _).run pins s u I r⟩) (fun s H0 C cl fp => ⟨fun pins s σ H Q I q => (q _ _ _ _ _).run pins s I⟩) (fun s H0 C cl fp => ⟨fun pins s σ H Q I q => (q _ _ _ _ _).run pins s I⟩) (hs _)) ?_
  have key : ∀ {fe' : FE} {kk : List A → Hs → Out A}, fe' = (fun sl h => (lcAll fi (own.map (·.2)) g1 ft fe sl h).bind kk) → PoS G L.W H ρ nx rt bk ct (sSet i fe' sl h) → Po G L.W σ H ρ (RQ G fun v H' => nx (σ.set i (some v)) H') ((lcAll fi (own.map (·.2)) g1 ft fe sl h).bind kk) := by
    intro fe' kk efe q
    rw [efe] at q
    unfold sSet at q
    revert q
    dsimp only
    cases (lcAll fi (own.map (·.2)) g1 ft fe sl h).bind kk with
    | ok a h1 => exact fun q H1 ρ1 e1 r1 v rv => q _ H1 ρ1 e1 r1 ((sr.mono e1).set rv i)
    | ex x h1 => exact fun q c d H1 ρ1 e1 r1 rx => q c d σ H1 ρ1 e1 r1 (sr.mono e1) rx
    | bad => exact fun q => q
  cases tr with
  | true =>
    refine lc_ok (k := fun ys h1 => .ok (.ref h1.length) (h1 ++ [.lst ys])) hc hi okb hg ht he hw xr sr hh (key (fe' := eLcT fi (own.map (·.2)) g1 ft fe) rfl q) fun ys hF D HF H1 ρ1 h1 e1 r1 le q1 => ?_
    obtain ⟨ρ', ex, r', ra⟩ := lc_tracked r1 le
    exact q1 HF ρ' ex r' _ ra
  | false =>
    refine lc_ok (k := fun ys h1 => .ok (.lst ys) h1) hc hi okb hg ht he hw xr sr hh (key (fe' := eLc fi (own.map (·.2)) g1 ft fe) rfl q) fun ys hF D HF H1 ρ1 h1 e1 r1 le q1 => ?_
    obtain ⟨ρ', ex, r', ra⟩ := lc_frozen r1 le
    exact q1 HF ρ' ex r' _ ra
end
end Rx
set_option Elab.async false
set_option linter.all false
set_option maxRecDepth 100000
set_option maxHeartbeats 4000000
/-! RxN: new instances; what stands still from now on; numbers; lists; built-in functions. -/
namespace Rx
open PySem L2 Sx
open PyProof.Rows (subscriptTail)
section
variable {G : Gc} {L : Wh} {X : Cx} {σ : St} {H : Hp} {ρ : Rho} {sl : Sl} {h : Hs} {a b c e o tg iter elt : Expr} {es rest : List Expr} {fa fb fc : FE} {ft fu : FT} {fs fi : FA} {pos p apos pos' : Pos} {Q : VK} {st : Stmt} {sts bd el : List Stmt} {f g : FS} {nx bk ct : St → Hp → Prop} {rt : VK} {ws : List Nat} {g1 : FG}
/-! ### new instances -/
theorem run_makeS {k : Nat} {fa C : Addr} {fd : FuncData} {ps : List Str} {sp : Sp} {Es : St → XK} {pins : List (Addr × Obj)} {s : Shared} {us : List Value} {vs : List V} (M : Mk X.K C fa) (F : FnOk X.prog X.w X.K X.mg X.base (L2.CX X.prog X.w) k fa fd ps sp) (hr : Room (k + 1) X.A) (hb : Binds X.K fd ps [])
    (hx : PassesAt (L2.CX X.prog X.w) X σ (Es σ)) (I : Inv X pins σ H s) (r : Vals vs us)
    (h : ∀ x dx, H x = none → H dx = none → dx ≠ x → sp (.ref x :: vs) (upd (upd H dx (.own x)) x (.ins C dx [])) (fun v H2 => v = .non ∧ Q (.ref x) H2) (Es σ)) :
    wpAny (model X.prog X.w) X.A (call (.ref C) us) (EP X pins σ Q) X.xe s := by
  have hq := h (s.heap.objs.size + 1) s.heap.objs.size (I.hok.fresh (Nat.le_succ _)) (I.hok.fresh (Nat.le_refl _)) (Nat.ne_of_lt (Nat.lt_succ_self _))
  have I2 := Inv.made (C := C) I
  have r2 : Vals (V.ref (s.heap.objs.size + 1) :: vs) (Value.ref (s.heap.objs.size + 1) :: us) := .cons rfl r
  have hl : (Value.ref (s.heap.objs.size + 1) :: us ++ []).length = ps.length := by
    have e := r2.length
    rw [F.len _ _ _ _ hq] at e
    rw [List.append_nil]
    exact e.symm
  have bb := hb _ (Value.ref (s.heap.objs.size + 1) :: us) I2.kIn hl
  rw [List.append_nil] at bb
  refine wpAny_call (make_map (f := fa) I.kIn M.makes M.init (beq_iff_eq.mp M.fn) (codeAny_mono (F.run _ X.stack _ _ ⟨Value.ref (s.heap.objs.size + 1) :: us, []⟩ (Value.ref (s.heap.objs.size + 1) :: us) _ _ (Es σ) (hr.make C us [])
    (I2.env0.make C us []) bb r2 hq) fun r s' hq' => ?_))
  cases r with
  | error e => exact hx pins _ _ e s' I2 hq'
  | ok fl =>
    cases fl with
    | ret u =>
      obtain ⟨v, H', I3, rv, ev, q3⟩ := I2.after hq'
      subst ev
      exact ⟨rv, ⟨V.ref (s.heap.objs.size + 1), H', I3, rfl, q3⟩⟩
    | next => exact False.elim hq'
    | brk => exact False.elim hq'
    | cont => exact False.elim hq'
/-- a class that stands at its name, made by its __init__ -/
structure DcR (G : Gc) (x : Str) (c j n : Nat) (f : F) : Prop where
  cr : ClsR G c
  ar : Ar (n + 1) f
  ex : ∃ (fa : Addr) (fd : FuncData) (ps : List Str), FnOk G.P G.w G.K G.mg G.base (L2.CX G.P G.w) j fa fd ps (spF G (n + 1) f) ∧ G.mg x = some (.ref (G.cad c)) ∧ Mk G.K (G.cad c) fa ∧ Binds G.K fd ps []
/-- the new one stays open to change -/
def mkT (c : Nat) (f : F) : F := fun xs h => (f (.ref h.length :: xs) (h ++ [.ins c []])).bind fun r h2 => match r with | .non => .ok (.ref h.length) h2 | _ => .bad
/-- it stands still behind its __init__ -/
def finF (n : Nat) (r : A) (h2 : Hs) : Out A := match r with
  | .non => (match h2[n]? with | some (.ins c' ys) => .ok (.ins c' ys) (h2.set n .dead) | _ => .bad)
  | _ => .bad
def mkF (c : Nat) (f : F) : F := fun xs h => (f (.ref h.length :: xs) (h ++ [.ins c []])).bind (finF h.length)
theorem freeze_ins {n : Nat} {x : V} {c : Nat} {ys : List A} (hr : HR G H ρ h) (ra : RA G H ρ (.ref n) x) (e : h[n]? = some (.ins c ys)) : Ext H ρ H (ρ.kill n) ∧ HR G H (ρ.kill n) (h.set n .dead) ∧ RA G H (ρ.kill n) (.ins c ys) x := by
  obtain ⟨ad, rfl, e2, dx, vs, e3, e4⟩ := hr.look ra e (fun z => by cases z)
  have rf := e4.mono (HR.ext_die (H := H) (ρ := ρ) (n := n))
  exact ⟨HR.ext_die, hr.die, .ins e3 (hr.nlive_die e2) rf.1 rf.2.1 rf.2.2⟩
theorem freeze_lst {n : Nat} {x : V} {ys : List A} (hr : HR G H ρ h) (ra : RA G H ρ (.ref n) x) (e : h[n]? = some (.lst ys)) : Ext H ρ H (ρ.kill n) ∧ HR G H (ρ.kill n) (h.set n .dead) ∧ RA G H (ρ.kill n) (.lst ys) x := by
  obtain ⟨ad, rfl, e2, vs, e3, e4⟩ := hr.look ra e (fun z => by cases z)
  have rf := e4.mono (HR.ext_die (H := H) (ρ := ρ) (n := n))
  exact ⟨HR.ext_die, hr.die, .lst e3 (hr.nlive_die e2) rf.1 rf.2⟩
theorem freeze_dk {n : Nat} {x : V} {ys : List (Key × A)} (hr : HR G H ρ h) (ra : RA G H ρ (.ref n) x) (e : h[n]? = some (.dk ys)) : Ext H ρ H (ρ.kill n) ∧ HR G H (ρ.kill n) (h.set n .dead) ∧ RA G H (ρ.kill n) (.dk ys) x := by
  obtain ⟨ad, rfl, e2, vs, e3, e4⟩ := hr.look ra e (fun z => by cases z)
  have rf := e4.mono (HR.ext_die (H := H) (ρ := ρ) (n := n))
  exact ⟨HR.ext_die, hr.die, .dk e3 (hr.nlive_die e2) rf.1 rf.2⟩
theorem freeze_dt {n : Nat} {x : V} {ys : List (List Key × A)} (hr : HR G H ρ h) (ra : RA G H ρ (.ref n) x) (e : h[n]? = some (.dt ys)) : Ext H ρ H (ρ.kill n) ∧ HR G H (ρ.kill n) (h.set n .dead) ∧ RA G H (ρ.kill n) (.dt ys) x := by
  obtain ⟨ad, rfl, e2, vs, e3, e4⟩ := hr.look ra e (fun z => by cases z)
  have rf := e4.mono (HR.ext_die (H := H) (ρ := ρ) (n := n))
  exact ⟨HR.ext_die, hr.die, .dt e3 (hr.nlive_die e2) rf.1 rf.2⟩
/-- the step of making, by values -/
theorem make_ok {n c : Nat} {f k : F} {xs : List A} {vs : List V} {W : WX} (ar : Ar (n + 1) f) (hr : HR G H ρ h) (rs : RAs G H ρ xs vs) (q : Po G W σ H ρ (RQ G Q) (k xs h))
    (hk : ∀ R H2 ρ2 (ad : Addr), Ext H ρ H2 ρ2 → RA G H2 ρ2 (.ref h.length) (.ref ad) → Po G W σ H ρ (RQ G R) (k xs h) → Po G W σ H2 ρ2 (RQ G fun v H3 => v = .non ∧ R (.ref ad) H3) (f (.ref h.length :: xs) (h ++ [.ins c []]))) :
    ∀ x dx, H x = none → H dx = none → dx ≠ x → spF G (n + 1) f (.ref x :: vs) (upd (upd H dx (.own x)) x (.ins (G.cad c) dx [])) (fun v H2 => v = .non ∧ Q (.ref x) H2) (WE W σ) := by
  intro x dx nx ndx ne
  have r1 : HR G (upd H dx (.own x)) ρ h := hr.new ndx
  have e1 : Ext H ρ (upd H dx (.own x)) ρ := hr.ext_new ndx
  have nx1 : upd H dx (.own x) x = none := by rw [upd_ne ne.symm]; exact nx
  have e2 := r1.ext_track (o := .ins (G.cad c) dx []) nx1
  have r2 : HR G (upd (upd H dx (.own x)) x (.ins (G.cad c) dx [])) (ρ.add x) (h ++ [.ins c []]) := r1.track nx1 ⟨dx, [], upd_same, by simp, rfl, fun _ _ _ _ z => by simp at z⟩
  have ra : RA G (upd (upd H dx (.own x)) x (.ins (G.cad c) dx [])) (ρ.add x) (.ref h.length) (.ref x) := .ref (by simp [hr.len]) fun b e => by rw [← hr.len] at e; simpa using e
  have q2 := hk Q _ _ x (e1.trans e2) ra q
  exact ⟨by rw [List.length_cons, ← rs.1, ← ar.len q2, List.length_cons], .ref h.length :: xs, ρ.add x, h ++ [.ins c []], .cons ra (rs.mono (e1.trans e2)), r2, q2.wish⟩
theorem mkT_hk {c : Nat} {f : F} {xs : List A} {W : WX} : ∀ (R : VK) H2 ρ2 (ad : Addr), Ext H ρ H2 ρ2 → RA G H2 ρ2 (.ref h.length) (.ref ad) → Po G W σ H ρ (RQ G R) (mkT c f xs h) → Po G W σ H2 ρ2 (RQ G fun v H3 => v = .non ∧ R (.ref ad) H3) (f (.ref h.length :: xs) (h ++ [.ins c []])) := by
  intro R H2 ρ2 ad e ra q
  unfold mkT at q
  revert q
  cases f (.ref h.length :: xs) (h ++ [.ins c []]) with
  | ok r h2 =>
    intro q H3 ρ3 e3 r3 v rv
    cases r <;> try exact q.elim
    cases rv
    exact ⟨rfl, q H3 ρ3 (e.trans e3) r3 _ (ra.mono e3)⟩
  | ex x h2 => exact fun q c d H3 ρ3 e3 r3 rx => q c d H3 ρ3 (e.trans e3) r3 rx
  | bad => exact fun q => q
theorem mkF_hk {c : Nat} {f : F} {xs : List A} {W : WX} : ∀ (R : VK) H2 ρ2 (ad : Addr), Ext H ρ H2 ρ2 → RA G H2 ρ2 (.ref h.length) (.ref ad) → Po G W σ H ρ (RQ G R) (mkF c f xs h) → Po G W σ H2 ρ2 (RQ G fun v H3 => v = .non ∧ R (.ref ad) H3) (f (.ref h.length :: xs) (h ++ [.ins c []])) := by
  intro R H2 ρ2 ad e ra q
  unfold mkF at q
  revert q
  cases f (.ref h.length :: xs) (h ++ [.ins c []]) with
  | ok r h2 =>
    intro q H3 ρ3 e3 r3 v rv
    revert q
    show Po G W σ H ρ (RQ G R) (finF h.length r h2) → _
    unfold finF
    cases r <;> try exact fun q => q.elim
    dsimp only
    cases hg : h2[h.length]? with
    | none => exact fun q => q.elim
    | some ob =>
      cases ob <;> try exact fun q => q.elim
      rename_i c' ys
      intro q
      cases rv
      obtain ⟨z1, z2, z3⟩ := freeze_ins r3 (ra.mono e3) hg
      exact ⟨rfl, q H3 _ ((e.trans e3).trans z1) z2 _ z3⟩
  | ex x h2 => exact fun q c d H3 ρ3 e3 r3 rx => q c d H3 ρ3 (e.trans e3) r3 rx
  | bad => exact fun q => q
theorem mk_E {x : Str} {cl j n : Nat} {f k : F} (D : DcR G x cl j n f) (hg : x ∈ L.GL) (hj : j + 1 ≤ L.k) (ha : DA G L (e :: es) fs) (he : NoSt e = true) (hpl : ∀ env, (backTo pos (starEach es env)).any (·.1) = false) (hc : L.cm = true)
    (hk : ∀ (σ : St) (H : Hp) (ρ : Rho) (h : Hs) (xs : List A) (R : VK) H2 ρ2 (ad : Addr), Ext H ρ H2 ρ2 → RA G H2 ρ2 (.ref h.length) (.ref ad) → Po G L.W σ H ρ (RQ G R) (k xs h) → Po G L.W σ H2 ρ2 (RQ G fun v H3 => v = .non ∧ R (.ref ad) H3) (f (.ref h.length :: xs) (h ++ [.ins cl []]))) :
    DE G L (.Call (.Name x p) (e :: es) [] pos) (eK fs k) := by
  refine ⟨fun X xr σ H ρ sl h sr hh Q q => ⟨fun pins s I => ?_⟩⟩
  obtain ⟨fa', fd, ps, Fn, hm, M, b⟩ := D.ex
  have z : As X (e :: es) σ H fun vs H1 => ∀ x dx, H1 x = none → H1 dx = none → dx ≠ x → spF G (n + 1) f (.ref x :: vs) (upd (upd H1 dx (.own x)) x (.ins (G.cad cl) dx [])) (fun v H2 => v = .non ∧ Q (.ref x) H2) (WE L.W σ) :=
    DA.bind ha xr sr hh q fun xs h1 vs H1 ρ1 e1 r1 rs s1 q1 => make_ok (k := k) D.ar r1 rs q1 (hk σ H1 ρ1 h1 xs)
  have M' : Mk X.K (G.cad cl) fa' := by rw [xr.K]; exact M
  refine wpAny_Call_Name_kw (ld_glob I (xr.gl x hg).1 (by rw [xr.mg]; exact hm) ?_ (xr.gl x hg).2.1)
  refine PySem.W.callWith_K (h₀ := X.base) I.ok.mod.kin M'.kp (thn (z.run pos pins s I) fun us s1 ⟨vs, H1, I1, r, q⟩ => ⟨I1.kIn, ?_⟩) (star_cons he) (hpl _)
  exact run_makeS (Es := WE L.W) M' (xr.fn Fn) ((xr.room hc).mono hj) (by rw [xr.K]; exact b) (xr.pass σ) I1 r q
theorem de_mkT {x : Str} {cl j n : Nat} {f : F} (D : DcR G x cl j n f) (hg : x ∈ L.GL) (hj : j + 1 ≤ L.k) (ha : DA G L (e :: es) fs) (he : NoSt e = true := by rfl) (hpl : ∀ env, (backTo pos (starEach es env)).any (·.1) = false := by intro _; rfl) (hc : L.cm = true := by rfl) :
    DE G L (.Call (.Name x p) (e :: es) [] pos) (eK fs (mkT cl f)) := mk_E D hg hj ha he hpl hc fun σ H ρ h xs => mkT_hk
theorem de_mkF {x : Str} {cl j n : Nat} {f : F} (D : DcR G x cl j n f) (hg : x ∈ L.GL) (hj : j + 1 ≤ L.k) (ha : DA G L (e :: es) fs) (he : NoSt e = true := by rfl) (hpl : ∀ env, (backTo pos (starEach es env)).any (·.1) = false := by intro _; rfl) (hc : L.cm = true := by rfl) :
    DE G L (.Call (.Name x p) (e :: es) [] pos) (eK fs (mkF cl f)) := mk_E D hg hj ha he hpl hc fun σ H ρ h xs => mkF_hk
/-! ### a slot's list, dict, instance stands still from now on -/
def frz (i : Nat) : FS := fun sl h => match sl[i]? with
  | some (some (.ref n)) => (match h[n]? with
    | some (.lst xs) => .nx (sl.set i (some (.lst xs))) (h.set n .dead)
    | some (.dk xs) => .nx (sl.set i (some (.dk xs))) (h.set n .dead)
    | some (.dt xs) => .nx (sl.set i (some (.dt xs))) (h.set n .dead)
    | some (.ins c xs) => .nx (sl.set i (some (.ins c xs))) (h.set n .dead)
    | _ => .bad)
  | _ => .bad
theorem SR.put {i : Nat} {v : V} {x : A} (sr : SR G H ρ sl σ) (hv : σ[i]? = some (some v)) (ra : RA G H ρ x v) : SR G H ρ (sl.set i (some x)) σ := by
  have hl : i < σ.length := by
    by_cases hl : i < σ.length
    · exact hl
    · rw [List.getElem?_eq_none (by omega)] at hv; cases hv
  refine ⟨by simp [sr.len], fun j y e => ?_⟩
  by_cases hj : i = j
  · subst hj
    rw [List.getElem?_set_self (by rw [sr.len]; exact hl)] at e
    cases e
    exact ⟨v, hv, ra⟩
  · rw [List.getElem?_set_ne hj] at e
    exact sr.get j y e
theorem dss_frz (i : Nat) (hs : DSs G L sts f) : DSs G L sts (sSeq (frz i) f) := by
  refine ⟨fun X xr σ H ρ sl h sr hh nx rt bk ct q => ?_⟩
  unfold sSeq frz at q
  cases hi : sl[i]? with
  | none => rw [hi] at q; exact q.elim
  | some o =>
    rw [hi] at q
    cases o with
    | none => exact q.elim
    | some x =>
      cases x <;> try exact q.elim
      rename_i n
      obtain ⟨v, hv, ra⟩ := sr.get i _ hi
      dsimp only at q
      cases hn : h[n]? with
      | none => rw [hn] at q; exact q.elim
      | some ob =>
        rw [hn] at q
        have fin : ∀ {y : A}, Ext H ρ H (ρ.kill n) ∧ HR G H (ρ.kill n) (h.set n .dead) ∧ RA G H (ρ.kill n) y v → PoS G L.W H ρ nx rt bk ct (f (sl.set i (some y)) (h.set n .dead)) → Ss X sts nx rt bk ct σ H := fun {y} z q => by
          obtain ⟨z1, z2, z3⟩ := z
          exact hs.run X xr σ H _ _ _ ((sr.mono z1).put hv z3) z2 nx rt bk ct (PoS.at1 q z1)
        cases ob with
        | dead => exact q.elim
        | lst xs => exact fin (freeze_lst hh ra hn) q
        | dk xs => exact fin (freeze_dk hh ra hn) q
        | dt xs => exact fin (freeze_dt hh ra hn) q
        | ins c xs => exact fin (freeze_ins hh ra hn) q
end
end Rx
set_option Elab.async false
set_option linter.all false
set_option maxRecDepth 100000
set_option maxHeartbeats 4000000
/-! RxO: numbers, texts, lists, tuples: operators and built-in functions by values. -/
namespace Rx
open PySem L2 Sx
open PyProof.Rows (subscriptTail)
section
variable {G : Gc} {L : Wh} {X : Cx} {σ : St} {H : Hp} {ρ : Rho} {sl : Sl} {h : Hs} {Q : VK}
/-- the items of a list, of whatever kind -/
def listOf (x : A) (h : Hs) : Option (List A) := match x with
  | .lst xs => some xs
  | .ref n => (match h[n]? with | some (.lst xs) => some xs | _ => none)
  | _ => none
theorem list_ok (hr : HR G H ρ h) {x : A} {v : V} {xs : List A} (r : RA G H ρ x v) (e : listOf x h = some xs) : ∃ a vs, v = .ref a ∧ H a = some (.lst vs) ∧ RAs G H ρ xs vs := by
  unfold listOf at e
  cases r with
  | lst h1 nl l r => cases e; exact ⟨_, _, rfl, h1, l, r⟩
  | ref hn hr' =>
    dsimp only at e
    split at e
    · cases e
      rename_i q
      obtain ⟨a, e1, e2, vs, e3, e4⟩ := hr.look (.ref hn hr') q (fun z => by cases z)
      exact ⟨a, vs, e1, e3, e4⟩
    · cases e
  | _ => cases e
/-! ### + - * // % ** -/
def aAdd (x y : A) (h : Hs) : Out A := match x with
  | .int i => (match y with | .int j => .ok (.int (i + j)) h | _ => .bad)
  | .str a => (match y with | .str b => chk (Nat.ble (a.length + b.length) sizeLine) (.ok (.str (a ++ b)) h) | _ => .bad)
  | .tup xs => (match y with | .tup ys => chk (Nat.ble (xs.length + ys.length) sizeLine) (.ok (.tup (xs ++ ys)) h) | _ => .bad)
  | _ => need (listOf x h) fun xs => need (listOf y h) fun ys => chk (Nat.ble (xs.length + ys.length) sizeLine) (.ok (.lst (xs ++ ys)) h)
theorem cat_ok {x y : A} {v u : V} {op : Operator} (hop : op = .Add) (hr : HR G H ρ h) (rx : RA G H ρ x v) (ry : RA G H ρ y u) {W : WX}
    (q : Po G W σ H ρ (RQ G Q) (need (listOf x h) fun xs => need (listOf y h) fun ys => chk (Nat.ble (xs.length + ys.length) sizeLine) (.ok (.lst (xs ++ ys)) h))) : Bo X op v u H Q := by
  subst hop
  obtain ⟨xs, e1, q⟩ := need_ok q
  obtain ⟨ys, e2, q⟩ := need_ok q
  obtain ⟨k, q⟩ := chk_ok q
  obtain ⟨a, vs, rfl, ha, ra⟩ := list_ok hr rx e1
  obtain ⟨b, us, rfl, hb, rb⟩ := list_ok hr ry e2
  refine .of op_cat ⟨a, b, vs, us, rfl, rfl, ha, hb, by rw [← ra.1, ← rb.1]; exact Nat.le_of_ble_eq_true k, fun p np => ?_⟩
  exact q _ ρ (hr.ext_new np) (hr.new np) _ (new_lstA hr np (ra.append rb))
theorem ob_add : OpB G L .Add aAdd := by
  refine ⟨fun X xr σ H ρ h x y v u hr rx ry Q q => .of ?_⟩
  cases rx with
  | int =>
    cases ry <;> try exact q.elim
    exact b_add (q H ρ .refl hr _ .int)
  | str =>
    cases ry <;> try exact q.elim
    obtain ⟨k, q⟩ := chk_ok q
    exact b_addS (Nat.le_of_ble_eq_true k) (q H ρ .refl hr _ .str)
  | tup h1 l1 r1 =>
    cases ry <;> try exact q.elim
    rename_i xs a vs ys b us h2 l2 r2
    obtain ⟨k, q⟩ := chk_ok q
    have k := Nat.le_of_ble_eq_true k
    refine .of op_catA ⟨a, b, vs, us, rfl, rfl, by rw [xr.K]; exact h1, by rw [xr.K]; exact h2, by rw [← l1, ← l2]; exact k, fun e => ?_, fun _ e => ?_, fun _ _ p np => ?_⟩
    · have : xs = [] := by cases xs with | nil => rfl | cons _ _ => rw [e] at l1; simp at l1
      subst this
      exact q H ρ .refl hr _ (.tup h2 l2 r2)
    · have : ys = [] := by cases ys with | nil => rfl | cons _ _ => rw [e] at l2; simp at l2
      subst this
      rw [List.append_nil] at q
      exact q H ρ .refl hr _ (.tup h1 l1 r1)
    · exact q _ ρ (hr.ext_new np) (hr.new np) _ (new_tupA hr np (RAs.append ⟨l1, r1⟩ ⟨l2, r2⟩))
  | non => exact q.elim
  | bl => exact q.elim
  | ty => exact q.elim
  | cls => exact q.elim
  | scr _ => exact q.elim
  | dk _ _ _ _ => exact q.elim
  | dt _ _ _ _ => exact q.elim
  | ins _ _ _ _ _ => exact q.elim
  | lst h1 n1 l1 r1 => exact cat_ok rfl hr (.lst h1 n1 l1 r1) ry q
  | ref hn h1 => exact cat_ok rfl hr (.ref hn h1) ry q
def aInt (g : Int → Int → Option Int) (x y : A) (h : Hs) : Out A := match x with
  | .int i => (match y with | .int j => need (g i j) fun k => .ok (.int k) h | _ => .bad)
  | _ => .bad
theorem int_ok {g : Int → Int → Option Int} {op : Operator} (hg : ∀ (X : Cx) (H : Hp) i j k Q, g i j = some k → Q (.int k) H → Bo X op (.int i) (.int j) H Q) : OpB G L op (aInt g) := by
  refine ⟨fun X xr σ H ρ h x y v u hr rx ry Q q => .of ?_⟩
  cases rx <;> try exact q.elim
  cases ry <;> try exact q.elim
  obtain ⟨k, e, q⟩ := need_ok q
  exact hg X H _ _ k Q e (q H ρ .refl hr _ .int)
def gSub' (i j : Int) : Option Int := some (i - j)
/-- * of which one is small -/
def gMul (i j : Int) : Option Int := match decide ((-18446744073709551616 < i ∧ i < 18446744073709551616) ∨ (-18446744073709551616 < j ∧ j < 18446744073709551616)) with | true => some (i * j) | false => none
def gMod (i j : Int) : Option Int := match decide (0 < j) with | true => some (i % j) | false => none
def gDiv (i j : Int) : Option Int := match decide (0 < j ∧ j ≤ 10000000000000000000000000000000) with | true => some (i / j) | false => none
def gPow (i j : Int) : Option Int := match decide (0 ≤ j ∧ j ≤ 1000 ∧ i.natAbs < 18446744073709551616) with | true => some (i ^ j.toNat) | false => none
theorem ob_sub : OpB G L .Sub (aInt gSub') := int_ok fun X H i j k Q e q => by cases e; exact b_sub q
theorem ob_mul : OpB G L .Mult (aInt gMul) := int_ok fun X H i j k Q e q => by
  unfold gMul at e
  split at e
  · rename_i z
    cases e
    have z := of_decide_eq_true z
    exact b_mul (CMul.ok (z.elim (fun z => .inl ⟨by omega, by omega⟩) fun z => .inr ⟨by omega, by omega⟩)) q
  · cases e
theorem ob_mod : OpB G L .Mod (aInt gMod) := int_ok fun X H i j k Q e q => by
  unfold gMod at e
  split at e
  · rename_i z
    cases e
    exact b_mod (of_decide_eq_true z) q
  · cases e
theorem ob_div : OpB G L .FloorDiv (aInt gDiv) := int_ok fun X H i j k Q e q => by
  unfold gDiv at e
  split at e
  · rename_i z
    cases e
    have z := of_decide_eq_true z
    exact b_fdiv (cdiv_of z.1 z.2) q
  · cases e
theorem ob_pow : OpB G L .Pow (aInt gPow) := int_ok fun X H i j k Q e q => by
  unfold gPow at e
  split at e
  · rename_i z
    cases e
    have z := of_decide_eq_true z
    exact b_pow ⟨z.1, by omega, by have := z.2.2; omega⟩ q
  · cases e
def aNeg (x : A) (h : Hs) : Out A := match x with | .int i => .ok (.int (-i)) h | _ => .bad
theorem ou_neg : OpU G L .USub aNeg := by
  refine ⟨fun X xr σ H ρ h x v hr rx Q q => .of ?_⟩
  cases rx <;> try exact q.elim
  exact u_neg (q H ρ .refl hr _ .int)
/-! ### comparisons -/
def aCmp (p : Int → Int → Bool) (x y : A) (h : Hs) : Out A := match x with
  | .int i => (match y with | .int j => .ok (.bl (p i j)) h | _ => .bad)
  | _ => .bad
theorem oc_int {cop : CmpOp} {p : Int → Int → Bool} (ci : CmpI cop p) : OpC G L cop (aCmp p) := by
  refine ⟨fun X xr σ H ρ h x y v u hr rx ry Q q => .of ?_⟩
  cases rx <;> try exact q.elim
  cases ry <;> try exact q.elim
  exact ci.run X H _ _ Q (q H ρ .refl hr _ .bl)
mutual
/-- plain data -/
def dat : A → Option PyData
  | .non => some .none
  | .bl b => some (.bool b)
  | .int i => some (.int i)
  | .str x => some (.str x)
  | .tup xs => (datAll xs).map .tuple
  | .lst xs => (datAll xs).map .list
  | _ => none
def datAll : List A → Option (List PyData)
  | [] => some []
  | x :: xs => (dat x).bind fun d => (datAll xs).map fun ds => d :: ds
end
def datH (x : A) (h : Hs) : Option PyData := match x with
  | .ref n => (match h[n]? with | some (.lst xs) => (datAll xs).map .list | _ => none)
  | _ => dat x
theorem datAll_get : ∀ {xs : List A} {ds : List PyData}, datAll xs = some ds → xs.length = ds.length ∧ ∀ (i : Nat) x, xs[i]? = some x → ∃ d, ds[i]? = some d ∧ dat x = some d
  | [], ds, e => by
    unfold datAll at e
    cases e
    exact ⟨rfl, fun i x z => by simp at z⟩
  | x :: xs, ds, e => by
    unfold datAll at e
    cases h1 : dat x with
    | none => rw [h1] at e; cases e
    | some d =>
      rw [h1] at e
      cases h2 : datAll xs with
      | none => rw [h2] at e; cases e
      | some ds' =>
        rw [h2] at e
        cases e
        obtain ⟨l, g⟩ := datAll_get h2
        refine ⟨by simp [l], fun i y z => ?_⟩
        cases i with
        | zero => simp at z; subst z; exact ⟨d, rfl, h1⟩
        | succ i => exact g i y (by simpa using z)
theorem dpAll_of {K : PySem.W.Frag} : ∀ {vs : List V} {ds : List PyData}, vs.length = ds.length → (∀ (i : Nat) v d, vs[i]? = some v → ds[i]? = some d → Dp K H v d) → DpAll K H vs ds
  | [], [], _, _ => .nil
  | [], _ :: _, l, _ => by simp at l
  | _ :: _, [], l, _ => by simp at l
  | v :: vs, d :: ds, l, g => .cons (g 0 v d rfl rfl) (dpAll_of (by simpa using l) fun i v' d' e1 e2 => g (i + 1) v' d' (by simpa using e1) (by simpa using e2))
theorem dat_ok {x : A} {v : V} (r : RA G H ρ x v) : ∀ {d : PyData}, dat x = some d → Dp G.K H v d := by
  induction r with
  | non => intro d e; unfold dat at e; cases e; exact .non
  | bl => intro d e; unfold dat at e; cases e; exact .bl _
  | int => intro d e; unfold dat at e; cases e; exact .int _
  | str => intro d e; unfold dat at e; cases e; exact .str _
  | @tup xs a vs h1 l r ih =>
    intro d e
    unfold dat at e
    cases h2 : datAll xs with
    | none => rw [h2] at e; cases e
    | some ds =>
      rw [h2] at e
      cases e
      obtain ⟨l2, g⟩ := datAll_get h2
      refine .tup h1 (dpAll_of (by rw [← l, l2]) fun i v d e1 e2 => ?_)
      have hi : i < xs.length := by
        by_cases hi : i < xs.length
        · exact hi
        · rw [List.getElem?_eq_none (by omega)] at e1; cases e1
      obtain ⟨d', e3, e4⟩ := g i xs[i] (List.getElem?_eq_getElem hi)
      rw [e3] at e2
      cases e2
      exact ih i xs[i] v (List.getElem?_eq_getElem hi) e1 e4
  | @lst xs a vs h1 n l r ih =>
    intro d e
    unfold dat at e
    cases h2 : datAll xs with
    | none => rw [h2] at e; cases e
    | some ds =>
      rw [h2] at e
      cases e
      obtain ⟨l2, g⟩ := datAll_get h2
      refine .lst (.inl (.inl h1)) (dpAll_of (by rw [← l, l2]) fun i v d e1 e2 => ?_)
      have hi : i < xs.length := by
        by_cases hi : i < xs.length
        · exact hi
        · rw [List.getElem?_eq_none (by omega)] at e1; cases e1
      obtain ⟨d', e3, e4⟩ := g i xs[i] (List.getElem?_eq_getElem hi)
      rw [e3] at e2
      cases e2
      exact ih i xs[i] v (List.getElem?_eq_getElem hi) e1 e4
  | _ => intro d e; unfold dat at e; cases e
theorem datAll_ok {xs : List A} {vs : List V} {ds : List PyData} (r : RAs G H ρ xs vs) (e : datAll xs = some ds) : DpAll G.K H vs ds := by
  obtain ⟨l2, g⟩ := datAll_get e
  refine dpAll_of (by rw [← r.1, l2]) fun i v d e1 e2 => ?_
  have hi : i < xs.length := by
    by_cases hi : i < xs.length
    · exact hi
    · rw [List.getElem?_eq_none (by have := r.1; omega)] at e1; cases e1
  obtain ⟨d', e3, e4⟩ := g i xs[i] (List.getElem?_eq_getElem hi)
  rw [e3] at e2
  cases e2
  exact dat_ok (r.2 i xs[i] v (List.getElem?_eq_getElem hi) e1) e4
theorem datH_ok (hr : HR G H ρ h) {x : A} {v : V} {d : PyData} (r : RA G H ρ x v) (e : datH x h = some d) : Dp G.K H v d := by
  cases x with
  | ref n =>
    unfold datH at e
    dsimp only at e
    split at e
    · rename_i xs hn
      obtain ⟨a, rfl, _, vs, e3, e4⟩ := hr.look r hn (fun z => by cases z)
      cases h2 : datAll xs with
      | none => rw [h2] at e; cases e
      | some ds =>
        rw [h2] at e
        cases e
        exact .lst (.inl (.inl e3)) (datAll_ok e4 h2)
    · cases e
  | _ => exact dat_ok r e
def eqD (x y : A) (h : Hs) : Out Bool := need (datH x h) fun d => need (datH y h) fun e => chk (SeqAt.shaped d && SeqAt.shaped e) (.ok (PyData.eqv d e) h)
def aEq (x y : A) (h : Hs) : Out A := (eqD x y h).bind fun b h1 => .ok (.bl b) h1
def aNe (x y : A) (h : Hs) : Out A := (eqD x y h).bind fun b h1 => .ok (.bl (!b)) h1
theorem eqD_ok {x y : A} {v u : V} {W : WX} {k : Bool → Hs → Out A} (hr : HR G H ρ h) (rx : RA G H ρ x v) (ry : RA G H ρ y u) (q : Po G W σ H ρ (RQ G Q) ((eqD x y h).bind k)) : ∃ d e, Dp G.K H v d ∧ Dp G.K H u e ∧ SeqAt.shaped d = true ∧ SeqAt.shaped e = true ∧ Po G W σ H ρ (RQ G Q) (k (PyData.eqv d e) h) := by
  unfold eqD at q
  cases h1 : datH x h with
  | none => rw [h1] at q; exact q.elim
  | some d =>
    rw [h1] at q
    cases h2 : datH y h with
    | none => rw [h2] at q; exact q.elim
    | some e =>
      rw [h2] at q
      cases hs : SeqAt.shaped d && SeqAt.shaped e with
      | false => exact (show False by unfold need chk at q; simp only [hs] at q; exact q).elim
      | true =>
        have q' : Po G W σ H ρ (RQ G Q) (k (PyData.eqv d e) h) := by unfold need chk at q; simp only [hs] at q; exact q
        rw [Bool.and_eq_true] at hs
        exact ⟨d, e, datH_ok hr rx h1, datH_ok hr ry h2, hs.1, hs.2, q'⟩
theorem oc_eq (hc : L.cm = true := by rfl) : OpC G L .Eq aEq := by
  refine ⟨fun X xr σ H ρ h x y v u hr rx ry Q q => .of ?_⟩
  obtain ⟨d, e, h1, h2, s1, s2, q⟩ := eqD_ok hr rx ry q
  exact .of (op_eqD (xr.room hc).units) ⟨d, e, by rw [xr.K]; exact h1, by rw [xr.K]; exact h2, s1, s2, q H ρ .refl hr _ .bl⟩
theorem oc_ne (hc : L.cm = true := by rfl) : OpC G L .NotEq aNe := by
  refine ⟨fun X xr σ H ρ h x y v u hr rx ry Q q => .of ?_⟩
  obtain ⟨d, e, h1, h2, s1, s2, q⟩ := eqD_ok hr rx ry q
  exact .of (op_neD (xr.room hc).units) ⟨d, e, by rw [xr.K]; exact h1, by rw [xr.K]; exact h2, s1, s2, q H ρ .refl hr _ .bl⟩
end
end Rx
set_option Elab.async false
set_option linter.all false
set_option maxRecDepth 100000
set_option maxHeartbeats 4000000
/-! RxP: built-in functions, subscripts, in, truth, isinstance, methods of built-in types. -/
namespace Rx
open PySem L2 Sx
open PyProof.Rows (subscriptTail)
section
variable {G : Gc} {L : Wh} {X : Cx} {σ : St} {H : Hp} {ρ : Rho} {sl : Sl} {h : Hs} {Q : VK} {e o : Expr} {es : List Expr} {fa fb : FE} {fs : FA} {pos p apos cpos : Pos}
def f1 (m : A → Hs → Out A) : F := fun xs h => match xs with | [x] => m x h | _ => .bad
def f2 (m : A → A → Hs → Out A) : F := fun xs h => match xs with | [x, y] => m x y h | _ => .bad
theorem ok_one {W : WX} {xs : List A} {vs : List V} {m : A → Hs → Out A} (rs : RAs G H ρ xs vs) (q : Po G W σ H ρ (RQ G Q) (f1 m xs h)) : ∃ x v, xs = [x] ∧ vs = [v] ∧ RA G H ρ x v ∧ Po G W σ H ρ (RQ G Q) (m x h) := by
  cases xs with
  | nil => exact q.elim
  | cons x r =>
    cases r with
    | cons _ _ => exact q.elim
    | nil =>
      obtain ⟨v, us, rfl, rv, rs⟩ := rs.uncons
      rw [rs.unnil]
      exact ⟨x, v, rfl, rfl, rv, q⟩
theorem ok_two {W : WX} {xs : List A} {vs : List V} {m : A → A → Hs → Out A} (rs : RAs G H ρ xs vs) (q : Po G W σ H ρ (RQ G Q) (f2 m xs h)) : ∃ x y v u, xs = [x, y] ∧ vs = [v, u] ∧ RA G H ρ x v ∧ RA G H ρ y u ∧ Po G W σ H ρ (RQ G Q) (m x y h) := by
  cases xs with
  | nil => exact q.elim
  | cons x r =>
    cases r with
    | nil => exact q.elim
    | cons y r =>
      cases r with
      | cons _ _ => exact q.elim
      | nil =>
        obtain ⟨v, us, rfl, rv, rs⟩ := rs.uncons
        obtain ⟨u, us, rfl, ru, rs⟩ := rs.uncons
        rw [rs.unnil]
        exact ⟨x, y, v, u, rfl, rfl, rv, ru, q⟩
/-! ### len, abs, max, min, int, bool -/
def lenA (x : A) (h : Hs) : Out A := match x with
  | .str z => chk (Nat.ble z.length sizeLine) (.ok (.int (Int.ofNat z.length)) h)
  | .tup xs => .ok (.int (Int.ofNat xs.length)) h
  | .scr ns => .ok (.int (Int.ofNat ns.length)) h
  | .dk kvs => .ok (.int (Int.ofNat kvs.length)) h
  | .lst xs => .ok (.int (Int.ofNat xs.length)) h
  | .ref n => (match h[n]? with
    | some (.lst xs) => .ok (.int (Int.ofNat xs.length)) h
    | some (.dk kvs) => .ok (.int (Int.ofNat kvs.length)) h
    | _ => .bad)
  | _ => .bad
theorem ok_len : OpK G L (.builtin "len") (f1 lenA) := by
  refine ⟨fun X xr σ H ρ h xs vs hr rs Q q => .of ?_⟩
  obtain ⟨x, v, rfl, rfl, ra, q⟩ := ok_one rs q
  cases ra with
  | str =>
    obtain ⟨k, q⟩ := chk_ok q
    exact .of call_len ⟨_, _, rfl, ⟨Nat.le_of_ble_eq_true k, rfl⟩, q H ρ .refl hr _ .int⟩
  | tup h1 l r => exact .of call_len ⟨_, _, rfl, .inr ⟨_, by rw [xr.K]; exact h1, rfl⟩, by rw [← l]; exact q H ρ .refl hr _ .int⟩
  | scr h1 =>
    have q := q H ρ .refl hr _ .int
    refine .of call_len ⟨_, _, rfl, .inl ⟨_, by rw [xr.K]; exact h1.sqL, rfl⟩, ?_⟩
    rw [List.length_map]; exact q
  | lst h1 n l r => exact .of call_len ⟨_, _, rfl, .inl ⟨_, .inl (.inl h1), rfl⟩, by rw [← l]; exact q H ρ .refl hr _ .int⟩
  | dk h1 n l r =>
    have hl := congrArg List.length l
    simp only [List.length_map] at hl
    exact .of call_lenD ⟨_, _, rfl, h1, by rw [← hl]; exact q H ρ .refl hr _ .int⟩
  | @ref n a hn hb =>
    unfold lenA at q
    dsimp only at q
    cases hh : h[n]? with
    | none => rw [hh] at q; exact q.elim
    | some ob =>
      rw [hh] at q
      obtain ⟨ad, e1, e2, ro⟩ : ∃ ad, V.ref a = .ref ad ∧ True ∧ RO G H ρ ad ob := by
        cases ob with
        | dead => exact q.elim
        | lst xs => obtain ⟨ad, e1, _, ro⟩ := hr.look (.ref hn hb) hh (fun z => by cases z); exact ⟨ad, e1, trivial, ro⟩
        | dk xs => obtain ⟨ad, e1, _, ro⟩ := hr.look (.ref hn hb) hh (fun z => by cases z); exact ⟨ad, e1, trivial, ro⟩
        | dt xs => exact q.elim
        | ins c xs => exact q.elim
      cases e1
      cases ob with
      | dead => exact q.elim
      | lst xs =>
        obtain ⟨vs, e3, e4⟩ := ro
        exact .of call_len ⟨_, _, rfl, .inl ⟨_, .inl (.inl e3), rfl⟩, by rw [← e4.1]; exact q H ρ .refl hr _ .int⟩
      | dk xs =>
        obtain ⟨vs, e3, e4⟩ := ro
        exact .of call_lenD ⟨_, _, rfl, e3, by rw [← e4.length]; exact q H ρ .refl hr _ .int⟩
      | dt xs => exact q.elim
      | ins c xs => exact q.elim
  | _ => exact q.elim
def absA (x : A) (h : Hs) : Out A := match x with | .int i => .ok (.int (if i < 0 then -i else i)) h | _ => .bad
theorem ok_abs : OpK G L (.builtin "abs") (f1 absA) := by
  refine ⟨fun X xr σ H ρ h xs vs hr rs Q q => .of ?_⟩
  obtain ⟨x, v, rfl, rfl, ra, q⟩ := ok_one rs q
  cases ra <;> try exact q.elim
  exact Sx.k_abs (q H ρ .refl hr _ .int)
def maxA (x y : A) (h : Hs) : Out A := match x with | .int i => (match y with | .int j => .ok (.int (if j > i then j else i)) h | _ => .bad) | _ => .bad
def minA (x y : A) (h : Hs) : Out A := match x with | .int i => (match y with | .int j => .ok (.int (if j < i then j else i)) h | _ => .bad) | _ => .bad
theorem ok_max (hc : L.cm = true := by rfl) : OpK G L (.builtin "max") (f2 maxA) := by
  refine ⟨fun X xr σ H ρ h xs vs hr rs Q q => .of ?_⟩
  obtain ⟨x, y, v, u, rfl, rfl, ra, rb, q⟩ := ok_two rs q
  cases ra <;> try exact q.elim
  cases rb <;> try exact q.elim
  exact .of (call_max2 (xr.calm hc)) ⟨_, _, rfl, q H ρ .refl hr _ .int⟩
theorem ok_min (hc : L.cm = true := by rfl) : OpK G L (.builtin "min") (f2 minA) := by
  refine ⟨fun X xr σ H ρ h xs vs hr rs Q q => .of ?_⟩
  obtain ⟨x, y, v, u, rfl, rfl, ra, rb, q⟩ := ok_two rs q
  cases ra <;> try exact q.elim
  cases rb <;> try exact q.elim
  exact .of (call_min2 (xr.calm hc)) ⟨_, _, rfl, q H ρ .refl hr _ .int⟩
def intA (x : A) (h : Hs) : Out A := match x with | .int i => .ok (.int i) h | .bl b => .ok (.int (if b then 1 else 0)) h | _ => .bad
theorem ok_int : OpK G L (.type "int") (f1 intA) := by
  refine ⟨fun X xr σ H ρ h xs vs hr rs Q q => .of ?_⟩
  obtain ⟨x, v, rfl, rfl, ra, q⟩ := ok_one rs q
  cases ra <;> try exact q.elim
  · exact Sx.k_intB (q H ρ .refl hr _ .int)
  · exact Sx.k_int (q H ρ .refl hr _ .int)
def boolA (x : A) (h : Hs) : Out A := match x with | .int i => .ok (.bl (i != 0)) h | .bl b => .ok (.bl b) h | _ => .bad
theorem ok_bool : OpK G L (.type "bool") (f1 boolA) := by
  refine ⟨fun X xr σ H ρ h xs vs hr rs Q q => .of ?_⟩
  obtain ⟨x, v, rfl, rfl, ra, q⟩ := ok_one rs q
  cases ra <;> try exact q.elim
  · exact .of call_bool1 (.inr ⟨_, rfl, q H ρ .refl hr _ .bl⟩)
  · exact .of call_bool1 (.inl ⟨_, rfl, q H ρ .refl hr _ .bl⟩)
/-! ### list(x), tuple(x): new ones, of a list or a tuple -/
theorem seq_ok (hr : HR G H ρ h) {x : A} {v : V} {xs : List A} (r : RA G H ρ x v) (e : itemsOf x h = some xs) : ∃ a vs, v = .ref a ∧ (SqL G.K H a vs ∨ SqT G.K H a vs) ∧ RAs G H ρ xs vs := by
  unfold itemsOf at e
  cases r with
  | lst h1 nl l r => cases e; exact ⟨_, _, rfl, .inl (.inl (.inl h1)), l, r⟩
  | tup h1 l r => cases e; exact ⟨_, _, rfl, .inr h1, l, r⟩
  | ref hn hr' =>
    dsimp only at e
    split at e
    · cases e
      rename_i q
      obtain ⟨a, e1, e2, vs, e3, e4⟩ := hr.look (.ref hn hr') q (fun z => by cases z)
      exact ⟨a, vs, e1, .inl (.inl (.inl e3)), e4⟩
    · cases e
  | _ => cases e
def listA (x : A) (h : Hs) : Out A := need (itemsOf x h) fun xs => .ok (.lst xs) h
def listTA (x : A) (h : Hs) : Out A := need (itemsOf x h) fun xs => .ok (.ref h.length) (h ++ [.lst xs])
def tupleA (x : A) (h : Hs) : Out A := need (itemsOf x h) fun xs => .ok (.tup xs) h
theorem ok_list : OpK G L (.type "list") (f1 listA) := by
  refine ⟨fun X xr σ H ρ h xs vs hr rs Q q => .of ?_⟩
  obtain ⟨x, v, rfl, rfl, ra, q⟩ := ok_one rs q
  obtain ⟨ys, e, q⟩ := need_ok q
  obtain ⟨a, us, rfl, hs, rl⟩ := seq_ok hr ra e
  exact .of call_list_of ⟨a, us, rfl, by rw [xr.K]; exact hs, fun p np => q _ ρ (hr.ext_new np) (hr.new np) _ (new_lstA hr np rl)⟩
theorem ok_listT : OpK G L (.type "list") (f1 listTA) := by
  refine ⟨fun X xr σ H ρ h xs vs hr rs Q q => .of ?_⟩
  obtain ⟨x, v, rfl, rfl, ra, q⟩ := ok_one rs q
  obtain ⟨ys, e, q⟩ := need_ok q
  obtain ⟨a, us, rfl, hs, rl⟩ := seq_ok hr ra e
  exact .of call_list_of ⟨a, us, rfl, by rw [xr.K]; exact hs, fun p np => by
    obtain ⟨z1, z2⟩ := new_lstT hr np rl
    exact q _ _ (hr.ext_track np) z2 _ z1⟩
theorem ok_tuple : OpK G L (.type "tuple") (f1 tupleA) := by
  refine ⟨fun X xr σ H ρ h xs vs hr rs Q q => .of ?_⟩
  obtain ⟨x, v, rfl, rfl, ra, q⟩ := ok_one rs q
  obtain ⟨ys, e, q⟩ := need_ok q
  obtain ⟨a, us, rfl, hs, rl⟩ := seq_ok hr ra e
  rcases hs with hs | hs
  · exact .of call_tuple_of ⟨a, us, rfl, .inl ⟨by rw [xr.K]; exact hs, fun p np => q _ ρ (hr.ext_new np) (hr.new np) _ (new_tupA hr np rl)⟩⟩
  · exact .of call_tuple_of ⟨a, us, rfl, .inr ⟨by rw [xr.K]; exact hs, q H ρ .refl hr _ (.tup hs rl.1 rl.2)⟩⟩
/-! ### truth -/
def truA (x : A) (h : Hs) : Out Bool := match x with
  | .non => .ok false h
  | .bl b => .ok b h
  | .int i => .ok (i != 0) h
  | .str z => chk (Nat.ble z.length sizeLine) (.ok (Int.ofNat z.length != 0) h)
  | _ => need (itemsOf x h) fun xs => .ok (!xs.isEmpty) h
theorem ot_tru : OpT G L truA := by
  refine ⟨fun X xr σ H ρ h x v hr ra Q q => .of ?_⟩
  have em : ∀ {xs : List A} {vs : List V}, RAs G H ρ xs vs → (!xs.isEmpty) = !vs.isEmpty := fun {xs vs} r => by
    cases xs with
    | nil => rw [r.unnil]; rfl
    | cons x xs => obtain ⟨v, us, rfl, _⟩ := r.uncons; rfl
  have gen : Po G L.W σ H ρ (RB Q) (need (itemsOf x h) fun xs => .ok (!xs.isEmpty) h) → Tr X v H Q := fun q => by
    obtain ⟨ys, e, q⟩ := need_ok q
    obtain ⟨a, us, rfl, hs, rl⟩ := seq_ok hr ra e
    refine .of (k := !ys.isEmpty) ?_ (q H ρ .refl hr)
    rcases hs with hs | hs
    · exact .inl ⟨us, by rw [xr.K]; exact hs, em rl⟩
    · exact .inr (.inl ⟨us, by rw [xr.K]; exact hs, em rl⟩)
  cases x with
  | non => cases ra; exact .of (k := false) rfl (q H ρ .refl hr)
  | bl b => cases ra; exact .of (k := b) rfl (q H ρ .refl hr)
  | int i => cases ra; exact .of (k := (i != 0)) rfl (q H ρ .refl hr)
  | str z =>
    cases ra
    obtain ⟨k, q⟩ := chk_ok q
    exact .of (k := ((z.length : Int) != 0)) ⟨Nat.le_of_ble_eq_true k, rfl⟩ (q H ρ .refl hr)
  | _ => exact gen q
theorem ot_bl : OpT G L isB := by
  refine ⟨fun X xr σ H ρ h x v hr ra Q q => .of ?_⟩
  cases ra <;> try exact q.elim
  exact .of (k := _) rfl (q H ρ .refl hr)
/-! ### x[i] -/
def ixA (x y : A) (h : Hs) : Out A := match y with
  | .int i => (match x with
    | .str z => chk (Nat.ble z.length sizeLine) (need (atI z.cps.toList i) fun c => .ok (.str ⟨#[c]⟩) h)
    | .scr ns => need (atI ns i) fun n => .ok (.int n) h
    | _ => need (itemsOf x h) fun xs => need (atI xs i) fun z => .ok z h)
  | _ => .bad
theorem atI_ok {xs : List A} {vs : List V} {i : Int} {z : A} (rs : RAs G H ρ xs vs) (e : atI xs i = some z) : ∃ v, atI vs i = some v ∧ RA G H ρ z v := by
  unfold atI at e ⊢
  rw [← rs.1]
  cases hi : ixN xs.length i with
  | none => rw [hi] at e; cases e
  | some j =>
    rw [hi] at e
    exact rs.get (i := j) e
theorem ox_ix : OpX G L ixA := by
  refine ⟨fun X xr σ H ρ h x y v u a b hb hr ra rb Q q => .of ?_⟩
  have gen : ∀ i, u = .int i → Po G L.W σ H ρ (RQ G Q) (need (itemsOf x h) fun xs => need (atI xs i) fun z => .ok z h) → Ix X a b v u H Q := fun i eu q => by
    subst eu
    obtain ⟨xs, e, q⟩ := need_ok q
    obtain ⟨z, e2, q⟩ := need_ok q
    obtain ⟨ad, us, rfl, hs, rl⟩ := seq_ok hr ra e
    obtain ⟨w, e3, rw'⟩ := atI_ok rl e2
    rcases hs with hs | hs
    · exact .of ix_list hb ⟨ad, us, i, w, rfl, rfl, by rw [xr.K]; exact hs, e3, q H ρ .refl hr w rw'⟩
    · exact .of ix_tup hb ⟨ad, us, i, w, rfl, rfl, by rw [xr.K]; exact hs, e3, q H ρ .refl hr w rw'⟩
  cases rb <;> try exact q.elim
  rename_i i
  cases x with
  | str z =>
    cases ra
    obtain ⟨k, q⟩ := chk_ok q
    obtain ⟨c, e, q⟩ := need_ok q
    exact .of ix_str hb ⟨z, i, c, rfl, rfl, Nat.le_of_ble_eq_true k, e, q H ρ .refl hr _ .str⟩
  | scr ns =>
    cases ra
    rename_i ad hs
    obtain ⟨n, e, q⟩ := need_ok q
    refine .of ix_list hb ⟨ad, ns.map V.int, i, .int n, rfl, rfl, by rw [xr.K]; exact hs.sqL, ?_, q H ρ .refl hr _ .int⟩
    unfold atI at e ⊢
    rw [List.length_map]
    cases hi : ixN ns.length i with
    | none => rw [hi] at e; cases e
    | some j =>
      rw [hi] at e
      show (ns.map V.int)[j]? = _
      rw [List.getElem?_map, show ns[j]? = some n from e]; rfl
  | _ => exact gen i rfl q
/-! ### x[i] = v on lists -/
def setL (x y z : A) (h : Hs) : Out Unit := match x with
  | .ref n => (match h[n]? with
    | some (.lst xs) => (match y with | .int i => need (ixN xs.length i) fun j => .ok () (h.set n (.lst (xs.set j z))) | _ => .bad)
    | _ => .bad)
  | _ => .bad
theorem os_list : OpS G L setL := by
  refine ⟨fun X xr σ H ρ h x y z v u w hr ra rb rc Q q => .of ?_⟩
  cases x <;> try exact q.elim
  rename_i n
  unfold setL at q
  dsimp only at q
  cases hn : h[n]? with
  | none => rw [hn] at q; exact q.elim
  | some ob =>
    rw [hn] at q
    cases ob <;> try exact q.elim
    rename_i xs
    cases rb <;> try exact q.elim
    rename_i i
    obtain ⟨j, e, q⟩ := need_ok q
    obtain ⟨ad, rfl, e2, vs, e3, e4⟩ := hr.look ra hn (fun z => by cases z)
    refine .of set_list ⟨ad, vs, i, j, rfl, rfl, e3, by rw [← e4.1]; exact e, ?_⟩
    have ex := hr.ext_set (o := .lst (vs.set j w)) e2
    exact q _ ρ ex (hr.set e2 ⟨_, upd_same, (e4.mono ex).set (rc.mono ex) j⟩)
/-! ### in, not in: flat things in lists and tuples -/
def flatA : A → Bool
  | .non => true
  | .bl _ => true
  | .int _ => true
  | .str _ => true
  | _ => false
def eqF (x y : A) : Bool := match x with
  | .non => (match y with | .non => true | _ => false)
  | .bl a => (match y with | .bl b => a == b | .int b => (if a then 1 else 0) == b | _ => false)
  | .int a => (match y with | .bl b => a == (if b then 1 else 0) | .int b => a == b | _ => false)
  | .str a => (match y with | .str b => a == b | _ => false)
  | _ => false
def inF (x : A) (ys : List A) : Bool := ys.any fun y => eqF y x
theorem flat_ok {x : A} {v : V} (r : RA G H ρ x v) (hf : flatA x = true) : flatV v = true := by cases r <;> first | rfl | cases hf
theorem eqF_ok {x y : A} {v u : V} (r : RA G H ρ x v) (s : RA G H ρ y u) (hx : flatA x = true) (hy : flatA y = true) : eqF x y = eqV v u := by
  cases r <;> first | cases hx; done | skip
  all_goals (cases s <;> first | rfl | cases hy)
theorem inF_ok {x : A} {v : V} (r : RA G H ρ x v) (hx : flatA x = true) : ∀ {ys : List A} {us : List V}, RAs G H ρ ys us → ys.all flatA = true → us.all flatV = true ∧ inF x ys = inV v us
  | [], us, rs, _ => by rw [rs.unnil]; exact ⟨rfl, rfl⟩
  | y :: ys, us, rs, hf => by
    obtain ⟨u, us, rfl, ru, rs⟩ := rs.uncons
    rw [List.all_cons, Bool.and_eq_true] at hf
    obtain ⟨i1, i2⟩ := inF_ok r hx rs hf.2
    refine ⟨by rw [List.all_cons, flat_ok ru hf.1, i1]; rfl, ?_⟩
    unfold inF inV at *
    rw [List.any_cons, List.any_cons, eqF_ok ru r hf.1 hx, i2]
def inSeq (x y : A) (h : Hs) : Out Bool := need (itemsOf y h) fun ys => chk (flatA x && ys.all flatA) (.ok (inF x ys) h)
def aIn (x y : A) (h : Hs) : Out A := (inSeq x y h).bind fun b h1 => .ok (.bl b) h1
def aNotIn (x y : A) (h : Hs) : Out A := (inSeq x y h).bind fun b h1 => .ok (.bl (!b)) h1
theorem inSeq_ok {x y : A} {v u : V} {W : WX} {k : Bool → Hs → Out A} (hr : HR G H ρ h) (rx : RA G H ρ x v) (ry : RA G H ρ y u) (q : Po G W σ H ρ (RQ G Q) ((inSeq x y h).bind k)) :
    ∃ a us b, u = .ref a ∧ (SqL G.K H a us ∨ SqT G.K H a us) ∧ flatV v = true ∧ us.all flatV = true ∧ b = inV v us ∧ Po G W σ H ρ (RQ G Q) (k b h) := by
  unfold inSeq at q
  cases h1 : itemsOf y h with
  | none => rw [h1] at q; exact q.elim
  | some ys =>
    rw [h1] at q
    cases hs : flatA x && ys.all flatA with
    | false => exact (show False by unfold need chk at q; simp only [hs] at q; exact q).elim
    | true =>
      have q' : Po G W σ H ρ (RQ G Q) (k (inF x ys) h) := by unfold need chk at q; simp only [hs] at q; exact q
      rw [Bool.and_eq_true] at hs
      obtain ⟨a, us, rfl, hq, rl⟩ := seq_ok hr ry h1
      obtain ⟨i1, i2⟩ := inF_ok rx hs.1 rl hs.2
      exact ⟨a, us, _, rfl, hq, flat_ok rx hs.1, i1, i2, q'⟩
theorem oc_in : OpC G L .In aIn := by
  refine ⟨fun X xr σ H ρ h x y v u hr rx ry Q q => .of ?_⟩
  obtain ⟨a, us, b, rfl, hs, f1, f2, e, q⟩ := inSeq_ok hr rx ry q
  exact .of op_in_seq ⟨a, us, rfl, by rw [xr.K]; exact hs, f1, f2, by rw [← e]; exact q H ρ .refl hr _ .bl⟩
theorem oc_notin : OpC G L .NotIn aNotIn := by
  refine ⟨fun X xr σ H ρ h x y v u hr rx ry Q q => .of ?_⟩
  obtain ⟨a, us, b, rfl, hs, f1, f2, e, q⟩ := inSeq_ok hr rx ry q
  exact .of op_notIn_seq ⟨a, us, rfl, by rw [xr.K]; exact hs, f1, f2, by rw [← e]; exact q H ρ .refl hr _ .bl⟩
/-! ### is None -/
def isN (x y : A) (h : Hs) : Out A := match y with | .non => .ok (.bl (match x with | .non => true | _ => false)) h | _ => .bad
def notN (x y : A) (h : Hs) : Out A := match y with | .non => .ok (.bl (match x with | .non => false | _ => true)) h | _ => .bad
theorem oc_isN : OpC G L .Is isN := by
  refine ⟨fun X xr σ H ρ h x y v u hr rx ry Q q => .of ?_⟩
  cases ry <;> try exact q.elim
  refine Sx.c_isN ?_
  cases rx <;> exact q H ρ .refl hr _ .bl
theorem oc_notN : OpC G L .IsNot notN := by
  refine ⟨fun X xr σ H ρ h x y v u hr rx ry Q q => .of ?_⟩
  cases ry <;> try exact q.elim
  refine Sx.c_notN ?_
  cases rx <;> exact q H ρ .refl hr _ .bl
end
end Rx
set_option Elab.async false
set_option linter.all false
set_option maxRecDepth 100000
set_option maxHeartbeats 4000000
/-! RxQ: methods of texts and lists, slices, a text walked, isinstance, what is left out. -/
namespace Rx
open PySem L2 Sx
open PyProof.Rows (subscriptTail)
section
variable {G : Gc} {L : Wh} {X : Cx} {σ : St} {H : Hp} {ρ : Rho} {sl : Sl} {h : Hs} {Q : VK} {e o tg iter lo hi : Expr} {es : List Expr} {fa fb fo fl fh : FE} {fs : FA} {pos p apos cpos p2 : Pos} {st : Stmt}
/-! ### what no way reaches -/
def eBad : FE := fun _ _ => .bad
def sBad : FS := fun _ _ => .bad
theorem de_bad : DE G L e eBad := ⟨fun X xr σ H ρ sl h sr hh Q q => q.elim⟩
theorem ds_bad : DS G L st sBad := ⟨fun X xr σ H ρ sl h sr hh nx rt bk ct q => q.elim⟩
/-! ### methods of built-in types -/
/-- a method by values, of a text -/
structure OpM (G : Gc) (L : Wh) (id : String) (g : A → List A → Hs → Out A) : Prop where
  run : ∀ X, Xr G X L → ∀ σ H ρ h x xs v vs, HR G H ρ h → RA G H ρ x v → RAs G H ρ xs vs → ∀ Q, Po G L.W σ H ρ (RQ G Q) (g x xs h) → Sx.Mt X id v vs H Q
def eMs (fo : FE) (fs : FA) (g : A → List A → Hs → Out A) : FE := fun sl h => (fo sl h).bind fun x h1 => match x with | .str z => (fs sl h1).bind fun xs h2 => g (.str z) xs h2 | _ => .bad
def eMl (fo : FE) (fs : FA) (g : A → List A → Hs → Out A) : FE := fun sl h => (fo sl h).bind fun x h1 => need (listOf x h1) fun _ => (fs sl h1).bind fun xs h2 => g x xs h2
theorem de_mstr {m : Str} {id : String} {g : A → List A → Hs → Out A} (pa' : PlainAttrs "str") (slot : Slot "str" m id) (hty : typeOf (.builtin id) = pure (.type "method_descriptor")) (hm : OpM G L id g) (ho : DE G L o fo) (ha : DA G L (e :: es) fs)
    (hbase : ∀ env, attributeBase o m env (eval o env) = eval o env := by intro _; rfl)
    (hfew : ∀ env, ((backTo cpos (starEach (e :: es) env)).all (fun x => !x.1) && (backToKw cpos (keywordEach [] env)).all (fun x => x.1.isSome)
      && decide ((e :: es).length + ([] : List Keyword).length + (if ([] : List Keyword).isEmpty then 0 else 1) < 30)) = true := by intro _; rfl)
    (hline : (apos.endLine == cpos.line) = true := by rfl) (he : NoSt e = true := by rfl) (hpl : ∀ env, (backTo cpos (starEach es env)).any (·.1) = false := by intro _; rfl) : DE G L (.Call (.Attribute o m apos) (e :: es) [] cpos) (eMs fo fs g) := by
  refine ⟨fun X xr σ H ρ sl h sr hh Q q => .of (pe_bm pa' slot hty pmt pe pa (hbase _) (hfew _) hline (star_cons he) (hpl _)) ?_⟩
  refine DE.bind ho xr sr hh q fun x h1 v H1 ρ1 e1 r1 ra s1 q1 => ?_
  cases ra <;> try exact q1.elim
  exact ⟨rfl, DA.bind ha xr s1 r1 q1 fun xs h2 vs H2 ρ2 e2 r2 rs s2 q2 => hm.run X xr σ H2 ρ2 h2 _ xs _ vs r2 .str rs Q q2⟩
theorem de_mlst {m : Str} {id : String} {g : A → List A → Hs → Out A} (pa' : PlainAttrs "list") (slot : Slot "list" m id) (hty : typeOf (.builtin id) = pure (.type "method_descriptor")) (hm : OpM G L id g) (ho : DE G L o fo) (ha : DA G L (e :: es) fs)
    (hbase : ∀ env, attributeBase o m env (eval o env) = eval o env := by intro _; rfl)
    (hfew : ∀ env, ((backTo cpos (starEach (e :: es) env)).all (fun x => !x.1) && (backToKw cpos (keywordEach [] env)).all (fun x => x.1.isSome)
      && decide ((e :: es).length + ([] : List Keyword).length + (if ([] : List Keyword).isEmpty then 0 else 1) < 30)) = true := by intro _; rfl)
    (hline : (apos.endLine == cpos.line) = true := by rfl) (he : NoSt e = true := by rfl) (hpl : ∀ env, (backTo cpos (starEach es env)).any (·.1) = false := by intro _; rfl) : DE G L (.Call (.Attribute o m apos) (e :: es) [] cpos) (eMl fo fs g) := by
  refine ⟨fun X xr σ H ρ sl h sr hh Q q => .of (pe_bm pa' slot hty pmt pe pa (hbase _) (hfew _) hline (star_cons he) (hpl _)) ?_⟩
  refine DE.bind ho xr sr hh q fun x h1 v H1 ρ1 e1 r1 ra s1 q1 => ?_
  obtain ⟨ys, e2, q1⟩ := need_ok q1
  obtain ⟨ad, us, rfl, e3, _⟩ := list_ok r1 ra e2
  exact ⟨.inl ⟨rfl, us, .inl (.inl e3)⟩, DA.bind ha xr s1 r1 q1 fun xs h2 vs H2 ρ2 e2 r2 rs s2 q2 => hm.run X xr σ H2 ρ2 h2 _ xs _ vs r2 (ra.mono e2) rs Q q2⟩
def appendA (x : A) (xs : List A) (h : Hs) : Out A := match x with
  | .ref n => (match h[n]? with
    | some (.lst ys) => (match xs with | [y] => chk (Nat.blt ys.length sizeLine) (.ok .non (h.set n (.lst (ys ++ [y])))) | _ => .bad)
    | _ => .bad)
  | _ => .bad
theorem om_append : OpM G L "list.append" appendA := by
  refine ⟨fun X xr σ H ρ h x xs v vs hr ra rs Q q => ?_⟩
  cases x <;> try exact q.elim
  rename_i n
  unfold appendA at q
  dsimp only at q
  cases hn : h[n]? with
  | none => rw [hn] at q; exact q.elim
  | some ob =>
    rw [hn] at q
    cases ob <;> try exact q.elim
    rename_i ys
    cases xs with
    | nil => exact q.elim
    | cons y r =>
      cases r with
      | cons _ _ => exact q.elim
      | nil =>
        obtain ⟨k, q⟩ := chk_ok q
        obtain ⟨u, us, rfl, ru, rs⟩ := rs.uncons
        rw [rs.unnil]
        obtain ⟨ad, rfl, e2, ws, e3, e4⟩ := hr.look ra hn (fun z => by cases z)
        have ex := hr.ext_set (o := .lst (ws ++ [u])) e2
        exact .of (show MtR X _ _ from mt_append) ⟨ad, ws, u, rfl, rfl, e3, by rw [← e4.1]; exact Nat.le_of_ble_eq_true k, q _ ρ ex (hr.set e2 ⟨_, upd_same, (e4.mono ex).append (.cons (ru.mono ex) .nil)⟩) _ .non⟩
def extendA (x : A) (xs : List A) (h : Hs) : Out A := match x with
  | .ref n => (match h[n]? with
    | some (.lst ys) => (match xs with | [y] => need (listOf y h) fun zs => chk (Nat.ble (ys.length + zs.length) sizeLine) (.ok .non (h.set n (.lst (ys ++ zs)))) | _ => .bad)
    | _ => .bad)
  | _ => .bad
theorem om_extend : OpM G L "list.extend" extendA := by
  refine ⟨fun X xr σ H ρ h x xs v vs hr ra rs Q q => ?_⟩
  cases x <;> try exact q.elim
  rename_i n
  unfold extendA at q
  dsimp only at q
  cases hn : h[n]? with
  | none => rw [hn] at q; exact q.elim
  | some ob =>
    rw [hn] at q
    cases ob <;> try exact q.elim
    rename_i ys
    cases xs with
    | nil => exact q.elim
    | cons y r =>
      cases r with
      | cons _ _ => exact q.elim
      | nil =>
        obtain ⟨zs, e1, q⟩ := need_ok q
        obtain ⟨k, q⟩ := chk_ok q
        obtain ⟨u, us, rfl, ru, rs⟩ := rs.uncons
        rw [rs.unnil]
        obtain ⟨ad, rfl, e2, ws, e3, e4⟩ := hr.look ra hn (fun z => by cases z)
        obtain ⟨bd, ts, rfl, e5, e6⟩ := list_ok hr ru e1
        have ex := hr.ext_set (o := .lst (ws ++ ts)) e2
        exact .of (show MtR X _ _ from mt_extend) ⟨ad, bd, ws, ts, rfl, rfl, e3, e5, by rw [← e4.1, ← e6.1]; exact Nat.le_of_ble_eq_true k, q _ ρ ex (hr.set e2 ⟨_, upd_same, (e4.mono ex).append (e6.mono ex)⟩) _ .non⟩
/-- all items are texts -/
def allS : List A → Option (List Str)
  | [] => some []
  | .str x :: xs => (allS xs).map fun ys => x :: ys
  | _ :: _ => none
theorem allS_ok : ∀ {xs : List A} {ys : List Str} {vs : List V}, RAs G H ρ xs vs → allS xs = some ys → vs = ys.map V.str
  | [], ys, vs, r, e => by unfold allS at e; cases e; rw [r.unnil]; rfl
  | x :: xs, ys, vs, r, e => by
    obtain ⟨v, us, rfl, rv, rs⟩ := r.uncons
    cases x <;> try (unfold allS at e; cases e; done)
    unfold allS at e
    cases h2 : allS xs with
    | none => rw [h2] at e; cases e
    | some zs =>
      rw [h2] at e
      cases e
      cases rv
      rw [allS_ok rs h2]; rfl
def sumLen (ys : List Str) : Nat := (ys.map (·.length)).sum
def joinA (x : A) (xs : List A) (h : Hs) : Out A := match x with
  | .str a => (match xs with | [y] => need (itemsOf y h) fun zs => need (allS zs) fun ys => chk (Nat.ble (sumLen ys + ys.length * a.length) 16777216) (.ok (.str (Txt.join a ys)) h) | _ => .bad)
  | _ => .bad
theorem om_join : OpM G L "str.join" joinA := by
  refine ⟨fun X xr σ H ρ h x xs v vs hr ra rs Q q => ?_⟩
  cases ra <;> try exact q.elim
  cases xs with
  | nil => exact q.elim
  | cons y r =>
    cases r with
    | cons _ _ => exact q.elim
    | nil =>
      obtain ⟨zs, e1, q⟩ := need_ok q
      obtain ⟨ys, e2, q⟩ := need_ok q
      obtain ⟨k, q⟩ := chk_ok q
      obtain ⟨u, us, rfl, ru, rs⟩ := rs.uncons
      rw [rs.unnil]
      obtain ⟨ad, ws, rfl, hs, rl⟩ := seq_ok hr ru e1
      have := allS_ok rl e2
      subst this
      exact .of mt_join ⟨_, ad, ys, rfl, rfl, by rw [xr.K]; exact hs, Nat.le_of_ble_eq_true k, q H ρ .refl hr _ .str⟩
def strL (ys : List Str) : List A := ys.map A.str
theorem strL_ok {ys : List Str} : RAs G H ρ (strL ys) (ys.map V.str) := by
  unfold strL
  refine ⟨by simp, fun i x v e1 e2 => ?_⟩
  rw [List.getElem?_map] at e1 e2
  cases hy : ys[i]? with
  | none => rw [hy] at e1; cases e1
  | some y => rw [hy] at e1 e2; cases e1; cases e2; exact .str
def splitA (x : A) (xs : List A) (h : Hs) : Out A := match x with
  | .str a => (match xs with | [.str b] => chk (!(b.length == 0) && Nat.ble (a.length + 2) sizeLine) (.ok (.lst (strL (Txt.split a b))) h) | _ => .bad)
  | _ => .bad
theorem om_split : OpM G L "str.split" splitA := by
  refine ⟨fun X xr σ H ρ h x xs v vs hr ra rs Q q => ?_⟩
  cases ra <;> try exact q.elim
  cases xs with
  | nil => exact q.elim
  | cons y r =>
    cases r with
    | cons _ _ => cases y <;> exact q.elim
    | nil =>
      cases y <;> try exact q.elim
      obtain ⟨u, us, rfl, ru, rs⟩ := rs.uncons
      rw [rs.unnil]
      cases ru
      obtain ⟨k, q⟩ := chk_ok q
      rw [Bool.and_eq_true, Bool.not_eq_true'] at k
      exact .of mt_split ⟨_, _, rfl, rfl, k.1, Nat.le_of_ble_eq_true k.2, fun p np => q _ ρ (hr.ext_new np) (hr.new np) _ (new_lstA hr np strL_ok)⟩
/-! ### slices -/
structure DO (G : Gc) (L : Wh) (e : Option Expr) (f : Sl → Hs → Out (Option Int)) : Prop where
  run : ∀ X, Xr G X L → ∃ t : TO, PO X e t ∧ ∀ σ H ρ sl h, SR G H ρ sl σ → HR G H ρ h → ∀ Q : Option Int → Hp → Prop, Po G L.W σ H ρ (fun a H' _ => Q a H') (f sl h) → t σ H Q
def oNone : Sl → Hs → Out (Option Int) := fun _ h => .ok none h
def oSome (fa : FE) : Sl → Hs → Out (Option Int) := fun sl h => (fa sl h).bind fun x h1 => match x with | .int i => .ok (some i) h1 | _ => .bad
theorem do_none : DO G L none oNone := ⟨fun X xr => ⟨_, po_none, fun σ H ρ sl h sr hh Q q => q H ρ .refl hh⟩⟩
theorem do_some (ha : DE G L e fa) : DO G L (some e) (oSome fa) := ⟨fun X xr => ⟨_, po_some pe, fun σ H ρ sl h sr hh Q q => DE.bind ha xr sr hh q fun x h1 v H1 ρ1 e1 r1 ra s1 q1 => by
  cases ra <;> try exact q1.elim
  exact ⟨_, rfl, q1 H1 ρ1 .refl r1⟩⟩⟩
def cutA (xs : List A) (lo hi : Option Int) : List A := (xs.drop (HT.sIx xs.length 0 lo)).take (HT.sIx xs.length xs.length hi - HT.sIx xs.length 0 lo)
theorem RAs.drop {xs : List A} {vs : List V} (r : RAs G H ρ xs vs) (n : Nat) : RAs G H ρ (xs.drop n) (vs.drop n) := ⟨by simp [r.1], fun i x v e1 e2 => r.2 (n + i) x v (by rw [← List.getElem?_drop]; exact e1) (by rw [← List.getElem?_drop]; exact e2)⟩
theorem RAs.take {xs : List A} {vs : List V} (r : RAs G H ρ xs vs) (n : Nat) : RAs G H ρ (xs.take n) (vs.take n) := ⟨by simp [r.1], fun i x v e1 e2 => by
  by_cases hi : i < n
  · rw [List.getElem?_take_of_lt hi] at e1 e2; exact r.2 i x v e1 e2
  · rw [List.getElem?_eq_none (by simp; omega)] at e1; cases e1⟩
theorem cut_ok {xs : List A} {vs : List V} {lo hi : Option Int} (r : RAs G H ρ xs vs) : RAs G H ρ (cutA xs lo hi) (cutV vs lo hi) := by
  unfold cutA cutV
  rw [← r.1]
  exact (r.drop _).take _
/-- x[lo:hi] of a text, a tuple, a list: new (a list: standing still) -/
def slA (x : A) (lo hi : Option Int) (h : Hs) : Out A := match x with
  | .str z => chk (Nat.ble z.length sizeLine) (.ok (.str (cutS z lo hi)) h)
  | .tup xs => .ok (.tup (cutA xs lo hi)) h
  | _ => need (listOf x h) fun xs => .ok (.lst (cutA xs lo hi)) h
def eSl (fa : FE) (fl fh : Sl → Hs → Out (Option Int)) : FE := fun sl h => (fa sl h).bind fun x h1 => (fl sl h1).bind fun l h2 => (fh sl h2).bind fun u h3 => slA x l u h3
theorem bindO {β : Type} {t : TO} {f : Sl → Hs → Out (Option Int)} {k : Option Int → Hs → Out β} {R : β → Hp → Rho → Prop} {Q : Option Int → Hp → Prop} (g : ∀ σ H ρ sl h, SR G H ρ sl σ → HR G H ρ h → ∀ Q : Option Int → Hp → Prop, Po G L.W σ H ρ (fun a H' _ => Q a H') (f sl h) → t σ H Q) (sr : SR G H ρ sl σ) (hr : HR G H ρ h) (q : Po G L.W σ H ρ R ((f sl h).bind k))
    (c : ∀ x h1 H1 ρ1, Ext H ρ H1 ρ1 → HR G H1 ρ1 h1 → SR G H1 ρ1 sl σ → Po G L.W σ H1 ρ1 R (k x h1) → Q x H1) : t σ H Q := by
  refine g σ H ρ sl h sr hr Q ?_
  cases hm : f sl h with
  | ok x h1 => rw [hm] at q; exact fun H1 ρ1 e1 r1 => c x h1 H1 ρ1 e1 r1 (sr.mono e1) (Po.at1 (m := k x h1) q e1)
  | ex x h1 => rw [hm] at q; exact q
  | bad => rw [hm] at q; exact q
theorem de_slice {lo hi : Option Expr} {fl fh : Sl → Hs → Out (Option Int)} (ha : DE G L e fa) (hl : DO G L lo fl) (hu : DO G L hi fh) : DE G L (.Subscript e (.Slice lo hi none p2) pos) (eSl fa fl fh) := by
  refine ⟨fun X xr σ H ρ sl h sr hh Q q => ?_⟩
  obtain ⟨tl, pl, gl⟩ := hl.run X xr
  obtain ⟨th, ph, gh⟩ := hu.run X xr
  have z : E X e σ H fun x H1 => tl σ H1 fun l H2 => th σ H2 fun u H3 => (∃ zz, x = .str zz ∧ zz.length ≤ sizeLine ∧ Q (.str (cutS zz l u)) H3) ∨ rSlA X.K x l u H3 Q ∨ rSlL X.K x l u H3 Q := by
    refine DE.bind ha xr sr hh q fun x h1 v H1 ρ1 e1 r1 ra s1 q1 => bindO gl s1 r1 q1 fun l h2 H2 ρ2 e2 r2 s2 q2 => bindO gh s2 r2 q2 fun u h3 H3 ρ3 e3 r3 s3 q3 => ?_
    have ra := (ra.mono e2).mono e3
    have gen : Po G L.W σ H3 ρ3 (RQ G Q) (need (listOf x h3) fun xs => .ok (.lst (cutA xs l u)) h3) → rSlL X.K v l u H3 Q := fun q3 => by
      obtain ⟨xs, e4, q3⟩ := need_ok q3
      obtain ⟨ad, vs, rfl, e5, rl⟩ := list_ok r3 ra e4
      exact ⟨ad, vs, rfl, .inl (.inl e5), fun p np => q3 _ ρ3 (r3.ext_new np) (r3.new np) _ (new_lstA r3 np (cut_ok rl))⟩
    cases x with
    | str zz =>
      cases ra
      obtain ⟨k, q3⟩ := chk_ok q3
      exact .inl ⟨zz, rfl, Nat.le_of_ble_eq_true k, q3 H3 ρ3 .refl r3 _ .str⟩
    | tup xs =>
      cases ra
      rename_i ad vs hq ll r
      refine .inr (.inl ⟨ad, vs, rfl, by rw [xr.K]; exact hq, fun z => ?_, fun _ p np => q3 _ ρ3 (r3.ext_new np) (r3.new np) _ (new_tupA r3 np (cut_ok ⟨ll, r⟩))⟩)
      have ec : cutA xs l u = xs := by
        unfold cutA
        rw [ll, z.1, z.2, Nat.sub_zero, List.drop_zero]
        exact List.take_of_length_le (by omega)
      have q4 := q3 H3 ρ3 .refl r3 (.ref ad)
      rw [ec] at q4
      exact q4 (.tup hq ll r)
    | _ => exact .inr (.inr (gen q3))
  refine .of (pe_slice (r := fun x l u H Q => (∃ zz, x = .str zz ∧ zz.length ≤ sizeLine ∧ Q (.str (cutS zz l u)) H) ∨ rSlA X.K x l u H Q ∨ rSlL X.K x l u H Q) ?_ pe pl ph) z
  intro pins s σ H x v vl vu l u slc Q I rx hs pl pu hq
  rcases hq with hq | hq | hq
  · exact sl_str pins s σ H x v vl vu l u slc Q I rx hs pl pu hq
  · exact sl_tupA pins s σ H x v vl vu l u slc Q I rx hs pl pu hq
  · exact sl_list pins s σ H x v vl vu l u slc Q I rx hs pl pu hq
/-! ### a text walked -/
def signs (z : Str) : List A := z.cps.toList.map fun c => .str ⟨#[c]⟩
def iStrA (fa : FE) : FA := fun sl h => (fa sl h).bind fun x h1 => match x with | .str z => .ok (signs z) h1 | _ => .bad
theorem di_str (ha : DE G L iter fa) : DI G L tg iter (iStrA fa) := by
  refine ⟨fun X xr σ H ρ sl h sr hh R q => ?_⟩
  refine .of (pi_str pe) (DE.bind ha xr sr hh q fun x h1 v H1 ρ1 e1 r1 ra s1 q1 => ?_)
  cases ra <;> try exact q1.elim
  rename_i z
  refine ⟨z, rfl, q1 H1 ρ1 .refl r1 _ fun H2 ρ2 h2 k hr i => ⟨fun x hx => ?_, fun hi => ?_⟩⟩
  · unfold signs at hx
    rw [List.getElem?_map, Array.getElem?_toList] at hx
    cases hc : z.cps[i]? with
    | none => rw [hc] at hx; cases hx
    | some c =>
      rw [hc] at hx
      cases hx
      have hi : i < z.cps.size := by
        by_cases hi : i < z.cps.size
        · exact hi
        · rw [Array.getElem?_eq_none (by omega)] at hc; cases hc
      refine ⟨hi, fun v H3 ⟨y1, c', y2, y3⟩ => ⟨.inl y1, ?_⟩⟩
      rw [hc] at y2
      cases y2
      rw [y3]
      exact .str
  · show z.cps.size ≤ i
    unfold signs at hi
    simpa using hi
end
end Rx
namespace Rx
open PySem L2 Sx
def iLst (fa : FE) : FA := fun sl h => (fa sl h).bind fun x h1 => match x with | .lst xs => .ok xs h1 | _ => .bad
def iTup (fa : FE) : FA := fun sl h => (fa sl h).bind fun x h1 => match x with | .tup xs => .ok xs h1 | _ => .bad
theorem di_list' {G : Gc} {L : Wh} {tg iter : Expr} {fa : FE} (ha : DE G L iter fa) : DI G L tg iter (iLst fa) := di_list ha
theorem di_tup' {G : Gc} {L : Wh} {tg iter : Expr} {fa : FE} (ha : DE G L iter fa) : DI G L tg iter (iTup fa) := di_tup ha
def gBad : FG := fun _ _ _ => .bad
theorem dg_bad {G : Gc} {L : Wh} {ws : List Nat} {tg : Expr} : DGw G L ws tg gBad := ⟨fun X xr σ H ρ sl h a v sr hh ra Q q => q.elim⟩
/-- a great number that nothing unfolds -/
def fuelUp (n : Nat) : Nat := if h : n = 0 then 1000000000 else fuelUp (n - 1)
termination_by n
decreasing_by omega
def FUEL : Nat := fuelUp 0
theorem FUEL_eq : FUEL = 1000000000 := by
  unfold FUEL
  rw [fuelUp]
  rfl
theorem fuel_gt {m : Nat} (h : m < 1000000000) : m < FUEL := by rw [FUEL_eq]; exact h
end Rx
set_option Elab.async false
set_option linter.all false
set_option maxRecDepth 100000
set_option maxHeartbeats 4000000
/-! RxR: own operators, isinstance, zip. -/
namespace Rx
open PySem L2 Sx
open PyProof.Rows (subscriptTail)
section
variable {G : Gc} {L : Wh} {X : Cx} {σ : St} {H : Hp} {ρ : Rho} {sl : Sl} {h : Hs} {Q : VK}
/-! ### isinstance -/
structure Isa where
  sub : Nat → Nat → Option Bool
  bt : Nat → String → Option Bool
  tb : String → Nat → Option Bool
/-- an instance's class as isinstance wants it -/
structure InsT (G : Gc) (c : Nat) : Prop where
  cl : Cls G.K (G.cad c)
  ha : PySem.W.findIn G.K (.ref (G.cad c)) "__class__" = some (some (.builtin "object.__class__"))
  hn : PySem.W.specialIn G.K (.builtin "object.__class__") "__get__" = some (some (.builtin "getset_descriptor.__get__"))
  htk : PySem.W.takesIn G.K (.builtin "object.__class__") = some true
  hm : PySem.W.mroIn G.K (G.cad c) (.type "object") = some true
structure IsaOk (G : Gc) (I : Isa) : Prop where
  sub : ∀ c d b, I.sub c d = some b → InsT G c ∧ PySem.W.kitOne G.K (.ref (G.cad c)) (.ref (G.cad d)) = some b
  bt : ∀ c n b, I.bt c n = some b → InsT G c ∧ PySem.W.kitOne G.K (.ref (G.cad c)) (.type n) = some b
  tb : ∀ n d b, I.tb n d = some b → PySem.W.kitOne G.K (.type n) (.ref (G.cad d)) = some b
/-- the name of a value's built-in type -/
def tyN (x : A) (h : Hs) : Option String := match x with
  | .non => some "NoneType"
  | .bl _ => some "bool"
  | .int _ => some "int"
  | .str _ => some "str"
  | .tup _ => some "tuple"
  | .lst _ => some "list"
  | .dk _ => some "dict"
  | .dt _ => some "dict"
  | .ref n => (match h[n]? with | some (.lst _) => some "list" | some (.dk _) => some "dict" | some (.dt _) => some "dict" | _ => none)
  | _ => none
theorem tyN_ok (hr : HR G H ρ h) {x : A} {v : V} {n : String} (r : RA G H ρ x v) (e : tyN x h = some n) : TyX G.K H v (.type n) := by
  cases r with
  | non => cases e; exact .base .non
  | bl => cases e; exact .base (.bl _)
  | int => cases e; exact .base (.int _)
  | str => cases e; exact .base (.str _)
  | ty => cases e
  | cls => cases e
  | scr _ => cases e
  | tup h1 _ _ =>
    cases e
    rcases h1 with (h1 | ⟨o, h1⟩) | ⟨o, its, n, h1, h2, _⟩
    · exact .base (.tup h1)
    · exact .fTuple h1
    · exact .kTuple h1 h2
  | lst h1 _ _ _ => cases e; exact .base (.lst h1)
  | dk h1 _ _ _ => cases e; exact .base (.dK h1)
  | dt h1 _ _ _ => cases e; exact .base (.dT h1)
  | ins _ _ _ _ _ => cases e
  | ref hn hb =>
    unfold tyN at e
    dsimp only at e
    split at e
    · cases e
      rename_i q
      obtain ⟨a, e1, _, vs, e3, _⟩ := hr.look (.ref hn hb) q (fun z => by cases z)
      cases e1; exact .base (.lst e3)
    · cases e
      rename_i q
      obtain ⟨a, e1, _, vs, e3, _⟩ := hr.look (.ref hn hb) q (fun z => by cases z)
      cases e1; exact .base (.dK e3)
    · cases e
      rename_i q
      obtain ⟨a, e1, _, vs, e3, _⟩ := hr.look (.ref hn hb) q (fun z => by cases z)
      cases e1; exact .base (.dT e3)
    · cases e
def isaB (I : Isa) (x y : A) (h : Hs) : Option Bool := match instOf x h with
  | some (c, _) => (match y with | .cls d => I.sub c d | .ty n => I.bt c n | _ => none)
  | none => (match tyN x h with
    | some t => (match y with | .cls d => I.tb t d | .ty n => kitB t n | _ => none)
    | none => none)
def isaA (I : Isa) (x y : A) (h : Hs) : Out A := need (isaB I x y h) fun b => .ok (.bl b) h
theorem ok_isa {I : Isa} (io : IsaOk G I) : OpK G L (.builtin "isinstance") (f2 (isaA I)) := by
  refine ⟨fun X xr σ H ρ h xs vs hr rs Q q => .of ?_⟩
  obtain ⟨x, y, v, u, rfl, rfl, ra, rb, q⟩ := ok_two rs q
  obtain ⟨b, e, q⟩ := need_ok q
  have fin := q H ρ .refl hr _ .bl
  clear q
  unfold isaB at e
  cases hi : instOf x h with
  | some pr =>
    obtain ⟨c, ys⟩ := pr
    rw [hi] at e
    obtain ⟨a, dx, ws, rfl, e3, _⟩ := inst_ok hr ra hi
    have tyx : InsT G c → TyX X.K H (.ref a) (.ref (G.cad c)) := fun it => by
      rw [xr.K]; exact .base (.ins e3 it.cl it.ha it.hn it.htk it.hm)
    cases rb <;> dsimp only at e <;> try (cases e; done)
    · obtain ⟨it, k⟩ := io.bt _ _ _ e
      exact .of call_isi ⟨_, _, _, _, b, rfl, .ty _, tyx it, by rw [xr.K]; exact k, fin⟩
    · obtain ⟨it, k⟩ := io.sub _ _ _ e
      exact .of call_isi ⟨_, _, _, _, b, rfl, .own _, tyx it, by rw [xr.K]; exact k, fin⟩
  | none =>
    rw [hi] at e
    dsimp only at e
    cases ht : tyN x h with
    | none => rw [ht] at e; cases e
    | some t =>
      rw [ht] at e
      have ty := tyN_ok hr ra ht
      cases rb <;> dsimp only at e <;> try (cases e; done)
      · exact .of call_isi ⟨_, _, _, _, b, rfl, .ty _, by rw [xr.K]; exact ty, kit_ty e, fin⟩
      · exact .of call_isi ⟨_, _, _, _, b, rfl, .own _, by rw [xr.K]; exact ty, by rw [xr.K]; exact io.tb _ _ _ e, fin⟩
/-! ### own operators -/
theorem run_mt {m : Str} {j c n : Nat} {f : F} {pins : List (Addr × Obj)} {s : Shared} {us : List Value} {xs : List A} {vs : List V} (xr : Xr G X L) (hc : L.cm = true) (hj : j ≤ L.k) (M : MtC G m j c n f) (I : Inv X pins σ H s) (hr : HR G H ρ h) (rs : RAs G H ρ xs vs) (r : Vals vs us) (q : Po G L.W σ H ρ (RQ G Q) (f xs h)) :
    ∃ fa : Addr, Meth X.K (G.cad c) m fa ∧ wpAny (model X.prog X.w) X.A (call (.ref fa) us) (EP X pins σ Q) X.xe s := by
  obtain ⟨fa, fd, ps, Fn, hm, b⟩ := M.ex
  exact ⟨fa, by rw [xr.K]; exact hm, run_fnS (E := WE L.W) (xr.fn Fn) ((xr.room hc).mono hj) (by rw [xr.K]; exact b) (xr.pass σ) I r (sp_of M.ar hr rs q)⟩
/-- classes among which an operator goes by the left one's method -/
structure OwB (G : Gc) (op : Operator) (m : Str) (j : Nat) (mt : Mt) (cs : List Nat) : Prop where
  nm : PySem.dunder op.info.2 = m
  mt : MtOk G m j mt
  sf : ∀ c ∈ cs, PySem.W.selfFirst G.K (G.cad c) = true
  fr : ∀ c ∈ cs, ∃ rc, PySem.W.findIn G.K (.ref (G.cad c)) (PySem.dunderR op.info.2) = some rc ∧ (rc = none ∨ ∃ g : Addr, rc = some (.ref g))
  has : ∀ c ∈ cs, ∃ g : Addr, PySem.W.findIn G.K (.ref (G.cad c)) m = some (some (.ref g))
  ne : ∀ c ∈ cs, ∀ d ∈ cs, c ≠ d → G.cad c ≠ G.cad d ∧ PySem.W.subIn G.K (.ref (G.cad d)) (.ref (G.cad c)) = some false
def ownB (mt : Mt) (cs : List Nat) (g : A → A → Hs → Out A) (x y : A) (h : Hs) : Out A := match instOf x h with
  | some (c, _) => (match instOf y h with
    | some (d, _) => chk (cs.contains c && cs.contains d) (need (mt c) fun f => f [x, y] h)
    | none => .bad)
  | none => g x y h
theorem ob_own {op : Operator} {m : Str} {j : Nat} {mt : Mt} {cs : List Nat} {g : A → A → Hs → Out A} (O : OwB G op m j mt cs) (hg : OpB G L op g) (hj : j ≤ L.k) (hc : L.cm = true := by rfl) : OpB G L op (ownB mt cs g) := by
  refine ⟨fun X xr σ H ρ h x y v u hr rx ry Q q => ?_⟩
  unfold ownB at q
  cases hi : instOf x h with
  | none => rw [hi] at q; exact hg.run X xr σ H ρ h x y v u hr rx ry Q q
  | some pr =>
    obtain ⟨c, xs⟩ := pr
    rw [hi] at q
    dsimp only at q
    cases hk : instOf y h with
    | none => rw [hk] at q; exact q.elim
    | some pr2 =>
      obtain ⟨d, ys⟩ := pr2
      rw [hk] at q
      obtain ⟨k, q⟩ := chk_ok q
      obtain ⟨f, e, q⟩ := need_ok q
      rw [Bool.and_eq_true, List.contains_iff_mem, List.contains_iff_mem] at k
      obtain ⟨n, M⟩ := O.mt c f e
      obtain ⟨a, dx, vs, rfl, e1, _⟩ := inst_ok hr rx hi
      obtain ⟨b, dy, us, rfl, e2, _⟩ := inst_ok hr ry hk
      refine ⟨fun pins s v u I r1 r2 => ?_⟩
      cases r1
      cases r2
      obtain ⟨fa, hm, run⟩ := run_mt (us := [.ref a, .ref b]) xr hc hj M I hr (.cons rx (.cons ry .nil)) (.cons rfl (.cons rfl .nil)) q
      have run := wpAny_mono run (fun _ _ z => ep_cmp z) fun _ _ z => z
      obtain ⟨od, J⟩ := inst_at I e1
      obtain ⟨od', J'⟩ := inst_at I e2
      have eK := xr.K
      by_cases hcd : c = d
      · subst hcd
        obtain ⟨m', hF⟩ := I.fr
        exact PySem.W.binop_K hF I.ok.mod.kin J J'.type (by rw [eK]; exact O.sf c k.1) (by rw [O.nm]; exact hm.at_) hm.fn run
      · obtain ⟨hne, hsub⟩ := O.ne c k.1 d k.2 hcd
        obtain ⟨rc, hr1, hp1⟩ := O.fr c k.1
        obtain ⟨rd, hr2, hp2⟩ := O.fr d k.2
        obtain ⟨gg', hg2⟩ := O.has d k.2
        have hc1 := O.sf c k.1
        have hd1 := O.sf d k.2
        have nm := O.nm
        rw [← eK] at hsub hr1 hr2 hg2 hc1 hd1
        subst nm
        have one := PySem.W.ksp_try I.kIn J hm.at_ hm.fn run
        have X' := I.kIn
        have hs1 := hm.at_
        obtain ⟨cd, rest, hcc, hmr⟩ := PySem.W.ksp_first hc1
        obtain ⟨cd', rest', hcc', hmr'⟩ := PySem.W.ksp_first hd1
        rcases hi2 : op.info with ⟨sym, nm⟩
        rw [hi2] at one hg2 hr1 hr2 hs1
        dsimp only at one hg2 hr1 hr2 hs1
        obtain ⟨hh, gg, dd, tt, os⟩ := s
        have L1 : PySem.W.Looks (model X.prog X.w) hh (typeOf (.ref a)) (.ref (G.cad c)) := J.type
        have L2 : PySem.W.Looks (model X.prog X.w) hh (typeOf (.ref b)) (.ref (G.cad d)) := J'.type
        have L3 : PySem.W.Looks (model X.prog X.w) hh (fillsNumberSlot (.ref (G.cad c)) nm) true := PySem.W.fills_K X' hcc hmr hs1
        have L4 : PySem.W.Looks (model X.prog X.w) hh (fillsNumberSlot (.ref (G.cad d)) nm) true := PySem.W.fills_K X' hcc' hmr' hg2
        have L5 : PySem.W.Looks (model X.prog X.w) hh (isSubtype (.ref (G.cad d)) (.ref (G.cad c))) false := PySem.W.looks_subIn X' hsub
        have L6 : PySem.W.Looks (model X.prog X.w) hh (numberSlotInPython (.ref (G.cad c)) nm) true := PySem.W.ksp_inPy X' hs1 hr1 hp1
        have L7 : PySem.W.Looks (model X.prog X.w) hh (numberSlotInPython (.ref (G.cad d)) nm) true := PySem.W.ksp_inPy X' hg2 hr2 hp2
        have hne' : (Value.ref (G.cad c) == Value.ref (G.cad d)) = false := Bool.eq_false_iff.mpr fun q => hne (by have := beq_iff_eq.mp q; injection this)
        simp only [binaryOp, hi2]
        refine wpAny_holding (wpAny_bind ?_)
        unfold binaryOp1
        refine wpAny_bind (L1.at (wpAny_bind (L2.at (wpAny_bind (L3.at ?_)))))
        simp only [hne', Bool.false_eq_true, if_false]
        refine wpAny_bind (L4.at ?_)
        simp only [Bool.and_self, if_true]
        refine wpAny_bind (L5.at ?_)
        simp only [Bool.false_eq_true, if_false, Bool.not_false, Bool.and_self, if_true]
        refine wpAny_bind (L6.at ?_)
        simp only [if_true]
        refine wpAny_bind (L7.at ?_)
        simp only [Bool.not_true, Bool.false_eq_true, if_false]
        refine wpAny_bind (wpAny_mono one (fun r s' hr'' => ?_) fun _ _ e => e)
        obtain ⟨v, rfl, hq⟩ := hr''
        ksp_lk
        exact hq
/-- own * int, int * own -/
structure OwM (G : Gc) (j : Nat) (mt rmt : Mt) (c : Nat) : Prop where
  mt : MtOk G "__mul__" j mt
  rmt : MtOk G "__rmul__" j rmt
  sf : PySem.W.selfFirst G.K (G.cad c) = true
  fr : ∃ g : Addr, PySem.W.findIn G.K (.ref (G.cad c)) "__rmul__" = some (some (.ref g))
  hg : ∃ g : Addr, PySem.W.findIn G.K (.ref (G.cad c)) "__mul__" = some (some (.ref g))
  h1 : PySem.W.findIn G.K (.type "int") "__mul__" = some (some (.builtin "int.__mul__"))
  h2 : PySem.W.findIn G.K (.type "int") "__rmul__" = some (some (.builtin "int.__rmul__"))
  s1 : PySem.W.subIn G.K (.type "int") (.ref (G.cad c)) = some false
  s2 : PySem.W.subIn G.K (.ref (G.cad c)) (.type "int") = some false
def isI : A → Bool | .int _ => true | _ => false
def ownM (mt rmt : Mt) (c : Nat) (g : A → A → Hs → Out A) (x y : A) (h : Hs) : Out A := match instOf x h with
  | some (d, _) => chk (Nat.beq c d && isI y) (need (mt c) fun f => f [x, y] h)
  | none => (match instOf y h with
    | some (d, _) => chk (Nat.beq c d && isI x) (need (rmt c) fun f => f [y, x] h)
    | none => g x y h)
theorem ob_ownM {j : Nat} {mt rmt : Mt} {c : Nat} {g : A → A → Hs → Out A} (O : OwM G j mt rmt c) (hg : OpB G L .Mult g) (hj : j ≤ L.k) (hc : L.cm = true := by rfl) : OpB G L .Mult (ownM mt rmt c g) := by
  refine ⟨fun X xr σ H ρ h x y v u hr rx ry Q q => ?_⟩
  have eK := xr.K
  have d1 : PySem.dunder "mul" = ("__mul__" : Str) := by decide +kernel
  have d2 : PySem.dunderR "mul" = ("__rmul__" : Str) := by decide +kernel
  unfold ownM at q
  cases hi : instOf x h with
  | some pr =>
    obtain ⟨d, xs⟩ := pr
    rw [hi] at q
    obtain ⟨k, q2⟩ := chk_ok q
    obtain ⟨f, e, q3⟩ := need_ok q2
    clear q q2
    rw [Bool.and_eq_true] at k
    have hd := Nat.eq_of_beq_eq_true k.1
    subst hd
    obtain ⟨n, M⟩ := O.mt c f e
    obtain ⟨a, dx, vs, rfl, e1, _⟩ := inst_ok hr rx hi
    obtain ⟨i, rfl⟩ : ∃ i, y = .int i := by cases y <;> first | exact ⟨_, rfl⟩ | (have := k.2; cases this)
    have ry' := ry
    obtain rfl : u = .int i := by cases ry; rfl
    refine ⟨fun pins s v u I r1 r2 => ?_⟩
    cases r1
    obtain ⟨t, rfl⟩ := id r2
    obtain ⟨fa, hm, run⟩ := run_mt (us := [.ref a, .int i t]) xr hc hj M I hr (.cons rx (.cons ry' .nil)) (.cons rfl (.cons r2 .nil)) q3
    obtain ⟨m', hF⟩ := I.fr
    obtain ⟨od, J⟩ := inst_at I e1
    obtain ⟨rg, hrg⟩ := O.fr
    have z1 := O.sf; have z2 := O.h1; have z3 := O.h2; have z4 := O.s1
    rw [← eK] at z1 z2 z3 z4 hrg
    refine PySem.W.ksp_binT (T := "int") hF I.ok.mod.kin J rfl z1 (by show PySem.W.findIn X.K _ (PySem.dunder "mul") = _; rw [d1]; exact hm.at_) hm.fn (by show PySem.W.findIn X.K _ (PySem.dunderR "mul") = _; rw [d2]; exact hrg) (.inr ⟨rg, rfl⟩) (by show PySem.W.findIn X.K _ (PySem.dunder "mul") = _; rw [d1]; exact z2) (by show PySem.W.findIn X.K _ (PySem.dunderR "mul") = _; rw [d2]; exact z3) z4 ?_
    exact wpAny_mono run (fun _ _ z => ep_cmp z) fun _ _ z => z
  | none =>
    rw [hi] at q
    dsimp only at q
    cases hk : instOf y h with
    | none => rw [hk] at q; exact hg.run X xr σ H ρ h x y v u hr rx ry Q q
    | some pr =>
      obtain ⟨d, ys⟩ := pr
      rw [hk] at q
      obtain ⟨k, q2⟩ := chk_ok q
      obtain ⟨f, e, q3⟩ := need_ok q2
      clear q q2
      rw [Bool.and_eq_true] at k
      have hd := Nat.eq_of_beq_eq_true k.1
      subst hd
      obtain ⟨n, M⟩ := O.rmt c f e
      obtain ⟨a, dx, vs, rfl, e1, _⟩ := inst_ok hr ry hk
      obtain ⟨i, rfl⟩ : ∃ i, x = .int i := by cases x <;> first | exact ⟨_, rfl⟩ | (have := k.2; cases this)
      have rx' := rx
      obtain rfl : v = .int i := by cases rx; rfl
      refine ⟨fun pins s v u I r1 r2 => ?_⟩
      cases r2
      obtain ⟨t, rfl⟩ := id r1
      obtain ⟨fa, hm, run⟩ := run_mt (us := [.ref a, .int i t]) xr hc hj M I hr (.cons ry (.cons rx' .nil)) (.cons rfl (.cons r1 .nil)) q3
      have run := wpAny_mono run (fun _ _ z => ep_cmp z) fun _ _ z => z
      have hx := (ins_get I.hok e1).choose_spec.1.obj
      obtain ⟨od, J⟩ := inst_at I e1
      have one := PySem.W.ksp_try I.kIn J hm.at_ hm.fn run
      have X' := I.kIn
      obtain ⟨gm, hgm⟩ := O.hg
      have z1 := O.sf; have z2 := O.h1; have z3 := O.h2; have z4 := O.s2
      rw [← eK] at z1 z2 z3 z4 hgm
      obtain ⟨cd, rest, hcd, hmr⟩ := PySem.W.ksp_first z1
      obtain ⟨hh, gg, d, tt, os⟩ := s
      have L1 : PySem.W.Looks (model X.prog X.w) hh (typeOf (.int i t)) (.type "int") := PySem.W.Looks.of_pure rfl
      have L2 : PySem.W.Looks (model X.prog X.w) hh (typeOf (.ref a)) (.ref (G.cad c)) := J.type
      have L3 : PySem.W.Looks (model X.prog X.w) hh (fillsNumberSlot (.type "int") "mul") true := PySem.W.ksp_fillsT X' (by rw [d1]; exact z2) (by rw [d2]; exact z3)
      have L4 : PySem.W.Looks (model X.prog X.w) hh (fillsNumberSlot (.ref (G.cad c)) "mul") true := PySem.W.fills_K X' hcd hmr (by rw [d1]; exact hgm)
      have L5 : PySem.W.Looks (model X.prog X.w) hh (isSubtype (.ref (G.cad c)) (.type "int")) false := PySem.W.looks_subIn X' z4
      have L6 : PySem.W.Looks (model X.prog X.w) hh (numberSlotInPython (.type "int") "mul") false := PySem.W.Looks.of_pure rfl
      have hne : (Value.type "int" == Value.ref (G.cad c)) = false := Bool.eq_false_iff.mpr fun q => by cases beq_iff_eq.mp q
      unfold binaryOp
      refine wpAny_holding (wpAny_bind ?_)
      show wpAny _ _ (binaryOp1 "mul" _ _) _ _ _
      unfold binaryOp1
      refine wpAny_bind (L1.at (wpAny_bind (L2.at (wpAny_bind (L3.at ?_)))))
      simp only [hne, Bool.false_eq_true, if_false]
      refine wpAny_bind (L4.at ?_)
      ksp_lk
      have sl : Slot "int" (PySem.dunder "mul") "int.__mul__" := by rw [d1]; exact PySem.F.slot_int_mul
      have key : wpAny (model X.prog X.w) X.A (call (.builtin "int.__mul__") [.int i t, .ref a]) (fun v s' => v = .notImplemented ∧ s' = ⟨hh, gg, d, tt, os⟩) X.xe ⟨hh, gg, d, tt, os⟩ :=
        call_meets PySem.F.slot_int_mul (typeIs_int _ _ _) PySem.F.entry_int_mul (PySem.F.args_int_mul_2 _ _) (int_mul_inst i t a (G.cad c) dx) ⟨hx, rfl, rfl⟩
      have step : ∀ Q0 : Option Value → Shared → Prop, Q0 none ⟨hh, gg, d, tt, os⟩ → wpAny (model X.prog X.w) X.A (tryMethod (.int i t) (PySem.dunder "mul") (.ref a)) Q0 X.xe ⟨hh, gg, d, tt, os⟩ := fun Q0 h0 => by
        refine wpAny_tryMethod_declines (T := "int") (id := "int.__mul__") ?_ ?_ ?_
        · exact typeIs_int _ _ _
        · exact sl
        · exact wpAny_mono key (fun v s' hv => ⟨hv.1, by rw [hv.2]; exact h0⟩) fun _ _ e => e
      refine step _ ?_
      ksp_lk
      rw [d2]
      refine wpAny_mono one (fun r s' hr' => ?_) fun _ _ e => e
      obtain ⟨v, rfl, hq⟩ := hr'
      ksp_lk
      exact hq
/-- -x, abs(x) of own ones -/
def ownU (mt : Mt) (g : A → Hs → Out A) (x : A) (h : Hs) : Out A := match instOf x h with
  | some (c, _) => need (mt c) fun f => f [x] h
  | none => g x h
theorem ou_own {j : Nat} {mt : Mt} {g : A → Hs → Out A} (O : MtOk G "__neg__" j mt) (hg : OpU G L .USub g) (hj : j ≤ L.k) (hc : L.cm = true := by rfl) : OpU G L .USub (ownU mt g) := by
  refine ⟨fun X xr σ H ρ h x v hr rx Q q => ?_⟩
  unfold ownU at q
  cases hi : instOf x h with
  | none => rw [hi] at q; exact hg.run X xr σ H ρ h x v hr rx Q q
  | some pr =>
    obtain ⟨c, xs⟩ := pr
    rw [hi] at q
    obtain ⟨f, e, q⟩ := need_ok q
    obtain ⟨n, M⟩ := O c f e
    obtain ⟨a, dx, vs, rfl, e1, _⟩ := inst_ok hr rx hi
    refine ⟨fun pins s v I r1 => ?_⟩
    cases r1
    obtain ⟨fa, hm, run⟩ := run_mt (us := [.ref a]) xr hc hj M I hr (.cons rx .nil) (.cons rfl .nil) q
    obtain ⟨m', hF⟩ := I.fr
    obtain ⟨od, J⟩ := inst_at I e1
    exact PySem.W.ksp_neg hF I.ok.mod.kin J hm.at_ hm.fn run
theorem ok_ownAbs {j : Nat} {mt : Mt} (O : MtOk G "__abs__" j mt) (hj : j + 1 ≤ L.k) (hc : L.cm = true := by rfl) : OpK G L (.builtin "abs") (f1 (ownU mt absA)) := by
  refine ⟨fun X xr σ H ρ h xs vs hr rs Q q => ?_⟩
  obtain ⟨x, v, rfl, rfl, rx, q⟩ := ok_one rs q
  unfold ownU at q
  cases hi : instOf x h with
  | none => rw [hi] at q; exact ok_abs.run X xr σ H ρ h [x] [v] hr (.cons rx .nil) Q q
  | some pr =>
    obtain ⟨c, xs⟩ := pr
    rw [hi] at q
    obtain ⟨f, e, q⟩ := need_ok q
    obtain ⟨n, M⟩ := O c f e
    obtain ⟨a, dx, vs, rfl, e1, _⟩ := inst_ok hr rx hi
    refine ⟨fun pins s us I r => ?_⟩
    obtain ⟨u, rfl, r1⟩ := vals1 r
    cases r1
    obtain ⟨fa, fd, ps, Fn, hm, b⟩ := M.ex
    have hm : Meth X.K (G.cad c) "__abs__" fa := by rw [xr.K]; exact hm
    obtain ⟨od, J⟩ := inst_at I e1
    refine Calls.call_function_entry PyProof.Rows.kind_abs PyProof.Rows.plain_abs PyProof.Rows.entry_abs (PyProof.Rows.args_abs _) ?_
    unfold Builtin.«abs»
    refine wpAny_bind (m := oneArg "abs" _) (wpAny_pure ?_)
    have run : wpAny (model X.prog X.w) X.A.in1 (call (.ref fa) [.ref a]) (EP X pins σ Q) X.xe s := by
      have sp := sp_of M.ar hr (.cons rx .nil) q
      have hl : ([Value.ref a]).length = ps.length := ((xr.fn Fn).len _ _ _ _ sp : [V.ref a].length = ps.length)
      have e0 : Env0 X.prog X.w X.K X.mg X.base X.A.in1 X.stack s H := I.env0.in1
      have bb : Binds X.K fd ps [] := by rw [xr.K]; exact b
      refine wpAny_call (codeAny_mono ((xr.fn Fn).run X.A.in1 X.stack s H ⟨[.ref a], []⟩ [.ref a] [.ref a] Q (WE L.W σ) (((xr.room hc).mono hj).in1) e0 (by
        have := bb s [.ref a] I.kIn (by simpa using hl)
        simpa using this) (.cons rfl .nil) sp) fun r s' hq => ?_)
      cases r with
      | error e => exact xr.pass σ pins H s e s' I hq
      | ok fl =>
        cases fl with
        | ret u => exact I.after hq
        | next => exact False.elim hq
        | brk => exact False.elim hq
        | cont => exact False.elim hq
    refine wpAny_bind (m := callSpecial? (.ref a) (Str.ofString "__abs__")) (PySem.W.special_fn I.kIn J hm.at_ (beq_iff_eq.mp hm.fn) (wpAny_mono run (fun v s' z => ?_) fun _ _ z => z))
    exact wpAny_pure ⟨_, rfl, z⟩
/-! ### += : an own one by its __add__ -/
structure NoI (G : Gc) (c : Nat) : Prop where
  mro : ∃ cd, PySem.W.clsIn G.K (G.cad c) = some cd ∧ cd.mro = [.ref (G.cad c), .type "object"]
  no : PySem.W.findIn G.K (.ref (G.cad c)) "__iadd__" = some none
  no2 : PySem.W.findIn G.K (.type "object") "__iadd__" = some none
theorem noI_fills {M : Model} {h : Heap} {c : Nat} (n : NoI G c) (X : G.K.In h) : PySem.W.Looks M h (fillsInplaceSlot (.ref (G.cad c)) "add" true) false := by
  intro A Q E s k q
  obtain ⟨cd, hcd, hm⟩ := n.mro
  have di : PySem.dunderI "add" = ("__iadd__" : Str) := by decide +kernel
  have Lm : PySem.W.Looks M h (mroOf (.ref (G.cad c))) cd.mro := (PySem.W.looks_clsIn X hcd).andThen (f := fun cd => pure cd.mro) .now
  have Lm' := Lm.keeps k
  have X' : G.K.In s.heap := X.keeps k
  have L1 : PySem.W.Looks M s.heap (typeLookup (.ref (G.cad c)) "__iadd__") none := PySem.W.looks_findIn X' n.no
  have L2 : PySem.W.Looks M s.heap (typeLookup (.type "object") "__iadd__") none := PySem.W.looks_findIn X' n.no2
  unfold fillsInplaceSlot
  rw [di]
  refine wpAny_bind (Lm'.at ?_)
  rw [hm, List.anyM_cons]
  refine wpAny_bind ?_
  refine wpAny_bind (L1.here ?_)
  refine wpAny_pure ?_
  rw [List.anyM_cons]
  refine wpAny_bind ?_
  refine wpAny_bind (L2.here ?_)
  refine wpAny_pure ?_
  exact wpAny_pure q
def addI (x y : A) (h : Hs) : Out A := match x with
  | .int i => (match y with | .int j => .ok (.int (i + j)) h | _ => .bad)
  | _ => .bad
theorem oi_add : OpI G L .Add addI := by
  refine ⟨fun X xr σ H ρ h x y v u hr rx ry Q q => ⟨fun pins s v' u' I r1 r2 => ?_⟩⟩
  cases rx <;> try exact q.elim
  cases ry <;> try exact q.elim
  exact ip_add pins s σ H _ _ _ _ Q I r1 r2 ⟨_, _, rfl, rfl, q H ρ .refl hr _ .int⟩
def ownI (mt : Mt) (c : Nat) (g : A → A → Hs → Out A) (x y : A) (h : Hs) : Out A := match instOf x h with
  | some (d, _) => (match instOf y h with
    | some (e, _) => chk (Nat.beq c d && Nat.beq c e) (need (mt c) fun f => f [x, y] h)
    | none => .bad)
  | none => g x y h
theorem oi_own {j : Nat} {mt : Mt} {c : Nat} {g : A → A → Hs → Out A} (mo : MtOk G "__add__" j mt) (sf : PySem.W.selfFirst G.K (G.cad c) = true) (ni : NoI G c) (hg : OpI G L .Add g) (hj : j ≤ L.k) (hc : L.cm = true := by rfl) : OpI G L .Add (ownI mt c g) := by
  refine ⟨fun X xr σ H ρ h x y v u hr rx ry Q q => ?_⟩
  have eK := xr.K
  have d1 : PySem.dunder "add" = ("__add__" : Str) := by decide +kernel
  unfold ownI at q
  cases hi : instOf x h with
  | none => rw [hi] at q; exact hg.run X xr σ H ρ h x y v u hr rx ry Q q
  | some pr =>
    obtain ⟨d, xs⟩ := pr
    rw [hi] at q
    dsimp only at q
    cases hk : instOf y h with
    | none => rw [hk] at q; exact q.elim
    | some pr2 =>
      obtain ⟨e', ys⟩ := pr2
      rw [hk] at q
      obtain ⟨k, q2⟩ := chk_ok q
      obtain ⟨f, e, q3⟩ := need_ok q2
      clear q q2
      rw [Bool.and_eq_true] at k
      obtain rfl := Nat.eq_of_beq_eq_true k.1
      obtain rfl := Nat.eq_of_beq_eq_true k.2
      obtain ⟨n, M⟩ := mo c f e
      obtain ⟨a, dx, vs, rfl, e1, _⟩ := inst_ok hr rx hi
      obtain ⟨b, dy, us, rfl, e2, _⟩ := inst_ok hr ry hk
      refine ⟨fun pins s v u I r1 r2 => ?_⟩
      cases r1
      cases r2
      obtain ⟨fa, hm, run⟩ := run_mt (us := [.ref a, .ref b]) xr hc hj M I hr (.cons rx (.cons ry .nil)) (.cons rfl (.cons rfl .nil)) q3
      have run := wpAny_mono run (fun _ _ z => ep_cmp z) fun _ _ z => z
      obtain ⟨od, J⟩ := inst_at I e1
      obtain ⟨od', J'⟩ := inst_at I e2
      have X' := I.kIn
      have Xg : G.K.In s.heap := by rw [← eK]; exact X'
      rw [← eK] at sf
      obtain ⟨cd, rest, hcd, hmr⟩ := PySem.W.ksp_first sf
      have one := PySem.W.ksp_try X' J hm.at_ hm.fn run
      unfold inplaceOp
      refine wpAny_holding ?_
      show wpAny _ _ (typeOf (.ref a) >>= _) _ _ _
      refine wpAny_bind (J.type.here ?_)
      show wpAny _ _ (fillsInplaceSlot (.ref (G.cad c)) "add" true >>= _) _ _ _
      refine wpAny_bind ((noI_fills ni Xg).here ?_)
      simp only [Bool.false_eq_true, if_false]
      refine wpAny_bind ?_
      show wpAny _ _ (binaryOp1 "add" (.ref a) (.ref b)) _ _ _
      unfold binaryOp1
      refine wpAny_bind (J.type.here (wpAny_bind (J'.type.here (wpAny_bind ((PySem.W.fills_K X' hcd hmr (by rw [d1]; exact hm.at_)).here ?_)))))
      simp only [beq_self_eq_true, if_true]
      refine wpAny_bind (wpAny_pure ?_)
      simp only [Bool.and_false, Bool.false_eq_true, if_false, Bool.false_and]
      refine wpAny_bind (wpAny_pure ?_)
      simp only [Bool.false_eq_true, if_false]
      rw [d1]
      refine wpAny_bind (m := tryMethod (.ref a) _ (.ref b)) (wpAny_mono one (fun r s' hr' => ?_) fun _ _ e => e)
      obtain ⟨v, rfl, hq⟩ := hr'
      exact wpAny_pure (wpAny_pure hq)
/-! ### zip of two lists that stand still, or that are numbered -/
def zipA : List A → List A → List A
  | x :: xs, y :: ys => .tup [x, y] :: zipA xs ys
  | _, _ => []
theorem zipA_get : ∀ {xs ys : List A} {i : Nat} {z : A}, (zipA xs ys)[i]? = some z → ∃ x y, xs[i]? = some x ∧ ys[i]? = some y ∧ z = .tup [x, y]
  | [], _, _, _, e => by unfold zipA at e; simp at e
  | _ :: _, [], _, _, e => by unfold zipA at e; simp at e
  | x :: xs, y :: ys, 0, z, e => by unfold zipA at e; simp at e; exact ⟨x, y, rfl, rfl, e.symm⟩
  | x :: xs, y :: ys, i + 1, z, e => by
    unfold zipA at e
    obtain ⟨a, b, h1, h2, h3⟩ := zipA_get (xs := xs) (ys := ys) (i := i) (z := z) (by simpa using e)
    exact ⟨a, b, by simpa using h1, by simpa using h2, h3⟩
theorem zipA_len : ∀ (xs ys : List A), (zipA xs ys).length = min xs.length ys.length
  | [], _ => by simp [zipA]
  | _ :: _, [] => by simp [zipA]
  | x :: xs, y :: ys => by simp [zipA, zipA_len xs ys]
def iZip (fa fb : FE) : FA := fun sl h => (fa sl h).bind fun x h1 => (fb sl h1).bind fun y h2 => match x with
  | .lst xs => (match y with | .lst ys => .ok (zipA xs ys) h2 | _ => .bad)
  | _ => .bad
theorem di_zip {a b : Expr} {fa fb : FE} {elts : List Expr} {kk : Nat} {tpos p pos : Pos} (hm : G.mg "zip" = none) (hg : ("zip" : Str) ∈ L.GL) (ha : DE G L a fa) (hb : DE G L b fb) (hn : NoSt a = true := by rfl) (hn2 : NoSt b = true := by rfl) :
    DI G L (.Tuple elts kk tpos) (.Call (.Name "zip" p) [a, b] [] pos) (iZip fa fb) := by
  refine ⟨fun X xr σ H ρ sl h sr hh R q => ?_⟩
  refine .of (pi_zip (xr.gl _ hg).1 (by rw [xr.mg]; exact hm) pa (star_cons hn) (by rw [star_cons hn2]; rfl)) ?_
  refine as_cons (DE.bind ha xr sr hh q fun x h1 v H1 ρ1 e1 r1 ra s1 q1 => as_cons (DE.bind hb xr s1 r1 q1 fun y h2 u H2 ρ2 e2 r2 rb s2 q2 => as_nil ?_) (star_cons hn2)) (star_cons hn)
  cases x <;> try exact q2.elim
  cases y <;> try exact q2.elim
  rename_i xs ys
  have ra := ra.mono e2
  cases ra with
  | @lst _ ad vs h3 nl l r =>
  cases rb with
  | @lst _ bd us h4 nl' l' r' =>
  refine ⟨ad, bd, vs, us, rfl, .inl (.inl h3), .inl (.inl h4), ?_⟩
  rw [xr.K]
  refine q2 H2 ρ2 .refl r2 _ fun H3 ρ3 h3' k hr i => ?_
  have k1 := (k.keep ad _ h3 nl).1
  have k2 := (k.keep bd _ h4 nl').1
  refine ⟨fun z hz => ?_, fun hi => ⟨vs, us, .inl (.inl k1), .inl (.inl k2), ?_⟩⟩
  · obtain ⟨x, y, hx, hy, rfl⟩ := zipA_get hz
    obtain ⟨v1, hv1, rv1⟩ := RAs.get (G := G) (H := H2) (ρ := ρ2) ⟨l, r⟩ hx
    obtain ⟨v2, hv2, rv2⟩ := RAs.get (G := G) (H := H2) (ρ := ρ2) ⟨l', r'⟩ hy
    refine ⟨⟨vs, us, v1, v2, .inl (.inl k1), .inl (.inl k2), hv1, hv2⟩, fun v H4 ⟨T, x', y', ev, nT, eH, g1, g2⟩ => ?_⟩
    have := g1 vs (.inl (.inl k1))
    rw [hv1] at this; cases this
    have := g2 us (.inl (.inl k2))
    rw [hv2] at this; cases this
    subst ev eH
    exact ⟨.inr ⟨T, _, nT, rfl⟩, new_tupA hr nT (.cons (rv1.mono' k) (.cons (rv2.mono' k) .nil))⟩
  · rw [zipA_len] at hi
    rw [← l, ← l']
    omega
end
end Rx
set_option Elab.async false
set_option linter.all false
set_option maxRecDepth 100000
set_option maxHeartbeats 4000000
/-! RxT: walks over lists as they stand at each turn. -/
namespace Rx
open PySem L2 Sx
section
variable {G : Gc} {L : Wh} {X : Cx} {σ : St} {H : Hp} {ρ : Rho} {sl : Sl} {h : Hs} {Q : VK} {e o tg iter a b : Expr} {fa fb : FE} {pos p : Pos} {st : Stmt} {sts bd : List Stmt} {nx bk ct : St → Hp → Prop} {rt : VK} {ws : List Nat} {g1 : FG}
/-- what a walk yields at a turn, by the heap: an item, the end, or nothing is known -/
abbrev Wk := Nat → Hs → Option (Option A)
def ItG (G : Gc) (J : It) (H : Hp) (ρ : Rho) (w : Wk) : Prop := ∀ H2 ρ2 h2, Kq H ρ H2 ρ2 → HR G H2 ρ2 h2 → ∀ i : Nat, (∀ x, w i h2 = some (some x) → J.go i H2 ∧ ∀ v H3, J.yld i H2 v H3 → YOk H2 H3 ∧ RA G H3 ρ2 x v) ∧ (w i h2 = some none → J.stop i H2)
structure DL (G : Gc) (L : Wh) (tg iter : Expr) (fi : Sl → Hs → Out Wk) : Prop where
  run : ∀ X, Xr G X L → ∀ σ H ρ sl h, SR G H ρ sl σ → HR G H ρ h → ∀ R : It → Hp → Prop, Po G L.W σ H ρ (fun w H1 ρ1 => ∀ J, ItG G J H1 ρ1 w → R J H1) (fi sl h) → PIr X tg iter σ H R
theorem DL.bindS {fi : Sl → Hs → Out Wk} {k : Wk → Hs → OutS} {R : It → Hp → Prop} (ha : DL G L tg iter fi) (xr : Xr G X L) (sr : SR G H ρ sl σ) (hr : HR G H ρ h) (q : PoS G L.W H ρ nx rt bk ct ((fi sl h).bindS sl k))
    (cc : ∀ w h1 J H1 ρ1, Ext H ρ H1 ρ1 → HR G H1 ρ1 h1 → ItG G J H1 ρ1 w → SR G H1 ρ1 sl σ → PoS G L.W H1 ρ1 nx rt bk ct (k w h1) → R J H1) : PIr X tg iter σ H R := by
  refine ha.run X xr σ H ρ sl h sr hr R ?_
  cases hm : fi sl h with
  | ok x h1 =>
    rw [hm] at q
    exact fun H1 ρ1 e1 r1 J it => cc x h1 J H1 ρ1 e1 r1 it (sr.mono e1) (PoS.at1 (m := k x h1) q e1)
  | ex x h1 => rw [hm] at q; exact fun cl d H' ρ' e' r' rx => q cl d σ H' ρ' e' r' (sr.mono e') rx
  | bad => rw [hm] at q; exact q
/-- the list at x, as it stands -/
def wL (x : A) : Wk := fun i h => (listOf x h).map fun xs => xs[i]?
def iL (fa : FE) : Sl → Hs → Out Wk := fun sl h => (fa sl h).bind fun x h1 => need (listOf x h1) fun _ => .ok (wL x) h1
theorem dl_list (ha : DE G L iter fa) : DL G L tg iter (iL fa) := by
  refine ⟨fun X xr σ H ρ sl h sr hh R q => ?_⟩
  refine .of (pi_list pe) (DE.bind ha xr sr hh q fun x h1 v H1 ρ1 e1 r1 ra s1 q1 => ?_)
  obtain ⟨xs, ex, q1⟩ := need_ok q1
  obtain ⟨ad, vs, rfl, e2, rl⟩ := list_ok r1 ra ex
  refine ⟨ad, rfl, ⟨vs, .inl (.inl e2)⟩, ?_⟩
  rw [xr.K]
  refine q1 H1 ρ1 .refl r1 _ fun H2 ρ2 h2 k hr i => ?_
  have key : ∀ o, wL x i h2 = some o → ∃ ys us, listOf x h2 = some ys ∧ ys[i]? = o ∧ H2 ad = some (.lst us) ∧ RAs G H2 ρ2 ys us := fun o e => by
    unfold wL at e
    cases hl : listOf x h2 with
    | none => rw [hl] at e; cases e
    | some ys =>
      rw [hl] at e
      cases e
      obtain ⟨ad', us, e3, e4, e5⟩ := list_ok hr (ra.mono' k) hl
      cases e3
      exact ⟨ys, us, rfl, rfl, e4, e5⟩
  refine ⟨fun z hz => ?_, fun hz => ?_⟩
  · obtain ⟨ys, us, _, ey, e4, e5⟩ := key _ hz
    obtain ⟨v, hv, rv⟩ := e5.get ey
    refine ⟨⟨us, v, .inl (.inl e4), hv⟩, fun v' H3 ⟨y1, y2⟩ => ⟨.inl y1, ?_⟩⟩
    have : us[i]? = some v' := y2 us (.inl (.inl e4))
    rw [hv] at this; cases this
    rw [y1]; exact rv
  · obtain ⟨ys, us, _, ey, e4, e5⟩ := key _ hz
    refine ⟨us, .inl (.inl e4), ?_⟩
    rw [← e5.1]
    exact List.getElem?_eq_none_iff.mp ey
/-- zip of two lists as they stand -/
def wZ (x y : A) : Wk := fun i h => (listOf x h).bind fun xs => (listOf y h).map fun ys => match xs[i]?, ys[i]? with | some a, some b => some (.tup [a, b]) | _, _ => none
def iZ (fa fb : FE) : Sl → Hs → Out Wk := fun sl h => (fa sl h).bind fun x h1 => (fb sl h1).bind fun y h2 => need (listOf x h2) fun _ => need (listOf y h2) fun _ => .ok (wZ x y) h2
theorem dl_zip {elts : List Expr} {kk : Nat} {tpos : Pos} (hm : G.mg "zip" = none) (hg : ("zip" : Str) ∈ L.GL) (ha : DE G L a fa) (hb : DE G L b fb) (hn : NoSt a = true := by rfl) (hn2 : NoSt b = true := by rfl) :
    DL G L (.Tuple elts kk tpos) (.Call (.Name "zip" p) [a, b] [] pos) (iZ fa fb) := by
  refine ⟨fun X xr σ H ρ sl h sr hh R q => ?_⟩
  refine .of (pi_zip (xr.gl _ hg).1 (by rw [xr.mg]; exact hm) pa (star_cons hn) (by rw [star_cons hn2]; rfl)) ?_
  refine as_cons (DE.bind ha xr sr hh q fun x h1 v H1 ρ1 e1 r1 ra s1 q1 => as_cons (DE.bind hb xr s1 r1 q1 fun y h2 u H2 ρ2 e2 r2 rb s2 q2 => as_nil ?_) (star_cons hn2)) (star_cons hn)
  obtain ⟨xs, ex, q2⟩ := need_ok q2
  obtain ⟨ys, ey, q2⟩ := need_ok q2
  have ra := ra.mono e2
  obtain ⟨ad, vs, rfl, h3, rl⟩ := list_ok r2 ra ex
  obtain ⟨bd, us, rfl, h4, rl'⟩ := list_ok r2 rb ey
  refine ⟨ad, bd, vs, us, rfl, .inl (.inl h3), .inl (.inl h4), ?_⟩
  rw [xr.K]
  refine q2 H2 ρ2 .refl r2 _ fun H3 ρ3 h3' k hr i => ?_
  have key : ∀ o, wZ x y i h3' = some o → ∃ as cs ws zs, H3 ad = some (.lst as) ∧ RAs G H3 ρ3 ws as ∧ H3 bd = some (.lst cs) ∧ RAs G H3 ρ3 zs cs ∧ o = (match ws[i]?, zs[i]? with | some a, some b => some (.tup [a, b]) | _, _ => none) := fun o e => by
    unfold wZ at e
    cases hl : listOf x h3' with
    | none => rw [hl] at e; cases e
    | some ws =>
      rw [hl] at e
      cases hl2 : listOf y h3' with
      | none => rw [hl2] at e; cases e
      | some zs =>
        rw [hl2] at e
        have e : some (match ws[i]?, zs[i]? with | some a, some b => some (A.tup [a, b]) | _, _ => none) = some o := e
        obtain ⟨ad', as, f1, f2, f3⟩ := list_ok hr (ra.mono' k) hl
        obtain ⟨bd', cs, g1, g2, g3⟩ := list_ok hr (rb.mono' k) hl2
        cases f1; cases g1
        exact ⟨as, cs, ws, zs, f2, f3, g2, g3, (Option.some.inj e).symm⟩
  refine ⟨fun z hz => ?_, fun hz => ?_⟩
  · obtain ⟨as, cs, ws, zs, k1, f3, k2, g3, eo⟩ := key _ hz
    cases hx : ws[i]? with
    | none => rw [hx] at eo; cases eo
    | some x' =>
      cases hy : zs[i]? with
      | none => rw [hx, hy] at eo; cases eo
      | some y' =>
        rw [hx, hy] at eo
        cases eo
        obtain ⟨v1, hv1, rv1⟩ := f3.get hx
        obtain ⟨v2, hv2, rv2⟩ := g3.get hy
        refine ⟨⟨as, cs, v1, v2, .inl (.inl k1), .inl (.inl k2), hv1, hv2⟩, fun v H4 ⟨T, x2, y2, ev, nT, eH, g1, g2⟩ => ?_⟩
        have := g1 as (.inl (.inl k1))
        rw [hv1] at this; cases this
        have := g2 cs (.inl (.inl k2))
        rw [hv2] at this; cases this
        subst ev eH
        exact ⟨.inr ⟨T, _, nT, rfl⟩, new_tupA hr nT (.cons rv1 (.cons rv2 .nil))⟩
  · obtain ⟨as, cs, ws, zs, k1, f3, k2, g3, eo⟩ := key _ hz
    refine ⟨as, cs, .inl (.inl k1), .inl (.inl k2), ?_⟩
    rw [← f3.1, ← g3.1]
    cases hx : ws[i]? with
    | none => exact .inl (List.getElem?_eq_none_iff.mp hx)
    | some x' =>
      cases hy : zs[i]? with
      | none => exact .inr (List.getElem?_eq_none_iff.mp hy)
      | some y' => rw [hx, hy] at eo; cases eo
/-! ### for, by such a walk -/
def forW (w : Wk) (g : FG) (b : FS) : Nat → Nat → FS
  | 0, _, _, _ => .bad
  | n + 1, i, sl, h => match w i h with
    | some (some x) => (match g x sl h with
      | .nx sl1 h1 => (match b sl1 h1 with
        | .nx sl2 h2 => forW w g b n (i + 1) sl2 h2
        | .ct sl2 h2 => forW w g b n (i + 1) sl2 h2
        | .bk sl2 h2 => .nx sl2 h2
        | .rt a h2 => .rt a h2
        | .ex x sl2 h2 => .ex x sl2 h2
        | .bad => .bad)
      | .ex x sl1 h1 => .ex x sl1 h1
      | _ => .bad)
    | some none => .nx sl h
    | none => .bad
def sForW (fi : Sl → Hs → Out Wk) (g : FG) (b : FS) : FS := fun sl h => (fi sl h).bindS sl fun w h1 => forW w g b FUEL 0 sl h1
theorem ds_forW {fi : Sl → Hs → Out Wk} {b : FS} (hi : DL G L tg iter fi) (hg : DGw G L ws tg g1) (hb : DSs G L bd b) (hs : ∀ env x, foldedSetIterable iter env x = pure x := by intro _ _; rfl) (hc : L.cm = true := by rfl) : DS G L (.For tg iter bd [] pos) (sForW fi g1 b) := by
  refine ⟨fun X xr σ H ρ sl h sr hh nx rt bk ct q => .of (ps_for xr.po (xr.calm hc) pir pg pss (hs _)) ?_⟩
  refine DL.bindS hi xr sr hh q fun w h1 J H1 ρ1 e1 r1 it s1 q1 => ?_
  refine ⟨fun i m σ' H' => ∃ sl' h' ρ', Ext H1 ρ1 H' ρ' ∧ HR G H' ρ' h' ∧ SR G H' ρ' sl' σ' ∧ PoS G L.W H' ρ' nx rt bk ct (forW w g1 b m i sl' h'), ⟨FUEL, sl, h1, ρ1, .refl, r1, s1, q1⟩, ?_⟩
  rintro i m σ' H' ⟨sl', h', ρ', e', r', s', q'⟩
  obtain ⟨ig, is⟩ := it H' ρ' h' e'.kq r' i
  cases m with
  | zero => exact q'.elim
  | succ m =>
    unfold forW at q'
    cases hw : w i h' with
    | none => rw [hw] at q'; exact q'.elim
    | some o =>
      rw [hw] at q'
      cases o with
      | none => exact .inl ⟨is hw, q' σ' H' ρ' .refl r' s'⟩
      | some x =>
        obtain ⟨go, yld⟩ := ig x hw
        refine .inr ⟨go, fun σ2 H2 => ∃ sl2 h2 ρ2, Ext H1 ρ1 H2 ρ2 ∧ HR G H2 ρ2 h2 ∧ SR G H2 ρ2 sl2 σ2 ∧ PoS G L.W H2 ρ2 nx rt bk ct (forW w g1 b m (i + 1) sl2 h2), fun σ2 H2 z => ⟨m, Nat.lt_succ_self m, z⟩, fun v H3 y => ?_⟩
        obtain ⟨yo, ra⟩ := yld v H3 y
        obtain ⟨e3, r3⟩ := yo.ext r'
        have q3 := PoS.at1 q' e3
        have s3 := s'.mono e3
        have e13 := e'.trans e3
        refine sxG_mono (hg.run X xr σ' H3 ρ' sl' h' x v s3 r3 ra (fun σ4 H4 => ∃ sl4 h4 ρ4, Ext H1 ρ1 H4 ρ4 ∧ HR G H4 ρ4 h4 ∧ SR G H4 ρ4 sl4 σ4 ∧ PoS G L.W H4 ρ4 nx rt bk ct (match b sl4 h4 with
          | .nx sl2 h2 => forW w g1 b m (i + 1) sl2 h2
          | .ct sl2 h2 => forW w g1 b m (i + 1) sl2 h2
          | .bk sl2 h2 => .nx sl2 h2
          | .rt a h2 => .rt a h2
          | .ex x sl2 h2 => .ex x sl2 h2
          | .bad => .bad)) ?_) fun σ4 H4 z => ?_
        · revert q3
          dsimp only
          cases g1 x sl' h' with
          | nx sl4 h4 => exact fun q3 σ4 H4 ρ4 e4 r4 s4 => ⟨sl4, h4, ρ4, e13.trans e4, r4, s4, PoS.at1 q3 e4⟩
          | ex x sl4 h4 => exact fun q3 => q3
          | rt _ _ => exact fun q3 => q3.elim
          | bk _ _ => exact fun q3 => q3.elim
          | ct _ _ => exact fun q3 => q3.elim
          | bad => exact fun q3 => q3.elim
        · obtain ⟨-, sl4, h4, ρ4, e4, r4, s4, q4⟩ := z
          refine hb.run X xr σ4 H4 ρ4 sl4 h4 s4 r4 _ _ _ _ ?_
          revert q4
          cases b sl4 h4 with
          | nx sl5 h5 => exact fun q4 σ5 H5 ρ5 e5 r5 s5 => ⟨sl5, h5, ρ5, e4.trans e5, r5, s5, PoS.at1 q4 e5⟩
          | ct sl5 h5 => exact fun q4 σ5 H5 ρ5 e5 r5 s5 => ⟨sl5, h5, ρ5, e4.trans e5, r5, s5, PoS.at1 q4 e5⟩
          | bk sl5 h5 => exact fun q4 => q4
          | rt a h5 => exact fun q4 => q4
          | ex x sl5 h5 => exact fun q4 => q4
          | bad => exact fun q4 => q4
variable {elt : Expr} {ft : FT}
theorem DL.bind {β : Type} {fi : Sl → Hs → Out Wk} {k : Wk → Hs → Out β} {R' : β → Hp → Rho → Prop} {R : It → Hp → Prop} (ha : DL G L tg iter fi) (xr : Xr G X L) (sr : SR G H ρ sl σ) (hr : HR G H ρ h) (q : Po G L.W σ H ρ R' ((fi sl h).bind k))
    (cc : ∀ xs h1 J H1 ρ1, Ext H ρ H1 ρ1 → HR G H1 ρ1 h1 → ItG G J H1 ρ1 xs → SR G H1 ρ1 sl σ → Po G L.W σ H1 ρ1 R' (k xs h1) → R J H1) : PIr X tg iter σ H R := by
  refine ha.run X xr σ H ρ sl h sr hr R ?_
  cases hm : fi sl h with
  | ok x h1 =>
    rw [hm] at q
    exact fun H1 ρ1 e1 r1 J it => cc x h1 J H1 ρ1 e1 r1 it (sr.mono e1) (Po.at1 (m := k x h1) q e1)
  | ex x h1 => rw [hm] at q; exact q
  | bad => rw [hm] at q; exact q
/-! ### list comprehensions, by such a walk -/
def lcW (w : Wk) (g : FG) (t : FT) (fe : FE) (sl : Sl) : Nat → Nat → List A → Hs → Out (List A)
  | 0, _, _, _ => .bad
  | n + 1, i, acc, h => match w i h with
    | some (some x) => (match g x sl h with
      | .nx sl1 h1 => (match t sl1 h1 with
        | .ok true h2 => (match fe sl1 h2 with
          | .ok y h3 => (match Nat.blt acc.length sizeLine with | true => lcW w g t fe sl n (i + 1) (acc ++ [y]) h3 | false => .bad)
          | _ => .bad)
        | .ok false h2 => lcW w g t fe sl n (i + 1) acc h2
        | _ => .bad)
      | _ => .bad)
    | some none => .ok acc h
    | none => .bad
def lcAllW (fi : Sl → Hs → Out Wk) (own : List Nat) (g : FG) (t : FT) (fe : FE) : FA := fun sl h => (fi sl h).bind fun w h1 => lcW w g t fe (wipeA sl own) FUEL 0 [] h1
def eLcW (fi : Sl → Hs → Out Wk) (own : List Nat) (g : FG) (t : FT) (fe : FE) : FE := fun sl h => (lcAllW fi own g t fe sl h).bind fun ys h1 => .ok (.lst ys) h1
def eLcWT (fi : Sl → Hs → Out Wk) (own : List Nat) (g : FG) (t : FT) (fe : FE) : FE := fun sl h => (lcAllW fi own g t fe sl h).bind fun ys h1 => .ok (.ref h1.length) (h1 ++ [.lst ys])
theorem lcW_ok {β : Type} {scope : Scope} {rd wr vs : List Nat} {GL : List Str} {ifs : List Expr} {fe : FE} {fi : Sl → Hs → Out Wk} {k : List A → Hs → Out β} {R : β → Hp → Rho → Prop} {Q : VK} (hc : L.cm = true) (hi : DL G L tg iter fi) (okb : okB L.N rd wr GL scope (relS scope L.sc) = true)
    (hg : DGw G (blkW L scope rd wr GL) ws tg g1) (ht : DTs G (blkW L scope rd wr GL) ifs ft) (he : DE G (blkW L scope rd wr GL) elt fe) (hw : ws.all (fun i => vs.contains i) = true)
    (xr : Xr G X L) (sr : SR G H ρ sl σ) (hh : HR G H ρ h) (q : Po G L.W σ H ρ R ((lcAllW fi vs g1 ft fe sl h).bind k))
    (cc : ∀ ys hF D HF H1 ρ1 h1, Ext H ρ H1 ρ1 → HR G H1 ρ1 h1 → LcEnd G ys hF D HF H1 ρ1 → Po G L.W σ H1 ρ1 R (k ys hF) → Q (.ref D) HF) :
    tLc (fun σ H R => PIr X tg iter σ H R) (gB X scope tg) (tB' X scope ifs) (eB X scope elt) vs σ H Q := by
  have q0 : Po G L.W σ H ρ R ((fi sl h).bind fun w h1 => (lcW w g1 ft fe (wipeA sl vs) FUEL 0 [] h1).bind k) := by
    unfold lcAllW at q
    revert q
    cases fi sl h <;> exact fun q => q
  refine DL.bind hi xr sr hh q0 fun w h1 J H1 ρ1 e1 r1 it s1 q1 D nD => ?_
  refine ⟨fun i m H' => ∃ acc us h' ρ', H' D = some (.lst us) ∧ ρ'.hd = D :: ρ1.hd ∧ RAs G H' ρ' acc us ∧ HR G H' ρ' h' ∧ Kq H1 ρ1 H' ρ' ∧ Ext H1 ρ1 H' ⟨ρ'.l, ρ1.hd⟩ ∧ SR G H' ρ' (wipeA sl vs) (wipe σ vs) ∧
    Po G L.W σ H1 ρ1 R ((lcW w g1 ft fe (wipeA sl vs) m i acc h').bind k), ⟨FUEL, [], [], h1, ρ1.hide D, upd_same, rfl, .nil, r1.hide nD, r1.kq_hide nD, r1.ext_new nD, (wipe_SR s1 vs).mono' (r1.kq_hide nD), q1⟩, ?_⟩
  rintro i m H' ⟨acc, us, h', ρ', hD, hhd, ras, r', kq', ex', s', q'⟩
  obtain ⟨ig, is⟩ := it H' ρ' h' kq' r' i
  cases m with
  | zero => exact q'.elim
  | succ m =>
  unfold lcW at q'
  cases hwx : w i h' with
  | none => rw [hwx] at q'; exact q'.elim
  | some ox =>
  rw [hwx] at q'
  cases ox with
  | none => exact .inl ⟨is hwx, cc acc h' D H' H1 ρ1 h1 e1 r1 ⟨us, ρ', hD, hhd, ras, r', ex', nD⟩ q'⟩
  | some x0 =>
  · obtain ⟨go, yld⟩ := ig x0 hwx
    refine .inr ⟨go, fun H2 => ∃ acc us h' ρ', H2 D = some (.lst us) ∧ ρ'.hd = D :: ρ1.hd ∧ RAs G H2 ρ' acc us ∧ HR G H2 ρ' h' ∧ Kq H1 ρ1 H2 ρ' ∧ Ext H1 ρ1 H2 ⟨ρ'.l, ρ1.hd⟩ ∧ SR G H2 ρ' (wipeA sl vs) (wipe σ vs) ∧
      Po G L.W σ H1 ρ1 R ((lcW w g1 ft fe (wipeA sl vs) m (i + 1) acc h').bind k), fun H2 z => ⟨m, Nat.lt_succ_self m, z⟩, fun v H3 y s H0 C cl fp => ?_⟩
    obtain ⟨yo, ra⟩ := yld v H3 y
    obtain ⟨e3, r3⟩ := yo.ext r'
    have xb := fun s H0 C cl fp => xr.blk (scope := scope) hc okb s H0 C cl fp
    dsimp only at q'
    have s3 := s'.mono e3
    -- from any later place of the turn
    have fin : ∀ {H4 : Hp} {ρ4 : Rho}, Ext H3 ρ' H4 ρ4 → H4 D = some (.lst us) ∧ ρ4.hd = D :: ρ1.hd ∧ RAs G H4 ρ4 acc us ∧ Kq H1 ρ1 H4 ρ4 ∧ Ext H1 ρ1 H4 ⟨ρ4.l, ρ1.hd⟩ ∧ SR G H4 ρ4 (wipeA sl vs) (wipe σ vs) := fun {H4 ρ4} e4 => by
      have e34 := e3.trans e4
      exact ⟨by rw [e34.hidk D (by rw [hhd]; exact List.mem_cons_self)]; exact hD, by rw [e34.hds]; exact hhd, ras.mono e34, kq'.trans e34.kq, ext_lift r1 ex' hhd nD e34, s'.mono e34⟩
    cases hgx : g1 x0 (wipeA sl vs) h' with
    | nx sl4 h4 =>
      rw [hgx] at q'
      refine sxG_mono (hg.run _ (xb s H0 C cl fp) (wipe σ vs) H3 ρ' (wipeA sl vs) h' x0 v s3 r3 ra (fun σ4 H4 => ∃ ρ4, Ext H3 ρ' H4 ρ4 ∧ HR G H4 ρ4 h4 ∧ SR G H4 ρ4 sl4 σ4) (by rw [hgx]; exact fun σ4 H4 ρ4 e4 r4 s4 => ⟨ρ4, e4, r4, s4⟩)) fun σ4 H4 ⟨off, ρ4, e4, r4, s4⟩ => ?_
      refine ⟨wipe_off hw off, fun s H0 C cl fp => ?_⟩
      dsimp only at q'
      refine ht.run _ (xb s H0 C cl fp) σ4 H4 ρ4 sl4 h4 s4 r4 _ ?_
      cases htx : ft sl4 h4 with
      | ok b h5 =>
        rw [htx] at q'
        cases b with
        | false =>
          intro H5 ρ5 e5 r5
          obtain ⟨a1, a2, a3, a4, a5, a6⟩ := fin (e4.trans e5)
          exact ⟨acc, us, h5, ρ5, a1, a2, a3, r5, a4, a5, a6, q'⟩
        | true =>
          intro H5 ρ5 e5 r5
          unfold RB
          dsimp only
          rw [if_pos rfl]
          intro s H0 C cl fp
          dsimp only at q'
          refine he.run _ (xb s H0 C cl fp) σ4 H5 ρ5 sl4 h5 (s4.mono e5) r5 _ ?_
          cases hex : fe sl4 h5 with
          | ok y h6 =>
            rw [hex] at q'
            dsimp only at q'
            cases hsz : Nat.blt acc.length sizeLine with
            | false => rw [hsz] at q'; exact q'.elim
            | true =>
            rw [hsz] at q'
            have hsz := Nat.le_of_ble_eq_true hsz
            intro H6 ρ6 e6 r6 w rw'
            obtain ⟨a1, a2, a3, a4, a5, a6⟩ := fin ((e4.trans e5).trans e6)
            obtain ⟨u0, eu0, nt, nf⟩ := r6.hid D (by rw [a2]; exact List.mem_cons_self)
            have kq7 := kq_hid (ρ := ρ6) (o := .lst (us ++ [w])) (by rw [a2]; exact List.mem_cons_self) eu0 nt nf
            exact ⟨us, a1, by rw [← ras.1]; exact hsz, acc ++ [y], us ++ [w], h6, ρ6, upd_same, a2, (a3.append (.cons rw' .nil)).mono' kq7, r6.upd_hid (by rw [a2]; exact List.mem_cons_self), a4.trans kq7, ext_updD r1 a5 nD, a6.mono' kq7, q'⟩
          | ex y h6 => rw [hex] at q'; exact q'.elim
          | bad => rw [hex] at q'; exact q'.elim
      | ex b h5 => rw [htx] at q'; exact q'.elim
      | bad => rw [htx] at q'; exact q'.elim
    | rt _ _ => rw [hgx] at q'; exact q'.elim
    | bk _ _ => rw [hgx] at q'; exact q'.elim
    | ct _ _ => rw [hgx] at q'; exact q'.elim
    | ex _ _ _ => rw [hgx] at q'; exact q'.elim
    | bad => rw [hgx] at q'; exact q'.elim
theorem de_lcW {scope : Scope} {own : List (Str × Nat)} {rd wr : List Nat} {GL : List Str} {ifs : List Expr} {fe : FE} {fi : Sl → Hs → Out Wk} (own' : List Nat) (hi : DL G L tg iter fi) (ok : BlkOk L.N L.sc scope own) (okb : okB L.N rd wr GL scope (relS scope L.sc) = true)
    (hg : DGw G (blkW L scope rd wr GL) ws tg g1) (ht : DTs G (blkW L scope rd wr GL) ifs ft) (he : DE G (blkW L scope rd wr GL) elt fe) (ho : own.map (·.2) = own' := by rfl) (hw : ws.all (fun i => own'.contains i) = true := by rfl) (hs : ∀ env x, foldedSetIterable iter env x = pure x := by intro _ _; rfl) (hc : L.cm = true := by rfl) :
    DE G L (.ListComp elt [⟨tg, iter, ifs, 0⟩] scope pos) (eLcW fi own' g1 ft fe) := by
  subst ho
  refine ⟨fun X xr σ H ρ sl h sr hh Q q => .of (pe_lc (own := own) (xr.calm hc) (by rw [xr.n]; exact xr.nd) pir (by rw [xr.n, xr.scp]; exact ok) (fun s H0 C cl fp => ⟨fun pins s σ H x u Q I r q => (q _ _ _ _ _).run pins s u I r⟩) (fun s H0 C cl fp => ⟨fun pins s σ H Q I q => (q _ _ _ _ _).run pins s I⟩) (fun s H0 C cl fp => ⟨fun pins s σ H Q I q => (q _ _ _ _ _).run pins s I⟩) (hs _))
    (lcW_ok hc hi okb hg ht he hw xr sr hh q fun ys hF D HF H1 ρ1 h1 e1 r1 le q1 => ?_)⟩
  obtain ⟨ρ', ex, r', ra⟩ := lc_frozen r1 le
  exact q1 HF ρ' ex r' _ ra
theorem de_lcWT {scope : Scope} {own : List (Str × Nat)} {rd wr : List Nat} {GL : List Str} {ifs : List Expr} {fe : FE} {fi : Sl → Hs → Out Wk} (own' : List Nat) (hi : DL G L tg iter fi) (ok : BlkOk L.N L.sc scope own) (okb : okB L.N rd wr GL scope (relS scope L.sc) = true)
    (hg : DGw G (blkW L scope rd wr GL) ws tg g1) (ht : DTs G (blkW L scope rd wr GL) ifs ft) (he : DE G (blkW L scope rd wr GL) elt fe) (ho : own.map (·.2) = own' := by rfl) (hw : ws.all (fun i => own'.contains i) = true := by rfl) (hs : ∀ env x, foldedSetIterable iter env x = pure x := by intro _ _; rfl) (hc : L.cm = true := by rfl) :
    DE G L (.ListComp elt [⟨tg, iter, ifs, 0⟩] scope pos) (eLcWT fi own' g1 ft fe) := by
  subst ho
  refine ⟨fun X xr σ H ρ sl h sr hh Q q => .of (pe_lc (own := own) (xr.calm hc) (by rw [xr.n]; exact xr.nd) pir (by rw [xr.n, xr.scp]; exact ok) (fun s H0 C cl fp => ⟨fun pins s σ H x u Q I r q => (q _ _ _ _ _).run pins s u I r⟩) (fun s H0 C cl fp => ⟨fun pins s σ H Q I q => (q _ _ _ _ _).run pins s I⟩) (fun s H0 C cl fp => ⟨fun pins s σ H Q I q => (q _ _ _ _ _).run pins s I⟩) (hs _))
    (lcW_ok hc hi okb hg ht he hw xr sr hh q fun ys hF D HF H1 ρ1 h1 e1 r1 le q1 => ?_)⟩
  obtain ⟨ρ', ex, r', ra⟩ := lc_tracked r1 le
  exact q1 HF ρ' ex r' _ ra
theorem ds_setLcW (i : Nat) {y : Str} {py spos : Pos} {scope : Scope} {own : List (Str × Nat)} {rd wr : List Nat} {GL : List Str} {ifs : List Expr} {fe : FE} {fi : Sl → Hs → Out Wk} (own' : List Nat) (hsw : ∀ (q : Str) (Lo f : Addr) (cd : Value), swapsWith (.ListComp elt [⟨tg, iter, ifs, 0⟩] scope pos) (some (.Name y py)) spos.line (PyProof.Rows.envOfC q L.sc Lo f cd) = pure true)
    (hyl : L.sc.names.lookup y = some .local) (hi : DL G L tg iter fi) (ok : BlkOk L.N L.sc scope own) (okb : okB L.N rd wr GL scope (relS scope L.sc) = true) (hg : DGw G (blkW L scope rd wr GL) ws tg g1) (ht : DTs G (blkW L scope rd wr GL) ifs ft) (he : DE G (blkW L scope rd wr GL) elt fe) (tr : Bool)
    (ho : own.map (·.2) = own' := by rfl) (hy : L.N[i]? = some y := by rfl) (hw : ws.all (fun i => own'.contains i) = true := by rfl) (hs : ∀ env x, foldedSetIterable iter env x = pure x := by intro _ _; rfl) (hc : L.cm = true := by rfl) (hf : L.fb = true := by rfl) :
    DS G L (.Assign [.Name y py] (.ListComp elt [⟨tg, iter, ifs, 0⟩] scope pos) spos) (sSet i (match tr with | true => eLcWT fi own' g1 ft fe | false => eLcW fi own' g1 ft fe)) := by
  subst ho
  refine ⟨fun X xr σ H ρ sl h sr hh nx rt bk ct q => ?_⟩
  obtain ⟨qn, Lo, f, cd, ev⟩ := xr.ev hf
  refine .of (ps_setLc (i := i) (own := own) (g := gB X scope tg) (tt := tB' X scope ifs) (te := eB X scope elt) (xr.calm hc) (by rw [xr.n]; exact xr.nd) (by rw [xr.n]; exact hy) (by rw [xr.scp]; exact hyl) (by rw [ev]; exact hsw _ _ _ _) pir (by rw [xr.n, xr.scp]; exact ok) (fun s H0 C cl fp => ⟨fun pins s σ H x u Q I r q => (q _ _ _ _ _).run pins s u I r⟩) (fun s H0 C cl fp => ⟨fun pins s σ H Q I q => (q _ _ _ _ _).run pins s I⟩) (fun s H0 C cl fp => ⟨fun pins s σ H Q I q => (q _ _ _ _ _).run pins s I⟩) (hs _)) ?_
  have key : ∀ {fe' : FE} {kk : List A → Hs → Out A}, fe' = (fun sl h => (lcAllW fi (own.map (·.2)) g1 ft fe sl h).bind kk) → PoS G L.W H ρ nx rt bk ct (sSet i fe' sl h) → Po G L.W σ H ρ (RQ G fun v H' => nx (σ.set i (some v)) H') ((lcAllW fi (own.map (·.2)) g1 ft fe sl h).bind kk) := by
    intro fe' kk efe q
    rw [efe] at q
    unfold sSet at q
    revert q
    dsimp only
    cases (lcAllW fi (own.map (·.2)) g1 ft fe sl h).bind kk with
    | ok a h1 => exact fun q H1 ρ1 e1 r1 v rv => q _ H1 ρ1 e1 r1 ((sr.mono e1).set rv i)
    | ex x h1 => exact fun q c d H1 ρ1 e1 r1 rx => q c d σ H1 ρ1 e1 r1 (sr.mono e1) rx
    | bad => exact fun q => q
  cases tr with
  | true =>
    refine lcW_ok (k := fun ys h1 => .ok (.ref h1.length) (h1 ++ [.lst ys])) hc hi okb hg ht he hw xr sr hh (key (fe' := eLcWT fi (own.map (·.2)) g1 ft fe) rfl q) fun ys hF D HF H1 ρ1 h1 e1 r1 le q1 => ?_
    obtain ⟨ρ', ex, r', ra⟩ := lc_tracked r1 le
    exact q1 HF ρ' ex r' _ ra
  | false =>
    refine lcW_ok (k := fun ys h1 => .ok (.lst ys) h1) hc hi okb hg ht he hw xr sr hh (key (fe' := eLcW fi (own.map (·.2)) g1 ft fe) rfl q) fun ys hF D HF H1 ρ1 h1 e1 r1 le q1 => ?_
    obtain ⟨ρ', ex, r', ra⟩ := lc_frozen r1 le
    exact q1 HF ρ' ex r' _ ra
/-! ### * and // of great numbers of any sign -/
def CDivG (j : Int) : Prop := j ≠ 0 ∧ j.natAbs.log2 < 9000
theorem b_fdivG {X : Cx} {H : Hp} {Q : VK} {i j : Int} (hj : CDivG j) (h : Q (.int (i.fdiv j)) H) : Bo X .FloorDiv (.int i) (.int j) H Q := ⟨fun pins s σ v u I r1 r2 => by
  obtain ⟨t, rfl⟩ := r1
  obtain ⟨t', rfl⟩ := r2
  exact PyProof.Rows.floordiv_int hj.1 ⟨.int _, H, I.tok _, ⟨_, rfl⟩, h⟩ (.inl (PyProof.noPylong_of_log2 hj.2))⟩
def gMulW (i j : Int) : Option Int := match gMul i j with
  | some k => some k
  | none => match decide (i.natAbs.log2 + j.natAbs.log2 < 1000000) with | true => some (i * j) | false => none
theorem ob_mulW : OpB G L .Mult (aInt gMulW) := int_ok fun X H i j k Q e q => by
  unfold gMulW at e
  split at e
  · rename_i z
    cases e
    unfold gMul at z
    split at z
    · rename_i z'
      cases z
      have z := of_decide_eq_true z'
      exact b_mul (CMul.ok (z.elim (fun z => .inl ⟨by omega, by omega⟩) fun z => .inr ⟨by omega, by omega⟩)) q
    · cases z
  · split at e
    · rename_i z
      cases e
      have z := of_decide_eq_true z
      exact b_mul (CMulW.ok z) q
    · cases e
def gDivN (i j : Int) : Option Int := match decide (j ≠ 0 ∧ j.natAbs.log2 < 9000) with | true => some (i.fdiv j) | false => none
theorem ob_divN : OpB G L .FloorDiv (aInt gDivN) := int_ok fun X H i j k Q e q => by
  unfold gDivN at e
  split at e
  · rename_i z
    cases e
    have z := of_decide_eq_true z
    exact b_fdivG z q
  · cases e
/-! ### ends -/
def spLaw (K : PySem.W.Frag) : Sp := fun vs H Q _ => ∃ (a : Addr) (ns : List Int), vs = [.ref a] ∧ SqL K H a (ns.map V.int) ∧ ns.length ≤ 63 ∧ ∀ H', Q (.bl true) H'
theorem law_fn {f : F} {k : Nat} {fa : Addr} {fd : FuncData} {ps : List Str} (ok : ∀ ns : List Int, ns.length ≤ 63 → ∃ h', f [.scr ns] [] = .ok (.bl true) h') (Fn : FnOk G.P G.w G.K G.mg G.base (L2.CX G.P G.w) k fa fd ps (spF G 1 f)) : FnOk G.P G.w G.K G.mg G.base (L2.CX G.P G.w) k fa fd ps (spLaw G.K) := by
  refine Fn.imp fun vs H Q E q => ?_
  obtain ⟨a, ns, rfl, hs, hl, q⟩ := q
  obtain ⟨h', e⟩ := ok ns hl
  have nl : ∀ b, ¬ Live ⟨[], []⟩ b := fun b z => by
    rcases z with ⟨i, z⟩ | z
    · simp at z
    · simp at z
  refine ⟨rfl, [.scr ns], ⟨[], []⟩, [], .cons (.scr ?_) .nil, ⟨rfl, fun i j a e => by simp at e, fun i o e => by simp at e, fun i a o e => by simp at e, fun i a e => by simp at e, fun a ha => by simp at ha⟩, ?_⟩
  · rcases hs with (hs | ⟨o, hs⟩) | hs
    · exact .inl ⟨hs, nl a⟩
    · exact .inr (.inl ⟨o, hs⟩)
    · exact .inr (.inr hs)
  · rw [e]
    intro H' ρ' _ _ v rv
    cases rv
    exact q H'
theorem kit_same' {K : PySem.W.Frag} {t : Value} : PySem.W.kitOne K t t = some true := by
  unfold PySem.W.kitOne
  rw [if_pos (beq_self_eq_true t)]
theorem kit_sub {K : PySem.W.Frag} {t : Value} {C : Addr} {b : Bool} (hc : (PySem.W.clsIn K C).isSome = true) (ht : PySem.W.typeIn K (.ref C) = some (.type "type")) (hs : PySem.W.subIn K t (.ref C) = some b) (ne : t ≠ .ref C) : PySem.W.kitOne K t (.ref C) = some b := by
  unfold PySem.W.kitOne PySem.W.kitCls
  rw [if_neg (fun z => ne (beq_iff_eq.mp z))]
  dsimp only
  rw [hc, ht, if_pos (by decide)]
  exact hs
theorem kit_bt {K : PySem.W.Frag} {t : Value} {T : String} {b : Bool} (hm : PySem.W.kitMeta T = true) (hs : PySem.W.subIn K t (.type T) = some b) (ne : t ≠ .type T) : PySem.W.kitOne K t (.type T) = some b := by
  unfold PySem.W.kitOne PySem.W.kitCls
  rw [if_neg (fun z => ne (beq_iff_eq.mp z))]
  dsimp only
  rw [if_pos hm]
  exact hs
theorem MtC.mono {m : Str} {j j' c n : Nat} {f : F} (M : MtC G m j c n f) (h : j ≤ j') : MtC G m j' c n f :=
  ⟨M.cr, M.ar, M.no, let ⟨fa, fd, ps, Fn, hm, b⟩ := M.ex; ⟨fa, fd, ps, Fn.mono h, hm, b⟩⟩
end
end Rx
set_option Elab.async false
set_option linter.all false
set_option maxRecDepth 100000
set_option maxHeartbeats 4000000
/-! RxV: evaluation: the combinators applied, by simp from the outside. -/
namespace Rx
open PySem L2 Sx
section
variable {α β : Type} {sl : Sl} {h h1 : Hs} {fa fb fc fo fe : FE} {ft fu : FT} {fs : FA} {f g : FS} {gg : FG} {x y z : A} {xs : List A}
theorem bind_nx {k : FS} : (OutS.nx sl h).bind k = k sl h := (rfl)
theorem bind_rt {k : FS} : (OutS.rt x h).bind k = .rt x h := (rfl)
theorem bind_bk {k : FS} : (OutS.bk sl h).bind k = .bk sl h := (rfl)
theorem bind_ct {k : FS} : (OutS.ct sl h).bind k = .ct sl h := (rfl)
theorem need_some {a : α} {k : α → Out β} : need (some a) k = k a := (rfl)
theorem chk_true {k : Out β} : chk true k = k := (rfl)
theorem fin_rt : (OutS.rt x h).fin = .ok x h := (rfl)
theorem fin_nx : (OutS.nx sl h).fin = .ok .non h := (rfl)
theorem sSeq_ap : sSeq f g sl h = (f sl h).bind g := (rfl)
theorem sNx_ap : sNx sl h = .nx sl h := (rfl)
theorem sBk_ap : sBk sl h = .bk sl h := (rfl)
theorem sCt_ap : sCt sl h = .ct sl h := (rfl)
theorem sRetN_ap : sRetN sl h = .rt .non h := (rfl)
def kExpr (m : Out A) (sl : Sl) : OutS := m.bindS sl fun _ h1 => .nx sl h1
theorem kExpr_ok : kExpr (.ok x h) sl = .nx sl h := (rfl)
theorem sExpr_ap : sExpr fa sl h = kExpr (fa sl h) sl := (rfl)
def kRet (m : Out A) (sl : Sl) : OutS := m.bindS sl fun a h1 => .rt a h1
theorem kRet_ok : kRet (.ok x h) sl = .rt x h := (rfl)
theorem sRet_ap : sRet fa sl h = kRet (fa sl h) sl := (rfl)
def kIf (m : Out Bool) (f g : FS) (sl : Sl) : OutS := m.bindS sl fun b h1 => match b with | true => f sl h1 | false => g sl h1
theorem kIf_t : kIf (.ok true h) f g sl = f sl h := (rfl)
theorem kIf_f : kIf (.ok false h) f g sl = g sl h := (rfl)
theorem sIf_ap : sIf ft f g sl h = kIf (ft sl h) f g sl := (rfl)
def kSet (m : Out A) (i : Nat) (sl : Sl) : OutS := m.bindS sl fun a h1 => .nx (sl.set i (some a)) h1
theorem kSet_ok {i : Nat} : kSet (.ok x h) i sl = .nx (sl.set i (some x)) h := (rfl)
theorem sSet_ap {i : Nat} : sSet i fa sl h = kSet (fa sl h) i sl := (rfl)
def kPar (m : Out A) (i j : Nat) (fb : FE) (sl : Sl) : OutS := m.bindS sl fun x h1 => (fb sl h1).bindS sl fun y h2 => .nx ((sl.set i (some x)).set j (some y)) h2
def kParb (m : Out A) (i j : Nat) (x : A) (sl : Sl) : OutS := m.bindS sl fun y h2 => .nx ((sl.set i (some x)).set j (some y)) h2
theorem kPar_ok {i j : Nat} : kPar (.ok x h) i j fb sl = kParb (fb sl h) i j x sl := (rfl)
theorem kParb_ok {i j : Nat} : kParb (.ok y h) i j x sl = .nx ((sl.set i (some x)).set j (some y)) h := (rfl)
theorem sPar_ap {i j : Nat} : sPar i j fa fb sl h = kPar (fa sl h) i j fb sl := (rfl)
def kP3 (m : Out A) (i j l : Nat) (fb fc : FE) (sl : Sl) : OutS := m.bindS sl fun x h1 => (fb sl h1).bindS sl fun y h2 => (fc sl h2).bindS sl fun z h3 => .nx (((sl.set i (some x)).set j (some y)).set l (some z)) h3
def kP3b (m : Out A) (i j l : Nat) (fc : FE) (x : A) (sl : Sl) : OutS := m.bindS sl fun y h2 => (fc sl h2).bindS sl fun z h3 => .nx (((sl.set i (some x)).set j (some y)).set l (some z)) h3
def kP3c (m : Out A) (i j l : Nat) (x y : A) (sl : Sl) : OutS := m.bindS sl fun z h3 => .nx (((sl.set i (some x)).set j (some y)).set l (some z)) h3
theorem kP3_ok {i j l : Nat} : kP3 (.ok x h) i j l fb fc sl = kP3b (fb sl h) i j l fc x sl := (rfl)
theorem kP3b_ok {i j l : Nat} : kP3b (.ok y h) i j l fc x sl = kP3c (fc sl h) i j l x y sl := (rfl)
theorem kP3c_ok {i j l : Nat} : kP3c (.ok z h) i j l x y sl = .nx (((sl.set i (some x)).set j (some y)).set l (some z)) h := (rfl)
theorem sPar3_ap {i j l : Nat} : sPar3 i j l fa fb fc sl h = kP3 (fa sl h) i j l fb fc sl := (rfl)
def onlyX (o : OutS) : OutS := match o with | .nx sl2 h2 => .nx sl2 h2 | .ex x sl2 h2 => .ex x sl2 h2 | _ => .bad
theorem onlyX_nx : onlyX (.nx sl h) = .nx sl h := (rfl)
def kAsg (m : Out A) (gg : FG) (sl : Sl) : OutS := m.bindS sl fun a h1 => onlyX (gg a sl h1)
theorem kAsg_ok : kAsg (.ok x h) gg sl = onlyX (gg x sl h) := (rfl)
theorem sAsg_ap : sAsg fa gg sl h = kAsg (fa sl h) gg sl := (rfl)
theorem gName_ap {i : Nat} : gName i x sl h = .nx (sl.set i (some x)) h := (rfl)
variable {st : A → A → A → Hs → Out Unit}
def kGs (m : Out A) (fi : FE) (st : A → A → A → Hs → Out Unit) (a : A) (sl : Sl) : OutS := m.bindS sl fun o h1 => (fi sl h1).bindS sl fun i h2 => (st o i a h2).bindS sl fun _ h3 => .nx sl h3
def kGs2 (m : Out A) (st : A → A → A → Hs → Out Unit) (a o : A) (sl : Sl) : OutS := m.bindS sl fun i h2 => (st o i a h2).bindS sl fun _ h3 => .nx sl h3
def kGs3 (m : Out Unit) (sl : Sl) : OutS := m.bindS sl fun _ h3 => .nx sl h3
theorem kGs_ok : kGs (.ok x h) fa st z sl = kGs2 (fa sl h) st z x sl := (rfl)
theorem kGs2_ok : kGs2 (.ok y h) st z x sl = kGs3 (st x y z h) sl := (rfl)
theorem kGs3_ok : kGs3 (.ok () h) sl = .nx sl h := (rfl)
theorem gSub_ap : gSub fo fa st x sl h = kGs (fo sl h) fa st x sl := (rfl)
def kGt (b : Bool) (gs : List A → Sl → Hs → OutS) (xs : List A) (sl : Sl) (h : Hs) : OutS := match b with | true => gs xs sl h | false => .bad
theorem kGt_t {gs : List A → Sl → Hs → OutS} : kGt true gs xs sl h = gs xs sl h := (rfl)
theorem gTup_ap {n : Nat} {gs : List A → Sl → Hs → OutS} : gTup n gs (.tup xs) sl h = kGt (Nat.beq xs.length n) gs xs sl h := (rfl)
theorem gsNil_ap : gsNil [] sl h = .nx sl h := (rfl)
theorem gsCons_ap {gs : List A → Sl → Hs → OutS} : gsCons gg gs (x :: xs) sl h = (gg x sl h).bind (gs xs) := (rfl)
def getV (o : Option (Option A)) (h : Hs) : Out A := match o with | some (some a) => .ok a h | _ => .bad
theorem getV_some : getV (some (some x)) h = .ok x h := (rfl)
theorem eVar_ap {i : Nat} : eVar i sl h = getV sl[i]? h := (rfl)
theorem eC_ap : eC x sl h = .ok x h := (rfl)
def kE1 (m : Out A) (k : A → Hs → Out A) : Out A := m.bind k
theorem kE1_ok {k : A → Hs → Out A} : kE1 (.ok x h) k = k x h := (rfl)
def kE2 (m : Out A) (fb : FE) (k : A → A → Hs → Out A) (sl : Sl) : Out A := m.bind fun x h1 => (fb sl h1).bind fun y h2 => k x y h2
def kE2b (m : Out A) (k : A → A → Hs → Out A) (x : A) : Out A := m.bind fun y h2 => k x y h2
theorem kE2_ok {k : A → A → Hs → Out A} : kE2 (.ok x h) fb k sl = kE2b (fb sl h) k x := (rfl)
theorem kE2b_ok {k : A → A → Hs → Out A} : kE2b (.ok y h) k x = k x y h := (rfl)
theorem e2_ap {k : A → A → Hs → Out A} : e2 fa fb k sl h = kE2 (fa sl h) fb k sl := (rfl)
theorem e1_ap {k : A → Hs → Out A} : e1 fa k sl h = kE1 (fa sl h) k := (rfl)
def kB (m : Out A) : Out Bool := m.bind isB
theorem kB_ok {b : Bool} : kB (.ok (.bl b) h) = .ok b h := (rfl)
def kT2 (m : Out A) (fb : FE) (k : A → A → Hs → Out A) (sl : Sl) : Out Bool := m.bind fun x h1 => (fb sl h1).bind fun y h2 => (k x y h2).bind isB
def kT2b (m : Out A) (k : A → A → Hs → Out A) (x : A) : Out Bool := m.bind fun y h2 => (k x y h2).bind isB
theorem kT2_ok {k : A → A → Hs → Out A} : kT2 (.ok x h) fb k sl = kT2b (fb sl h) k x := (rfl)
theorem kT2b_ok {k : A → A → Hs → Out A} : kT2b (.ok y h) k x = kB (k x y h) := (rfl)
theorem e2t_ap {k : A → A → Hs → Out A} : e2t fa fb k sl h = kT2 (fa sl h) fb k sl := (rfl)
def kT1 (m : Out A) (k : A → Hs → Out Bool) : Out Bool := m.bind k
theorem kT1_ok {k : A → Hs → Out Bool} : kT1 (.ok x h) k = k x h := (rfl)
theorem t1_ap {k : A → Hs → Out Bool} : t1 fa k sl h = kT1 (fa sl h) k := (rfl)
theorem truA_bl {b : Bool} : truA (.bl b) h = .ok b h := (rfl)
theorem isB_bl {b : Bool} : isB (.bl b) h = .ok b h := (rfl)
def kNot (m : Out Bool) : Out Bool := m.bind fun b h1 => .ok (!b) h1
theorem kNot_ok {b : Bool} : kNot (.ok b h) = .ok (!b) h := (rfl)
theorem tNot_ap : tNot ft sl h = kNot (ft sl h) := (rfl)
def kAnd (m : Out Bool) (fu : FT) (sl : Sl) : Out Bool := m.bind fun b h1 => match b with | true => fu sl h1 | false => .ok false h1
theorem kAnd_t : kAnd (.ok true h) fu sl = fu sl h := (rfl)
theorem kAnd_f : kAnd (.ok false h) fu sl = .ok false h := (rfl)
theorem tAnd_ap : tAnd ft fu sl h = kAnd (ft sl h) fu sl := (rfl)
def kOr (m : Out Bool) (fu : FT) (sl : Sl) : Out Bool := m.bind fun b h1 => match b with | true => .ok true h1 | false => fu sl h1
theorem kOr_t : kOr (.ok true h) fu sl = .ok true h := (rfl)
theorem kOr_f : kOr (.ok false h) fu sl = fu sl h := (rfl)
theorem tOr_ap : tOr ft fu sl h = kOr (ft sl h) fu sl := (rfl)
def kIfE (m : Out Bool) (fa fb : FE) (sl : Sl) : Out A := m.bind fun b h1 => match b with | true => fa sl h1 | false => fb sl h1
theorem kIfE_t : kIfE (.ok true h) fa fb sl = fa sl h := (rfl)
theorem kIfE_f : kIfE (.ok false h) fa fb sl = fb sl h := (rfl)
theorem eIf_ap : eIf ft fa fb sl h = kIfE (ft sl h) fa fb sl := (rfl)
def kAndE (m : Out A) (fb : FE) (sl : Sl) : Out A := m.bind fun x h1 => match x with | .bl true => fb sl h1 | .bl false => .ok (.bl false) h1 | _ => .bad
theorem kAndE_t : kAndE (.ok (.bl true) h) fb sl = fb sl h := (rfl)
theorem kAndE_f : kAndE (.ok (.bl false) h) fb sl = .ok (.bl false) h := (rfl)
theorem eAnd_ap : eAnd fa fb sl h = kAndE (fa sl h) fb sl := (rfl)
def kOrE (m : Out A) (fb : FE) (sl : Sl) : Out A := m.bind fun x h1 => match x with | .bl true => .ok (.bl true) h1 | .bl false => fb sl h1 | _ => .bad
theorem kOrE_t : kOrE (.ok (.bl true) h) fb sl = .ok (.bl true) h := (rfl)
theorem kOrE_f : kOrE (.ok (.bl false) h) fb sl = fb sl h := (rfl)
theorem eOr_ap : eOr fa fb sl h = kOrE (fa sl h) fb sl := (rfl)
def kNotE (m : Out A) : Out A := m.bind fun x h1 => match x with | .bl b => .ok (.bl (!b)) h1 | _ => .bad
theorem kNotE_ok {b : Bool} : kNotE (.ok (.bl b) h) = .ok (.bl (!b)) h := (rfl)
theorem eNot_ap : eNot fa sl h = kNotE (fa sl h) := (rfl)
theorem aNil_ap : aNil sl h = .ok [] h := (rfl)
def kA (m : Out A) (fs : FA) (sl : Sl) : Out (List A) := m.bind fun x h1 => (fs sl h1).bind fun xs h2 => .ok (x :: xs) h2
def kAb (m : Out (List A)) (x : A) : Out (List A) := m.bind fun xs h2 => .ok (x :: xs) h2
theorem kA_ok : kA (.ok x h) fs sl = kAb (fs sl h) x := (rfl)
theorem kAb_ok : kAb (.ok xs h) x = .ok (x :: xs) h := (rfl)
theorem aCons_ap : aCons fa fs sl h = kA (fa sl h) fs sl := (rfl)
def kTup (m : Out (List A)) : Out A := m.bind fun xs h1 => chk (Nat.ble xs.length sizeLine) (.ok (.tup xs) h1)
def kLst (m : Out (List A)) : Out A := m.bind fun xs h1 => chk (Nat.ble xs.length sizeLine) (.ok (.lst xs) h1)
def kLstT (m : Out (List A)) : Out A := m.bind fun xs h1 => chk (Nat.ble xs.length sizeLine) (.ok (.ref h1.length) (h1 ++ [.lst xs]))
theorem kTup_ok : kTup (.ok xs h) = chk (Nat.ble xs.length sizeLine) (.ok (.tup xs) h) := (rfl)
theorem kLst_ok : kLst (.ok xs h) = chk (Nat.ble xs.length sizeLine) (.ok (.lst xs) h) := (rfl)
theorem kLstT_ok : kLstT (.ok xs h) = chk (Nat.ble xs.length sizeLine) (.ok (.ref h.length) (h ++ [.lst xs])) := (rfl)
theorem eTup_ap : eTup fs sl h = kTup (fs sl h) := (rfl)
theorem eLst_ap : eLst fs sl h = kLst (fs sl h) := (rfl)
theorem eLstT_ap : eLstT fs sl h = kLstT (fs sl h) := (rfl)
def kK (m : Out (List A)) (k : F) : Out A := m.bind k
theorem kK_ok {k : F} : kK (.ok xs h) k = k xs h := (rfl)
theorem eK_ap {k : F} : eK fs k sl h = kK (fs sl h) k := (rfl)
theorem eAt_ap {att : Nat → At} : eAt att fa sl h = kE1 (fa sl h) (getAt att) := (rfl)
theorem f1_ap {k : A → Hs → Out A} : f1 k [x] h = k x h := (rfl)
theorem f2_ap {k : A → A → Hs → Out A} : f2 k [x, y] h = k x y h := (rfl)
theorem aCmp_ap {p : Int → Int → Bool} {i j : Int} : aCmp p (.int i) (.int j) h = .ok (.bl (p i j)) h := (rfl)
theorem aAdd_int {i j : Int} : aAdd (.int i) (.int j) h = .ok (.int (i + j)) h := (rfl)
theorem aInt_ap {p : Int → Int → Option Int} {i j : Int} : aInt p (.int i) (.int j) h = need (p i j) fun k => .ok (.int k) h := (rfl)
theorem gSub_int {i j : Int} : gSub' i j = some (i - j) := (rfl)
theorem gMod_int {i j : Int} (hj : 0 < j) : gMod i j = some (i % j) := by unfold gMod; rw [decide_eq_true hj]
theorem gMul_l {i j : Int} (hj : -18446744073709551616 < i ∧ i < 18446744073709551616) : gMul i j = some (i * j) := by unfold gMul; rw [decide_eq_true (.inl hj)]
theorem gMul_r {i j : Int} (hj : -18446744073709551616 < j ∧ j < 18446744073709551616) : gMul i j = some (i * j) := by unfold gMul; rw [decide_eq_true (.inr hj)]
theorem gDiv_int {i j : Int} (hj : 0 < j ∧ j ≤ 10000000000000000000000000000000) : gDiv i j = some (i / j) := by unfold gDiv; rw [decide_eq_true hj]
theorem intA_int {i : Int} : intA (.int i) h = .ok (.int i) h := (rfl)
theorem intA_bl {b : Bool} : intA (.bl b) h = .ok (.int (if b then 1 else 0)) h := (rfl)
theorem absA_int {i : Int} : absA (.int i) h = .ok (.int (if i < 0 then -i else i)) h := (rfl)
theorem maxA_int {i j : Int} : maxA (.int i) (.int j) h = .ok (.int (if j > i then j else i)) h := (rfl)
theorem minA_int {i j : Int} : minA (.int i) (.int j) h = .ok (.int (if j < i then j else i)) h := (rfl)
theorem aNeg_int {i : Int} : aNeg (.int i) h = .ok (.int (-i)) h := (rfl)
theorem lenA_scr {ns : List Int} : lenA (.scr ns) h = .ok (.int (Int.ofNat ns.length)) h := (rfl)
theorem lenA_lst : lenA (.lst xs) h = .ok (.int (Int.ofNat xs.length)) h := (rfl)
theorem lenA_tup : lenA (.tup xs) h = .ok (.int (Int.ofNat xs.length)) h := (rfl)
theorem ixA_scr {ns : List Int} {i : Int} : ixA (.scr ns) (.int i) h = need (atI ns i) fun n => .ok (.int n) h := (rfl)
theorem ixA_lst {i : Int} : ixA (.lst xs) (.int i) h = need (atI xs i) fun z => .ok z h := (rfl)
theorem ixA_tup {i : Int} : ixA (.tup xs) (.int i) h = need (atI xs i) fun z => .ok z h := (rfl)
theorem ixA_ref {n : Nat} {i : Int} (hn : h[n]? = some (.lst xs)) : ixA (.ref n) (.int i) h = need (atI xs i) fun z => .ok z h := by
  have e : itemsOf (.ref n) h = some xs := by
    show (match h[n]? with | some (.lst xs) => some xs | _ => none) = _
    rw [hn]
  show need (itemsOf (.ref n) h) _ = _
  rw [e]; rfl
theorem setL_ref {n : Nat} {i : Int} (hn : h[n]? = some (.lst xs)) : setL (.ref n) (.int i) z h = need (ixN xs.length i) fun j => .ok () (h.set n (.lst (xs.set j z))) := by
  show (match h[n]? with | some (.lst xs) => need (ixN xs.length i) fun j => .ok () (h.set n (.lst (xs.set j z))) | _ => .bad) = _
  rw [hn]
theorem get_set {n : Nat} {o o' : O} (hn : h[n]? = some o) : (h.set n o')[n]? = some o' := by
  have hl : n < h.length := by
    by_cases hl : n < h.length
    · exact hl
    · rw [List.getElem?_eq_none (by omega)] at hn; cases hn
  rw [List.getElem?_set_self hl]
theorem set_set {n : Nat} {o o' : O} : (h.set n o').set n o = h.set n o := List.set_set ..
theorem runF_ap {n nl : Nat} {fb : FS} (hx : xs.length = n) : runF n nl fb xs h = (fb (xs.map some ++ List.replicate (nl - n) none) h).fin := by
  unfold runF
  rw [show Nat.beq xs.length n = true by rw [hx]; exact Nat.beq_refl n]
end
end Rx
set_option Elab.async false
set_option linter.all false
set_option maxRecDepth 100000
set_option maxHeartbeats 4000000
/-! RxW: what is wished of a pure outcome: frames, and the equations by which simp walks a text of combinators from its root. -/
namespace Rx
open PySem L2 Sx
structure KE (α : Type) where
  q : α → Hs → Prop
  e : Xc → Hs → Prop
structure KS where
  n : Sl → Hs → Prop
  r : A → Hs → Prop
  b : Sl → Hs → Prop
  c : Sl → Hs → Prop
  e : Xc → Sl → Hs → Prop
def Out.sat {α : Type} (m : Out α) (k : KE α) : Prop := match m with
  | .ok a h => k.q a h
  | .ex x h => k.e x h
  | .bad => False
def OutS.sat (m : OutS) (k : KS) : Prop := match m with
  | .nx sl h => k.n sl h
  | .rt a h => k.r a h
  | .bk sl h => k.b sl h
  | .ct sl h => k.c sl h
  | .ex x sl h => k.e x sl h
  | .bad => False
/-- both ways of a test -/
structure Cond (b : Bool) (P Q : Prop) : Prop where
  t : b = true → P
  f : b = false → Q
theorem cond_true {P Q : Prop} : Cond true P Q = P := propext ⟨fun c => c.t rfl, fun p => ⟨fun _ => p, fun z => nomatch z⟩⟩
theorem cond_false {P Q : Prop} : Cond false P Q = Q := propext ⟨fun c => c.f rfl, fun p => ⟨fun z => (nomatch z), fun _ => p⟩⟩
theorem cond_t {P Q : Prop} {b : Bool} (e : b = true) (p : P) : Cond b P Q := by rw [e, cond_true]; exact p
theorem cond_f {P Q : Prop} {b : Bool} (e : b = false) (p : Q) : Cond b P Q := by rw [e, cond_false]; exact p
theorem cond_dt {c P Q : Prop} [Decidable c] (hc : c) (p : P) : Cond (decide c) P Q := cond_t (decide_eq_true hc) p
theorem cond_df {c P Q : Prop} [Decidable c] (hc : ¬ c) (p : Q) : Cond (decide c) P Q := cond_f (decide_eq_false hc) p
theorem cond_d {c P Q : Prop} [Decidable c] (p : c → P) (q : ¬ c → Q) : Cond (decide c) P Q := ⟨fun z => p (of_decide_eq_true z), fun z => q (of_decide_eq_false z)⟩
theorem cond_not {b : Bool} {P Q : Prop} : Cond (!b) P Q = Cond b Q P := by cases b <;> simp [cond_true, cond_false]
/-- both ways, not yet gone -/
def CdS (b : Bool) (f g : FS) (sl : Sl) (h : Hs) (k : KS) : Prop := Cond b ((f sl h).sat k) ((g sl h).sat k)
def CdE {α : Type} (b : Bool) (f g : Sl → Hs → Out α) (sl : Sl) (h : Hs) (k : KE α) : Prop := Cond b ((f sl h).sat k) ((g sl h).sat k)
section
variable {α β : Type} {sl : Sl} {h h1 : Hs} {fa fb fc fo fi fe : FE} {ft fu : FT} {fs : FA} {f g : FS} {gg : FG} {x y z : A} {xs ys : List A} {k : KS} {ke : KE A} {kt : KE Bool} {kl : KE (List A)} {i j l n : Nat} {xc : Xc} {b : Bool}
theorem cds_t : CdS true f g sl h k = (f sl h).sat k := cond_true
theorem cds_f : CdS false f g sl h k = (g sl h).sat k := cond_false
theorem cde_t {f g : Sl → Hs → Out α} {k : KE α} : CdE true f g sl h k = (f sl h).sat k := cond_true
theorem cde_f {f g : Sl → Hs → Out α} {k : KE α} : CdE false f g sl h k = (g sl h).sat k := cond_false
theorem cds_by (p : b = true → (f sl h).sat k) (q : b = false → (g sl h).sat k) : CdS b f g sl h k := ⟨p, q⟩
theorem cde_by {f g : Sl → Hs → Out α} {k : KE α} (p : b = true → (f sl h).sat k) (q : b = false → (g sl h).sat k) : CdE b f g sl h k := ⟨p, q⟩
theorem cds_d {c : Prop} [Decidable c] (p : c → (f sl h).sat k) (q : ¬ c → (g sl h).sat k) : CdS (decide c) f g sl h k := cond_d p q
theorem cde_d {c : Prop} [Decidable c] {f g : Sl → Hs → Out α} {k : KE α} (p : c → (f sl h).sat k) (q : ¬ c → (g sl h).sat k) : CdE (decide c) f g sl h k := cond_d p q
theorem cds_not : CdS (!b) f g sl h k = CdS b g f sl h k := cond_not
theorem cde_not {f g : Sl → Hs → Out α} {k : KE α} : CdE (!b) f g sl h k = CdE b g f sl h k := cond_not
theorem s_ok {a : α} {k : KE α} : (Out.ok a h).sat k = k.q a h := (rfl)
theorem s_ex {k : KE α} : (Out.ex xc h : Out α).sat k = k.e xc h := (rfl)
theorem s_bad {k : KE α} : (Out.bad : Out α).sat k = False := (rfl)
theorem s_Nx : (OutS.nx sl h).sat k = k.n sl h := (rfl)
theorem s_Rt : (OutS.rt x h).sat k = k.r x h := (rfl)
theorem Out.sat_mono {m : Out α} {k k' : KE α} (s : m.sat k) (q : ∀ a h, k.q a h → k'.q a h) (e : ∀ a h, k.e a h → k'.e a h) : m.sat k' := by
  cases m with
  | ok a h => exact q a h s
  | ex x h => exact e x h s
  | bad => exact s
theorem OutS.sat_mono {m : OutS} {k k' : KS} (s : m.sat k) (n : ∀ a h, k.n a h → k'.n a h) (r : ∀ a h, k.r a h → k'.r a h) (b : ∀ a h, k.b a h → k'.b a h) (c : ∀ a h, k.c a h → k'.c a h) (e : ∀ x a h, k.e x a h → k'.e x a h) : m.sat k' := by
  cases m with
  | nx a h => exact n a h s
  | rt a h => exact r a h s
  | bk a h => exact b a h s
  | ct a h => exact c a h s
  | ex x a h => exact e x a h s
  | bad => exact s
/-- what a call comes to, used ahead of what is wished behind it -/
theorem sat_thn {m : Out α} {k : KE α} (P : α → Hs → Prop) (s : m.sat ⟨P, fun _ _ => False⟩) (c : ∀ a h, P a h → k.q a h) : m.sat k := Out.sat_mono s c fun _ _ z => z.elim
theorem sat_of {m : Out α} {k : KE α} {a : α} (e : m = .ok a h) (q : k.q a h) : m.sat k := by rw [e]; exact q

/-! ### statements -/
/-- a cut behind a statement -/
theorem cut_seq {f g : FS} (P : Sl → Hs → Prop) (s : (f sl h).sat ⟨P, fun _ _ => False, fun _ _ => False, fun _ _ => False, fun _ _ _ => False⟩) (c : ∀ sl h, P sl h → (g sl h).sat k) : (sSeq f g sl h).sat k := by
  unfold sSeq
  cases hf : f sl h with
  | nx sl1 h1 => rw [hf] at s; exact c sl1 h1 s
  | rt a h1 => rw [hf] at s; exact s.elim
  | bk a h1 => rw [hf] at s; exact s.elim
  | ct a h1 => rw [hf] at s; exact s.elim
  | ex x a h1 => rw [hf] at s; exact s.elim
  | bad => rw [hf] at s; exact s.elim
def kSeq (g : FS) (k : KS) : KS := ⟨fun sl h => (g sl h).sat k, k.r, k.b, k.c, k.e⟩
theorem n_seq : (kSeq g k).n sl h = (g sl h).sat k := (rfl)
theorem r_seq : (kSeq g k).r x h = k.r x h := (rfl)
theorem b_seq : (kSeq g k).b sl h = k.b sl h := (rfl)
theorem c_seq : (kSeq g k).c sl h = k.c sl h := (rfl)
theorem e_seq : (kSeq g k).e xc sl h = k.e xc sl h := (rfl)
theorem s_sbind {m : OutS} {g : FS} : (m.bind g).sat k = m.sat (kSeq g k) := by cases m <;> rfl
theorem s_seq : (sSeq f g sl h).sat k = (f sl h).sat (kSeq g k) := s_sbind
theorem s_nx : (sNx sl h).sat k = k.n sl h := (rfl)
theorem s_bk : (sBk sl h).sat k = k.b sl h := (rfl)
theorem s_ct : (sCt sl h).sat k = k.c sl h := (rfl)
theorem s_retN : (sRetN sl h).sat k = k.r .non h := (rfl)
/-- a value within a statement -/
def kV (sl : Sl) (c : α → Hs → OutS) (k : KS) : KE α := ⟨fun a h => (c a h).sat k, fun x h => k.e x sl h⟩
theorem s_bindS {m : Out α} {c : α → Hs → OutS} : (m.bindS sl c).sat k = m.sat (kV sl c k) := by cases m <;> rfl

def kExp (sl : Sl) (k : KS) : KE A := ⟨fun a h => k.n sl h, fun xc h => k.e xc sl h⟩
theorem q_expr {a : A} : (kExp sl k).q a h = k.n sl h := (rfl)
theorem e_expr : (kExp sl k).e xc h = k.e xc sl h := (rfl)
theorem s_expr : (sExpr fa sl h).sat k = (fa sl h).sat (kExp sl k) := s_bindS
def kRe (sl : Sl) (k : KS) : KE A := ⟨fun a h => k.r a h, fun xc h => k.e xc sl h⟩
theorem q_ret {a : A} : (kRe sl k).q a h = k.r a h := (rfl)
theorem e_ret : (kRe sl k).e xc h = k.e xc sl h := (rfl)
theorem s_ret : (sRet fa sl h).sat k = (fa sl h).sat (kRe sl k) := s_bindS
def kSe (i : Nat) (sl : Sl) (k : KS) : KE A := ⟨fun a h => k.n (sl.set i (some a)) h, fun xc h => k.e xc sl h⟩
theorem q_set {a : A} : (kSe i sl k).q a h = k.n (sl.set i (some a)) h := (rfl)
theorem e_set : (kSe i sl k).e xc h = k.e xc sl h := (rfl)
theorem s_set : (sSet i fa sl h).sat k = (fa sl h).sat (kSe i sl k) := s_bindS
def kIff (f g : FS) (sl : Sl) (k : KS) : KE Bool := ⟨fun b h => Cond b ((f sl h).sat k) ((g sl h).sat k), fun xc h => k.e xc sl h⟩
theorem q_if {b : Bool} : (kIff f g sl k).q b h = CdS b f g sl h k := (rfl)
theorem e_if : (kIff f g sl k).e xc h = k.e xc sl h := (rfl)
theorem s_if : (sIf ft f g sl h).sat k = (ft sl h).sat (kIff f g sl k) := by
  refine s_bindS.trans ?_
  cases ft sl h with
  | ok b h => cases b <;> simp [Out.sat, kV, kIff, cond_true, cond_false]
  | ex x h => rfl
  | bad => rfl
def kPa2 (i j : Nat) (x : A) (sl : Sl) (k : KS) : KE A := ⟨fun a h => k.n ((sl.set i (some x)).set j (some a)) h, fun xc h => k.e xc sl h⟩
theorem q_parb {a : A} : (kPa2 i j x sl k).q a h = k.n ((sl.set i (some x)).set j (some a)) h := (rfl)
theorem e_parb : (kPa2 i j x sl k).e xc h = k.e xc sl h := (rfl)
def kPa1 (i j : Nat) (fb : FE) (sl : Sl) (k : KS) : KE A := ⟨fun a h => (fb sl h).sat (kPa2 i j a sl k), fun xc h => k.e xc sl h⟩
theorem q_par {a : A} : (kPa1 i j fb sl k).q a h = (fb sl h).sat (kPa2 i j a sl k) := (rfl)
theorem e_par : (kPa1 i j fb sl k).e xc h = k.e xc sl h := (rfl)
theorem s_par : (sPar i j fa fb sl h).sat k = (fa sl h).sat (kPa1 i j fb sl k) := by
  refine s_bindS.trans ?_
  cases fa sl h with
  | ok a h => exact s_bindS
  | ex x h => rfl
  | bad => rfl
def kPb3 (i j l : Nat) (x y : A) (sl : Sl) (k : KS) : KE A := ⟨fun a h => k.n (((sl.set i (some x)).set j (some y)).set l (some a)) h, fun xc h => k.e xc sl h⟩
theorem q_par3c {a : A} : (kPb3 i j l x y sl k).q a h = k.n (((sl.set i (some x)).set j (some y)).set l (some a)) h := (rfl)
theorem e_par3c : (kPb3 i j l x y sl k).e xc h = k.e xc sl h := (rfl)
def kPb2 (i j l : Nat) (x : A) (fc : FE) (sl : Sl) (k : KS) : KE A := ⟨fun a h => (fc sl h).sat (kPb3 i j l x a sl k), fun xc h => k.e xc sl h⟩
theorem q_par3b {a : A} : (kPb2 i j l x fc sl k).q a h = (fc sl h).sat (kPb3 i j l x a sl k) := (rfl)
theorem e_par3b : (kPb2 i j l x fc sl k).e xc h = k.e xc sl h := (rfl)
def kPb1 (i j l : Nat) (fb fc : FE) (sl : Sl) (k : KS) : KE A := ⟨fun a h => (fb sl h).sat (kPb2 i j l a fc sl k), fun xc h => k.e xc sl h⟩
theorem q_par3 {a : A} : (kPb1 i j l fb fc sl k).q a h = (fb sl h).sat (kPb2 i j l a fc sl k) := (rfl)
theorem e_par3 : (kPb1 i j l fb fc sl k).e xc h = k.e xc sl h := (rfl)
theorem s_par3 : (sPar3 i j l fa fb fc sl h).sat k = (fa sl h).sat (kPb1 i j l fb fc sl k) := by
  refine s_bindS.trans ?_
  cases fa sl h with
  | ok a h =>
    refine s_bindS.trans ?_
    show (fb sl h).sat _ = (fb sl h).sat _
    cases fb sl h with
    | ok a h => exact s_bindS
    | ex x h => rfl
    | bad => rfl
  | ex x h => rfl
  | bad => rfl
def kNo (k : KS) : KS := ⟨k.n, fun _ _ => False, fun _ _ => False, fun _ _ => False, k.e⟩
theorem n_no : (kNo k).n sl h = k.n sl h := (rfl)
theorem e_no : (kNo k).e xc sl h = k.e xc sl h := (rfl)
def kAs (gg : FG) (sl : Sl) (k : KS) : KE A := ⟨fun a h => (gg a sl h).sat (kNo k), fun xc h => k.e xc sl h⟩
theorem q_as {a : A} : (kAs gg sl k).q a h = (gg a sl h).sat (kNo k) := (rfl)
theorem e_as : (kAs gg sl k).e xc h = k.e xc sl h := (rfl)
theorem s_asg : (sAsg fa gg sl h).sat k = (fa sl h).sat (kAs gg sl k) := by
  refine s_bindS.trans ?_
  cases fa sl h with
  | ok a h =>
    show OutS.sat (match gg a sl h with | .nx sl2 h2 => .nx sl2 h2 | .ex x sl2 h2 => .ex x sl2 h2 | _ => .bad) k = (gg a sl h).sat (kNo k)
    cases gg a sl h <;> rfl
  | ex x h => rfl
  | bad => rfl
theorem s_gname : (gName i x sl h).sat k = k.n (sl.set i (some x)) h := (rfl)
variable {st : A → A → A → Hs → Out Unit}
def kGu (sl : Sl) (k : KS) : KE Unit := ⟨fun _ h => k.n sl h, fun xc h => k.e xc sl h⟩
theorem q_gu {u : Unit} : (kGu sl k).q u h = k.n sl h := (rfl)
theorem e_gu : (kGu sl k).e xc h = k.e xc sl h := (rfl)
def kGi (st : A → A → A → Hs → Out Unit) (v o : A) (sl : Sl) (k : KS) : KE A := ⟨fun a h => (st o a v h).sat (kGu sl k), fun xc h => k.e xc sl h⟩
theorem q_gi {a : A} : (kGi st x y sl k).q a h = (st y a x h).sat (kGu sl k) := (rfl)
theorem e_gi : (kGi st x y sl k).e xc h = k.e xc sl h := (rfl)
def kGo (fi : FE) (st : A → A → A → Hs → Out Unit) (v : A) (sl : Sl) (k : KS) : KE A := ⟨fun a h => (fi sl h).sat (kGi st v a sl k), fun xc h => k.e xc sl h⟩
theorem q_go {a : A} : (kGo fi st x sl k).q a h = (fi sl h).sat (kGi st x a sl k) := (rfl)
theorem e_go : (kGo fi st x sl k).e xc h = k.e xc sl h := (rfl)
theorem s_gsub : (gSub fo fi st x sl h).sat k = (fo sl h).sat (kGo fi st x sl k) := by
  refine s_bindS.trans ?_
  cases fo sl h with
  | ok a h =>
    refine s_bindS.trans ?_
    show (fi sl h).sat _ = (fi sl h).sat _
    cases fi sl h with
    | ok a h => exact s_bindS
    | ex x h => rfl
    | bad => rfl
  | ex x h => rfl
  | bad => rfl
theorem s_gtup2 {gs : List A → Sl → Hs → OutS} : (gTup 2 gs (.tup [x, y]) sl h).sat k = (gs [x, y] sl h).sat k := (rfl)
theorem s_gtup3 {gs : List A → Sl → Hs → OutS} : (gTup 3 gs (.tup [x, y, z]) sl h).sat k = (gs [x, y, z] sl h).sat k := (rfl)
theorem s_gtup1 {gs : List A → Sl → Hs → OutS} : (gTup 1 gs (.tup [x]) sl h).sat k = (gs [x] sl h).sat k := (rfl)
theorem s_gtup4 {gs : List A → Sl → Hs → OutS} {w : A} : (gTup 4 gs (.tup [x, y, z, w]) sl h).sat k = (gs [x, y, z, w] sl h).sat k := (rfl)
theorem s_gsnil : (gsNil [] sl h).sat k = k.n sl h := (rfl)
def kGs' (gs : List A → Sl → Hs → OutS) (xs : List A) (k : KS) : KS := ⟨fun sl h => (gs xs sl h).sat k, k.r, k.b, k.c, k.e⟩
theorem n_gs {gs : List A → Sl → Hs → OutS} : (kGs' gs xs k).n sl h = (gs xs sl h).sat k := (rfl)
theorem e_gs {gs : List A → Sl → Hs → OutS} : (kGs' gs xs k).e xc sl h = k.e xc sl h := (rfl)
theorem s_gscons {gs : List A → Sl → Hs → OutS} : (gsCons gg gs (x :: xs) sl h).sat k = (gg x sl h).sat (kGs' gs xs k) := s_sbind
variable {op : A → A → Hs → Out A} {op1 : A → Hs → Out A}
def kAu (op : A → A → Hs → Out A) (i : Nat) (x : A) (sl : Sl) (k : KS) : KE A := ⟨fun a h => (op x a h).sat (kSe i sl k), fun xc h => k.e xc sl h⟩
theorem q_au {a : A} : (kAu op i x sl k).q a h = (op x a h).sat (kSe i sl k) := (rfl)
theorem e_au : (kAu op i x sl k).e xc h = k.e xc sl h := (rfl)
def augV (o : Option (Option A)) (i : Nat) (fa : FE) (op : A → A → Hs → Out A) (sl : Sl) (h : Hs) (k : KS) : Prop := match o with | some (some x) => (fa sl h).sat (kAu op i x sl k) | _ => False
theorem augV_some : augV (some (some x)) i fa op sl h k = (fa sl h).sat (kAu op i x sl k) := (rfl)
theorem s_aug : (sAug i fa op sl h).sat k = augV sl[i]? i fa op sl h k := by
  unfold sAug
  cases sl[i]? with
  | none => rfl
  | some o =>
    cases o with
    | none => rfl
    | some a =>
      refine s_bindS.trans ?_
      show (fa sl h).sat _ = (fa sl h).sat _
      cases fa sl h with
      | ok a h => exact s_bindS
      | ex x h => rfl
      | bad => rfl
variable {att : Nat → At}
def kFo (att : Nat → At) (y : A) (sl : Sl) (k : KS) : KE A := ⟨fun a h => (setAt att a y h).sat (kGu sl k), fun xc h => k.e xc sl h⟩
theorem q_fo {a : A} : (kFo att y sl k).q a h = (setAt att a y h).sat (kGu sl k) := (rfl)
theorem e_fo : (kFo att y sl k).e xc h = k.e xc sl h := (rfl)
def kFv (att : Nat → At) (fo : FE) (sl : Sl) (k : KS) : KE A := ⟨fun a h => (fo sl h).sat (kFo att a sl k), fun xc h => k.e xc sl h⟩
theorem q_fv {a : A} : (kFv att fo sl k).q a h = (fo sl h).sat (kFo att a sl k) := (rfl)
theorem e_fv : (kFv att fo sl k).e xc h = k.e xc sl h := (rfl)
theorem s_fld : (sFld att fo fa sl h).sat k = (fa sl h).sat (kFv att fo sl k) := by
  refine s_bindS.trans ?_
  cases fa sl h with
  | ok a h =>
    refine s_bindS.trans ?_
    show (fo sl h).sat _ = (fo sl h).sat _
    cases fo sl h with
    | ok a h => exact s_bindS
    | ex x h => rfl
    | bad => rfl
  | ex x h => rfl
  | bad => rfl
/-! ### expressions -/
def tNo : FT := fun _ h => .ok false h
theorem s_yes : (tYes sl h).sat kt = kt.q true h := (rfl)
theorem s_no : (tNo sl h).sat kt = kt.q false h := (rfl)
/-- a value within an expression -/
def kW (c : α → Hs → Out β) (k : KE β) : KE α := ⟨fun a h => (c a h).sat k, k.e⟩
theorem q_w {c : α → Hs → Out β} {k : KE β} {a : α} : (kW c k).q a h = (c a h).sat k := (rfl)
theorem e_w {c : α → Hs → Out β} {k : KE β} : (kW c k).e xc h = k.e xc h := (rfl)
theorem s_bind {m : Out α} {c : α → Hs → Out β} {k : KE β} : (m.bind c).sat k = m.sat (kW c k) := by cases m <;> rfl
theorem s_var : (eVar i sl h).sat ke = (getV sl[i]? h).sat ke := (rfl)
theorem s_getV : (getV (some (some x)) h).sat ke = ke.q x h := (rfl)
theorem s_c : (eC x sl h).sat ke = ke.q x h := (rfl)
theorem s_e1 : (e1 fa op1 sl h).sat ke = (fa sl h).sat (kW op1 ke) := s_bind
def kO1 (fb : FE) (op : A → A → Hs → Out A) (sl : Sl) (k : KE A) : KE A := ⟨fun x h => (fb sl h).sat (kW (op x) k), k.e⟩
theorem q_o1 {a : A} : (kO1 fb op sl ke).q a h = (fb sl h).sat (kW (op a) ke) := (rfl)
theorem e_o1 : (kO1 fb op sl ke).e xc h = ke.e xc h := (rfl)
theorem s_e2 : (e2 fa fb op sl h).sat ke = (fa sl h).sat (kO1 fb op sl ke) := by
  refine s_bind.trans ?_
  cases fa sl h with
  | ok a h => exact s_bind
  | ex x h => rfl
  | bad => rfl
def kBl (k : KE Bool) : KE A := ⟨fun x h => (isB x h).sat k, k.e⟩
theorem q_bl : (kBl kt).q x h = (isB x h).sat kt := (rfl)
theorem e_bl : (kBl kt).e xc h = kt.e xc h := (rfl)
theorem s_isB : (isB (.bl b) h).sat kt = kt.q b h := (rfl)
theorem s_e2t : (e2t fa fb op sl h).sat kt = (fa sl h).sat (kO1 fb op sl (kBl kt)) := by
  refine s_bind.trans ?_
  cases fa sl h with
  | ok a h =>
    refine s_bind.trans ?_
    show (fb sl h).sat _ = (fb sl h).sat _
    cases fb sl h with
    | ok a h => exact s_bind
    | ex x h => rfl
    | bad => rfl
  | ex x h => rfl
  | bad => rfl
theorem s_t1 {o1 : A → Hs → Out Bool} : (t1 fa o1 sl h).sat kt = (fa sl h).sat (kW o1 kt) := s_bind
def kNt (k : KE Bool) : KE Bool := ⟨fun b h => k.q (!b) h, k.e⟩
theorem q_nt {b : Bool} : (kNt kt).q b h = kt.q (!b) h := (rfl)
theorem e_nt : (kNt kt).e xc h = kt.e xc h := (rfl)
theorem s_tnot : (tNot ft sl h).sat kt = (ft sl h).sat (kNt kt) := s_bind
def kAn (fu : FT) (sl : Sl) (k : KE Bool) : KE Bool := ⟨fun b h => Cond b ((fu sl h).sat k) (k.q false h), k.e⟩
theorem q_an {b : Bool} : (kAn fu sl kt).q b h = CdE b fu tNo sl h kt := (rfl)
theorem e_an : (kAn fu sl kt).e xc h = kt.e xc h := (rfl)
theorem s_tand : (tAnd ft fu sl h).sat kt = (ft sl h).sat (kAn fu sl kt) := by
  refine s_bind.trans ?_
  cases ft sl h with
  | ok b h => cases b <;> simp [Out.sat, kW, kAn, cond_true, cond_false]
  | ex x h => rfl
  | bad => rfl
def kOo (fu : FT) (sl : Sl) (k : KE Bool) : KE Bool := ⟨fun b h => Cond b (k.q true h) ((fu sl h).sat k), k.e⟩
theorem q_oo {b : Bool} : (kOo fu sl kt).q b h = CdE b tYes fu sl h kt := (rfl)
theorem e_oo : (kOo fu sl kt).e xc h = kt.e xc h := (rfl)
theorem s_tor : (tOr ft fu sl h).sat kt = (ft sl h).sat (kOo fu sl kt) := by
  refine s_bind.trans ?_
  cases ft sl h with
  | ok b h => cases b <;> simp [Out.sat, kW, kOo, cond_true, cond_false]
  | ex x h => rfl
  | bad => rfl
def kIe (fa fb : FE) (sl : Sl) (k : KE A) : KE Bool := ⟨fun b h => Cond b ((fa sl h).sat k) ((fb sl h).sat k), k.e⟩
theorem q_ie {b : Bool} : (kIe fa fb sl ke).q b h = CdE b fa fb sl h ke := (rfl)
theorem e_ie : (kIe fa fb sl ke).e xc h = ke.e xc h := (rfl)
theorem s_eif : (eIf ft fa fb sl h).sat ke = (ft sl h).sat (kIe fa fb sl ke) := by
  refine s_bind.trans ?_
  cases ft sl h with
  | ok b h => cases b <;> simp [Out.sat, kW, kIe, cond_true, cond_false]
  | ex x h => rfl
  | bad => rfl
def kEa (fb : FE) (sl : Sl) (k : KE A) : KE A := ⟨fun x h => match x with | .bl b => Cond b ((fb sl h).sat k) (k.q (.bl false) h) | _ => False, k.e⟩
theorem q_ea {b : Bool} : (kEa fb sl ke).q (.bl b) h = CdE b fb (eC (.bl false)) sl h ke := (rfl)
theorem e_ea : (kEa fb sl ke).e xc h = ke.e xc h := (rfl)
theorem s_eand : (eAnd fa fb sl h).sat ke = (fa sl h).sat (kEa fb sl ke) := by
  refine s_bind.trans ?_
  cases fa sl h with
  | ok x h => cases x <;> first | rfl | (rename_i b; cases b <;> simp [Out.sat, kW, kEa, cond_true, cond_false])
  | ex x h => rfl
  | bad => rfl
def kEo (fb : FE) (sl : Sl) (k : KE A) : KE A := ⟨fun x h => match x with | .bl b => Cond b (k.q (.bl true) h) ((fb sl h).sat k) | _ => False, k.e⟩
theorem q_eo {b : Bool} : (kEo fb sl ke).q (.bl b) h = CdE b (eC (.bl true)) fb sl h ke := (rfl)
theorem e_eo : (kEo fb sl ke).e xc h = ke.e xc h := (rfl)
theorem s_eor : (eOr fa fb sl h).sat ke = (fa sl h).sat (kEo fb sl ke) := by
  refine s_bind.trans ?_
  cases fa sl h with
  | ok x h => cases x <;> first | rfl | (rename_i b; cases b <;> simp [Out.sat, kW, kEo, cond_true, cond_false])
  | ex x h => rfl
  | bad => rfl
def kEn (k : KE A) : KE A := ⟨fun x h => match x with | .bl b => k.q (.bl (!b)) h | _ => False, k.e⟩
theorem q_en {b : Bool} : (kEn ke).q (.bl b) h = ke.q (.bl (!b)) h := (rfl)
theorem e_en : (kEn ke).e xc h = ke.e xc h := (rfl)
theorem s_enot : (eNot fa sl h).sat ke = (fa sl h).sat (kEn ke) := by
  refine s_bind.trans ?_
  cases fa sl h with
  | ok x h => cases x <;> rfl
  | ex x h => rfl
  | bad => rfl
theorem s_anil : (aNil sl h).sat kl = kl.q [] h := (rfl)
def kAc2 (x : A) (k : KE (List A)) : KE (List A) := ⟨fun xs h => k.q (x :: xs) h, k.e⟩
theorem q_ac2 : (kAc2 x kl).q xs h = kl.q (x :: xs) h := (rfl)
theorem e_ac2 : (kAc2 x kl).e xc h = kl.e xc h := (rfl)
def kAc (fs : FA) (sl : Sl) (k : KE (List A)) : KE A := ⟨fun x h => (fs sl h).sat (kAc2 x k), k.e⟩
theorem q_ac {a : A} : (kAc fs sl kl).q a h = (fs sl h).sat (kAc2 a kl) := (rfl)
theorem e_ac : (kAc fs sl kl).e xc h = kl.e xc h := (rfl)
theorem s_acons : (aCons fa fs sl h).sat kl = (fa sl h).sat (kAc fs sl kl) := by
  refine s_bind.trans ?_
  cases fa sl h with
  | ok a h => exact s_bind
  | ex x h => rfl
  | bad => rfl
def kTp (k : KE A) : KE (List A) := ⟨fun xs h => Nat.ble xs.length sizeLine = true ∧ k.q (.tup xs) h, k.e⟩
def kLs (k : KE A) : KE (List A) := ⟨fun xs h => Nat.ble xs.length sizeLine = true ∧ k.q (.lst xs) h, k.e⟩
def kLt (k : KE A) : KE (List A) := ⟨fun xs h => Nat.ble xs.length sizeLine = true ∧ k.q (.ref h.length) (h ++ [.lst xs]), k.e⟩
theorem q_tp : (kTp ke).q xs h = (Nat.ble xs.length sizeLine = true ∧ ke.q (.tup xs) h) := (rfl)
theorem q_ls : (kLs ke).q xs h = (Nat.ble xs.length sizeLine = true ∧ ke.q (.lst xs) h) := (rfl)
theorem q_lt : (kLt ke).q xs h = (Nat.ble xs.length sizeLine = true ∧ ke.q (.ref h.length) (h ++ [.lst xs])) := (rfl)
theorem e_tp : (kTp ke).e xc h = ke.e xc h := (rfl)
theorem e_ls : (kLs ke).e xc h = ke.e xc h := (rfl)
theorem e_lt : (kLt ke).e xc h = ke.e xc h := (rfl)
theorem s_chk {m : Out α} {k : KE α} : (chk b m).sat k = (b = true ∧ m.sat k) := by cases b <;> simp [chk, Out.sat]
theorem s_tup : (eTup fs sl h).sat ke = (fs sl h).sat (kTp ke) := by
  refine s_bind.trans ?_
  cases fs sl h with
  | ok a h => exact s_chk
  | ex x h => rfl
  | bad => rfl
theorem s_lst : (eLst fs sl h).sat ke = (fs sl h).sat (kLs ke) := by
  refine s_bind.trans ?_
  cases fs sl h with
  | ok a h => exact s_chk
  | ex x h => rfl
  | bad => rfl
theorem s_lstT : (eLstT fs sl h).sat ke = (fs sl h).sat (kLt ke) := by
  refine s_bind.trans ?_
  cases fs sl h with
  | ok a h => exact s_chk
  | ex x h => rfl
  | bad => rfl
theorem s_k {p : F} : (eK fs p sl h).sat ke = (fs sl h).sat (kW p ke) := s_bind
theorem s_at : (eAt att fa sl h).sat ke = (fa sl h).sat (kW (getAt att) ke) := s_bind
theorem s_f1 : (f1 op1 [x] h).sat ke = (op1 x h).sat ke := (rfl)
theorem s_f2 : (f2 op [x, y] h).sat ke = (op x y h).sat ke := (rfl)
def kMl (fs : FA) (p : A → List A → Hs → Out A) (sl : Sl) (k : KE A) : KE A := ⟨fun x h => (listOf x h).isSome = true ∧ (fs sl h).sat (kW (p x) k), k.e⟩
theorem q_ml {p : A → List A → Hs → Out A} {a : A} : (kMl fs p sl ke).q a h = ((listOf a h).isSome = true ∧ (fs sl h).sat (kW (p a) ke)) := (rfl)
theorem e_ml {p : A → List A → Hs → Out A} : (kMl fs p sl ke).e xc h = ke.e xc h := (rfl)
theorem s_ml {p : A → List A → Hs → Out A} : (eMl fo fs p sl h).sat ke = (fo sl h).sat (kMl fs p sl ke) := by
  refine s_bind.trans ?_
  cases fo sl h with
  | ok a h =>
    show Out.sat (need (listOf a h) fun _ => (fs sl h).bind fun xs h2 => p a xs h2) ke = ((listOf a h).isSome = true ∧ (fs sl h).sat (kW (p a) ke))
    cases hx : listOf a h with
    | none => simp [need, Out.sat]
    | some ys => simp only [need, Option.isSome_some, true_and]; exact s_bind
  | ex x h => rfl
  | bad => rfl
def kMs (fs : FA) (p : A → List A → Hs → Out A) (sl : Sl) (k : KE A) : KE A := ⟨fun x h => match x with | .str z => (fs sl h).sat (kW (p (.str z)) k) | _ => False, k.e⟩
theorem q_ms {p : A → List A → Hs → Out A} {z : Str} : (kMs fs p sl ke).q (.str z) h = (fs sl h).sat (kW (p (.str z)) ke) := (rfl)
theorem e_ms {p : A → List A → Hs → Out A} : (kMs fs p sl ke).e xc h = ke.e xc h := (rfl)
theorem s_ms {p : A → List A → Hs → Out A} : (eMs fo fs p sl h).sat ke = (fo sl h).sat (kMs fs p sl ke) := by
  refine s_bind.trans ?_
  cases fo sl h with
  | ok a h => cases a <;> first | rfl | exact s_bind
  | ex x h => rfl
  | bad => rfl
/-! ### operators by values -/
def nd (o : Option α) (c : α → Prop) : Prop := match o with | some a => c a | none => False
theorem nd_some {a : α} {c : α → Prop} : nd (some a) c = c a := (rfl)
theorem s_need {o : Option α} {c : α → Out β} {k : KE β} : (need o c).sat k = nd o fun a => (c a).sat k := by cases o <;> rfl
def nQ (o : Option Int) (k : KE A) (h : Hs) : Prop := match o with | some i => k.q (.int i) h | none => False
theorem nQ_some {i : Int} : nQ (some i) ke h = ke.q (.int i) h := (rfl)
def qO (o : Option A) (k : KE A) (h : Hs) : Prop := match o with | some z => k.q z h | none => False
theorem qO_some : qO (some x) ke h = ke.q x h := (rfl)
theorem s_needO {o : Option A} : (need o fun z => .ok z h).sat ke = qO o ke h := by cases o <;> rfl
def qB (o : Option Bool) (k : KE A) (h : Hs) : Prop := match o with | some b => k.q (.bl b) h | none => False
theorem qB_some : qB (some b) ke h = ke.q (.bl b) h := (rfl)
def qF (o : Option F) (xs : List A) (k : KE A) (h : Hs) : Prop := match o with | some f => (f xs h).sat k | none => False
theorem qF_some {p : F} : qF (some p) xs ke h = (p xs h).sat ke := (rfl)
theorem s_needF {o : Option F} : (need o fun f => f xs h).sat ke = qF o xs ke h := by cases o <;> rfl
theorem s_int {p : Int → Int → Option Int} {i j : Int} : (aInt p (.int i) (.int j) h).sat ke = nQ (p i j) ke h := by
  show (need (p i j) _).sat ke = _
  cases p i j <;> rfl
theorem s_cmp {p : Int → Int → Bool} {i j : Int} : (aCmp p (.int i) (.int j) h).sat ke = ke.q (.bl (p i j)) h := (rfl)
theorem s_addI {i j : Int} : (aAdd (.int i) (.int j) h).sat ke = ke.q (.int (i + j)) h := (rfl)
theorem s_addS {i j : Str} : (aAdd (.str i) (.str j) h).sat ke = (Nat.ble (i.length + j.length) sizeLine = true ∧ ke.q (.str (i ++ j)) h) := s_chk
theorem s_addT : (aAdd (.tup xs) (.tup ys) h).sat ke = (Nat.ble (xs.length + ys.length) sizeLine = true ∧ ke.q (.tup (xs ++ ys)) h) := s_chk
theorem s_addL : (aAdd (.lst xs) (.lst ys) h).sat ke = (Nat.ble (xs.length + ys.length) sizeLine = true ∧ ke.q (.lst (xs ++ ys)) h) := s_chk
theorem g_sub {i j : Int} : gSub' i j = some (i - j) := (rfl)
theorem g_mulW_l {i j : Int} (hj : -18446744073709551616 < i ∧ i < 18446744073709551616) : gMulW i j = some (i * j) := by unfold gMulW; rw [gMul_l hj]
theorem g_mulW_r {i j : Int} (hj : -18446744073709551616 < j ∧ j < 18446744073709551616) : gMulW i j = some (i * j) := by unfold gMulW; rw [gMul_r hj]
theorem g_mulW {i j : Int} (hj : i.natAbs.log2 + j.natAbs.log2 < 1000000) : gMulW i j = some (i * j) := by
  unfold gMulW gMul
  split
  · rename_i z
    split at z
    · cases z; rfl
    · cases z
  · rw [decide_eq_true hj]
theorem g_divN {i j : Int} (h0 : j ≠ 0) (hj : j.natAbs.log2 < 9000) : gDivN i j = some (i.fdiv j) := by unfold gDivN; rw [decide_eq_true ⟨h0, hj⟩]
theorem log2_lt {j : Int} (h0 : j ≠ 0) {n : Nat} (h : j.natAbs < 2 ^ n) : j.natAbs.log2 < n := (Nat.log2_lt (by omega)).mpr h
theorem s_neg {i : Int} : (aNeg (.int i) h).sat ke = ke.q (.int (-i)) h := (rfl)
theorem s_intI {i : Int} : (intA (.int i) h).sat ke = ke.q (.int i) h := (rfl)
theorem s_intB {b : Bool} : (intA (.bl b) h).sat ke = ke.q (.int (if b then 1 else 0)) h := (rfl)
theorem s_abs {i : Int} : (absA (.int i) h).sat ke = ke.q (.int (if i < 0 then -i else i)) h := (rfl)
theorem s_max {i j : Int} : (maxA (.int i) (.int j) h).sat ke = ke.q (.int (if j > i then j else i)) h := (rfl)
theorem s_min {i j : Int} : (minA (.int i) (.int j) h).sat ke = ke.q (.int (if j < i then j else i)) h := (rfl)
theorem s_truB {b : Bool} : (truA (.bl b) h).sat kt = kt.q b h := (rfl)
theorem s_truI {i : Int} : (truA (.int i) h).sat kt = kt.q (i != 0) h := (rfl)
theorem s_truN : (truA .non h).sat kt = kt.q false h := (rfl)
theorem s_truL : (truA (.lst xs) h).sat kt = kt.q (!xs.isEmpty) h := (rfl)
theorem s_truT : (truA (.tup xs) h).sat kt = kt.q (!xs.isEmpty) h := (rfl)
theorem s_lenL : (lenA (.lst xs) h).sat ke = ke.q (.int (Int.ofNat xs.length)) h := (rfl)
theorem s_lenT : (lenA (.tup xs) h).sat ke = ke.q (.int (Int.ofNat xs.length)) h := (rfl)
theorem s_lenC {ns : List Int} : (lenA (.scr ns) h).sat ke = ke.q (.int (Int.ofNat ns.length)) h := (rfl)
theorem s_lenS {z : Str} : (lenA (.str z) h).sat ke = (Nat.ble z.length sizeLine = true ∧ ke.q (.int (Int.ofNat z.length)) h) := s_chk
theorem s_isNn : (isN .non .non h).sat ke = ke.q (.bl true) h := (rfl)
theorem s_notNn : (notN .non .non h).sat ke = ke.q (.bl false) h := (rfl)
theorem s_isNi {i : Int} : (isN (.int i) .non h).sat ke = ke.q (.bl false) h := (rfl)
theorem s_notNi {i : Int} : (notN (.int i) .non h).sat ke = ke.q (.bl true) h := (rfl)
theorem s_isNs {i : Str} : (isN (.str i) .non h).sat ke = ke.q (.bl false) h := (rfl)
theorem s_notNs {i : Str} : (notN (.str i) .non h).sat ke = ke.q (.bl true) h := (rfl)
theorem s_eqI {i j : Int} : (aEq (.int i) (.int j) h).sat ke = ke.q (.bl (i == j)) h := (rfl)
theorem s_neI {i j : Int} : (aNe (.int i) (.int j) h).sat ke = ke.q (.bl (!(i == j))) h := (rfl)
theorem s_aEq {d e : PyData} (hx : datH x h = some d) (hy : datH y h = some e) : (aEq x y h).sat ke = ((SeqAt.shaped d && SeqAt.shaped e) = true ∧ ke.q (.bl (PyData.eqv d e)) h) := by
  unfold aEq eqD
  rw [hx, hy]
  exact s_bind.trans s_chk
theorem s_aNe {d e : PyData} (hx : datH x h = some d) (hy : datH y h = some e) : (aNe x y h).sat ke = ((SeqAt.shaped d && SeqAt.shaped e) = true ∧ ke.q (.bl (!PyData.eqv d e)) h) := by
  unfold aNe eqD
  rw [hx, hy]
  exact s_bind.trans s_chk
/-! ### the heap -/
def ixO (o : Option O) (i : Int) (k : KE A) (h : Hs) : Prop := match o with | some (.lst xs) => qO (atI xs i) k h | _ => False
theorem ixO_lst {i : Int} : ixO (some (.lst xs)) i ke h = qO (atI xs i) ke h := (rfl)
theorem s_ixR {i : Int} : (ixA (.ref n) (.int i) h).sat ke = ixO h[n]? i ke h := by
  show (need (itemsOf (.ref n) h) _).sat ke = _
  show (need (match h[n]? with | some (.lst xs) => some xs | _ => none) fun xs => need (atI xs i) fun z => .ok z h).sat ke = _
  cases h[n]? with
  | none => rfl
  | some o =>
    cases o with
    | lst xs => exact s_needO
    | _ => rfl
theorem s_ixL {i : Int} : (ixA (.lst xs) (.int i) h).sat ke = qO (atI xs i) ke h := s_needO
theorem s_ixT {i : Int} : (ixA (.tup xs) (.int i) h).sat ke = qO (atI xs i) ke h := s_needO
theorem s_ixC {ns : List Int} {i : Int} : (ixA (.scr ns) (.int i) h).sat ke = nQ (atI ns i) ke h := by
  show (need (atI ns i) _).sat ke = _
  cases atI ns i <;> rfl
theorem at_0 {α : Type} {x : α} {xs : List α} : atI (x :: xs) 0 = some x := by simp [atI, ixN]
theorem at_nn {α : Type} {xs : List α} {i : Int} (h0 : 0 ≤ i) (h1 : i < xs.length) : atI xs i = xs[i.toNat]? := by simp [atI, ixN, h0, h1]
theorem ix_nn {m : Nat} {i : Int} (h0 : 0 ≤ i) (h1 : i < m) : ixN m i = some i.toNat := by simp [ixN, h0, h1]
theorem at_1 {α : Type} {x y : α} {xs : List α} : atI (x :: y :: xs) 1 = some y := by rw [at_nn (by decide) (by simp; omega)]; rfl
theorem at_2 {α : Type} {x y z : α} {xs : List α} : atI (x :: y :: z :: xs) 2 = some z := by rw [at_nn (by decide) (by simp; omega)]; rfl
theorem at_3 {α : Type} {x y z w : α} {xs : List α} : atI (x :: y :: z :: w :: xs) 3 = some w := by rw [at_nn (by decide) (by simp; omega)]; rfl
theorem ix_0 {m : Nat} : ixN (m + 1) 0 = some 0 := ix_nn (by decide) (by omega)
def setJ (o : Option Nat) (xs : List A) (n : Nat) (z : A) (k : KE Unit) (h : Hs) : Prop := match o with | some j => k.q () (h.set n (.lst (xs.set j z))) | none => False
theorem setJ_some {ku : KE Unit} : setJ (some j) xs n z ku h = ku.q () (h.set n (.lst (xs.set j z))) := (rfl)
theorem ixl_0 : ixN (x :: xs).length 0 = some 0 := by simp [ixN]
theorem ixl_1 : ixN (x :: y :: xs).length 1 = some 1 := by rw [ix_nn (by decide) (by simp; omega)]; rfl
theorem ixl_2 : ixN (x :: y :: z :: xs).length 2 = some 2 := by rw [ix_nn (by decide) (by simp; omega)]; rfl
def setO (o : Option O) (n : Nat) (i : Int) (z : A) (k : KE Unit) (h : Hs) : Prop := match o with | some (.lst xs) => setJ (ixN xs.length i) xs n z k h | _ => False
theorem setO_lst {i : Int} {ku : KE Unit} : setO (some (.lst xs)) n i z ku h = setJ (ixN xs.length i) xs n z ku h := (rfl)
theorem s_setR {i : Int} {ku : KE Unit} : (setL (.ref n) (.int i) z h).sat ku = setO h[n]? n i z ku h := by
  show (match h[n]? with | some (.lst xs) => need (ixN xs.length i) fun j => .ok () (h.set n (.lst (xs.set j z))) | _ => .bad : Out Unit).sat ku = _
  cases h[n]? with
  | none => rfl
  | some o =>
    cases o with
    | lst xs =>
      show (need (ixN xs.length i) _).sat ku = setJ (ixN xs.length i) xs n z ku h
      cases ixN xs.length i <;> rfl
    | _ => rfl
def apO (o : Option O) (n : Nat) (z : A) (k : KE A) (h : Hs) : Prop := match o with | some (.lst xs) => Nat.blt xs.length sizeLine = true ∧ k.q .non (h.set n (.lst (xs ++ [z]))) | _ => False
theorem apO_lst : apO (some (.lst xs)) n z ke h = (Nat.blt xs.length sizeLine = true ∧ ke.q .non (h.set n (.lst (xs ++ [z])))) := (rfl)
theorem s_append : (appendA (.ref n) [z] h).sat ke = apO h[n]? n z ke h := by
  show (match h[n]? with | some (.lst ys) => (match [z] with | [y] => chk (Nat.blt ys.length sizeLine) (.ok .non (h.set n (.lst (ys ++ [y])))) | _ => .bad) | _ => .bad : Out A).sat ke = _
  cases h[n]? with
  | none => rfl
  | some o => cases o <;> first | rfl | exact s_chk
def liO (o : Option O) : Option (List A) := match o with | some (.lst xs) => some xs | _ => none
theorem liO_lst : liO (some (.lst xs)) = some xs := (rfl)
theorem listOf_ref : listOf (.ref n) h = liO h[n]? := (rfl)
theorem itemsOf_ref : itemsOf (.ref n) h = liO h[n]? := (rfl)
theorem listOf_lst : listOf (.lst xs) h = some xs := (rfl)
def inO (o : Option O) : Option (Nat × List A) := match o with | some (.ins c xs) => some (c, xs) | _ => none
theorem inO_ins {c : Nat} : inO (some (.ins c xs)) = some (c, xs) := (rfl)
theorem instOf_ref : instOf (.ref n) h = inO h[n]? := (rfl)
theorem instOf_ins {c : Nat} : instOf (.ins c xs) h = some (c, xs) := (rfl)
def qEm (o : Option (List A)) (k : KE Bool) (h : Hs) : Prop := match o with | some xs => k.q (!xs.isEmpty) h | none => False
theorem qEm_some : qEm (some xs) kt h = kt.q (!xs.isEmpty) h := (rfl)
theorem s_truR : (truA (.ref n) h).sat kt = qEm (liO h[n]?) kt h := by
  show (need (liO h[n]?) _).sat kt = _
  cases liO h[n]? <;> rfl
def lenO (o : Option O) (k : KE A) (h : Hs) : Prop := match o with | some (.lst xs) => k.q (.int (Int.ofNat xs.length)) h | some (.dk xs) => k.q (.int (Int.ofNat xs.length)) h | _ => False
theorem lenO_lst : lenO (some (.lst xs)) ke h = ke.q (.int (Int.ofNat xs.length)) h := (rfl)
theorem lenO_dk {kvs : List (Key × A)} : lenO (some (.dk kvs)) ke h = ke.q (.int (Int.ofNat kvs.length)) h := (rfl)
theorem s_lenR : (lenA (.ref n) h).sat ke = lenO h[n]? ke h := by
  show (match h[n]? with | some (.lst xs) => .ok (.int (Int.ofNat xs.length)) h | some (.dk kvs) => .ok (.int (Int.ofNat kvs.length)) h | _ => .bad : Out A).sat ke = _
  cases h[n]? with
  | none => rfl
  | some o => cases o <;> rfl
/-- a field that is there -/
def atF (a : At) (xs : List A) (x : A) (k : KE A) (h : Hs) : Prop := match a with
  | .fld i => qO xs[i]? k h
  | .con a => k.q a h
  | .prp f => (match f [x] h with | .ok y h1 => k.q y h1 | _ => False)
  | .no => False
theorem atF_fld : atF (.fld i) xs x ke h = qO xs[i]? ke h := (rfl)
theorem atF_con {a : A} : atF (.con a) xs x ke h = ke.q a h := (rfl)
def atP (o : Option (Nat × List A)) (att : Nat → At) (x : A) (k : KE A) (h : Hs) : Prop := match o with | some p => atF (att p.1) p.2 x k h | none => False
theorem atP_some {c : Nat} : atP (some (c, xs)) att x ke h = atF (att c) xs x ke h := (rfl)
theorem s_getAt : (getAt att x h).sat ke = atP (instOf x h) att x ke h := by
  unfold getAt
  cases instOf x h with
  | none => rfl
  | some p =>
  show Out.sat (match att p.1 with
  | .fld i => need p.2[i]? fun y => .ok y h
  | .con a => .ok a h
  | .prp f => (match f [x] h with | .ok y h1 => .ok y h1 | _ => .bad)
  | .no => .bad) ke = atF (att p.1) p.2 x ke h
  cases att p.1 with
  | fld i => exact s_needO
  | con a => rfl
  | prp f =>
    show Out.sat (match f [x] h with | .ok y h1 => .ok y h1 | _ => .bad) ke = _
    cases hf : f [x] h <;> simp [atF, hf, Out.sat]
  | no => rfl
def stQ (o : Option (List A)) (c n : Nat) (k : KE Unit) (h : Hs) : Prop := match o with | some ys => k.q () (h.set n (.ins c ys)) | none => False
theorem stQ_some {c : Nat} {ku : KE Unit} : stQ (some xs) c n ku h = ku.q () (h.set n (.ins c xs)) := (rfl)
def stF (a : At) (xs : List A) (y : A) (c n : Nat) (k : KE Unit) (h : Hs) : Prop := match a with
  | .fld i => Nat.blt xs.length 1000 = true ∧ stQ (putI i y xs) c n k h
  | _ => False
theorem stF_fld {c : Nat} {ku : KE Unit} : stF (.fld i) xs y c n ku h = (Nat.blt xs.length 1000 = true ∧ stQ (putI i y xs) c n ku h) := (rfl)
def stP (o : Option (Nat × List A)) (att : Nat → At) (y : A) (n : Nat) (k : KE Unit) (h : Hs) : Prop := match o with | some p => stF (att p.1) p.2 y p.1 n k h | none => False
theorem stP_some {c : Nat} {ku : KE Unit} : stP (some (c, xs)) att y n ku h = stF (att c) xs y c n ku h := (rfl)
theorem s_setAt {ku : KE Unit} : (setAt att (.ref n) y h).sat ku = stP (inO h[n]?) att y n ku h := by
  show (match h[n]? with
    | some (.ins c xs) => (match att c with
      | .fld i => chk (Nat.blt xs.length 1000) (need (putI i y xs) fun xs' => .ok () (h.set n (.ins c xs')))
      | _ => .bad)
    | _ => .bad : Out Unit).sat ku = _
  cases h[n]? with
  | none => rfl
  | some o =>
    cases o with
    | ins c xs =>
      show (match att c with
      | .fld i => chk (Nat.blt xs.length 1000) (need (putI i y xs) fun xs' => .ok () (h.set n (.ins c xs')))
      | _ => .bad : Out Unit).sat ku = stF (att c) xs y c n ku h
      cases att c with
      | fld i =>
        refine s_chk.trans (congrArg _ ?_)
        show (need (putI i y xs) _).sat ku = stQ (putI i y xs) c n ku h
        cases putI i y xs <;> rfl
      | con a => rfl
      | prp f => rfl
      | no => rfl
    | _ => rfl
theorem put_new (e : xs.length = i) : putI i y xs = some (xs ++ [y]) := by
  subst e
  unfold putI
  rw [show Nat.blt xs.length xs.length = false from Bool.eq_false_iff.mpr fun z => Nat.lt_irrefl _ (Nat.le_of_ble_eq_true z)]
  simp
theorem hp_set {o o' : O} (e : h[n]? = some o) : (h.set n o')[n]? = some o' := get_set e
theorem hp_ne {o : O} {m : Nat} {r : Option O} (ne : m ≠ n) (e : h[n]? = r) : (h.set m o)[n]? = r := by rw [List.getElem?_set_ne ne]; exact e
theorem hp_app {o : O} {hs : Hs} (e : h[n]? = some o) : (h ++ hs)[n]? = some o := by
  have hl : n < h.length := by
    by_cases hl : n < h.length
    · exact hl
    · rw [List.getElem?_eq_none (by omega)] at e; cases e
  rw [List.getElem?_append_left hl]; exact e
theorem hp_new {o : O} {hs : Hs} : (h ++ o :: hs)[h.length]? = some o := by simp
theorem hp_lt {o : O} (e : h[n]? = some o) : n < h.length := by
  by_cases hl : n < h.length
  · exact hl
  · rw [List.getElem?_eq_none (by omega)] at e; cases e
/-! ### defs, construction -/
def kFn (k : KE A) : KS := ⟨fun _ h => k.q .non h, k.q, fun _ _ => False, fun _ _ => False, fun x _ h => k.e x h⟩
theorem n_fn : (kFn ke).n sl h = ke.q .non h := (rfl)
theorem r_fn : (kFn ke).r x h = ke.q x h := (rfl)
theorem e_fn : (kFn ke).e xc sl h = ke.e xc h := (rfl)
theorem s_fin {m : OutS} : m.fin.sat ke = m.sat (kFn ke) := by cases m <;> rfl
theorem s_run {nl : Nat} (hx : Nat.beq xs.length n = true) : (runF n nl f xs h).sat ke = (f (xs.map some ++ List.replicate (nl - n) none) h).sat (kFn ke) := by
  unfold runF
  rw [hx]
  exact s_fin
def finO (o : Option O) (n : Nat) (k : KE A) (h : Hs) : Prop := match o with | some (.ins c ys) => k.q (.ins c ys) (h.set n .dead) | _ => False
theorem finO_ins {c : Nat} : finO (some (.ins c xs)) n ke h = ke.q (.ins c xs) (h.set n .dead) := (rfl)
def kMk (n : Nat) (k : KE A) : KE A := ⟨fun x h => match x with | .non => finO h[n]? n k h | _ => False, k.e⟩
theorem q_mk : (kMk n ke).q .non h = finO h[n]? n ke h := (rfl)
theorem e_mk : (kMk n ke).e xc h = ke.e xc h := (rfl)
theorem s_mkF {c : Nat} {p : F} : (mkF c p xs h).sat ke = (p (.ref h.length :: xs) (h ++ [.ins c []])).sat (kMk h.length ke) := by
  refine s_bind.trans ?_
  cases p (.ref h.length :: xs) (h ++ [.ins c []]) with
  | ok r h2 =>
    cases r with
    | non =>
      show Out.sat (match h2[h.length]? with | some (.ins c' ys) => .ok (.ins c' ys) (h2.set h.length .dead) | _ => .bad) ke = finO h2[h.length]? h.length ke h2
      cases h2[h.length]? with
      | none => rfl
      | some o => cases o <;> rfl
    | _ => rfl
  | ex x h => rfl
  | bad => rfl
def kMkT (n : Nat) (k : KE A) : KE A := ⟨fun x h => match x with | .non => k.q (.ref n) h | _ => False, k.e⟩
theorem q_mkT : (kMkT n ke).q .non h = ke.q (.ref n) h := (rfl)
theorem e_mkT : (kMkT n ke).e xc h = ke.e xc h := (rfl)
theorem s_mkT {c : Nat} {p : F} : (mkT c p xs h).sat ke = (p (.ref h.length :: xs) (h ++ [.ins c []])).sat (kMkT h.length ke) := by
  refine s_bind.trans ?_
  cases p (.ref h.length :: xs) (h ++ [.ins c []]) with
  | ok r h2 => cases r <;> rfl
  | ex x h => rfl
  | bad => rfl
def frO (o : Option O) (i n : Nat) (sl : Sl) (k : KS) (h : Hs) : Prop := match o with
  | some (.lst xs) => k.n (sl.set i (some (.lst xs))) (h.set n .dead)
  | some (.dk xs) => k.n (sl.set i (some (.dk xs))) (h.set n .dead)
  | some (.dt xs) => k.n (sl.set i (some (.dt xs))) (h.set n .dead)
  | some (.ins c xs) => k.n (sl.set i (some (.ins c xs))) (h.set n .dead)
  | _ => False
theorem frO_lst : frO (some (.lst xs)) i n sl k h = k.n (sl.set i (some (.lst xs))) (h.set n .dead) := (rfl)
def frV (o : Option (Option A)) (i : Nat) (sl : Sl) (k : KS) (h : Hs) : Prop := match o with | some (some (.ref n)) => frO h[n]? i n sl k h | _ => False
theorem frV_ref : frV (some (some (.ref n))) i sl k h = frO h[n]? i n sl k h := (rfl)
theorem s_frz : (frz i sl h).sat k = frV sl[i]? i sl k h := by
  unfold frz
  cases sl[i]? with
  | none => rfl
  | some o =>
    cases o with
    | none => rfl
    | some a =>
      cases a with
      | ref n =>
        show OutS.sat (match h[n]? with
          | some (.lst xs) => .nx (sl.set i (some (.lst xs))) (h.set n .dead)
          | some (.dk xs) => .nx (sl.set i (some (.dk xs))) (h.set n .dead)
          | some (.dt xs) => .nx (sl.set i (some (.dt xs))) (h.set n .dead)
          | some (.ins c xs) => .nx (sl.set i (some (.ins c xs))) (h.set n .dead)
          | _ => .bad) k = frO h[n]? i n sl k h
        cases h[n]? with
        | none => rfl
        | some o => cases o <;> rfl
      | _ => rfl
/-! ### isinstance, own operators -/
variable {I : Isa}
theorem s_isa : (isaA I x y h).sat ke = qB (isaB I x y h) ke h := by
  show (need (isaB I x y h) _).sat ke = _
  cases isaB I x y h <;> rfl
variable {mt rmt : Mt} {cs : List Nat} {c : Nat}
theorem s_ownB2 {xs ys : List A} {d : Nat} : (ownB mt cs op (.ins c xs) (.ins d ys) h).sat ke = ((cs.contains c && cs.contains d) = true ∧ qF (mt c) [.ins c xs, .ins d ys] ke h) := s_chk.trans (congrArg _ s_needF)
theorem s_ownBi {i : Int} : (ownB mt cs op (.int i) y h).sat ke = (op (.int i) y h).sat ke := (rfl)
theorem s_ownMl {d : Nat} : (ownM mt rmt c op (.ins d xs) y h).sat ke = ((Nat.beq c d && isI y) = true ∧ qF (mt c) [.ins d xs, y] ke h) := s_chk.trans (congrArg _ s_needF)
theorem s_ownMr {i : Int} {d : Nat} : (ownM mt rmt c op (.int i) (.ins d ys) h).sat ke = ((Nat.beq c d && isI (.int i)) = true ∧ qF (rmt c) [.ins d ys, .int i] ke h) := s_chk.trans (congrArg _ s_needF)
theorem s_ownMi {i j : Int} : (ownM mt rmt c op (.int i) (.int j) h).sat ke = (op (.int i) (.int j) h).sat ke := (rfl)
theorem s_ownU : (ownU mt op1 (.ins c xs) h).sat ke = qF (mt c) [.ins c xs] ke h := s_needF
theorem s_ownUi {i : Int} : (ownU mt op1 (.int i) h).sat ke = (op1 (.int i) h).sat ke := (rfl)
theorem s_ownI {d e : Nat} : (ownI mt c op (.ins d xs) (.ins e ys) h).sat ke = ((Nat.beq c d && Nat.beq c e) = true ∧ qF (mt c) [.ins d xs, .ins e ys] ke h) := s_chk.trans (congrArg _ s_needF)

/-! ### loops -/
def kB1 (I : Sl → Hs → Prop) (k : KS) : KS := ⟨I, k.r, k.n, I, k.e⟩
theorem n_b1 {I : Sl → Hs → Prop} : (kB1 I k).n sl h = I sl h := (rfl)
theorem c_b1 {I : Sl → Hs → Prop} : (kB1 I k).c sl h = I sl h := (rfl)
theorem b_b1 {I : Sl → Hs → Prop} : (kB1 I k).b sl h = k.n sl h := (rfl)
theorem r_b1 {I : Sl → Hs → Prop} : (kB1 I k).r x h = k.r x h := (rfl)
theorem e_b1 {I : Sl → Hs → Prop} : (kB1 I k).e xc sl h = k.e xc sl h := (rfl)
/-- a turn: the target, then the body -/
def turnB (go : FS) (m : OutS) : OutS := match m with
        | .nx sl2 h2 => go sl2 h2
        | .ct sl2 h2 => go sl2 h2
        | .bk sl2 h2 => .nx sl2 h2
        | .rt a h2 => .rt a h2
        | .ex x sl2 h2 => .ex x sl2 h2
        | .bad => .bad
theorem turn_body {m : OutS} {I : Sl → Hs → Prop} {go : FS} (hI : ∀ sl h, I sl h → (go sl h).sat k) (s : m.sat (kB1 I k)) : (turnB go m).sat k := by
  cases m with
  | nx sl2 h2 => exact hI sl2 h2 s
  | ct sl2 h2 => exact hI sl2 h2 s
  | bk sl2 h2 => exact s
  | rt a h2 => exact s
  | ex x sl2 h2 => exact s
  | bad => exact s
theorem w_forV {b : FS} {I : Nat → Sl → Hs → Prop} {g : FG} {xs0 : List A} (step : ∀ i x sl h, xs0[i]? = some x → I i sl h → (g x sl h).sat (kNo (kSeq b (kB1 (I (i + 1)) k)))) (fin : ∀ sl h, I xs0.length sl h → k.n sl h) :
    ∀ (xs : List A) (i : Nat), xs0.drop i = xs → i ≤ xs0.length → ∀ sl h, I i sl h → (forV g b xs sl h).sat k
  | [], i, e, hi, sl, h, q => by
    have : i = xs0.length := by
      have := congrArg List.length e
      simp at this
      omega
    exact fin sl h (this ▸ q)
  | x :: xs, i, e, hi, sl, h, q => by
    have hl : i < xs0.length := by
      have := congrArg List.length e
      simp at this
      omega
    have ex : xs0[i]? = some x := by
      have := congrArg (fun l => l[0]?) e
      simpa [List.getElem?_drop] using this
    have et : xs0.drop (i + 1) = xs := by
      have := congrArg (List.drop 1) e
      rw [List.drop_drop] at this
      simpa using this
    have s := step i x sl h ex q
    show (match g x sl h with
      | .nx sl1 h1 => (match b sl1 h1 with
        | .nx sl2 h2 => forV g b xs sl2 h2
        | .ct sl2 h2 => forV g b xs sl2 h2
        | .bk sl2 h2 => .nx sl2 h2
        | .rt a h2 => .rt a h2
        | .ex x sl2 h2 => .ex x sl2 h2
        | .bad => .bad)
      | .ex x sl1 h1 => .ex x sl1 h1
      | _ => .bad : OutS).sat k
    cases hg : g x sl h with
    | nx sl1 h1 =>
      rw [hg] at s
      exact turn_body (go := forV g b xs) (fun sl2 h2 q2 => w_forV step fin xs (i + 1) et (by omega) sl2 h2 q2) s
    | ex x sl1 h1 => rw [hg] at s; exact s
    | rt a h1 => rw [hg] at s; exact s.elim
    | bk a h1 => rw [hg] at s; exact s.elim
    | ct a h1 => rw [hg] at s; exact s.elim
    | bad => rw [hg] at s; exact s.elim
/-- for, by what holds ahead of the i-th turn -/
theorem w_for {b : FS} {fi : FA} {g : FG} (I : List A → Nat → Sl → Hs → Prop) (s : (fi sl h).sat ⟨fun xs h => I xs 0 sl h ∧ (∀ i x sl h, xs[i]? = some x → I xs i sl h → (g x sl h).sat (kNo (kSeq b (kB1 (I xs (i + 1)) k)))) ∧ (∀ sl h, I xs xs.length sl h → k.n sl h), fun x h => k.e x sl h⟩) : (sFor fi g b sl h).sat k := by
  refine Eq.mpr s_bindS (Out.sat_mono s (fun xs h q => ?_) fun _ _ z => z)
  exact w_forV q.2.1 q.2.2 xs 0 rfl (Nat.zero_le _) sl h q.1
theorem w_forW' {b : FS} {I : Nat → Sl → Hs → Prop} {g : FG} {w : Wk} (step : ∀ i sl h, I i sl h → (∃ x, w i h = some (some x) ∧ (g x sl h).sat (kNo (kSeq b (kB1 (I (i + 1)) k)))) ∨ (w i h = some none ∧ k.n sl h)) (m : Nat) (top : ∀ i sl h, I i sl h → i ≤ m) :
    ∀ (n i : Nat) (sl : Sl) (h : Hs), m < n + i → I i sl h → (forW w g b n i sl h).sat k
  | 0, i, sl, h, hm, q => absurd (top i sl h q) (by omega)
  | n + 1, i, sl, h, hm, q => by
    show (match w i h with
    | some (some x) => (match g x sl h with
      | .nx sl1 h1 => (match b sl1 h1 with
        | .nx sl2 h2 => forW w g b n (i + 1) sl2 h2
        | .ct sl2 h2 => forW w g b n (i + 1) sl2 h2
        | .bk sl2 h2 => .nx sl2 h2
        | .rt a h2 => .rt a h2
        | .ex x sl2 h2 => .ex x sl2 h2
        | .bad => .bad)
      | .ex x sl1 h1 => .ex x sl1 h1
      | _ => .bad)
    | some none => .nx sl h
    | none => .bad : OutS).sat k
    rcases step i sl h q with ⟨x, e, s⟩ | ⟨e, s⟩
    · rw [e]
      show (match g x sl h with
      | .nx sl1 h1 => (match b sl1 h1 with
        | .nx sl2 h2 => forW w g b n (i + 1) sl2 h2
        | .ct sl2 h2 => forW w g b n (i + 1) sl2 h2
        | .bk sl2 h2 => .nx sl2 h2
        | .rt a h2 => .rt a h2
        | .ex x sl2 h2 => .ex x sl2 h2
        | .bad => .bad)
      | .ex x sl1 h1 => .ex x sl1 h1
      | _ => .bad : OutS).sat k
      cases hg : g x sl h with
      | nx sl1 h1 =>
        rw [hg] at s
        exact turn_body (go := forW w g b n (i + 1)) (fun sl2 h2 q2 => w_forW' step m top n (i + 1) sl2 h2 (by omega) q2) s
      | ex x sl1 h1 => rw [hg] at s; exact s
      | rt a h1 => rw [hg] at s; exact s.elim
      | bk a h1 => rw [hg] at s; exact s.elim
      | ct a h1 => rw [hg] at s; exact s.elim
      | bad => rw [hg] at s; exact s.elim
    · rw [e]; exact s
theorem w_forW {b : FS} {fi : Sl → Hs → Out Wk} {g : FG} (m : Nat) (hm : m < FUEL) (I : Nat → Sl → Hs → Prop) (top : ∀ i sl h, I i sl h → i ≤ m) (s : (fi sl h).sat ⟨fun w h => I 0 sl h ∧ ∀ i sl h, I i sl h → (∃ x, w i h = some (some x) ∧ (g x sl h).sat (kNo (kSeq b (kB1 (I (i + 1)) k)))) ∨ (w i h = some none ∧ k.n sl h), fun x h => k.e x sl h⟩) : (sForW fi g b sl h).sat k := by
  refine Eq.mpr s_bindS (Out.sat_mono s (fun w h q => ?_) fun _ _ z => z)
  exact w_forW' q.2 m top FUEL 0 sl h (by omega) q.1
/-- a comprehension's turn: the target, the test, the value -/
def kLf (J : List A → Hs → Prop) (acc : List A) : KE A := ⟨fun y h => J (acc ++ [y]) h, fun _ _ => False⟩
theorem q_lf {J : List A → Hs → Prop} : (kLf J xs).q y h = J (xs ++ [y]) h := (rfl)
def kLg (fe : FE) (J : List A → Hs → Prop) (acc : List A) (sl : Sl) : KE Bool := ⟨fun b h => Cond b ((fe sl h).sat (kLf J acc)) (J acc h), fun _ _ => False⟩
theorem q_lg {J : List A → Hs → Prop} : (kLg fe J xs sl).q b h = Cond b ((fe sl h).sat (kLf J xs)) (J xs h) := (rfl)
def kLh (t : FT) (fe : FE) (J : List A → Hs → Prop) (acc : List A) : KS := ⟨fun sl h => (t sl h).sat (kLg fe J acc sl), fun _ _ => False, fun _ _ => False, fun _ _ => False, fun _ _ _ => False⟩
theorem n_lh {t : FT} {J : List A → Hs → Prop} : (kLh t fe J xs).n sl h = (t sl h).sat (kLg fe J xs sl) := (rfl)
def turnL (t : FT) (fe : FE) (acc : List A) (go : List A → Hs → Out (List A)) (m : OutS) : Out (List A) := match m with
    | .nx sl1 h1 => (match t sl1 h1 with
      | .ok true h2 => (match fe sl1 h2 with
        | .ok y h3 => go (acc ++ [y]) h3
        | _ => .bad)
      | .ok false h2 => go acc h2
      | _ => .bad)
    | _ => .bad
theorem lturn {t : FT} {fe : FE} {J : List A → Hs → Prop} {acc : List A} {m : OutS} {go : List A → Hs → Out (List A)} (hJ : ∀ acc h, J acc h → (go acc h).sat kl) (s : m.sat (kLh t fe J acc)) : (turnL t fe acc go m).sat kl := by
  cases m with
  | nx sl1 h1 =>
    have s : (t sl1 h1).sat (kLg fe J acc sl1) := s
    show (match t sl1 h1 with
      | .ok true h2 => (match fe sl1 h2 with
        | .ok y h3 => go (acc ++ [y]) h3
        | _ => .bad)
      | .ok false h2 => go acc h2
      | _ => .bad : Out (List A)).sat kl
    cases ht : t sl1 h1 with
    | ok b h2 =>
      rw [ht] at s
      cases b with
      | true =>
        have s : (fe sl1 h2).sat (kLf J acc) := Cond.t s rfl
        show (match fe sl1 h2 with
          | .ok y h3 => go (acc ++ [y]) h3
          | _ => .bad : Out (List A)).sat kl
        cases hf : fe sl1 h2 with
        | ok y h3 => rw [hf] at s; exact hJ _ _ s
        | ex x h3 => rw [hf] at s; exact s.elim
        | bad => rw [hf] at s; exact s.elim
      | false => exact hJ _ _ (Cond.f s rfl)
    | ex x h3 => rw [ht] at s; exact s.elim
    | bad => rw [ht] at s; exact s.elim
  | ex x sl1 h1 => exact s.elim
  | rt a h1 => exact s.elim
  | bk a h1 => exact s.elim
  | ct a h1 => exact s.elim
  | bad => exact s.elim
theorem w_lcV {J : Nat → List A → Hs → Prop} {g : FG} {t : FT} {fe : FE} {sl : Sl} {xs0 : List A} (step : ∀ i x acc h, xs0[i]? = some x → J i acc h → (g x sl h).sat (kLh t fe (J (i + 1)) acc)) (fin : ∀ acc h, J xs0.length acc h → kl.q acc h) :
    ∀ (xs : List A) (i : Nat), xs0.drop i = xs → i ≤ xs0.length → ∀ acc h, J i acc h → (lcV g t fe sl xs acc h).sat kl
  | [], i, e, hi, acc, h, q => by
    have : i = xs0.length := by
      have := congrArg List.length e
      simp at this
      omega
    exact fin acc h (this ▸ q)
  | x :: xs, i, e, hi, acc, h, q => by
    have hl : i < xs0.length := by
      have := congrArg List.length e
      simp at this
      omega
    have ex : xs0[i]? = some x := by
      have := congrArg (fun l => l[0]?) e
      simpa [List.getElem?_drop] using this
    have et : xs0.drop (i + 1) = xs := by
      have := congrArg (List.drop 1) e
      rw [List.drop_drop] at this
      simpa using this
    exact lturn (go := fun acc h => lcV g t fe sl xs acc h) (fun acc h q => w_lcV step fin xs (i + 1) et (by omega) acc h q) (step i x acc h ex q)
def kLc (k : KE A) : KE (List A) := ⟨fun ys h => k.q (.lst ys) h, k.e⟩
def kLcT (k : KE A) : KE (List A) := ⟨fun ys h => k.q (.ref h.length) (h ++ [.lst ys]), k.e⟩
theorem q_lc : (kLc ke).q xs h = ke.q (.lst xs) h := (rfl)
theorem e_lc : (kLc ke).e xc h = ke.e xc h := (rfl)
theorem q_lcT : (kLcT ke).q xs h = ke.q (.ref h.length) (h ++ [.lst xs]) := (rfl)
theorem e_lcT : (kLcT ke).e xc h = ke.e xc h := (rfl)
theorem s_lc {fi : FA} {own : List Nat} {g : FG} {t : FT} : (eLc fi own g t fe sl h).sat ke = (lcAll fi own g t fe sl h).sat (kLc ke) := s_bind
theorem s_lcT {fi : FA} {own : List Nat} {g : FG} {t : FT} : (eLcT fi own g t fe sl h).sat ke = (lcAll fi own g t fe sl h).sat (kLcT ke) := s_bind
theorem s_lcW {fi : Sl → Hs → Out Wk} {own : List Nat} {g : FG} {t : FT} : (eLcW fi own g t fe sl h).sat ke = (lcAllW fi own g t fe sl h).sat (kLc ke) := s_bind
theorem s_lcWT {fi : Sl → Hs → Out Wk} {own : List Nat} {g : FG} {t : FT} : (eLcWT fi own g t fe sl h).sat ke = (lcAllW fi own g t fe sl h).sat (kLcT ke) := s_bind
theorem w_lc {fi : FA} {own : List Nat} {g : FG} {t : FT} (J : List A → Nat → List A → Hs → Prop) (s : (fi sl h).sat ⟨fun xs h => xs.length ≤ sizeLine ∧ J xs 0 [] h ∧ (∀ i x acc h, xs[i]? = some x → J xs i acc h → (g x (wipeA sl own) h).sat (kLh t fe (J xs (i + 1)) acc)) ∧ (∀ acc h, J xs xs.length acc h → kl.q acc h), kl.e⟩) : (lcAll fi own g t fe sl h).sat kl := by
  refine Eq.mpr s_bind (Out.sat_mono s (fun xs h q => ?_) fun _ _ z => z)
  exact Eq.mpr s_chk ⟨Nat.ble_eq_true_of_le q.1, w_lcV q.2.2.1 q.2.2.2 xs 0 rfl (Nat.zero_le _) [] h q.2.1⟩
theorem w_lcW' {J : Nat → List A → Hs → Prop} {g : FG} {t : FT} {fe : FE} {sl : Sl} {w : Wk} (step : ∀ i acc h, J i acc h → (∃ x, w i h = some (some x) ∧ acc.length < sizeLine ∧ (g x sl h).sat (kLh t fe (J (i + 1)) acc)) ∨ (w i h = some none ∧ kl.q acc h)) (m : Nat) (top : ∀ i acc h, J i acc h → i ≤ m) :
    ∀ (n i : Nat) (acc : List A) (h : Hs), m < n + i → J i acc h → (lcW w g t fe sl n i acc h).sat kl
  | 0, i, acc, h, hm, q => absurd (top i acc h q) (by omega)
  | n + 1, i, acc, h, hm, q => by
    rcases step i acc h q with ⟨x, e, hl, s⟩ | ⟨e, s⟩
    · have z := lturn (go := fun acc h => lcW w g t fe sl n (i + 1) acc h) (fun acc h q => w_lcW' step m top n (i + 1) acc h (by omega) q) s
      unfold lcW
      rw [e]
      have hb : Nat.blt acc.length sizeLine = true := Nat.ble_eq_true_of_le hl
      rw [hb]
      exact z
    · unfold lcW
      rw [e]; exact s
theorem w_lcW {fi : Sl → Hs → Out Wk} {own : List Nat} {g : FG} {t : FT} (m : Nat) (hm : m < FUEL) (J : Nat → List A → Hs → Prop) (top : ∀ i acc h, J i acc h → i ≤ m) (s : (fi sl h).sat ⟨fun w h => J 0 [] h ∧ ∀ i acc h, J i acc h → (∃ x, w i h = some (some x) ∧ acc.length < sizeLine ∧ (g x (wipeA sl own) h).sat (kLh t fe (J (i + 1)) acc)) ∨ (w i h = some none ∧ kl.q acc h), kl.e⟩) : (lcAllW fi own g t fe sl h).sat kl := by
  refine Eq.mpr s_bind (Out.sat_mono s (fun w h q => ?_) fun _ _ z => z)
  exact w_lcW' q.2 m top FUEL 0 [] h (by omega) q.1
def kIr (k : KE (List A)) : KE A := ⟨fun x h => match x with | .int i => (-4611686018427387904 ≤ i ∧ i < 4611686018427387904) ∧ k.q (rangeA i.toNat) h | _ => False, k.e⟩
theorem q_ir {i : Int} : (kIr kl).q (.int i) h = ((-4611686018427387904 ≤ i ∧ i < 4611686018427387904) ∧ kl.q (rangeA i.toNat) h) := (rfl)
theorem e_ir : (kIr kl).e xc h = kl.e xc h := (rfl)
theorem s_iRange : (iRange fa sl h).sat kl = (fa sl h).sat (kIr kl) := by
  refine s_bind.trans ?_
  cases fa sl h with
  | ok a h =>
    cases a with
    | int i => exact s_chk.trans (by simp [kIr, Out.sat])
    | _ => rfl
  | ex x h => rfl
  | bad => rfl
def kIl (k : KE (List A)) : KE A := ⟨fun x h => match x with | .lst xs => k.q xs h | _ => False, k.e⟩
theorem q_il : (kIl kl).q (.lst xs) h = kl.q xs h := (rfl)
theorem e_il : (kIl kl).e xc h = kl.e xc h := (rfl)
theorem s_iLst : (iLst fa sl h).sat kl = (fa sl h).sat (kIl kl) := by
  refine s_bind.trans ?_
  cases fa sl h with
  | ok a h => cases a <;> rfl
  | ex x h => rfl
  | bad => rfl
def kIt (k : KE (List A)) : KE A := ⟨fun x h => match x with | .tup xs => k.q xs h | _ => False, k.e⟩
theorem q_it : (kIt kl).q (.tup xs) h = kl.q xs h := (rfl)
theorem e_it : (kIt kl).e xc h = kl.e xc h := (rfl)
theorem s_iTup : (iTup fa sl h).sat kl = (fa sl h).sat (kIt kl) := by
  refine s_bind.trans ?_
  cases fa sl h with
  | ok a h => cases a <;> rfl
  | ex x h => rfl
  | bad => rfl
variable {kw : KE Wk}
def kIL (k : KE Wk) : KE A := ⟨fun x h => (listOf x h).isSome = true ∧ k.q (wL x) h, k.e⟩
theorem q_iL : (kIL kw).q x h = ((listOf x h).isSome = true ∧ kw.q (wL x) h) := (rfl)
theorem e_iL : (kIL kw).e xc h = kw.e xc h := (rfl)
theorem s_iL : (iL fa sl h).sat kw = (fa sl h).sat (kIL kw) := by
  refine s_bind.trans ?_
  cases fa sl h with
  | ok a h =>
    refine s_need.trans ?_
    show nd (listOf a h) _ = ((listOf a h).isSome = true ∧ kw.q (wL a) h)
    cases listOf a h <;> simp [nd, Out.sat]
  | ex x h => rfl
  | bad => rfl
def kIZ2 (x : A) (k : KE Wk) : KE A := ⟨fun y h => (listOf x h).isSome = true ∧ (listOf y h).isSome = true ∧ k.q (wZ x y) h, k.e⟩
theorem q_iZ2 : (kIZ2 x kw).q y h = ((listOf x h).isSome = true ∧ (listOf y h).isSome = true ∧ kw.q (wZ x y) h) := (rfl)
theorem e_iZ2 : (kIZ2 x kw).e xc h = kw.e xc h := (rfl)
def kIZ (fb : FE) (sl : Sl) (k : KE Wk) : KE A := ⟨fun x h => (fb sl h).sat (kIZ2 x k), k.e⟩
theorem q_iZ : (kIZ fb sl kw).q x h = (fb sl h).sat (kIZ2 x kw) := (rfl)
theorem e_iZ : (kIZ fb sl kw).e xc h = kw.e xc h := (rfl)
theorem s_iZ : (iZ fa fb sl h).sat kw = (fa sl h).sat (kIZ fb sl kw) := by
  refine s_bind.trans ?_
  cases fa sl h with
  | ok a h =>
    refine s_bind.trans ?_
    show (fb sl h).sat _ = (fb sl h).sat _
    cases fb sl h with
    | ok b h =>
      refine s_need.trans ?_
      show nd (listOf a h) _ = ((listOf a h).isSome = true ∧ (listOf b h).isSome = true ∧ kw.q (wZ a b) h)
      cases listOf a h with
      | none => simp [nd]
      | some xs =>
        refine s_need.trans ?_
        cases listOf b h <;> simp [nd, Out.sat]
    | ex x h => rfl
    | bad => rfl
  | ex x h => rfl
  | bad => rfl
end
end Rx
namespace Rx
open PySem L2 Sx
def topS (i : Nat) : Stmt := PySem.Challenge.pw_strayfiles_k05_whole_sums_of_times.main.body.getD i (.Pass ⟨0, 0, 0, 0⟩)
def at_ticks : Nat → At
  | 0 => .fld 0
  | _ => .no
def at_at : Nat → At
  | 1 => .fld 0
  | _ => .no
def isa_sub : Nat → Nat → Option Bool
  | 0, 0 => some true
  | 0, 1 => some false
  | 1, 0 => some false
  | 1, 1 => some true
  | _, _ => none
def isa_bt (c : Nat) (n : String) : Option Bool := if Nat.blt c 2 && ["int", "str", "bool"].contains n then some false else none
def isa_tb (n : String) (c : Nat) : Option Bool := if Nat.blt c 2 && ["int", "str", "bool", "NoneType", "list", "tuple"].contains n then some false else none
def isa : Isa := ⟨isa_sub, isa_bt, isa_tb⟩
/-! ### __init__ -/
abbrev s_Span_init : Stmt := inClass (topS 1) 0
theorem sc_Span_init : FnScope ["self", "ticks"] ["self", "ticks"] (defScope s_Span_init) := ⟨rfl, rfl, rfl, by decide +kernel, rfl, by decide +kernel, by decide +kernel⟩
def b_Span_init : FS :=
  (sFld at_ticks (eVar 0) (eVar 1))
def f_Span_init : F := runF 2 2 b_Span_init
theorem r_Span_init {x0 x1 : A} {h : Hs} {ke : KE A} : (f_Span_init [x0, x1] h).sat ke = (b_Span_init [some x0, some x1] h).sat (kFn ke) := s_run rfl
theorem d_Span_init {G : Gc} (A_ticks : AtOk G "ticks" 0 at_ticks) (W : WX) : DSs G (wh s_Span_init ["self", "ticks"] [0, 1] [0, 1] [] 0 W) (defBody s_Span_init) b_Span_init :=
  (dss_one (ds_fld A_ticks (de_var 0) (de_var 1)))
/-! ### __init__ -/
abbrev s_Moment_init : Stmt := inClass (topS 2) 0
theorem sc_Moment_init : FnScope ["self", "at"] ["self", "at"] (defScope s_Moment_init) := ⟨rfl, rfl, rfl, by decide +kernel, rfl, by decide +kernel, by decide +kernel⟩
def b_Moment_init : FS :=
  (sFld at_at (eVar 0) (eVar 1))
def f_Moment_init : F := runF 2 2 b_Moment_init
theorem r_Moment_init {x0 x1 : A} {h : Hs} {ke : KE A} : (f_Moment_init [x0, x1] h).sat ke = (b_Moment_init [some x0, some x1] h).sat (kFn ke) := s_run rfl
theorem d_Moment_init {G : Gc} (A_at : AtOk G "at" 0 at_at) (W : WX) : DSs G (wh s_Moment_init ["self", "at"] [0, 1] [0, 1] [] 0 W) (defBody s_Moment_init) b_Moment_init :=
  (dss_one (ds_fld A_at (de_var 0) (de_var 1)))
/-! ### __add__ -/
abbrev s_Span_add : Stmt := inClass (topS 1) 1
theorem sc_Span_add : FnScope ["self", "other"] ["self", "other"] (defScope s_Span_add) := ⟨rfl, rfl, rfl, by decide +kernel, rfl, by decide +kernel, by decide +kernel⟩
def b_Span_add : FS :=
  (sSeq (sIf (t1 (eK (aCons (eVar 1) (aCons (eC (.cls 0)) aNil)) (f2 (isaA isa))) truA) (sRet (eK (aCons (e2 (eAt at_ticks (eVar 0)) (eAt at_ticks (eVar 1)) aAdd) aNil) (mkF 0 f_Span_init))) sNx)
  (sSeq (sIf (t1 (eK (aCons (eVar 1) (aCons (eC (.cls 1)) aNil)) (f2 (isaA isa))) truA) (sRet (eK (aCons (e2 (eAt at_ticks (eVar 0)) (eAt at_at (eVar 1)) aAdd) aNil) (mkF 1 f_Moment_init))) sNx)
  (sRet eBad)))
def f_Span_add : F := runF 2 2 b_Span_add
theorem r_Span_add {x0 x1 : A} {h : Hs} {ke : KE A} : (f_Span_add [x0, x1] h).sat ke = (b_Span_add [some x0, some x1] h).sat (kFn ke) := s_run rfl
theorem d_Span_add {G : Gc} (bi_isinstance : Bi G.mg "isinstance" (.builtin "isinstance")) (IO : IsaOk G isa) (gC_Span : GlobC G "Span" (.cls 0)) (DC_Span : DcR G "Span" 0 1 1 f_Span_init) (A_ticks : AtOk G "ticks" 0 at_ticks) (gC_Moment : GlobC G "Moment" (.cls 1)) (DC_Moment : DcR G "Moment" 1 1 1 f_Moment_init) (A_at : AtOk G "at" 0 at_at) (W : WX) : DSs G (wh s_Span_add ["self", "other"] [0, 1] [0, 1] ["isinstance", "Span", "Moment", "NotImplemented"] 2 W) (defBody s_Span_add) b_Span_add :=
  (dss_cons (ds_if (dt_val ot_tru (de_callB bi_isinstance (ok_isa IO) (List.mem_of_getElem? (i := 0) rfl) (da_cons (de_var 1) (da_cons (de_glob gC_Span (List.mem_of_getElem? (i := 1) rfl)) da_nil)))) (dss_one (ds_ret (de_mkF DC_Span (List.mem_of_getElem? (i := 1) rfl) (Nat.le_of_ble_eq_true rfl) (da_cons (de_bin ob_add (de_att A_ticks (Nat.le_of_ble_eq_true rfl) (de_var 0)) (de_att A_ticks (Nat.le_of_ble_eq_true rfl) (de_var 1))) da_nil)))) dss_nil)
  (dss_cons (ds_if (dt_val ot_tru (de_callB bi_isinstance (ok_isa IO) (List.mem_of_getElem? (i := 0) rfl) (da_cons (de_var 1) (da_cons (de_glob gC_Moment (List.mem_of_getElem? (i := 2) rfl)) da_nil)))) (dss_one (ds_ret (de_mkF DC_Moment (List.mem_of_getElem? (i := 2) rfl) (Nat.le_of_ble_eq_true rfl) (da_cons (de_bin ob_add (de_att A_ticks (Nat.le_of_ble_eq_true rfl) (de_var 0)) (de_att A_at (Nat.le_of_ble_eq_true rfl) (de_var 1))) da_nil)))) dss_nil)
  (dss_one (ds_ret de_bad))))
/-! ### __sub__ -/
abbrev s_Span_sub : Stmt := inClass (topS 1) 2
theorem sc_Span_sub : FnScope ["self", "other"] ["self", "other"] (defScope s_Span_sub) := ⟨rfl, rfl, rfl, by decide +kernel, rfl, by decide +kernel, by decide +kernel⟩
def b_Span_sub : FS :=
  (sSeq (sIf (tNot (t1 (eK (aCons (eVar 1) (aCons (eC (.cls 0)) aNil)) (f2 (isaA isa))) truA)) (sRet eBad) sNx)
  (sRet (eK (aCons (e2 (eAt at_ticks (eVar 0)) (eAt at_ticks (eVar 1)) (aInt gSub')) aNil) (mkF 0 f_Span_init))))
def f_Span_sub : F := runF 2 2 b_Span_sub
theorem r_Span_sub {x0 x1 : A} {h : Hs} {ke : KE A} : (f_Span_sub [x0, x1] h).sat ke = (b_Span_sub [some x0, some x1] h).sat (kFn ke) := s_run rfl
theorem d_Span_sub {G : Gc} (bi_isinstance : Bi G.mg "isinstance" (.builtin "isinstance")) (IO : IsaOk G isa) (gC_Span : GlobC G "Span" (.cls 0)) (DC_Span : DcR G "Span" 0 1 1 f_Span_init) (A_ticks : AtOk G "ticks" 0 at_ticks) (W : WX) : DSs G (wh s_Span_sub ["self", "other"] [0, 1] [0, 1] ["isinstance", "Span", "NotImplemented"] 2 W) (defBody s_Span_sub) b_Span_sub :=
  (dss_cons (ds_if (dt_not (dt_val ot_tru (de_callB bi_isinstance (ok_isa IO) (List.mem_of_getElem? (i := 0) rfl) (da_cons (de_var 1) (da_cons (de_glob gC_Span (List.mem_of_getElem? (i := 1) rfl)) da_nil))))) (dss_one (ds_ret de_bad)) dss_nil)
  (dss_one (ds_ret (de_mkF DC_Span (List.mem_of_getElem? (i := 1) rfl) (Nat.le_of_ble_eq_true rfl) (da_cons (de_bin ob_sub (de_att A_ticks (Nat.le_of_ble_eq_true rfl) (de_var 0)) (de_att A_ticks (Nat.le_of_ble_eq_true rfl) (de_var 1))) da_nil)))))
/-! ### __neg__ -/
abbrev s_Span_neg : Stmt := inClass (topS 1) 3
theorem sc_Span_neg : FnScope ["self"] ["self"] (defScope s_Span_neg) := ⟨rfl, rfl, rfl, by decide +kernel, rfl, by decide +kernel, by decide +kernel⟩
def b_Span_neg : FS :=
  (sRet (eK (aCons (e1 (eAt at_ticks (eVar 0)) aNeg) aNil) (mkF 0 f_Span_init)))
def f_Span_neg : F := runF 1 1 b_Span_neg
theorem r_Span_neg {x0 : A} {h : Hs} {ke : KE A} : (f_Span_neg [x0] h).sat ke = (b_Span_neg [some x0] h).sat (kFn ke) := s_run rfl
theorem d_Span_neg {G : Gc} (DC_Span : DcR G "Span" 0 1 1 f_Span_init) (A_ticks : AtOk G "ticks" 0 at_ticks) (W : WX) : DSs G (wh s_Span_neg ["self"] [0] [0] ["Span"] 2 W) (defBody s_Span_neg) b_Span_neg :=
  (dss_one (ds_ret (de_mkF DC_Span (List.mem_of_getElem? (i := 0) rfl) (Nat.le_of_ble_eq_true rfl) (da_cons (de_un ou_neg (de_att A_ticks (Nat.le_of_ble_eq_true rfl) (de_var 0))) da_nil))))
/-! ### __abs__ -/
abbrev s_Span_abs : Stmt := inClass (topS 1) 4
theorem sc_Span_abs : FnScope ["self"] ["self"] (defScope s_Span_abs) := ⟨rfl, rfl, rfl, by decide +kernel, rfl, by decide +kernel, by decide +kernel⟩
def b_Span_abs : FS :=
  (sRet (eK (aCons (eK (aCons (eAt at_ticks (eVar 0)) aNil) (f1 absA)) aNil) (mkF 0 f_Span_init)))
def f_Span_abs : F := runF 1 1 b_Span_abs
theorem r_Span_abs {x0 : A} {h : Hs} {ke : KE A} : (f_Span_abs [x0] h).sat ke = (b_Span_abs [some x0] h).sat (kFn ke) := s_run rfl
theorem d_Span_abs {G : Gc} (DC_Span : DcR G "Span" 0 1 1 f_Span_init) (bi_abs : Bi G.mg "abs" (.builtin "abs")) (A_ticks : AtOk G "ticks" 0 at_ticks) (W : WX) : DSs G (wh s_Span_abs ["self"] [0] [0] ["Span", "abs"] 2 W) (defBody s_Span_abs) b_Span_abs :=
  (dss_one (ds_ret (de_mkF DC_Span (List.mem_of_getElem? (i := 0) rfl) (Nat.le_of_ble_eq_true rfl) (da_cons (de_callB bi_abs ok_abs (List.mem_of_getElem? (i := 1) rfl) (da_cons (de_att A_ticks (Nat.le_of_ble_eq_true rfl) (de_var 0)) da_nil)) da_nil))))
/-! ### __mul__ -/
abbrev s_Span_mul : Stmt := inClass (topS 1) 5
theorem sc_Span_mul : FnScope ["self", "other"] ["self", "other"] (defScope s_Span_mul) := ⟨rfl, rfl, rfl, by decide +kernel, rfl, by decide +kernel, by decide +kernel⟩
def b_Span_mul : FS :=
  (sSeq (sIf (tNot (t1 (eK (aCons (eVar 1) (aCons (eC (.ty "int")) aNil)) (f2 (isaA isa))) truA)) (sRet eBad) sNx)
  (sRet (eK (aCons (e2 (eAt at_ticks (eVar 0)) (eVar 1) (aInt gMulW)) aNil) (mkF 0 f_Span_init))))
def f_Span_mul : F := runF 2 2 b_Span_mul
theorem r_Span_mul {x0 x1 : A} {h : Hs} {ke : KE A} : (f_Span_mul [x0, x1] h).sat ke = (b_Span_mul [some x0, some x1] h).sat (kFn ke) := s_run rfl
theorem d_Span_mul {G : Gc} (bi_isinstance : Bi G.mg "isinstance" (.builtin "isinstance")) (IO : IsaOk G isa) (bt_int : Bi G.mg "int" (.type "int")) (DC_Span : DcR G "Span" 0 1 1 f_Span_init) (A_ticks : AtOk G "ticks" 0 at_ticks) (W : WX) : DSs G (wh s_Span_mul ["self", "other"] [0, 1] [0, 1] ["isinstance", "int", "NotImplemented", "Span"] 2 W) (defBody s_Span_mul) b_Span_mul :=
  (dss_cons (ds_if (dt_not (dt_val ot_tru (de_callB bi_isinstance (ok_isa IO) (List.mem_of_getElem? (i := 0) rfl) (da_cons (de_var 1) (da_cons (de_bty bt_int (List.mem_of_getElem? (i := 1) rfl)) da_nil))))) (dss_one (ds_ret de_bad)) dss_nil)
  (dss_one (ds_ret (de_mkF DC_Span (List.mem_of_getElem? (i := 3) rfl) (Nat.le_of_ble_eq_true rfl) (da_cons (de_bin ob_mulW (de_att A_ticks (Nat.le_of_ble_eq_true rfl) (de_var 0)) (de_var 1)) da_nil)))))
/-! ### __rmul__ -/
abbrev s_Span_rmul : Stmt := inClass (topS 1) 6
theorem sc_Span_rmul : FnScope ["self", "other"] ["self", "other"] (defScope s_Span_rmul) := ⟨rfl, rfl, rfl, by decide +kernel, rfl, by decide +kernel, by decide +kernel⟩
def b_Span_rmul : FS :=
  (sSeq (sIf (tNot (t1 (eK (aCons (eVar 1) (aCons (eC (.ty "int")) aNil)) (f2 (isaA isa))) truA)) (sRet eBad) sNx)
  (sRet (eK (aCons (e2 (eAt at_ticks (eVar 0)) (eVar 1) (aInt gMulW)) aNil) (mkF 0 f_Span_init))))
def f_Span_rmul : F := runF 2 2 b_Span_rmul
theorem r_Span_rmul {x0 x1 : A} {h : Hs} {ke : KE A} : (f_Span_rmul [x0, x1] h).sat ke = (b_Span_rmul [some x0, some x1] h).sat (kFn ke) := s_run rfl
theorem d_Span_rmul {G : Gc} (bi_isinstance : Bi G.mg "isinstance" (.builtin "isinstance")) (IO : IsaOk G isa) (bt_int : Bi G.mg "int" (.type "int")) (DC_Span : DcR G "Span" 0 1 1 f_Span_init) (A_ticks : AtOk G "ticks" 0 at_ticks) (W : WX) : DSs G (wh s_Span_rmul ["self", "other"] [0, 1] [0, 1] ["isinstance", "int", "NotImplemented", "Span"] 2 W) (defBody s_Span_rmul) b_Span_rmul :=
  (dss_cons (ds_if (dt_not (dt_val ot_tru (de_callB bi_isinstance (ok_isa IO) (List.mem_of_getElem? (i := 0) rfl) (da_cons (de_var 1) (da_cons (de_bty bt_int (List.mem_of_getElem? (i := 1) rfl)) da_nil))))) (dss_one (ds_ret de_bad)) dss_nil)
  (dss_one (ds_ret (de_mkF DC_Span (List.mem_of_getElem? (i := 3) rfl) (Nat.le_of_ble_eq_true rfl) (da_cons (de_bin ob_mulW (de_att A_ticks (Nat.le_of_ble_eq_true rfl) (de_var 0)) (de_var 1)) da_nil)))))
/-! ### __floordiv__ -/
abbrev s_Span_floordiv : Stmt := inClass (topS 1) 7
theorem sc_Span_floordiv : FnScope ["self", "other"] ["self", "other"] (defScope s_Span_floordiv) := ⟨rfl, rfl, rfl, by decide +kernel, rfl, by decide +kernel, by decide +kernel⟩
def b_Span_floordiv : FS :=
  (sSeq (sIf (tNot (t1 (eK (aCons (eVar 1) (aCons (eC (.cls 0)) aNil)) (f2 (isaA isa))) truA)) (sRet eBad) sNx)
  (sRet (e2 (eAt at_ticks (eVar 0)) (eAt at_ticks (eVar 1)) (aInt gDivN))))
def f_Span_floordiv : F := runF 2 2 b_Span_floordiv
theorem r_Span_floordiv {x0 x1 : A} {h : Hs} {ke : KE A} : (f_Span_floordiv [x0, x1] h).sat ke = (b_Span_floordiv [some x0, some x1] h).sat (kFn ke) := s_run rfl
theorem d_Span_floordiv {G : Gc} (bi_isinstance : Bi G.mg "isinstance" (.builtin "isinstance")) (IO : IsaOk G isa) (gC_Span : GlobC G "Span" (.cls 0)) (A_ticks : AtOk G "ticks" 0 at_ticks) (W : WX) : DSs G (wh s_Span_floordiv ["self", "other"] [0, 1] [0, 1] ["isinstance", "Span", "NotImplemented"] 1 W) (defBody s_Span_floordiv) b_Span_floordiv :=
  (dss_cons (ds_if (dt_not (dt_val ot_tru (de_callB bi_isinstance (ok_isa IO) (List.mem_of_getElem? (i := 0) rfl) (da_cons (de_var 1) (da_cons (de_glob gC_Span (List.mem_of_getElem? (i := 1) rfl)) da_nil))))) (dss_one (ds_ret de_bad)) dss_nil)
  (dss_one (ds_ret (de_bin ob_divN (de_att A_ticks (Nat.le_of_ble_eq_true rfl) (de_var 0)) (de_att A_ticks (Nat.le_of_ble_eq_true rfl) (de_var 1))))))
/-! ### __mod__ -/
abbrev s_Span_mod : Stmt := inClass (topS 1) 8
theorem sc_Span_mod : FnScope ["self", "other"] ["self", "other"] (defScope s_Span_mod) := ⟨rfl, rfl, rfl, by decide +kernel, rfl, by decide +kernel, by decide +kernel⟩
def b_Span_mod : FS :=
  (sSeq (sIf (tNot (t1 (eK (aCons (eVar 1) (aCons (eC (.cls 0)) aNil)) (f2 (isaA isa))) truA)) (sRet eBad) sNx)
  (sRet (eK (aCons (e2 (eAt at_ticks (eVar 0)) (e2 (e2 (eAt at_ticks (eVar 0)) (eAt at_ticks (eVar 1)) (aInt gDivN)) (eAt at_ticks (eVar 1)) (aInt gMulW)) (aInt gSub')) aNil) (mkF 0 f_Span_init))))
def f_Span_mod : F := runF 2 2 b_Span_mod
theorem r_Span_mod {x0 x1 : A} {h : Hs} {ke : KE A} : (f_Span_mod [x0, x1] h).sat ke = (b_Span_mod [some x0, some x1] h).sat (kFn ke) := s_run rfl
theorem d_Span_mod {G : Gc} (bi_isinstance : Bi G.mg "isinstance" (.builtin "isinstance")) (IO : IsaOk G isa) (gC_Span : GlobC G "Span" (.cls 0)) (DC_Span : DcR G "Span" 0 1 1 f_Span_init) (A_ticks : AtOk G "ticks" 0 at_ticks) (W : WX) : DSs G (wh s_Span_mod ["self", "other"] [0, 1] [0, 1] ["isinstance", "Span", "NotImplemented"] 2 W) (defBody s_Span_mod) b_Span_mod :=
  (dss_cons (ds_if (dt_not (dt_val ot_tru (de_callB bi_isinstance (ok_isa IO) (List.mem_of_getElem? (i := 0) rfl) (da_cons (de_var 1) (da_cons (de_glob gC_Span (List.mem_of_getElem? (i := 1) rfl)) da_nil))))) (dss_one (ds_ret de_bad)) dss_nil)
  (dss_one (ds_ret (de_mkF DC_Span (List.mem_of_getElem? (i := 1) rfl) (Nat.le_of_ble_eq_true rfl) (da_cons (de_bin ob_sub (de_att A_ticks (Nat.le_of_ble_eq_true rfl) (de_var 0)) (de_bin ob_mulW (de_bin ob_divN (de_att A_ticks (Nat.le_of_ble_eq_true rfl) (de_var 0)) (de_att A_ticks (Nat.le_of_ble_eq_true rfl) (de_var 1))) (de_att A_ticks (Nat.le_of_ble_eq_true rfl) (de_var 1)))) da_nil)))))
/-! ### __add__ -/
abbrev s_Moment_add : Stmt := inClass (topS 2) 1
theorem sc_Moment_add : FnScope ["self", "other"] ["self", "other"] (defScope s_Moment_add) := ⟨rfl, rfl, rfl, by decide +kernel, rfl, by decide +kernel, by decide +kernel⟩
def b_Moment_add : FS :=
  (sSeq (sIf (tNot (t1 (eK (aCons (eVar 1) (aCons (eC (.cls 0)) aNil)) (f2 (isaA isa))) truA)) (sRet eBad) sNx)
  (sRet (eK (aCons (e2 (eAt at_at (eVar 0)) (eAt at_ticks (eVar 1)) aAdd) aNil) (mkF 1 f_Moment_init))))
def f_Moment_add : F := runF 2 2 b_Moment_add
theorem r_Moment_add {x0 x1 : A} {h : Hs} {ke : KE A} : (f_Moment_add [x0, x1] h).sat ke = (b_Moment_add [some x0, some x1] h).sat (kFn ke) := s_run rfl
theorem d_Moment_add {G : Gc} (bi_isinstance : Bi G.mg "isinstance" (.builtin "isinstance")) (IO : IsaOk G isa) (gC_Span : GlobC G "Span" (.cls 0)) (DC_Moment : DcR G "Moment" 1 1 1 f_Moment_init) (A_at : AtOk G "at" 0 at_at) (A_ticks : AtOk G "ticks" 0 at_ticks) (W : WX) : DSs G (wh s_Moment_add ["self", "other"] [0, 1] [0, 1] ["isinstance", "Span", "NotImplemented", "Moment"] 2 W) (defBody s_Moment_add) b_Moment_add :=
  (dss_cons (ds_if (dt_not (dt_val ot_tru (de_callB bi_isinstance (ok_isa IO) (List.mem_of_getElem? (i := 0) rfl) (da_cons (de_var 1) (da_cons (de_glob gC_Span (List.mem_of_getElem? (i := 1) rfl)) da_nil))))) (dss_one (ds_ret de_bad)) dss_nil)
  (dss_one (ds_ret (de_mkF DC_Moment (List.mem_of_getElem? (i := 3) rfl) (Nat.le_of_ble_eq_true rfl) (da_cons (de_bin ob_add (de_att A_at (Nat.le_of_ble_eq_true rfl) (de_var 0)) (de_att A_ticks (Nat.le_of_ble_eq_true rfl) (de_var 1))) da_nil)))))
/-! ### __sub__ -/
abbrev s_Moment_sub : Stmt := inClass (topS 2) 2
theorem sc_Moment_sub : FnScope ["self", "other"] ["self", "other"] (defScope s_Moment_sub) := ⟨rfl, rfl, rfl, by decide +kernel, rfl, by decide +kernel, by decide +kernel⟩
def b_Moment_sub : FS :=
  (sSeq (sIf (t1 (eK (aCons (eVar 1) (aCons (eC (.cls 0)) aNil)) (f2 (isaA isa))) truA) (sRet (eK (aCons (e2 (eAt at_at (eVar 0)) (eAt at_ticks (eVar 1)) (aInt gSub')) aNil) (mkF 1 f_Moment_init))) sNx)
  (sSeq (sIf (t1 (eK (aCons (eVar 1) (aCons (eC (.cls 1)) aNil)) (f2 (isaA isa))) truA) (sRet (eK (aCons (e2 (eAt at_at (eVar 0)) (eAt at_at (eVar 1)) (aInt gSub')) aNil) (mkF 0 f_Span_init))) sNx)
  (sRet eBad)))
def f_Moment_sub : F := runF 2 2 b_Moment_sub
theorem r_Moment_sub {x0 x1 : A} {h : Hs} {ke : KE A} : (f_Moment_sub [x0, x1] h).sat ke = (b_Moment_sub [some x0, some x1] h).sat (kFn ke) := s_run rfl
theorem d_Moment_sub {G : Gc} (bi_isinstance : Bi G.mg "isinstance" (.builtin "isinstance")) (IO : IsaOk G isa) (gC_Span : GlobC G "Span" (.cls 0)) (DC_Moment : DcR G "Moment" 1 1 1 f_Moment_init) (A_at : AtOk G "at" 0 at_at) (A_ticks : AtOk G "ticks" 0 at_ticks) (gC_Moment : GlobC G "Moment" (.cls 1)) (DC_Span : DcR G "Span" 0 1 1 f_Span_init) (W : WX) : DSs G (wh s_Moment_sub ["self", "other"] [0, 1] [0, 1] ["isinstance", "Span", "Moment", "NotImplemented"] 2 W) (defBody s_Moment_sub) b_Moment_sub :=
  (dss_cons (ds_if (dt_val ot_tru (de_callB bi_isinstance (ok_isa IO) (List.mem_of_getElem? (i := 0) rfl) (da_cons (de_var 1) (da_cons (de_glob gC_Span (List.mem_of_getElem? (i := 1) rfl)) da_nil)))) (dss_one (ds_ret (de_mkF DC_Moment (List.mem_of_getElem? (i := 2) rfl) (Nat.le_of_ble_eq_true rfl) (da_cons (de_bin ob_sub (de_att A_at (Nat.le_of_ble_eq_true rfl) (de_var 0)) (de_att A_ticks (Nat.le_of_ble_eq_true rfl) (de_var 1))) da_nil)))) dss_nil)
  (dss_cons (ds_if (dt_val ot_tru (de_callB bi_isinstance (ok_isa IO) (List.mem_of_getElem? (i := 0) rfl) (da_cons (de_var 1) (da_cons (de_glob gC_Moment (List.mem_of_getElem? (i := 2) rfl)) da_nil)))) (dss_one (ds_ret (de_mkF DC_Span (List.mem_of_getElem? (i := 1) rfl) (Nat.le_of_ble_eq_true rfl) (da_cons (de_bin ob_sub (de_att A_at (Nat.le_of_ble_eq_true rfl) (de_var 0)) (de_att A_at (Nat.le_of_ble_eq_true rfl) (de_var 1))) da_nil)))) dss_nil)
  (dss_one (ds_ret de_bad))))
def mt_add : Mt
  | 0 => some f_Span_add
  | 1 => some f_Moment_add
  | _ => none
def mt_sub : Mt
  | 0 => some f_Span_sub
  | 1 => some f_Moment_sub
  | _ => none
def mt_neg : Mt
  | 0 => some f_Span_neg
  | _ => none
def mt_abs : Mt
  | 0 => some f_Span_abs
  | _ => none
def mt_mul : Mt
  | 0 => some f_Span_mul
  | _ => none
def mt_rmul : Mt
  | 0 => some f_Span_rmul
  | _ => none
def mt_floordiv : Mt
  | 0 => some f_Span_floordiv
  | _ => none
def mt_mod : Mt
  | 0 => some f_Span_mod
  | _ => none
/-! ### _law_bag -/
abbrev s_law_bag : Stmt := topS 4
theorem sc_law_bag : FnScope ["_law_script", "_law_at", "_law_cell"] ["_law_script", "_law_at"] (defScope s_law_bag) := ⟨rfl, rfl, rfl, by decide +kernel, rfl, by decide +kernel, by decide +kernel⟩
def b_law_bag : FS :=
  (sSeq (sSet 2 (eIf (e2t (eVar 1) (eK (aCons (eVar 0) aNil) (f1 lenA)) (aCmp (fun i j => decide (i < j)))) (e2 (eVar 0) (eVar 1) ixA) (eVar 1)))
  (sRet (eLstT (aCons (eIf (e2t (eK (aCons (eVar 2) aNil) (f1 absA)) (e2 (eC (.int 10)) (eC (.int 18)) (aInt gPow)) (aCmp (fun i j => decide (j ≤ i)))) (eK (aCons (eVar 2) aNil) (f1 absA)) (eC (.int 0))) (aCons (e2 (e2 (eK (aCons (eVar 2) aNil) (f1 absA)) (eC (.int 2)) (aInt gMulW)) (eK (aCons (e2 (eVar 2) (eC (.int 0)) (aCmp (fun i j => decide (i < j)))) aNil) (f1 intA)) aAdd) (aCons (e2 (e2 (eVar 1) (eC (.int 100)) (aInt gMulW)) (eC (.int 1)) aAdd) aNil))))))
def f_law_bag : F := runF 2 3 b_law_bag
theorem r_law_bag {x0 x1 : A} {h : Hs} {ke : KE A} : (f_law_bag [x0, x1] h).sat ke = (b_law_bag [some x0, some x1, none] h).sat (kFn ke) := s_run rfl
theorem d_law_bag {G : Gc} (bi_len : Bi G.mg "len" (.builtin "len")) (bi_abs : Bi G.mg "abs" (.builtin "abs")) (bt_int : Bi G.mg "int" (.type "int")) (W : WX) : DSs G (wh s_law_bag ["_law_script", "_law_at", "_law_cell"] [0, 1, 2] [0, 1, 2] ["len", "abs", "int"] 0 W) (defBody s_law_bag) b_law_bag :=
  (dss_cons (ds_set 2 (de_if (dt_cmp (oc_int ci_lt) (de_var 1) (de_callB bi_len ok_len (List.mem_of_getElem? (i := 0) rfl) (da_cons (de_var 0) da_nil)) (nomark _)) (de_sub ox_ix (de_var 0) (de_var 1)) (de_var 1)))
  (dss_one (ds_ret (de_lstT (da_cons (de_if (dt_cmp (oc_int ci_ge) (de_callB bi_abs ok_abs (List.mem_of_getElem? (i := 1) rfl) (da_cons (de_var 2) da_nil)) (de_bin ob_pow de_int de_int) (nomark _)) (de_callB bi_abs ok_abs (List.mem_of_getElem? (i := 1) rfl) (da_cons (de_var 2) da_nil)) de_int) (da_cons (de_bin ob_add (de_bin ob_mulW (de_callB bi_abs ok_abs (List.mem_of_getElem? (i := 1) rfl) (da_cons (de_var 2) da_nil)) de_int) (de_callT bt_int ok_int (List.mem_of_getElem? (i := 2) rfl) (da_cons (de_cmp (oc_int ci_lt) (de_var 2) de_int (nomark _)) da_nil))) (da_cons (de_bin ob_add (de_bin ob_mulW (de_var 1) de_int) de_int) da_nil)))))))
/-! ### _law_take -/
abbrev s_law_take : Stmt := topS 5
theorem sc_law_take : FnScope ["_law_bag_here", "_law_many", "_law_digit", "_law_mixed"] ["_law_bag_here", "_law_many"] (defScope s_law_take) := ⟨rfl, rfl, rfl, by decide +kernel, rfl, by decide +kernel, by decide +kernel⟩
def b_law_take : FS :=
  (sSeq (sIf (e2t (e2 (eVar 0) (eC (.int 0)) ixA) (eC (.int 0)) (aCmp (fun i j => decide (j < i)))) (sSeq (sSet 2 (e2 (eK (aCons (e2 (eVar 0) (eC (.int 0)) ixA) aNil) (f1 intA)) (eVar 1) (aInt gMod)))
  (sSeq (sAsg (e2 (e2 (eVar 0) (eC (.int 0)) ixA) (eVar 1) (aInt gDivN)) (gSub (eVar 0) (eC (.int 0)) setL))
  (sRet (eVar 2)))) sNx)
  (sSeq (sAsg (e2 (e2 (eVar 0) (eC (.int 2)) ixA) (eC (.int 1)) aAdd) (gSub (eVar 0) (eC (.int 2)) setL))
  (sSeq (sSet 3 (e2 (eK (aCons (e2 (e2 (e2 (e2 (eVar 0) (eC (.int 1)) ixA) (eC (.int 40503)) (aInt gMulW)) (e2 (e2 (eVar 0) (eC (.int 2)) ixA) (eC (.int 7919)) (aInt gMulW)) aAdd) (eC (.int 12345)) aAdd) aNil) (f1 intA)) (eC (.int 2147483647)) (aInt gMod)))
  (sSeq (sSet 3 (e2 (eK (aCons (e2 (e2 (eVar 3) (eVar 3) (aInt gMulW)) (e2 (e2 (eVar 0) (eC (.int 2)) ixA) (eC (.int 104729)) (aInt gMulW)) aAdd) aNil) (f1 intA)) (eC (.int 2147483629)) (aInt gMod)))
  (sSeq (sSet 3 (e2 (eK (aCons (e2 (e2 (eVar 3) (eC (.int 69621)) (aInt gMulW)) (e2 (eVar 0) (eC (.int 1)) ixA) aAdd) aNil) (f1 intA)) (eC (.int 2147483647)) (aInt gMod)))
  (sRet (e2 (eK (aCons (e2 (eVar 3) (eC (.int 97)) (aInt gDivN)) aNil) (f1 intA)) (eVar 1) (aInt gMod))))))))
def f_law_take : F := runF 2 4 b_law_take
theorem r_law_take {x0 x1 : A} {h : Hs} {ke : KE A} : (f_law_take [x0, x1] h).sat ke = (b_law_take [some x0, some x1, none, none] h).sat (kFn ke) := s_run rfl
theorem d_law_take {G : Gc} (bt_int : Bi G.mg "int" (.type "int")) (W : WX) : DSs G (wh s_law_take ["_law_bag_here", "_law_many", "_law_digit", "_law_mixed"] [0, 1, 2, 3] [0, 1, 2, 3] ["int"] 0 W) (defBody s_law_take) b_law_take :=
  (dss_cons (ds_if (dt_cmp (oc_int ci_gt) (de_sub ox_ix (de_var 0) de_int) de_int (nomark _)) (dss_cons (ds_set 2 (de_bin ob_mod (de_callT bt_int ok_int (List.mem_of_getElem? (i := 0) rfl) (da_cons (de_sub ox_ix (de_var 0) de_int) da_nil)) (de_var 1)))
  (dss_cons (ds_asg (ws := []) (de_bin ob_divN (de_sub ox_ix (de_var 0) de_int) (de_var 1)) (dg_sub os_list (de_var 0) de_int))
  (dss_one (ds_ret (de_var 2))))) dss_nil)
  (dss_cons (ds_asg (ws := []) (de_bin ob_add (de_sub ox_ix (de_var 0) de_int) de_int) (dg_sub os_list (de_var 0) de_int))
  (dss_cons (ds_set 3 (de_bin ob_mod (de_callT bt_int ok_int (List.mem_of_getElem? (i := 0) rfl) (da_cons (de_bin ob_add (de_bin ob_add (de_bin ob_mulW (de_sub ox_ix (de_var 0) de_int) de_int) (de_bin ob_mulW (de_sub ox_ix (de_var 0) de_int) de_int)) de_int) da_nil)) de_int))
  (dss_cons (ds_set 3 (de_bin ob_mod (de_callT bt_int ok_int (List.mem_of_getElem? (i := 0) rfl) (da_cons (de_bin ob_add (de_bin ob_mulW (de_var 3) (de_var 3)) (de_bin ob_mulW (de_sub ox_ix (de_var 0) de_int) de_int)) da_nil)) de_int))
  (dss_cons (ds_set 3 (de_bin ob_mod (de_callT bt_int ok_int (List.mem_of_getElem? (i := 0) rfl) (da_cons (de_bin ob_add (de_bin ob_mulW (de_var 3) de_int) (de_sub ox_ix (de_var 0) de_int)) da_nil)) de_int))
  (dss_one (ds_ret (de_bin ob_mod (de_callT bt_int ok_int (List.mem_of_getElem? (i := 0) rfl) (da_cons (de_bin ob_divN (de_var 3) de_int) da_nil)) (de_var 1)))))))))
/-! ### _law_number -/
abbrev s_law_number : Stmt := topS 6
theorem sc_law_number : FnScope ["_law_bag_here", "_law_size", "_law_number_here"] ["_law_bag_here"] (defScope s_law_number) := ⟨rfl, rfl, rfl, by decide +kernel, rfl, by decide +kernel, by decide +kernel⟩
def b_law_number : FS :=
  (sSeq (sSet 1 (e2 (eLst (aCons (eC (.int 4)) (aCons (eC (.int 100)) (aCons (e2 (eC (.int 10)) (eC (.int 9)) (aInt gPow)) (aCons (e2 (eC (.int 10)) (eC (.int 30)) (aInt gPow)) aNil))))) (eK (aCons (eVar 0) (aCons (eC (.int 4)) aNil)) f_law_take) ixA))
  (sSeq (sSet 2 (eK (aCons (eVar 0) (aCons (eVar 1) aNil)) f_law_take))
  (sRet (eIf (e2t (eK (aCons (eVar 0) (aCons (eC (.int 2)) aNil)) f_law_take) (eC (.int 0)) aEq) (eVar 2) (e1 (eVar 2) aNeg)))))
def f_law_number : F := runF 1 3 b_law_number
theorem r_law_number {x0 : A} {h : Hs} {ke : KE A} : (f_law_number [x0] h).sat ke = (b_law_number [some x0, none, none] h).sat (kFn ke) := s_run rfl
theorem d_law_number {G : Gc} (D_law_take : DfR G "_law_take" 1 2 f_law_take) (W : WX) : DSs G (wh s_law_number ["_law_bag_here", "_law_size", "_law_number_here"] [0, 1, 2] [0, 1, 2] ["_law_take"] 1 W) (defBody s_law_number) b_law_number :=
  (dss_cons (ds_set 1 (de_sub ox_ix (de_lst (da_cons de_int (da_cons de_int (da_cons (de_bin ob_pow de_int de_int) (da_cons (de_bin ob_pow de_int de_int) da_nil))))) (de_call D_law_take (List.mem_of_getElem? (i := 0) rfl) (Nat.le_of_ble_eq_true rfl) (da_cons (de_var 0) (da_cons de_int da_nil)))))
  (dss_cons (ds_set 2 (de_call D_law_take (List.mem_of_getElem? (i := 0) rfl) (Nat.le_of_ble_eq_true rfl) (da_cons (de_var 0) (da_cons (de_var 1) da_nil))))
  (dss_one (ds_ret (de_if (dt_cmp oc_eq (de_call D_law_take (List.mem_of_getElem? (i := 0) rfl) (Nat.le_of_ble_eq_true rfl) (da_cons (de_var 0) (da_cons de_int da_nil))) de_int (nomark _)) (de_var 2) (de_un ou_neg (de_var 2)))))))
/-! ### _law_is_number -/
abbrev s_law_is_number : Stmt := topS 7
theorem sc_law_is_number : FnScope ["_law_thing", "_law_due"] ["_law_thing", "_law_due"] (defScope s_law_is_number) := ⟨rfl, rfl, rfl, by decide +kernel, rfl, by decide +kernel, by decide +kernel⟩
def b_law_is_number : FS :=
  (sRet (eAnd (eK (aCons (eVar 0) (aCons (eC (.ty "int")) aNil)) (f2 (isaA isa))) (eAnd (eNot (eK (aCons (eVar 0) (aCons (eC (.ty "bool")) aNil)) (f2 (isaA isa)))) (e2 (eVar 0) (eVar 1) aEq))))
def f_law_is_number : F := runF 2 2 b_law_is_number
theorem r_law_is_number {x0 x1 : A} {h : Hs} {ke : KE A} : (f_law_is_number [x0, x1] h).sat ke = (b_law_is_number [some x0, some x1] h).sat (kFn ke) := s_run rfl
theorem d_law_is_number {G : Gc} (bi_isinstance : Bi G.mg "isinstance" (.builtin "isinstance")) (IO : IsaOk G isa) (bt_bool : Bi G.mg "bool" (.type "bool")) (bt_int : Bi G.mg "int" (.type "int")) (W : WX) : DSs G (wh s_law_is_number ["_law_thing", "_law_due"] [0, 1] [0, 1] ["isinstance", "int", "bool"] 0 W) (defBody s_law_is_number) b_law_is_number :=
  (dss_one (ds_ret (de_and (de_callB bi_isinstance (ok_isa IO) (List.mem_of_getElem? (i := 0) rfl) (da_cons (de_var 0) (da_cons (de_bty bt_int (List.mem_of_getElem? (i := 1) rfl)) da_nil))) (de_and (de_not (de_callB bi_isinstance (ok_isa IO) (List.mem_of_getElem? (i := 0) rfl) (da_cons (de_var 0) (da_cons (de_bty bt_bool (List.mem_of_getElem? (i := 2) rfl)) da_nil)))) (de_one (de_cmp oc_eq (de_var 0) (de_var 1) (nomark _)))))))
/-! ### _law_is_span -/
abbrev s_law_is_span : Stmt := topS 8
theorem sc_law_is_span : FnScope ["_law_thing", "_law_due"] ["_law_thing", "_law_due"] (defScope s_law_is_span) := ⟨rfl, rfl, rfl, by decide +kernel, rfl, by decide +kernel, by decide +kernel⟩
def b_law_is_span : FS :=
  (sRet (eAnd (eK (aCons (eVar 0) (aCons (eC (.cls 0)) aNil)) (f2 (isaA isa))) (eK (aCons (eAt at_ticks (eVar 0)) (aCons (eVar 1) aNil)) f_law_is_number)))
def f_law_is_span : F := runF 2 2 b_law_is_span
theorem r_law_is_span {x0 x1 : A} {h : Hs} {ke : KE A} : (f_law_is_span [x0, x1] h).sat ke = (b_law_is_span [some x0, some x1] h).sat (kFn ke) := s_run rfl
theorem d_law_is_span {G : Gc} (D_law_is_number : DfR G "_law_is_number" 1 2 f_law_is_number) (A_ticks : AtOk G "ticks" 0 at_ticks) (bi_isinstance : Bi G.mg "isinstance" (.builtin "isinstance")) (IO : IsaOk G isa) (gC_Span : GlobC G "Span" (.cls 0)) (W : WX) : DSs G (wh s_law_is_span ["_law_thing", "_law_due"] [0, 1] [0, 1] ["isinstance", "Span", "_law_is_number"] 1 W) (defBody s_law_is_span) b_law_is_span :=
  (dss_one (ds_ret (de_and (de_callB bi_isinstance (ok_isa IO) (List.mem_of_getElem? (i := 0) rfl) (da_cons (de_var 0) (da_cons (de_glob gC_Span (List.mem_of_getElem? (i := 1) rfl)) da_nil))) (de_one (de_call D_law_is_number (List.mem_of_getElem? (i := 2) rfl) (Nat.le_of_ble_eq_true rfl) (da_cons (de_att A_ticks (Nat.le_of_ble_eq_true rfl) (de_var 0)) (da_cons (de_var 1) da_nil)))))))
/-! ### _law_spans_done -/
abbrev s_law_spans_done : Stmt := topS 9
theorem sc_law_spans_done : FnScope ["_law_bag_here", "_law_spans", "_law_ticks", "_law_a", "_law_b", "_law_c", "_law_road", "_law_factor"] ["_law_bag_here", "_law_spans", "_law_ticks"] (defScope s_law_spans_done) := ⟨rfl, rfl, rfl, by decide +kernel, rfl, by decide +kernel, by decide +kernel⟩
def b_law_spans_done : FS :=
  (sSeq (sPar3 3 4 5 (eK (aCons (eVar 0) (aCons (eC (.int 3)) aNil)) f_law_take) (eK (aCons (eVar 0) (aCons (eC (.int 3)) aNil)) f_law_take) (eK (aCons (eVar 0) (aCons (eC (.int 3)) aNil)) f_law_take))
  (sSeq (sPar 6 7 (eK (aCons (eVar 0) (aCons (eC (.int 8)) aNil)) f_law_take) (e2 (eK (aCons (eVar 0) (aCons (eC (.int 19)) aNil)) f_law_take) (eC (.int 9)) (ownB mt_sub [0, 1] (aInt gSub'))))
  (sSeq (sIf (e2t (eVar 6) (eC (.int 0)) aEq) (sAsg (eTup (aCons (e2 (e2 (eVar 1) (eVar 3) ixA) (e2 (eVar 1) (eVar 4) ixA) (ownB mt_add [0, 1] aAdd)) (aCons (e2 (e2 (eVar 2) (eVar 3) ixA) (e2 (eVar 2) (eVar 4) ixA) (ownB mt_add [0, 1] aAdd)) aNil))) (gTup 2 (gsCons (gSub (eVar 1) (eVar 5) setL) (gsCons (gSub (eVar 2) (eVar 5) setL) gsNil)))) (sIf (e2t (eVar 6) (eC (.int 1)) aEq) (sAsg (eTup (aCons (e2 (e2 (eVar 1) (eVar 3) ixA) (e2 (eVar 1) (eVar 4) ixA) (ownB mt_sub [0, 1] (aInt gSub'))) (aCons (e2 (e2 (eVar 2) (eVar 3) ixA) (e2 (eVar 2) (eVar 4) ixA) (ownB mt_sub [0, 1] (aInt gSub'))) aNil))) (gTup 2 (gsCons (gSub (eVar 1) (eVar 5) setL) (gsCons (gSub (eVar 2) (eVar 5) setL) gsNil)))) (sIf (e2t (eVar 6) (eC (.int 2)) aEq) (sAsg (eTup (aCons (e1 (e2 (eVar 1) (eVar 3) ixA) (ownU mt_neg aNeg)) (aCons (e1 (e2 (eVar 2) (eVar 3) ixA) (ownU mt_neg aNeg)) aNil))) (gTup 2 (gsCons (gSub (eVar 1) (eVar 5) setL) (gsCons (gSub (eVar 2) (eVar 5) setL) gsNil)))) (sIf (e2t (eVar 6) (eC (.int 3)) aEq) (sAsg (eTup (aCons (eK (aCons (e2 (eVar 1) (eVar 3) ixA) aNil) (f1 (ownU mt_abs absA))) (aCons (eK (aCons (e2 (eVar 2) (eVar 3) ixA) aNil) (f1 (ownU mt_abs absA))) aNil))) (gTup 2 (gsCons (gSub (eVar 1) (eVar 5) setL) (gsCons (gSub (eVar 2) (eVar 5) setL) gsNil)))) (sIf (e2t (eVar 6) (eC (.int 4)) aEq) (sAsg (eTup (aCons (e2 (e2 (eVar 1) (eVar 3) ixA) (eVar 7) (ownM mt_mul mt_rmul 0 (aInt gMulW))) (aCons (e2 (e2 (eVar 2) (eVar 3) ixA) (eVar 7) (ownM mt_mul mt_rmul 0 (aInt gMulW))) aNil))) (gTup 2 (gsCons (gSub (eVar 1) (eVar 5) setL) (gsCons (gSub (eVar 2) (eVar 5) setL) gsNil)))) (sIf (e2t (eVar 6) (eC (.int 5)) aEq) (sAsg (eTup (aCons (e2 (e2 (eVar 7) (e2 (eVar 1) (eVar 3) ixA) (ownM mt_mul mt_rmul 0 (aInt gMulW))) (e2 (eVar 1) (eVar 4) ixA) (ownB mt_add [0, 1] aAdd)) (aCons (e2 (e2 (eVar 7) (e2 (eVar 2) (eVar 3) ixA) (ownM mt_mul mt_rmul 0 (aInt gMulW))) (e2 (eVar 2) (eVar 4) ixA) (ownB mt_add [0, 1] aAdd)) aNil))) (gTup 2 (gsCons (gSub (eVar 1) (eVar 5) setL) (gsCons (gSub (eVar 2) (eVar 5) setL) gsNil)))) (sIf (tAnd (e2t (e2 (eVar 2) (eVar 4) ixA) (eC (.int 0)) aNe) (e2t (eVar 6) (eC (.int 6)) aEq)) (sAsg (eTup (aCons (e2 (e2 (eVar 1) (eVar 3) ixA) (e2 (eVar 1) (eVar 4) ixA) (ownB mt_mod [0] (aInt gMod))) (aCons (e2 (e2 (eVar 2) (eVar 3) ixA) (e2 (e2 (e2 (eVar 2) (eVar 3) ixA) (e2 (eVar 2) (eVar 4) ixA) (ownB mt_floordiv [0] (aInt gDivN))) (e2 (eVar 2) (eVar 4) ixA) (ownM mt_mul mt_rmul 0 (aInt gMulW))) (ownB mt_sub [0, 1] (aInt gSub'))) aNil))) (gTup 2 (gsCons (gSub (eVar 1) (eVar 5) setL) (gsCons (gSub (eVar 2) (eVar 5) setL) gsNil)))) (sIf (e2t (e2 (eVar 2) (eVar 4) ixA) (eC (.int 0)) aNe) (sAsg (eTup (aCons (eK (aCons (e2 (e2 (eVar 1) (eVar 3) ixA) (e2 (eVar 1) (eVar 4) ixA) (ownB mt_floordiv [0] (aInt gDivN))) aNil) (mkF 0 f_Span_init)) (aCons (e2 (e2 (eVar 2) (eVar 3) ixA) (e2 (eVar 2) (eVar 4) ixA) (ownB mt_floordiv [0] (aInt gDivN))) aNil))) (gTup 2 (gsCons (gSub (eVar 1) (eVar 5) setL) (gsCons (gSub (eVar 2) (eVar 5) setL) gsNil)))) sNx))))))))
  (sIf (e2t (eK (aCons (e2 (eVar 2) (eVar 5) ixA) aNil) (f1 (ownU mt_abs absA))) (e2 (eC (.int 10)) (eC (.int 60)) (aInt gPow)) (aCmp (fun i j => decide (j ≤ i)))) (sAsg (eTup (aCons (e2 (e2 (eVar 1) (eVar 5) ixA) (eK (aCons (e2 (eC (.int 10)) (eC (.int 50)) (aInt gPow)) aNil) (mkF 0 f_Span_init)) (ownB mt_mod [0] (aInt gMod))) (aCons (e2 (e2 (eVar 2) (eVar 5) ixA) (e2 (e2 (e2 (eVar 2) (eVar 5) ixA) (e2 (eC (.int 10)) (eC (.int 50)) (aInt gPow)) (ownB mt_floordiv [0] (aInt gDivN))) (e2 (eC (.int 10)) (eC (.int 50)) (aInt gPow)) (ownM mt_mul mt_rmul 0 (aInt gMulW))) (ownB mt_sub [0, 1] (aInt gSub'))) aNil))) (gTup 2 (gsCons (gSub (eVar 1) (eVar 5) setL) (gsCons (gSub (eVar 2) (eVar 5) setL) gsNil)))) sNx))))
def f_law_spans_done : F := runF 3 8 b_law_spans_done
theorem r_law_spans_done {x0 x1 x2 : A} {h : Hs} {ke : KE A} : (f_law_spans_done [x0, x1, x2] h).sat ke = (b_law_spans_done [some x0, some x1, some x2, none, none, none, none, none] h).sat (kFn ke) := s_run rfl
theorem d_law_spans_done {G : Gc} (D_law_take : DfR G "_law_take" 1 2 f_law_take) (OW_Sub : OwB G .Sub "__sub__" 3 mt_sub [0, 1]) (OW_Add : OwB G .Add "__add__" 3 mt_add [0, 1]) (MT_neg : MtOk G "__neg__" 3 mt_neg) (bi_abs : Bi G.mg "abs" (.builtin "abs")) (MT_abs : MtOk G "__abs__" 3 mt_abs) (OW_Mult : OwM G 3 mt_mul mt_rmul 0) (OW_FloorDiv : OwB G .FloorDiv "__floordiv__" 2 mt_floordiv [0]) (OW_Mod : OwB G .Mod "__mod__" 3 mt_mod [0]) (DC_Span : DcR G "Span" 0 1 1 f_Span_init) (W : WX) : DSs G (wh s_law_spans_done ["_law_bag_here", "_law_spans", "_law_ticks", "_law_a", "_law_b", "_law_c", "_law_road", "_law_factor"] [0, 1, 2, 3, 4, 5, 6, 7] [0, 1, 2, 3, 4, 5, 6, 7] ["_law_take", "abs", "Span"] 4 W) (defBody s_law_spans_done) b_law_spans_done :=
  (dss_cons (ds_par3 3 4 5 (de_call D_law_take (List.mem_of_getElem? (i := 0) rfl) (Nat.le_of_ble_eq_true rfl) (da_cons (de_var 0) (da_cons de_int da_nil))) (de_call D_law_take (List.mem_of_getElem? (i := 0) rfl) (Nat.le_of_ble_eq_true rfl) (da_cons (de_var 0) (da_cons de_int da_nil))) (de_call D_law_take (List.mem_of_getElem? (i := 0) rfl) (Nat.le_of_ble_eq_true rfl) (da_cons (de_var 0) (da_cons de_int da_nil))) (fun _ _ _ _ => rfl) (by kernel_rfl) (by kernel_rfl) (by kernel_rfl))
  (dss_cons (ds_par 6 7 (de_call D_law_take (List.mem_of_getElem? (i := 0) rfl) (Nat.le_of_ble_eq_true rfl) (da_cons (de_var 0) (da_cons de_int da_nil))) (de_bin (ob_own OW_Sub ob_sub (Nat.le_of_ble_eq_true rfl)) (de_call D_law_take (List.mem_of_getElem? (i := 0) rfl) (Nat.le_of_ble_eq_true rfl) (da_cons (de_var 0) (da_cons de_int da_nil))) de_int) (fun _ _ _ _ => rfl) (by kernel_rfl) (by kernel_rfl))
  (dss_cons (ds_if (dt_cmp oc_eq (de_var 6) de_int (nomark _)) (dss_one (ds_asgP (ws := []) (de_tup (da_cons (de_bin (ob_own OW_Add ob_add (Nat.le_of_ble_eq_true rfl)) (de_sub ox_ix (de_var 1) (de_var 3)) (de_sub ox_ix (de_var 1) (de_var 4))) (da_cons (de_bin (ob_own OW_Add ob_add (Nat.le_of_ble_eq_true rfl)) (de_sub ox_ix (de_var 2) (de_var 3)) (de_sub ox_ix (de_var 2) (de_var 4))) da_nil))) (dg_tup (dgs_cons (dg_sub os_list (de_var 1) (de_var 5)) (dgs_cons (dg_sub os_list (de_var 2) (de_var 5)) dgs_nil))))) (dss_one (ds_if (dt_cmp oc_eq (de_var 6) de_int (nomark _)) (dss_one (ds_asgP (ws := []) (de_tup (da_cons (de_bin (ob_own OW_Sub ob_sub (Nat.le_of_ble_eq_true rfl)) (de_sub ox_ix (de_var 1) (de_var 3)) (de_sub ox_ix (de_var 1) (de_var 4))) (da_cons (de_bin (ob_own OW_Sub ob_sub (Nat.le_of_ble_eq_true rfl)) (de_sub ox_ix (de_var 2) (de_var 3)) (de_sub ox_ix (de_var 2) (de_var 4))) da_nil))) (dg_tup (dgs_cons (dg_sub os_list (de_var 1) (de_var 5)) (dgs_cons (dg_sub os_list (de_var 2) (de_var 5)) dgs_nil))))) (dss_one (ds_if (dt_cmp oc_eq (de_var 6) de_int (nomark _)) (dss_one (ds_asgP (ws := []) (de_tup (da_cons (de_un (ou_own MT_neg ou_neg (Nat.le_of_ble_eq_true rfl)) (de_sub ox_ix (de_var 1) (de_var 3))) (da_cons (de_un (ou_own MT_neg ou_neg (Nat.le_of_ble_eq_true rfl)) (de_sub ox_ix (de_var 2) (de_var 3))) da_nil))) (dg_tup (dgs_cons (dg_sub os_list (de_var 1) (de_var 5)) (dgs_cons (dg_sub os_list (de_var 2) (de_var 5)) dgs_nil))))) (dss_one (ds_if (dt_cmp oc_eq (de_var 6) de_int (nomark _)) (dss_one (ds_asgP (ws := []) (de_tup (da_cons (de_callB bi_abs (ok_ownAbs MT_abs (Nat.le_of_ble_eq_true rfl)) (List.mem_of_getElem? (i := 1) rfl) (da_cons (de_sub ox_ix (de_var 1) (de_var 3)) da_nil)) (da_cons (de_callB bi_abs (ok_ownAbs MT_abs (Nat.le_of_ble_eq_true rfl)) (List.mem_of_getElem? (i := 1) rfl) (da_cons (de_sub ox_ix (de_var 2) (de_var 3)) da_nil)) da_nil))) (dg_tup (dgs_cons (dg_sub os_list (de_var 1) (de_var 5)) (dgs_cons (dg_sub os_list (de_var 2) (de_var 5)) dgs_nil))))) (dss_one (ds_if (dt_cmp oc_eq (de_var 6) de_int (nomark _)) (dss_one (ds_asgP (ws := []) (de_tup (da_cons (de_bin (ob_ownM OW_Mult ob_mulW (Nat.le_of_ble_eq_true rfl)) (de_sub ox_ix (de_var 1) (de_var 3)) (de_var 7)) (da_cons (de_bin (ob_ownM OW_Mult ob_mulW (Nat.le_of_ble_eq_true rfl)) (de_sub ox_ix (de_var 2) (de_var 3)) (de_var 7)) da_nil))) (dg_tup (dgs_cons (dg_sub os_list (de_var 1) (de_var 5)) (dgs_cons (dg_sub os_list (de_var 2) (de_var 5)) dgs_nil))))) (dss_one (ds_if (dt_cmp oc_eq (de_var 6) de_int (nomark _)) (dss_one (ds_asgP (ws := []) (de_tup (da_cons (de_bin (ob_own OW_Add ob_add (Nat.le_of_ble_eq_true rfl)) (de_bin (ob_ownM OW_Mult ob_mulW (Nat.le_of_ble_eq_true rfl)) (de_var 7) (de_sub ox_ix (de_var 1) (de_var 3))) (de_sub ox_ix (de_var 1) (de_var 4))) (da_cons (de_bin (ob_own OW_Add ob_add (Nat.le_of_ble_eq_true rfl)) (de_bin (ob_ownM OW_Mult ob_mulW (Nat.le_of_ble_eq_true rfl)) (de_var 7) (de_sub ox_ix (de_var 2) (de_var 3))) (de_sub ox_ix (de_var 2) (de_var 4))) da_nil))) (dg_tup (dgs_cons (dg_sub os_list (de_var 1) (de_var 5)) (dgs_cons (dg_sub os_list (de_var 2) (de_var 5)) dgs_nil))))) (dss_one (ds_if (dt_and (dt_cmp oc_ne (de_sub ox_ix (de_var 2) (de_var 4)) de_int (nomark _)) (dw_and1 (dt_cmp oc_eq (de_var 6) de_int (nomark _)))) (dss_one (ds_asgP (ws := []) (de_tup (da_cons (de_bin (ob_own OW_Mod ob_mod (Nat.le_of_ble_eq_true rfl)) (de_sub ox_ix (de_var 1) (de_var 3)) (de_sub ox_ix (de_var 1) (de_var 4))) (da_cons (de_bin (ob_own OW_Sub ob_sub (Nat.le_of_ble_eq_true rfl)) (de_sub ox_ix (de_var 2) (de_var 3)) (de_bin (ob_ownM OW_Mult ob_mulW (Nat.le_of_ble_eq_true rfl)) (de_bin (ob_own OW_FloorDiv ob_divN (Nat.le_of_ble_eq_true rfl)) (de_sub ox_ix (de_var 2) (de_var 3)) (de_sub ox_ix (de_var 2) (de_var 4))) (de_sub ox_ix (de_var 2) (de_var 4)))) da_nil))) (dg_tup (dgs_cons (dg_sub os_list (de_var 1) (de_var 5)) (dgs_cons (dg_sub os_list (de_var 2) (de_var 5)) dgs_nil))))) (dss_one (ds_if (dt_cmp oc_ne (de_sub ox_ix (de_var 2) (de_var 4)) de_int (nomark _)) (dss_one (ds_asgP (ws := []) (de_tup (da_cons (de_mkF DC_Span (List.mem_of_getElem? (i := 2) rfl) (Nat.le_of_ble_eq_true rfl) (da_cons (de_bin (ob_own OW_FloorDiv ob_divN (Nat.le_of_ble_eq_true rfl)) (de_sub ox_ix (de_var 1) (de_var 3)) (de_sub ox_ix (de_var 1) (de_var 4))) da_nil)) (da_cons (de_bin (ob_own OW_FloorDiv ob_divN (Nat.le_of_ble_eq_true rfl)) (de_sub ox_ix (de_var 2) (de_var 3)) (de_sub ox_ix (de_var 2) (de_var 4))) da_nil))) (dg_tup (dgs_cons (dg_sub os_list (de_var 1) (de_var 5)) (dgs_cons (dg_sub os_list (de_var 2) (de_var 5)) dgs_nil))))) dss_nil)))))))))))))))
  (dss_one (ds_if (dt_cmp (oc_int ci_ge) (de_callB bi_abs (ok_ownAbs MT_abs (Nat.le_of_ble_eq_true rfl)) (List.mem_of_getElem? (i := 1) rfl) (da_cons (de_sub ox_ix (de_var 2) (de_var 5)) da_nil)) (de_bin ob_pow de_int de_int) (nomark _)) (dss_one (ds_asgP (ws := []) (de_tup (da_cons (de_bin (ob_own OW_Mod ob_mod (Nat.le_of_ble_eq_true rfl)) (de_sub ox_ix (de_var 1) (de_var 5)) (de_mkF DC_Span (List.mem_of_getElem? (i := 2) rfl) (Nat.le_of_ble_eq_true rfl) (da_cons (de_bin ob_pow de_int de_int) da_nil))) (da_cons (de_bin (ob_own OW_Sub ob_sub (Nat.le_of_ble_eq_true rfl)) (de_sub ox_ix (de_var 2) (de_var 5)) (de_bin (ob_ownM OW_Mult ob_mulW (Nat.le_of_ble_eq_true rfl)) (de_bin (ob_own OW_FloorDiv ob_divN (Nat.le_of_ble_eq_true rfl)) (de_sub ox_ix (de_var 2) (de_var 5)) (de_bin ob_pow de_int de_int)) (de_bin ob_pow de_int de_int))) da_nil))) (dg_tup (dgs_cons (dg_sub os_list (de_var 1) (de_var 5)) (dgs_cons (dg_sub os_list (de_var 2) (de_var 5)) dgs_nil))))) dss_nil)))))
/-! ### _law_moments_done -/
abbrev s_law_moments_done : Stmt := topS 10
theorem sc_law_moments_done : FnScope ["_law_bag_here", "_law_moments", "_law_points", "_law_spans", "_law_ticks", "_law_a", "_law_m", "_law_n", "_law_road"] ["_law_bag_here", "_law_moments", "_law_points", "_law_spans", "_law_ticks"] (defScope s_law_moments_done) := ⟨rfl, rfl, rfl, by decide +kernel, rfl, by decide +kernel, by decide +kernel⟩
def b_law_moments_done : FS :=
  (sSeq (sPar3 5 6 7 (eK (aCons (eVar 0) (aCons (eC (.int 3)) aNil)) f_law_take) (eK (aCons (eVar 0) (aCons (eC (.int 2)) aNil)) f_law_take) (eK (aCons (eVar 0) (aCons (eC (.int 2)) aNil)) f_law_take))
  (sSeq (sSet 8 (eK (aCons (eVar 0) (aCons (eC (.int 4)) aNil)) f_law_take))
  (sIf (e2t (eVar 8) (eC (.int 0)) aEq) (sAsg (eTup (aCons (e2 (e2 (eVar 1) (eVar 6) ixA) (e2 (eVar 3) (eVar 5) ixA) (ownB mt_add [0, 1] aAdd)) (aCons (e2 (e2 (eVar 2) (eVar 6) ixA) (e2 (eVar 4) (eVar 5) ixA) (ownB mt_add [0, 1] aAdd)) aNil))) (gTup 2 (gsCons (gSub (eVar 1) (eVar 7) setL) (gsCons (gSub (eVar 2) (eVar 7) setL) gsNil)))) (sIf (e2t (eVar 8) (eC (.int 1)) aEq) (sAsg (eTup (aCons (e2 (e2 (eVar 3) (eVar 5) ixA) (e2 (eVar 1) (eVar 6) ixA) (ownB mt_add [0, 1] aAdd)) (aCons (e2 (e2 (eVar 2) (eVar 6) ixA) (e2 (eVar 4) (eVar 5) ixA) (ownB mt_add [0, 1] aAdd)) aNil))) (gTup 2 (gsCons (gSub (eVar 1) (eVar 7) setL) (gsCons (gSub (eVar 2) (eVar 7) setL) gsNil)))) (sIf (e2t (eVar 8) (eC (.int 2)) aEq) (sAsg (eTup (aCons (e2 (e2 (eVar 1) (eVar 6) ixA) (e2 (eVar 3) (eVar 5) ixA) (ownB mt_sub [0, 1] (aInt gSub'))) (aCons (e2 (e2 (eVar 2) (eVar 6) ixA) (e2 (eVar 4) (eVar 5) ixA) (ownB mt_sub [0, 1] (aInt gSub'))) aNil))) (gTup 2 (gsCons (gSub (eVar 1) (eVar 7) setL) (gsCons (gSub (eVar 2) (eVar 7) setL) gsNil)))) (sAsg (eTup (aCons (e2 (e2 (eVar 1) (eVar 6) ixA) (e2 (eVar 1) (eVar 7) ixA) (ownB mt_sub [0, 1] (aInt gSub'))) (aCons (e2 (e2 (eVar 2) (eVar 6) ixA) (e2 (eVar 2) (eVar 7) ixA) (ownB mt_sub [0, 1] (aInt gSub'))) aNil))) (gTup 2 (gsCons (gSub (eVar 3) (eVar 5) setL) (gsCons (gSub (eVar 4) (eVar 5) setL) gsNil)))))))))
def f_law_moments_done : F := runF 5 9 b_law_moments_done
theorem r_law_moments_done {x0 x1 x2 x3 x4 : A} {h : Hs} {ke : KE A} : (f_law_moments_done [x0, x1, x2, x3, x4] h).sat ke = (b_law_moments_done [some x0, some x1, some x2, some x3, some x4, none, none, none, none] h).sat (kFn ke) := s_run rfl
theorem d_law_moments_done {G : Gc} (D_law_take : DfR G "_law_take" 1 2 f_law_take) (OW_Add : OwB G .Add "__add__" 3 mt_add [0, 1]) (OW_Sub : OwB G .Sub "__sub__" 3 mt_sub [0, 1]) (W : WX) : DSs G (wh s_law_moments_done ["_law_bag_here", "_law_moments", "_law_points", "_law_spans", "_law_ticks", "_law_a", "_law_m", "_law_n", "_law_road"] [0, 1, 2, 3, 4, 5, 6, 7, 8] [0, 1, 2, 3, 4, 5, 6, 7, 8] ["_law_take"] 3 W) (defBody s_law_moments_done) b_law_moments_done :=
  (dss_cons (ds_par3 5 6 7 (de_call D_law_take (List.mem_of_getElem? (i := 0) rfl) (Nat.le_of_ble_eq_true rfl) (da_cons (de_var 0) (da_cons de_int da_nil))) (de_call D_law_take (List.mem_of_getElem? (i := 0) rfl) (Nat.le_of_ble_eq_true rfl) (da_cons (de_var 0) (da_cons de_int da_nil))) (de_call D_law_take (List.mem_of_getElem? (i := 0) rfl) (Nat.le_of_ble_eq_true rfl) (da_cons (de_var 0) (da_cons de_int da_nil))) (fun _ _ _ _ => rfl) (by kernel_rfl) (by kernel_rfl) (by kernel_rfl))
  (dss_cons (ds_set 8 (de_call D_law_take (List.mem_of_getElem? (i := 0) rfl) (Nat.le_of_ble_eq_true rfl) (da_cons (de_var 0) (da_cons de_int da_nil))))
  (dss_one (ds_if (dt_cmp oc_eq (de_var 8) de_int (nomark _)) (dss_one (ds_asgP (ws := []) (de_tup (da_cons (de_bin (ob_own OW_Add ob_add (Nat.le_of_ble_eq_true rfl)) (de_sub ox_ix (de_var 1) (de_var 6)) (de_sub ox_ix (de_var 3) (de_var 5))) (da_cons (de_bin (ob_own OW_Add ob_add (Nat.le_of_ble_eq_true rfl)) (de_sub ox_ix (de_var 2) (de_var 6)) (de_sub ox_ix (de_var 4) (de_var 5))) da_nil))) (dg_tup (dgs_cons (dg_sub os_list (de_var 1) (de_var 7)) (dgs_cons (dg_sub os_list (de_var 2) (de_var 7)) dgs_nil))))) (dss_one (ds_if (dt_cmp oc_eq (de_var 8) de_int (nomark _)) (dss_one (ds_asgP (ws := []) (de_tup (da_cons (de_bin (ob_own OW_Add ob_add (Nat.le_of_ble_eq_true rfl)) (de_sub ox_ix (de_var 3) (de_var 5)) (de_sub ox_ix (de_var 1) (de_var 6))) (da_cons (de_bin (ob_own OW_Add ob_add (Nat.le_of_ble_eq_true rfl)) (de_sub ox_ix (de_var 2) (de_var 6)) (de_sub ox_ix (de_var 4) (de_var 5))) da_nil))) (dg_tup (dgs_cons (dg_sub os_list (de_var 1) (de_var 7)) (dgs_cons (dg_sub os_list (de_var 2) (de_var 7)) dgs_nil))))) (dss_one (ds_if (dt_cmp oc_eq (de_var 8) de_int (nomark _)) (dss_one (ds_asgP (ws := []) (de_tup (da_cons (de_bin (ob_own OW_Sub ob_sub (Nat.le_of_ble_eq_true rfl)) (de_sub ox_ix (de_var 1) (de_var 6)) (de_sub ox_ix (de_var 3) (de_var 5))) (da_cons (de_bin (ob_own OW_Sub ob_sub (Nat.le_of_ble_eq_true rfl)) (de_sub ox_ix (de_var 2) (de_var 6)) (de_sub ox_ix (de_var 4) (de_var 5))) da_nil))) (dg_tup (dgs_cons (dg_sub os_list (de_var 1) (de_var 7)) (dgs_cons (dg_sub os_list (de_var 2) (de_var 7)) dgs_nil))))) (dss_one (ds_asgP (ws := []) (de_tup (da_cons (de_bin (ob_own OW_Sub ob_sub (Nat.le_of_ble_eq_true rfl)) (de_sub ox_ix (de_var 1) (de_var 6)) (de_sub ox_ix (de_var 1) (de_var 7))) (da_cons (de_bin (ob_own OW_Sub ob_sub (Nat.le_of_ble_eq_true rfl)) (de_sub ox_ix (de_var 2) (de_var 6)) (de_sub ox_ix (de_var 2) (de_var 7))) da_nil))) (dg_tup (dgs_cons (dg_sub os_list (de_var 3) (de_var 5)) (dgs_cons (dg_sub os_list (de_var 4) (de_var 5)) dgs_nil)))))))))))))
/-! ### _law_agree -/
abbrev s_law_agree : Stmt := topS 11
theorem sc_law_agree : FnScope ["_law_spans", "_law_ticks", "_law_moments", "_law_points", "_law_span", "_law_due", "_law_moment"] ["_law_spans", "_law_ticks", "_law_moments", "_law_points"] (defScope s_law_agree) := ⟨rfl, rfl, rfl, by decide +kernel, rfl, by decide +kernel, by decide +kernel⟩
def b_law_agree : FS :=
  (sSeq (sForW (iZ (eVar 0) (eVar 1)) (gTup 2 (gsCons (gName 4) (gsCons (gName 5) gsNil))) (sIf (tNot (t1 (eK (aCons (eVar 4) (aCons (eVar 5) aNil)) f_law_is_span) truA)) (sRet (eC (.bl false))) sNx))
  (sSeq (sForW (iZ (eVar 2) (eVar 3)) (gTup 2 (gsCons (gName 6) (gsCons (gName 5) gsNil))) (sIf (tOr (tNot (t1 (eK (aCons (eVar 6) (aCons (eC (.cls 1)) aNil)) (f2 (isaA isa))) truA)) (tNot (t1 (eK (aCons (eAt at_at (eVar 6)) (aCons (eVar 5) aNil)) f_law_is_number) truA))) (sRet (eC (.bl false))) sNx))
  (sRet (eC (.bl true)))))
def f_law_agree : F := runF 4 7 b_law_agree
theorem r_law_agree {x0 x1 x2 x3 : A} {h : Hs} {ke : KE A} : (f_law_agree [x0, x1, x2, x3] h).sat ke = (b_law_agree [some x0, some x1, some x2, some x3, none, none, none] h).sat (kFn ke) := s_run rfl
theorem d_law_agree {G : Gc} (z_zip : G.mg "zip" = none) (D_law_is_span : DfR G "_law_is_span" 2 2 f_law_is_span) (D_law_is_number : DfR G "_law_is_number" 1 2 f_law_is_number) (A_at : AtOk G "at" 0 at_at) (bi_isinstance : Bi G.mg "isinstance" (.builtin "isinstance")) (IO : IsaOk G isa) (gC_Moment : GlobC G "Moment" (.cls 1)) (W : WX) : DSs G (wh s_law_agree ["_law_spans", "_law_ticks", "_law_moments", "_law_points", "_law_span", "_law_due", "_law_moment"] [0, 1, 2, 3, 4, 5, 6] [0, 1, 2, 3, 4, 5, 6] ["zip", "_law_is_span", "isinstance", "Moment", "_law_is_number"] 2 W) (defBody s_law_agree) b_law_agree :=
  (dss_cons (ds_forW (ws := [4, 5]) (dl_zip z_zip (List.mem_of_getElem? (i := 0) rfl) (de_var 0) (de_var 1)) (dg_tup (dgs_cons (dg_name 4) (dgs_cons (dg_name 5) dgs_nil))) (dss_one (ds_if (dt_not (dt_val ot_tru (de_call D_law_is_span (List.mem_of_getElem? (i := 1) rfl) (Nat.le_of_ble_eq_true rfl) (da_cons (de_var 4) (da_cons (de_var 5) da_nil))))) (dss_one (ds_ret de_bl)) dss_nil)))
  (dss_cons (ds_forW (ws := [6, 5]) (dl_zip z_zip (List.mem_of_getElem? (i := 0) rfl) (de_var 2) (de_var 3)) (dg_tup (dgs_cons (dg_name 6) (dgs_cons (dg_name 5) dgs_nil))) (dss_one (ds_if (dt_or (dt_not (dt_val ot_tru (de_callB bi_isinstance (ok_isa IO) (List.mem_of_getElem? (i := 2) rfl) (da_cons (de_var 6) (da_cons (de_glob gC_Moment (List.mem_of_getElem? (i := 3) rfl)) da_nil))))) (dw_or1 (dt_not (dt_val ot_tru (de_call D_law_is_number (List.mem_of_getElem? (i := 4) rfl) (Nat.le_of_ble_eq_true rfl) (da_cons (de_att A_at (Nat.le_of_ble_eq_true rfl) (de_var 6)) (da_cons (de_var 5) da_nil))))))) (dss_one (ds_ret de_bl)) dss_nil)))
  (dss_one (ds_ret de_bl))))
/-! ### law -/
abbrev s_law : Stmt := topS 12
theorem sc_law : FnScope ["_law_script", "_law_bag_here", "_law_ticks", "_law_points", "_law_spans", "_law_moments", "_law_kept", "_law_total", "_law_sum_due", "_law_before", "_law_totals", "_law_sums", "_law_place", "_law_turn", "_law_one"] ["_law_script"] (defScope s_law) := ⟨rfl, rfl, rfl, by decide +kernel, rfl, by decide +kernel, by decide +kernel⟩
def b_law : FS :=
  (sSeq (sSet 1 (eK (aCons (eVar 0) (aCons (eC (.int 0)) aNil)) f_law_bag))
  (sSeq (sSet 2 (eLstT (aCons (eK (aCons (eVar 1) aNil) f_law_number) (aCons (eK (aCons (eVar 1) aNil) f_law_number) (aCons (eK (aCons (eVar 1) aNil) f_law_number) aNil)))))
  (sSeq (sSet 3 (eLstT (aCons (eK (aCons (eVar 1) aNil) f_law_number) (aCons (eK (aCons (eVar 1) aNil) f_law_number) aNil))))
  (sSeq (sPar 4 5 (eLcWT (iL (eVar 2)) [14] (gName 14) tYes (eK (aCons (eVar 14) aNil) (mkF 0 f_Span_init))) (eLcWT (iL (eVar 3)) [14] (gName 14) tYes (eK (aCons (eVar 14) aNil) (mkF 1 f_Moment_init))))
  (sSeq (sPar3 6 7 8 (eK (aCons (eVar 4) aNil) (f1 listA)) (eK (aCons (eC (.int 0)) aNil) (mkF 0 f_Span_init)) (eC (.int 0)))
  (sSeq (sPar3 9 10 11 (eK (aCons (eVar 2) aNil) (f1 listA)) (eLstT aNil) (eLstT aNil))
  (sSeq (sFor (iRange (eK (aCons (eC (.int 1)) (aCons (eK (aCons (eC (.int 5)) (aCons (eK (aCons (eVar 0) aNil) (f1 lenA)) aNil)) (f2 minA)) aNil)) (f2 maxA))) (gName 12) (sSeq (sSet 1 (eK (aCons (eVar 0) (aCons (eVar 12) aNil)) f_law_bag))
  (sFor (iRange (eC (.int 12))) (gName 13) (sSeq (sIf (e2t (eK (aCons (eVar 1) (aCons (eC (.int 3)) aNil)) f_law_take) (eC (.int 0)) (aCmp (fun i j => decide (j < i)))) (sExpr (eK (aCons (eVar 1) (aCons (eVar 4) (aCons (eVar 2) aNil))) f_law_spans_done)) (sExpr (eK (aCons (eVar 1) (aCons (eVar 5) (aCons (eVar 3) (aCons (eVar 4) (aCons (eVar 2) aNil))))) f_law_moments_done)))
  (sSeq (sExpr (eMl (eVar 10) (aCons (eVar 7) aNil) appendA))
  (sSeq (sExpr (eMl (eVar 11) (aCons (eVar 8) aNil) appendA))
  (sSeq (sAug 7 (e2 (eVar 4) (eC (.int 0)) ixA) (ownI mt_add 0 addI))
  (sSeq (sSet 8 (e2 (eVar 8) (e2 (eVar 2) (eC (.int 0)) ixA) aAdd))
  (sIf (tOr (tNot (t1 (eK (aCons (eVar 4) (aCons (eVar 2) (aCons (eVar 5) (aCons (eVar 3) aNil)))) f_law_agree) truA)) (tNot (t1 (eK (aCons (eVar 7) (aCons (eVar 8) aNil)) f_law_is_span) truA))) (sRet (eC (.bl false))) sNx)))))))))
  (sRet (eAnd (eK (aCons (eVar 6) (aCons (eVar 9) (aCons (eVar 5) (aCons (eVar 3) aNil)))) f_law_agree) (eK (aCons (eVar 10) (aCons (eVar 11) (aCons (eVar 5) (aCons (eVar 3) aNil)))) f_law_agree))))))))))
def f_law : F := runF 1 15 b_law
theorem r_law {x0 : A} {h : Hs} {ke : KE A} : (f_law [x0] h).sat ke = (b_law [some x0, none, none, none, none, none, none, none, none, none, none, none, none, none, none] h).sat (kFn ke) := s_run rfl
theorem d_law {G : Gc} (D_law_bag : DfR G "_law_bag" 1 2 f_law_bag) (D_law_number : DfR G "_law_number" 2 1 f_law_number) (DC_Span : DcR G "Span" 0 1 1 f_Span_init) (DC_Moment : DcR G "Moment" 1 1 1 f_Moment_init) (bt_list : Bi G.mg "list" (.type "list")) (z_range : G.mg "range" = none) (bi_max : Bi G.mg "max" (.builtin "max")) (bi_min : Bi G.mg "min" (.builtin "min")) (bi_len : Bi G.mg "len" (.builtin "len")) (D_law_take : DfR G "_law_take" 1 2 f_law_take) (D_law_spans_done : DfR G "_law_spans_done" 5 3 f_law_spans_done) (D_law_moments_done : DfR G "_law_moments_done" 4 5 f_law_moments_done) (MT_add : MtOk G "__add__" 3 mt_add) (SF_0 : PySem.W.selfFirst G.K (G.cad 0) = true) (NI_0 : NoI G 0) (D_law_is_span : DfR G "_law_is_span" 2 2 f_law_is_span) (D_law_agree : DfR G "_law_agree" 3 4 f_law_agree) (W : WX) : DSs G (wh s_law ["_law_script", "_law_bag_here", "_law_ticks", "_law_points", "_law_spans", "_law_moments", "_law_kept", "_law_total", "_law_sum_due", "_law_before", "_law_totals", "_law_sums", "_law_place", "_law_turn", "_law_one"] [0, 1, 2, 3, 4, 5, 6, 7, 8, 9, 10, 11, 12, 13] [0, 1, 2, 3, 4, 5, 6, 7, 8, 9, 10, 11, 12, 13] ["_law_bag", "_law_number", "list", "Span", "range", "max", "min", "len", "_law_take", "_law_spans_done", "_law_moments_done", "_law_agree", "_law_is_span"] 5 W) (defBody s_law) b_law :=
  (dss_cons (ds_set 1 (de_call D_law_bag (List.mem_of_getElem? (i := 0) rfl) (Nat.le_of_ble_eq_true rfl) (da_cons (de_var 0) (da_cons de_int da_nil))))
  (dss_cons (ds_set 2 (de_lstT (da_cons (de_call D_law_number (List.mem_of_getElem? (i := 1) rfl) (Nat.le_of_ble_eq_true rfl) (da_cons (de_var 1) da_nil)) (da_cons (de_call D_law_number (List.mem_of_getElem? (i := 1) rfl) (Nat.le_of_ble_eq_true rfl) (da_cons (de_var 1) da_nil)) (da_cons (de_call D_law_number (List.mem_of_getElem? (i := 1) rfl) (Nat.le_of_ble_eq_true rfl) (da_cons (de_var 1) da_nil)) da_nil)))))
  (dss_cons (ds_set 3 (de_lstT (da_cons (de_call D_law_number (List.mem_of_getElem? (i := 1) rfl) (Nat.le_of_ble_eq_true rfl) (da_cons (de_var 1) da_nil)) (da_cons (de_call D_law_number (List.mem_of_getElem? (i := 1) rfl) (Nat.le_of_ble_eq_true rfl) (da_cons (de_var 1) da_nil)) da_nil))))
  (dss_cons (ds_par 4 5 (de_lcWT (own := [("_law_one", 14)]) (rd := [14]) (wr := [14]) (GL := ["Span"]) (ws := [14]) [14] (dl_list (de_var 2)) (blkOk_by (by kernel_rfl)) (by kernel_rfl) (dg_name 14) dts_nil (de_mkF DC_Span (List.mem_of_getElem? (i := 0) rfl) (Nat.le_of_ble_eq_true rfl) (da_cons (de_var 14) da_nil))) (de_lcWT (own := [("_law_one", 14)]) (rd := [14]) (wr := [14]) (GL := ["Moment"]) (ws := [14]) [14] (dl_list (de_var 3)) (blkOk_by (by kernel_rfl)) (by kernel_rfl) (dg_name 14) dts_nil (de_mkF DC_Moment (List.mem_of_getElem? (i := 0) rfl) (Nat.le_of_ble_eq_true rfl) (da_cons (de_var 14) da_nil))) (fun _ _ _ _ => rfl) (by kernel_rfl) (by kernel_rfl))
  (dss_cons (ds_par3 6 7 8 (de_callT bt_list ok_list (List.mem_of_getElem? (i := 2) rfl) (da_cons (de_var 4) da_nil)) (de_mkF DC_Span (List.mem_of_getElem? (i := 3) rfl) (Nat.le_of_ble_eq_true rfl) (da_cons de_int da_nil)) de_int (fun _ _ _ _ => rfl) (by kernel_rfl) (by kernel_rfl) (by kernel_rfl))
  (dss_cons (ds_par3 9 10 11 (de_callT bt_list ok_list (List.mem_of_getElem? (i := 2) rfl) (da_cons (de_var 2) da_nil)) (de_lstT da_nil) (de_lstT da_nil) (fun _ _ _ _ => rfl) (by kernel_rfl) (by kernel_rfl) (by kernel_rfl))
  (dss_cons (ds_for (ws := [12]) (di_range z_range (List.mem_of_getElem? (i := 4) rfl) (de_callB bi_max ok_max (List.mem_of_getElem? (i := 5) rfl) (da_cons de_int (da_cons (de_callB bi_min ok_min (List.mem_of_getElem? (i := 6) rfl) (da_cons de_int (da_cons (de_callB bi_len ok_len (List.mem_of_getElem? (i := 7) rfl) (da_cons (de_var 0) da_nil)) da_nil))) da_nil)))) (dg_name 12) (dss_cons (ds_set 1 (de_call D_law_bag (List.mem_of_getElem? (i := 0) rfl) (Nat.le_of_ble_eq_true rfl) (da_cons (de_var 0) (da_cons (de_var 12) da_nil))))
  (dss_one (ds_for (ws := [13]) (di_range z_range (List.mem_of_getElem? (i := 4) rfl) de_int) (dg_name 13) (dss_cons (ds_if (dt_cmp (oc_int ci_gt) (de_call D_law_take (List.mem_of_getElem? (i := 8) rfl) (Nat.le_of_ble_eq_true rfl) (da_cons (de_var 1) (da_cons de_int da_nil))) de_int (nomark _)) (dss_one (ds_expr (de_call D_law_spans_done (List.mem_of_getElem? (i := 9) rfl) (Nat.le_of_ble_eq_true rfl) (da_cons (de_var 1) (da_cons (de_var 4) (da_cons (de_var 2) da_nil)))))) (dss_one (ds_expr (de_call D_law_moments_done (List.mem_of_getElem? (i := 10) rfl) (Nat.le_of_ble_eq_true rfl) (da_cons (de_var 1) (da_cons (de_var 5) (da_cons (de_var 3) (da_cons (de_var 4) (da_cons (de_var 2) da_nil)))))))))
  (dss_cons (ds_expr (de_mlst PySem.F.plainAttrs_list PySem.F.slot_list_append PySem.F.type_list_append om_append (de_var 10) (da_cons (de_var 7) da_nil)))
  (dss_cons (ds_expr (de_mlst PySem.F.plainAttrs_list PySem.F.slot_list_append PySem.F.type_list_append om_append (de_var 11) (da_cons (de_var 8) da_nil)))
  (dss_cons (ds_aug 7 (oi_own MT_add SF_0 NI_0 oi_add (Nat.le_of_ble_eq_true rfl)) (de_sub ox_ix (de_var 4) de_int))
  (dss_cons (ds_set 8 (de_bin ob_add (de_var 8) (de_sub ox_ix (de_var 2) de_int)))
  (dss_one (ds_if (dt_or (dt_not (dt_val ot_tru (de_call D_law_agree (List.mem_of_getElem? (i := 11) rfl) (Nat.le_of_ble_eq_true rfl) (da_cons (de_var 4) (da_cons (de_var 2) (da_cons (de_var 5) (da_cons (de_var 3) da_nil))))))) (dw_or1 (dt_not (dt_val ot_tru (de_call D_law_is_span (List.mem_of_getElem? (i := 12) rfl) (Nat.le_of_ble_eq_true rfl) (da_cons (de_var 7) (da_cons (de_var 8) da_nil))))))) (dss_one (ds_ret de_bl)) dss_nil)))))))))))
  (dss_one (ds_ret (de_and (de_call D_law_agree (List.mem_of_getElem? (i := 11) rfl) (Nat.le_of_ble_eq_true rfl) (da_cons (de_var 6) (da_cons (de_var 9) (da_cons (de_var 5) (da_cons (de_var 3) da_nil))))) (de_one (de_call D_law_agree (List.mem_of_getElem? (i := 11) rfl) (Nat.le_of_ble_eq_true rfl) (da_cons (de_var 10) (da_cons (de_var 11) (da_cons (de_var 5) (da_cons (de_var 3) da_nil))))))))))))))))
/-! the words by which a text of combinators is walked -/
local macro_rules | `(tactic| wtm_at "ev") => `(tactic| simp only [↓s_ok, ↓s_ex, ↓s_bad, ↓s_Nx, ↓s_Rt, ↓n_seq, ↓r_seq, ↓b_seq, ↓c_seq, ↓e_seq, ↓s_seq, ↓s_nx, ↓s_bk, ↓s_ct, ↓s_retN, ↓q_expr, ↓e_expr, ↓s_expr, ↓q_ret, ↓e_ret, ↓s_ret, ↓q_set, ↓e_set, ↓s_set, ↓q_if, ↓e_if, ↓s_if, ↓q_parb, ↓e_parb, ↓q_par, ↓e_par, ↓s_par, ↓q_par3c, ↓e_par3c, ↓q_par3b, ↓e_par3b, ↓q_par3, ↓e_par3, ↓s_par3, ↓n_no, ↓e_no, ↓q_as, ↓e_as, ↓s_asg, ↓s_gname, ↓q_gu, ↓e_gu, ↓q_gi, ↓e_gi, ↓q_go, ↓e_go, ↓s_gsub, ↓s_gtup2, ↓s_gtup3, ↓s_gtup1, ↓s_gtup4, ↓s_gsnil, ↓n_gs, ↓e_gs, ↓s_gscons, ↓q_au, ↓e_au, ↓s_aug, ↓q_fo, ↓e_fo, ↓q_fv, ↓e_fv, ↓s_fld, ↓s_yes, ↓s_no, ↓q_w, ↓e_w, ↓s_var, ↓s_getV, ↓s_c, ↓s_e1, ↓q_o1, ↓e_o1, ↓s_e2, ↓q_bl, ↓e_bl, ↓s_isB, ↓s_e2t, ↓s_t1, ↓q_nt, ↓e_nt, ↓s_tnot, ↓q_an, ↓e_an, ↓s_tand, ↓q_oo, ↓e_oo, ↓s_tor, ↓q_ie, ↓e_ie, ↓s_eif, ↓q_ea, ↓e_ea, ↓s_eand, ↓q_eo, ↓e_eo, ↓s_eor, ↓q_en, ↓e_en, ↓s_enot, ↓s_anil, ↓q_ac2, ↓e_ac2, ↓q_ac, ↓e_ac, ↓s_acons, ↓q_tp, ↓q_ls, ↓q_lt, ↓e_tp, ↓e_ls, ↓e_lt, ↓s_chk, ↓s_tup, ↓s_lst, ↓s_lstT, ↓s_k, ↓s_at, ↓s_f1, ↓s_f2, ↓q_ml, ↓e_ml, ↓s_ml, ↓q_ms, ↓e_ms, ↓s_ms, ↓s_int, ↓s_cmp, ↓s_addI, ↓s_addS, ↓s_addT, ↓s_addL, ↓s_neg, ↓s_intI, ↓s_intB, ↓s_abs, ↓s_max, ↓s_min, ↓s_truB, ↓s_truI, ↓s_truN, ↓s_truL, ↓s_truT, ↓s_lenL, ↓s_lenT, ↓s_lenC, ↓s_lenS, ↓s_isNn, ↓s_notNn, ↓s_isNi, ↓s_notNi, ↓s_isNs, ↓s_notNs, ↓s_eqI, ↓s_neI, ↓s_ixR, ↓s_ixL, ↓s_ixT, ↓s_ixC, ↓s_setR, ↓s_append, ↓s_truR, ↓s_lenR, ↓s_getAt, ↓s_setAt, ↓n_fn, ↓r_fn, ↓e_fn, ↓q_mk, ↓e_mk, ↓q_mkT, ↓e_mkT, ↓s_frz, ↓s_isa, ↓s_ownBi, ↓s_ownMi, ↓s_ownUi, ↓n_b1, ↓c_b1, ↓b_b1, ↓r_b1, ↓e_b1, ↓q_lf, ↓q_lg, ↓n_lh, ↓q_lc, ↓e_lc, ↓q_lcT, ↓e_lcT, ↓s_lc, ↓s_lcT, ↓s_lcW, ↓s_lcWT, ↓q_ir, ↓e_ir, ↓s_iRange, ↓q_il, ↓e_il, ↓s_iLst, ↓q_it, ↓e_it, ↓s_iTup, ↓q_iL, ↓e_iL, ↓s_iL, ↓q_iZ2, ↓e_iZ2, ↓q_iZ, ↓e_iZ, ↓s_iZ, getV_some, augV_some, nd_some, qO_some, qB_some, qF_some, setJ_some, ixl_0, ixl_1, ixl_2, qEm_some, atP_some, stQ_some, stP_some, g_mulW_r, gMul_r, nQ_some, ixO_lst, setO_lst, apO_lst, liO_lst, listOf_ref, itemsOf_ref, listOf_lst, inO_ins, instOf_ref, instOf_ins, lenO_lst, lenO_dk, atF_fld, atF_con, stF_fld, finO_ins, frO_lst, frV_ref, cond_true, cond_false, cds_t, cds_f, cde_t, cde_f, cds_not, cde_not, g_sub, at_0, at_1, at_2, at_3, Option.isSome_some, List.set_cons_zero, List.set_cons_succ, List.getElem?_cons_zero, List.getElem?_cons_succ, true_and, and_true, Bool.not_true, Bool.not_false, Int.reduceLT, Int.reduceLE, Int.reduceNeg, Int.reduceAdd, Int.reduceSub, Int.reduceMul, Int.reducePow, Int.reduceToNat, Int.reduceBEq, Int.reduceBNe, Nat.reduceAdd, Nat.reduceSub, Nat.reduceMul, Nat.reduceLT, Nat.reduceLeDiff, Nat.reduceBEq, decide_true, decide_false, and_self])
local macro_rules | `(tactic| simp_arith [$ls,*]) => `(tactic| simp only [↓s_ok, ↓s_ex, ↓s_bad, ↓s_Nx, ↓s_Rt, ↓n_seq, ↓r_seq, ↓b_seq, ↓c_seq, ↓e_seq, ↓s_seq, ↓s_nx, ↓s_bk, ↓s_ct, ↓s_retN, ↓q_expr, ↓e_expr, ↓s_expr, ↓q_ret, ↓e_ret, ↓s_ret, ↓q_set, ↓e_set, ↓s_set, ↓q_if, ↓e_if, ↓s_if, ↓q_parb, ↓e_parb, ↓q_par, ↓e_par, ↓s_par, ↓q_par3c, ↓e_par3c, ↓q_par3b, ↓e_par3b, ↓q_par3, ↓e_par3, ↓s_par3, ↓n_no, ↓e_no, ↓q_as, ↓e_as, ↓s_asg, ↓s_gname, ↓q_gu, ↓e_gu, ↓q_gi, ↓e_gi, ↓q_go, ↓e_go, ↓s_gsub, ↓s_gtup2, ↓s_gtup3, ↓s_gtup1, ↓s_gtup4, ↓s_gsnil, ↓n_gs, ↓e_gs, ↓s_gscons, ↓q_au, ↓e_au, ↓s_aug, ↓q_fo, ↓e_fo, ↓q_fv, ↓e_fv, ↓s_fld, ↓s_yes, ↓s_no, ↓q_w, ↓e_w, ↓s_var, ↓s_getV, ↓s_c, ↓s_e1, ↓q_o1, ↓e_o1, ↓s_e2, ↓q_bl, ↓e_bl, ↓s_isB, ↓s_e2t, ↓s_t1, ↓q_nt, ↓e_nt, ↓s_tnot, ↓q_an, ↓e_an, ↓s_tand, ↓q_oo, ↓e_oo, ↓s_tor, ↓q_ie, ↓e_ie, ↓s_eif, ↓q_ea, ↓e_ea, ↓s_eand, ↓q_eo, ↓e_eo, ↓s_eor, ↓q_en, ↓e_en, ↓s_enot, ↓s_anil, ↓q_ac2, ↓e_ac2, ↓q_ac, ↓e_ac, ↓s_acons, ↓q_tp, ↓q_ls, ↓q_lt, ↓e_tp, ↓e_ls, ↓e_lt, ↓s_chk, ↓s_tup, ↓s_lst, ↓s_lstT, ↓s_k, ↓s_at, ↓s_f1, ↓s_f2, ↓q_ml, ↓e_ml, ↓s_ml, ↓q_ms, ↓e_ms, ↓s_ms, ↓s_int, ↓s_cmp, ↓s_addI, ↓s_addS, ↓s_addT, ↓s_addL, ↓s_neg, ↓s_intI, ↓s_intB, ↓s_abs, ↓s_max, ↓s_min, ↓s_truB, ↓s_truI, ↓s_truN, ↓s_truL, ↓s_truT, ↓s_lenL, ↓s_lenT, ↓s_lenC, ↓s_lenS, ↓s_isNn, ↓s_notNn, ↓s_isNi, ↓s_notNi, ↓s_isNs, ↓s_notNs, ↓s_eqI, ↓s_neI, ↓s_ixR, ↓s_ixL, ↓s_ixT, ↓s_ixC, ↓s_setR, ↓s_append, ↓s_truR, ↓s_lenR, ↓s_getAt, ↓s_setAt, ↓n_fn, ↓r_fn, ↓e_fn, ↓q_mk, ↓e_mk, ↓q_mkT, ↓e_mkT, ↓s_frz, ↓s_isa, ↓s_ownBi, ↓s_ownMi, ↓s_ownUi, ↓n_b1, ↓c_b1, ↓b_b1, ↓r_b1, ↓e_b1, ↓q_lf, ↓q_lg, ↓n_lh, ↓q_lc, ↓e_lc, ↓q_lcT, ↓e_lcT, ↓s_lc, ↓s_lcT, ↓s_lcW, ↓s_lcWT, ↓q_ir, ↓e_ir, ↓s_iRange, ↓q_il, ↓e_il, ↓s_iLst, ↓q_it, ↓e_it, ↓s_iTup, ↓q_iL, ↓e_iL, ↓s_iL, ↓q_iZ2, ↓e_iZ2, ↓q_iZ, ↓e_iZ, ↓s_iZ, getV_some, augV_some, nd_some, qO_some, qB_some, qF_some, setJ_some, ixl_0, ixl_1, ixl_2, qEm_some, atP_some, stQ_some, stP_some, g_mulW_r, gMul_r, nQ_some, ixO_lst, setO_lst, apO_lst, liO_lst, listOf_ref, itemsOf_ref, listOf_lst, inO_ins, instOf_ref, instOf_ins, lenO_lst, lenO_dk, atF_fld, atF_con, stF_fld, finO_ins, frO_lst, frV_ref, cond_true, cond_false, cds_t, cds_f, cde_t, cde_f, cds_not, cde_not, g_sub, at_0, at_1, at_2, at_3, Option.isSome_some, List.set_cons_zero, List.set_cons_succ, List.getElem?_cons_zero, List.getElem?_cons_succ, true_and, and_true, Bool.not_true, Bool.not_false, Int.reduceLT, Int.reduceLE, Int.reduceNeg, Int.reduceAdd, Int.reduceSub, Int.reduceMul, Int.reducePow, Int.reduceToNat, Int.reduceBEq, Int.reduceBNe, Nat.reduceAdd, Nat.reduceSub, Nat.reduceMul, Nat.reduceLT, Nat.reduceLeDiff, Nat.reduceBEq, decide_true, decide_false, and_self, $ls,*])
local macro_rules | `(tactic| simp_all_arith [$ls,*]) => `(tactic| simp only [↓s_ok, ↓s_ex, ↓s_bad, ↓s_Nx, ↓s_Rt, ↓n_seq, ↓r_seq, ↓b_seq, ↓c_seq, ↓e_seq, ↓s_seq, ↓s_nx, ↓s_bk, ↓s_ct, ↓s_retN, ↓q_expr, ↓e_expr, ↓s_expr, ↓q_ret, ↓e_ret, ↓s_ret, ↓q_set, ↓e_set, ↓s_set, ↓q_if, ↓e_if, ↓s_if, ↓q_parb, ↓e_parb, ↓q_par, ↓e_par, ↓s_par, ↓q_par3c, ↓e_par3c, ↓q_par3b, ↓e_par3b, ↓q_par3, ↓e_par3, ↓s_par3, ↓n_no, ↓e_no, ↓q_as, ↓e_as, ↓s_asg, ↓s_gname, ↓q_gu, ↓e_gu, ↓q_gi, ↓e_gi, ↓q_go, ↓e_go, ↓s_gsub, ↓s_gtup2, ↓s_gtup3, ↓s_gtup1, ↓s_gtup4, ↓s_gsnil, ↓n_gs, ↓e_gs, ↓s_gscons, ↓q_au, ↓e_au, ↓s_aug, ↓q_fo, ↓e_fo, ↓q_fv, ↓e_fv, ↓s_fld, ↓s_yes, ↓s_no, ↓q_w, ↓e_w, ↓s_var, ↓s_getV, ↓s_c, ↓s_e1, ↓q_o1, ↓e_o1, ↓s_e2, ↓q_bl, ↓e_bl, ↓s_isB, ↓s_e2t, ↓s_t1, ↓q_nt, ↓e_nt, ↓s_tnot, ↓q_an, ↓e_an, ↓s_tand, ↓q_oo, ↓e_oo, ↓s_tor, ↓q_ie, ↓e_ie, ↓s_eif, ↓q_ea, ↓e_ea, ↓s_eand, ↓q_eo, ↓e_eo, ↓s_eor, ↓q_en, ↓e_en, ↓s_enot, ↓s_anil, ↓q_ac2, ↓e_ac2, ↓q_ac, ↓e_ac, ↓s_acons, ↓q_tp, ↓q_ls, ↓q_lt, ↓e_tp, ↓e_ls, ↓e_lt, ↓s_chk, ↓s_tup, ↓s_lst, ↓s_lstT, ↓s_k, ↓s_at, ↓s_f1, ↓s_f2, ↓q_ml, ↓e_ml, ↓s_ml, ↓q_ms, ↓e_ms, ↓s_ms, ↓s_int, ↓s_cmp, ↓s_addI, ↓s_addS, ↓s_addT, ↓s_addL, ↓s_neg, ↓s_intI, ↓s_intB, ↓s_abs, ↓s_max, ↓s_min, ↓s_truB, ↓s_truI, ↓s_truN, ↓s_truL, ↓s_truT, ↓s_lenL, ↓s_lenT, ↓s_lenC, ↓s_lenS, ↓s_isNn, ↓s_notNn, ↓s_isNi, ↓s_notNi, ↓s_isNs, ↓s_notNs, ↓s_eqI, ↓s_neI, ↓s_ixR, ↓s_ixL, ↓s_ixT, ↓s_ixC, ↓s_setR, ↓s_append, ↓s_truR, ↓s_lenR, ↓s_getAt, ↓s_setAt, ↓n_fn, ↓r_fn, ↓e_fn, ↓q_mk, ↓e_mk, ↓q_mkT, ↓e_mkT, ↓s_frz, ↓s_isa, ↓s_ownBi, ↓s_ownMi, ↓s_ownUi, ↓n_b1, ↓c_b1, ↓b_b1, ↓r_b1, ↓e_b1, ↓q_lf, ↓q_lg, ↓n_lh, ↓q_lc, ↓e_lc, ↓q_lcT, ↓e_lcT, ↓s_lc, ↓s_lcT, ↓s_lcW, ↓s_lcWT, ↓q_ir, ↓e_ir, ↓s_iRange, ↓q_il, ↓e_il, ↓s_iLst, ↓q_it, ↓e_it, ↓s_iTup, ↓q_iL, ↓e_iL, ↓s_iL, ↓q_iZ2, ↓e_iZ2, ↓q_iZ, ↓e_iZ, ↓s_iZ, getV_some, augV_some, nd_some, qO_some, qB_some, qF_some, setJ_some, ixl_0, ixl_1, ixl_2, qEm_some, atP_some, stQ_some, stP_some, g_mulW_r, gMul_r, nQ_some, ixO_lst, setO_lst, apO_lst, liO_lst, listOf_ref, itemsOf_ref, listOf_lst, inO_ins, instOf_ref, instOf_ins, lenO_lst, lenO_dk, atF_fld, atF_con, stF_fld, finO_ins, frO_lst, frV_ref, cond_true, cond_false, cds_t, cds_f, cde_t, cde_f, cds_not, cde_not, g_sub, at_0, at_1, at_2, at_3, Option.isSome_some, List.set_cons_zero, List.set_cons_succ, List.getElem?_cons_zero, List.getElem?_cons_succ, true_and, and_true, Bool.not_true, Bool.not_false, Int.reduceLT, Int.reduceLE, Int.reduceNeg, Int.reduceAdd, Int.reduceSub, Int.reduceMul, Int.reducePow, Int.reduceToNat, Int.reduceBEq, Int.reduceBNe, Nat.reduceAdd, Nat.reduceSub, Nat.reduceMul, Nat.reduceLT, Nat.reduceLeDiff, Nat.reduceBEq, decide_true, decide_false, and_self, List.getElem?_set_ne, List.getElem?_set_self, List.getElem?_append_left, List.length_set, List.length_append, List.length_cons, List.length_nil, Nat.lt_add_right, List.set_set, $ls,*])
local macro_rules | `(tactic| wtm_at "look") => `(tactic| first | assumption | exact hp_new | exact hp_set (by wtm_at "look") | exact hp_app (by wtm_at "look") | exact hp_ne (by omega) (by wtm_at "look") | fail)
/-! the bag: draws -/
abbrev bagO (a b c : Int) : O := .lst [.int a, .int b, .int c]
theorem take_ok {h : Hs} {n : Nat} {a b c m : Int} {k : KE A} (hn : h[n]? = some (bagO a b c)) (hm : 0 < m) (hl : m.natAbs.log2 < 9000)
    (q : ∀ d a' c', 0 ≤ d → d < m → k.q (.int d) (h.set n (bagO a' b c'))) : (f_law_take [.ref n, .int m] h).sat k := by
  rw [r_law_take]
  unfold b_law_take
  have hs : ∀ o, (h.set n o)[n]? = some o := fun o => hp_set hn
  have d1 : ∀ i : Int, gMod i m = some (i % m) := fun i => gMod_int hm
  have d2 : ∀ i : Int, gMod i 2147483647 = some (i % 2147483647) := fun i => gMod_int (by decide)
  have d3 : ∀ i : Int, gMod i 2147483629 = some (i % 2147483629) := fun i => gMod_int (by decide)
  have d4 : ∀ i : Int, gMulW (i % 2147483647) (i % 2147483647) = some (i % 2147483647 * (i % 2147483647)) := fun i => g_mulW_r (by omega)
  have d5 : ∀ i : Int, gDivN i 97 = some (i.fdiv 97) := fun i => g_divN (by decide) (by decide)
  simp_arith [hn, hs]
  refine cds_d (fun _ => ?_) fun _ => ?_
  · simp_arith [hn, hs, d1, g_divN (Int.ne_of_gt hm) hl]
    exact q _ _ _ (Int.emod_nonneg _ (by omega)) (Int.emod_lt_of_pos _ hm)
  · simp_arith [hn, hs, d1, d2, d3, d4, d5]
    exact q _ _ _ (Int.emod_nonneg _ (by omega)) (Int.emod_lt_of_pos _ hm)
theorem bag_ok {h : Hs} {ns : List Int} {at_ : Int} {k : KE A} (h0 : 0 ≤ at_) (q : ∀ a b c, k.q (.ref h.length) (h ++ [bagO a b c])) : (f_law_bag [.scr ns, .int at_] h).sat k := by
  rw [r_law_bag]
  unfold b_law_bag
  have d1 : gPow 10 18 = some 1000000000000000000 := by decide
  have sz : Nat.ble 3 sizeLine = true := by decide
  simp_arith []
  refine cde_d (fun hl => ?_) fun hl => ?_
  · have e : atI ns at_ = some (ns[at_.toNat]'(by have : at_ < (ns.length : Int) := hl; omega)) := by
      rw [at_nn h0 (by exact hl)]
      exact List.getElem?_eq_getElem _
    simp_arith [e, d1]
    refine cde_d (fun _ => ?_) fun _ => ?_
    · simp_arith [d1]
      exact ⟨sz, q _ _ _⟩
    · simp_arith [d1]
      exact ⟨sz, q _ _ _⟩
  · simp_arith [d1]
    refine cde_d (fun _ => ?_) fun _ => ?_
    · simp_arith [d1]
      exact ⟨sz, q _ _ _⟩
    · simp_arith [d1]
      exact ⟨sz, q _ _ _⟩
abbrev sp (t : Int) : A := .ins 0 [.int t]
abbrev mo (t : Int) : A := .ins 1 [.int t]
section
variable {h : Hs} {k : KE A} {a b : Int}
theorem isa_00 {xs : List A} : isaB isa (.ins 0 xs) (.cls 0) h = some true := (rfl)
theorem isa_01 {xs : List A} : isaB isa (.ins 0 xs) (.cls 1) h = some false := (rfl)
theorem isa_10 {xs : List A} : isaB isa (.ins 1 xs) (.cls 0) h = some false := (rfl)
theorem isa_11 {xs : List A} : isaB isa (.ins 1 xs) (.cls 1) h = some true := (rfl)
theorem isa_ii {i : Int} : isaB isa (.int i) (.ty "int") h = some true := (rfl)
theorem isa_ib {i : Int} : isaB isa (.int i) (.ty "bool") h = some false := (rfl)
theorem at_t0 : at_ticks 0 = .fld 0 := (rfl)
theorem at_a1 : at_at 1 = .fld 0 := (rfl)
theorem b1000 : Nat.blt 0 1000 = true := (rfl)
theorem put0 {x : A} : putI 0 x [] = some [x] := (rfl)
theorem lnil : ([] : List A).length = 0 := (rfl)
theorem set_new {o o' : O} : (h ++ [o]).set h.length o' = h ++ [o'] := by simp
theorem mkSp : (mkF 0 f_Span_init [.int a] h).sat k = k.q (sp a) (h ++ [.dead]) := by
  rw [s_mkF, r_Span_init]
  unfold b_Span_init
  simp_arith [hp_new, at_t0, lnil, b1000, put0, set_new]
theorem mkMo : (mkF 1 f_Moment_init [.int a] h).sat k = k.q (mo a) (h ++ [.dead]) := by
  rw [s_mkF, r_Moment_init]
  unfold b_Moment_init
  simp_arith [hp_new, at_a1, lnil, b1000, put0, set_new]
theorem add_ss : (ownB mt_add [0, 1] aAdd (sp a) (sp b) h).sat k = k.q (sp (a + b)) (h ++ [.dead]) := by
  rw [s_ownB2]
  show (true = true ∧ (f_Span_add [sp a, sp b] h).sat k) = _
  rw [r_Span_add]; unfold b_Span_add
  simp_arith [isa_00, at_t0, ↓mkSp]
theorem add_sm : (ownB mt_add [0, 1] aAdd (sp a) (mo b) h).sat k = k.q (mo (a + b)) (h ++ [.dead]) := by
  rw [s_ownB2]
  show (true = true ∧ (f_Span_add [sp a, mo b] h).sat k) = _
  rw [r_Span_add]; unfold b_Span_add
  simp_arith [isa_10, isa_11, at_t0, at_a1, ↓mkMo]
theorem add_ms : (ownB mt_add [0, 1] aAdd (mo a) (sp b) h).sat k = k.q (mo (a + b)) (h ++ [.dead]) := by
  rw [s_ownB2]
  show (true = true ∧ (f_Moment_add [mo a, sp b] h).sat k) = _
  rw [r_Moment_add]; unfold b_Moment_add
  simp_arith [isa_00, isa_11, at_t0, at_a1, ↓mkMo]
theorem sub_ss : (ownB mt_sub [0, 1] (aInt gSub') (sp a) (sp b) h).sat k = k.q (sp (a - b)) (h ++ [.dead]) := by
  rw [s_ownB2]
  show (true = true ∧ (f_Span_sub [sp a, sp b] h).sat k) = _
  rw [r_Span_sub]; unfold b_Span_sub
  simp_arith [isa_00, at_t0, ↓mkSp]
theorem sub_ms : (ownB mt_sub [0, 1] (aInt gSub') (mo a) (sp b) h).sat k = k.q (mo (a - b)) (h ++ [.dead]) := by
  rw [s_ownB2]
  show (true = true ∧ (f_Moment_sub [mo a, sp b] h).sat k) = _
  rw [r_Moment_sub]; unfold b_Moment_sub
  simp_arith [isa_00, at_t0, at_a1, ↓mkMo]
theorem sub_mm : (ownB mt_sub [0, 1] (aInt gSub') (mo a) (mo b) h).sat k = k.q (sp (a - b)) (h ++ [.dead]) := by
  rw [s_ownB2]
  show (true = true ∧ (f_Moment_sub [mo a, mo b] h).sat k) = _
  rw [r_Moment_sub]; unfold b_Moment_sub
  simp_arith [isa_10, isa_11, at_t0, at_a1, ↓mkSp]
theorem neg_s : (ownU mt_neg aNeg (sp a) h).sat k = k.q (sp (-a)) (h ++ [.dead]) := by
  rw [s_ownU]
  show (f_Span_neg [sp a] h).sat k = _
  rw [r_Span_neg]; unfold b_Span_neg
  simp_arith [at_t0, ↓mkSp]
theorem abs_s : (ownU mt_abs absA (sp a) h).sat k = k.q (sp (if a < 0 then -a else a)) (h ++ [.dead]) := by
  rw [s_ownU]
  show (f_Span_abs [sp a] h).sat k = _
  rw [r_Span_abs]; unfold b_Span_abs
  simp_arith [at_t0, ↓mkSp]
theorem mul_s {f : Int} (hf : -9 ≤ f ∧ f ≤ 9) : (ownM mt_mul mt_rmul 0 (aInt gMulW) (sp a) (.int f) h).sat k = k.q (sp (a * f)) (h ++ [.dead]) := by
  rw [s_ownMl]
  show (true = true ∧ (f_Span_mul [sp a, .int f] h).sat k) = _
  rw [r_Span_mul]; unfold b_Span_mul
  simp_arith [at_t0, ↓mkSp, isa_ii, g_mulW_r (i := a) (j := f) (by omega)]
theorem rmul_s {f : Int} (hf : -9 ≤ f ∧ f ≤ 9) : (ownM mt_mul mt_rmul 0 (aInt gMulW) (.int f) (sp a) h).sat k = k.q (sp (a * f)) (h ++ [.dead]) := by
  rw [s_ownMr]
  show (true = true ∧ (f_Span_rmul [sp a, .int f] h).sat k) = _
  rw [r_Span_rmul]; unfold b_Span_rmul
  simp_arith [at_t0, ↓mkSp, isa_ii, g_mulW_r (i := a) (j := f) (by omega)]
theorem div_s (hd : gDivN a b = some (a.fdiv b)) : (ownB mt_floordiv [0] (aInt gDivN) (sp a) (sp b) h).sat k = k.q (.int (a.fdiv b)) h := by
  rw [s_ownB2]
  show (true = true ∧ (f_Span_floordiv [sp a, sp b] h).sat k) = _
  rw [r_Span_floordiv]; unfold b_Span_floordiv
  simp_arith [isa_00, at_t0, hd]
theorem mod_s (hd : gDivN a b = some (a.fdiv b)) (hm : gMulW (a.fdiv b) b = some (a.fdiv b * b)) : (ownB mt_mod [0] (aInt gMod) (sp a) (sp b) h).sat k = k.q (sp (a - a.fdiv b * b)) (h ++ [.dead]) := by
  rw [s_ownB2]
  show (true = true ∧ (f_Span_mod [sp a, sp b] h).sat k) = _
  rw [r_Span_mod]; unfold b_Span_mod
  simp_arith [isa_00, at_t0, hd, hm, ↓mkSp]
theorem is_number : (f_law_is_number [.int a, .int b] h).sat k = k.q (.bl (a == b)) h := by
  rw [r_law_is_number]; unfold b_law_is_number
  simp_arith [isa_ii, isa_ib]
theorem is_span : (f_law_is_span [sp a, .int b] h).sat k = k.q (.bl (a == b)) h := by
  rw [r_law_is_span]; unfold b_law_is_span
  simp_arith [isa_00, at_t0, is_number]
theorem number_ok {n : Nat} {a b c : Int} (hn : h[n]? = some (bagO a b c)) (q : ∀ v a' c', v.natAbs < 10 ^ 30 → k.q (.int v) (h.set n (bagO a' b c'))) : (f_law_number [.ref n] h).sat k := by
  rw [r_law_number]; unfold b_law_number
  have e1 : gPow 10 9 = some 1000000000 := by decide
  have e2 : gPow 10 30 = some 1000000000000000000000000000000 := by decide
  have e3 : Nat.ble ([A.int 4, A.int 100, A.int 1000000000, A.int 1000000000000000000000000000000] : List A).length sizeLine = true := by decide
  refine cut_seq (fun sl' h' => ∃ m a1 c1, 0 < m ∧ m.natAbs ≤ 10 ^ 30 ∧ sl' = [some (.ref n), some (.int m), none] ∧ h' = h.set n (bagO a1 b c1)) ?_ ?_
  · simp_arith [e1, e2, e3]
    refine take_ok hn (by decide) (by decide) fun d a1 c1 h0 h4 => ?_
    have hd : d = 0 ∨ d = 1 ∨ d = 2 ∨ d = 3 := by omega
    rcases hd with rfl | rfl | rfl | rfl
    all_goals simp_arith []
    · exact ⟨_, _, _, by decide, by decide, rfl, rfl⟩
    · exact ⟨_, _, _, by decide, by decide, rfl, rfl⟩
    · exact ⟨_, _, _, by decide, by decide, rfl, rfl⟩
    · exact ⟨_, _, _, by decide, by decide, rfl, rfl⟩
  · rintro sl' h' ⟨m, a1, c1, hm, hl, rfl, rfl⟩
    simp_arith []
    refine take_ok (hp_set hn) hm ?_ fun v a2 c2 hv hv2 => ?_
    · have : m.natAbs.log2 < 100 := log2_lt (by omega) (Nat.lt_of_le_of_lt hl (by decide))
      omega
    · simp_arith [List.set_set]
      refine take_ok (hp_set hn) (by decide) (by decide) fun s a3 c3 hs hs2 => ?_
      simp_arith [List.set_set]
      refine cde_by (fun _ => ?_) fun _ => ?_
      · simp_arith []
        exact q _ _ _ (by omega)
      · simp_arith []
        exact q _ _ _ (by omega)
end
/-! the rows of spans and moments -/
def sps (l : List Int) : List A := l.map sp
def mos (l : List Int) : List A := l.map mo
def its (l : List Int) : List A := l.map A.int
theorem at_map {f : Int → A} {l : List Int} {d : Int} (h0 : 0 ≤ d) (h1 : d < l.length) : atI (l.map f) d = some (f (l.getD d.toNat 0)) := by
  rw [at_nn h0 (by simpa using h1), List.getElem?_map]
  have : d.toNat < l.length := by omega
  simp [List.getD, List.getElem?_eq_getElem this]
theorem set_map {f : Int → A} {l : List Int} {j : Nat} {v : Int} : (l.map f).set j (f v) = (l.set j v).map f := by rw [List.map_set]
theorem ix_map {f : Int → A} {l : List Int} {d : Int} (h0 : 0 ≤ d) (h1 : d < l.length) : ixN (l.map f).length d = some d.toNat := ix_nn h0 (by simpa using h1)
/-- all numbers are below 2 ^ e -/
def Bd (e : Nat) (l : List Int) : Prop := ∀ t ∈ l, t.natAbs < 2 ^ e
theorem Bd.get {e : Nat} {l : List Int} (b : Bd e l) (i : Nat) : (l.getD i 0).natAbs < 2 ^ e := by
  rw [List.getD]
  cases hi : l[i]? with
  | none => exact Nat.pos_of_neZero _
  | some t => exact b t (List.mem_of_getElem? hi)
theorem Bd.set {e : Nat} {l : List Int} (b : Bd e l) (i : Nat) {v : Int} (hv : v.natAbs < 2 ^ e) : Bd e (l.set i v) := fun t ht => by
  rcases List.mem_or_eq_of_mem_set ht with h | rfl
  · exact b t h
  · exact hv
theorem Bd.mono {e f : Nat} {l : List Int} (b : Bd e l) (h : e ≤ f) : Bd f l := fun t ht => Nat.lt_of_lt_of_le (b t ht) (Nat.pow_le_pow_right (by decide) h)
theorem p4 (e : Nat) : 2 ^ (e + 4) = 16 * 2 ^ e := by rw [Nat.pow_add, Nat.mul_comm]
theorem fdiv_le {a b : Int} (hb : b ≠ 0) : (a.fdiv b).natAbs ≤ a.natAbs := by
  have h1 := Int.natAbs_fdiv_le_natAbs a b
  exact h1
theorem fmod_eq {a b : Int} : a - a.fdiv b * b = a.fmod b := by
  have := Int.mul_fdiv_add_fmod a b
  rw [Int.mul_comm] at this
  omega
theorem fmod_le {a b : Int} (hb : b ≠ 0) : (a.fmod b).natAbs ≤ b.natAbs := by
  have h1 := Int.emod_nonneg a hb
  have h2 := Int.emod_lt a hb
  rw [Int.fmod_eq_emod]
  split <;> omega
structure SD (h h' : Hs) (nb ns nt : Nat) (b : Int) (tl : List Int) : Prop where
  bag : ∃ a c, h'[nb]? = some (bagO a b c)
  s : h'[ns]? = some (.lst (sps tl))
  t : h'[nt]? = some (.lst (its tl))
  len : h.length ≤ h'.length
  fr : ∀ m, m < h.length → m ≠ nb → m ≠ ns → m ≠ nt → h'[m]? = h[m]?
theorem hp_app' {h hs : Hs} {m : Nat} (hm : m < h.length) : (h ++ hs)[m]? = h[m]? := List.getElem?_append_left hm
section
variable {h : Hs} {k : KE A} {nb ns nt : Nat} {a b c : Int} {tl : List Int} {e : Nat}
theorem SD.write {h1 : Hs} {o1 o2 : O} {tl' : List Int} (nbs : nb ≠ ns) (nbt : nb ≠ nt) (nst : ns ≠ nt) (x : SD h h1 nb ns nt b tl) (hs : Hs) (e1 : o1 = .lst (sps tl')) (e2 : o2 = .lst (its tl')) :
    SD h (((h1 ++ hs).set ns o1).set nt o2) nb ns nt b tl' := by
  subst e1 e2
  have l1 := hp_lt x.s
  have l2 := hp_lt x.t
  obtain ⟨a, c, hb⟩ := x.bag
  refine ⟨⟨a, c, hp_ne (by omega) (hp_ne (by omega) (hp_app hb))⟩, hp_ne (by omega) (hp_set (hp_app x.s)), hp_set (hp_ne (by omega) (hp_app x.t)), by have := x.len; simp; omega, fun m h1' h2 h3 h4 => ?_⟩
  rw [List.getElem?_set_ne (by omega), List.getElem?_set_ne (by omega), List.getElem?_append_left (by have := x.len; omega)]
  exact x.fr m h1' h2 h3 h4
end
theorem at_sps {l : List Int} {d : Int} (h0 : 0 ≤ d) (h1 : d < l.length) : atI (sps l) d = some (sp (l.getD d.toNat 0)) := at_map h0 h1
theorem at_mos {l : List Int} {d : Int} (h0 : 0 ≤ d) (h1 : d < l.length) : atI (mos l) d = some (mo (l.getD d.toNat 0)) := at_map h0 h1
theorem at_its {l : List Int} {d : Int} (h0 : 0 ≤ d) (h1 : d < l.length) : atI (its l) d = some (.int (l.getD d.toNat 0)) := at_map h0 h1
theorem ix_sps {l : List Int} {d : Int} (h0 : 0 ≤ d) (h1 : d < l.length) : ixN (sps l).length d = some d.toNat := ix_map h0 h1
theorem ix_mos {l : List Int} {d : Int} (h0 : 0 ≤ d) (h1 : d < l.length) : ixN (mos l).length d = some d.toNat := ix_map h0 h1
theorem ix_its {l : List Int} {d : Int} (h0 : 0 ≤ d) (h1 : d < l.length) : ixN (its l).length d = some d.toNat := ix_map h0 h1
theorem set_sps {l : List Int} {j : Nat} {v : Int} : (sps l).set j (sp v) = sps (l.set j v) := set_map
theorem set_mos {l : List Int} {j : Nat} {v : Int} : (mos l).set j (mo v) = mos (l.set j v) := set_map
theorem set_its {l : List Int} {j : Nat} {v : Int} : (its l).set j (.int v) = its (l.set j v) := set_map
theorem sz2 (x y : A) : Nat.ble [x, y].length sizeLine = true := by
  show Nat.ble 2 sizeLine = true
  decide
theorem getD_set {l : List Int} {j : Nat} {v : Int} (hj : j < l.length) : (l.set j v).getD j 0 = v := by simp [List.getD, hj]
section
variable {h : Hs} {k : KE A} {nb ns nt : Nat} {a b c : Int} {tl : List Int} {e : Nat}
theorem spans_done_ok (hb : h[nb]? = some (bagO a b c)) (hs : h[ns]? = some (.lst (sps tl))) (ht : h[nt]? = some (.lst (its tl))) (nbs : nb ≠ ns) (nbt : nb ≠ nt) (nst : ns ≠ nt) (l3 : tl.length = 3) (bd : Bd e tl) (he : 200 ≤ e) (he2 : e ≤ 8000)
    (q : ∀ h' tl', SD h h' nb ns nt b tl' → tl'.length = 3 → Bd (e + 4) tl' → k.q .non h') : (f_law_spans_done [.ref nb, .ref ns, .ref nt] h).sat k := by
  rw [r_law_spans_done]; unfold b_law_spans_done
  refine cut_seq (fun sl' h' => ∃ da db dc a1 c1, (0 ≤ da ∧ da < 3) ∧ (0 ≤ db ∧ db < 3) ∧ (0 ≤ dc ∧ dc < 3) ∧ sl' = [some (.ref nb), some (.ref ns), some (.ref nt), some (.int da), some (.int db), some (.int dc), none, none] ∧ h' = h.set nb (bagO a1 b c1)) ?_ ?_
  · simp_arith []
    refine take_ok hb (by decide) (by decide) fun da a1 c1 h0 h4 => ?_
    simp_arith []
    refine take_ok (hp_set hb) (by decide) (by decide) fun db a1 c1 h0 h4 => ?_
    simp_arith [List.set_set]
    refine take_ok (hp_set hb) (by decide) (by decide) fun dc a1 c1 h0 h4 => ?_
    simp_arith [List.set_set]
    exact ⟨_, _, _, _, _, ⟨by assumption, by assumption⟩, ⟨by assumption, by assumption⟩, ⟨by assumption, by assumption⟩, rfl, rfl⟩
  rintro sl' h' ⟨da, db, dc, a1, c1, ha, hbb, hc, rfl, rfl⟩
  refine cut_seq (fun sl' h' => ∃ dr df a1 c1, (0 ≤ dr ∧ dr < 8) ∧ (-9 ≤ df ∧ df ≤ 9) ∧ sl' = [some (.ref nb), some (.ref ns), some (.ref nt), some (.int da), some (.int db), some (.int dc), some (.int dr), some (.int df)] ∧ h' = h.set nb (bagO a1 b c1)) ?_ ?_
  · simp_arith []
    refine take_ok (hp_set hb) (by decide) (by decide) fun da a1 c1 h0 h4 => ?_
    simp_arith [List.set_set]
    refine take_ok (hp_set hb) (by decide) (by decide) fun db a1 c1 h0 h4 => ?_
    simp_arith [List.set_set]
    exact ⟨_, _, _, _, ⟨by assumption, by assumption⟩, ⟨by omega, by omega⟩, rfl, rfl⟩
  rintro sl' h' ⟨dr, df, a1, c1, hr, hf, rfl, rfl⟩
  have x0 : SD h (h.set nb (bagO a1 b c1)) nb ns nt b tl := ⟨⟨_, _, hp_set hb⟩, hp_ne nbs hs, hp_ne nbt ht, by simp, fun m _ h2 _ _ => List.getElem?_set_ne (by omega)⟩
  generalize h.set nb (bagO a1 b c1) = h1 at x0
  have ha' : da < (tl.length : Int) := by omega
  have hbb' : db < (tl.length : Int) := by omega
  have hc' : dc < (tl.length : Int) := by omega
  have ta := bd.get da.toNat
  have tb := bd.get db.toNat
  have pe := p4 e
  refine cut_seq (fun sl' h' => ∃ tl1, SD h h' nb ns nt b tl1 ∧ tl1.length = 3 ∧ Bd (e + 4) tl1 ∧ sl' = [some (.ref nb), some (.ref ns), some (.ref nt), some (.int da), some (.int db), some (.int dc), some (.int dr), some (.int df)]) ?_ ?_
  · have f1 := x0.s
    have f2 := x0.t
    have f3 : ∀ hs, (h1 ++ hs)[nt]? = some (.lst (its tl)) := fun hs => hp_app f2
    have f3' : ∀ hs, (h1 ++ hs)[ns]? = some (.lst (sps tl)) := fun hs => hp_app f1
    have f4 : ∀ hs o, ((h1 ++ hs).set ns o)[nt]? = some (.lst (its tl)) := fun hs o => hp_ne nst (hp_app f2)
    have g1 := at_sps ha.1 ha'
    have g2 := at_sps hbb.1 hbb'
    have g4 := at_its ha.1 ha'
    have g5 := at_its hbb.1 hbb'
    have g7 := ix_sps hc.1 hc'
    have g8 := ix_its hc.1 hc'
    have b0 : Bd (e + 4) tl := bd.mono (by omega)
    have fin : ∀ (hs : Hs) (v : Int), v.natAbs < 2 ^ (e + 4) → ∃ tl1, SD h (((h1 ++ hs).set ns (.lst (sps (tl.set dc.toNat v)))).set nt (.lst (its (tl.set dc.toNat v)))) nb ns nt b tl1 ∧ tl1.length = 3 ∧ Bd (e + 4) tl1 :=
      fun hs v hv => ⟨tl.set dc.toNat v, x0.write nbs nbt nst hs rfl rfl, by simp [l3], b0.set _ hv⟩
    generalize tl.getD da.toNat 0 = ta' at *
    generalize tl.getD db.toNat 0 = tb' at *
    simp_arith []
    refine cds_by (fun _ => ?_) fun _ => ?_
    · simp_arith [f1, f2, f3, f3', f4, g1, g2, g4, g5, g7, g8, add_ss, s_ownBi, sz2, set_sps, set_its]
      refine fin _ _ ?_
      omega
    simp_arith []
    refine cds_by (fun _ => ?_) fun _ => ?_
    · simp_arith [f1, f2, f3, f3', f4, g1, g2, g4, g5, g7, g8, sub_ss, s_ownBi, sz2, set_sps, set_its]
      refine fin _ _ ?_
      omega
    simp_arith []
    refine cds_by (fun _ => ?_) fun _ => ?_
    · simp_arith [f1, f2, f3, f3', f4, g1, g2, g4, g5, g7, g8, neg_s, s_ownUi, sz2, set_sps, set_its]
      refine fin _ _ ?_
      omega
    simp_arith []
    refine cds_by (fun _ => ?_) fun _ => ?_
    · simp_arith [f1, f2, f3, f3', f4, g1, g2, g4, g5, g7, g8, abs_s, s_ownUi, sz2, set_sps, set_its]
      refine fin _ _ ?_
      split <;> omega
    simp_arith []
    have hm9 : ∀ t : Int, t.natAbs < 2 ^ e → (t * df).natAbs ≤ 9 * t.natAbs := fun t _ => by
      rw [Int.natAbs_mul, Nat.mul_comm]
      exact Nat.mul_le_mul_right _ (by omega)
    have m1 := hm9 ta' ta
    have w1 : ∀ i : Int, gMulW i df = some (i * df) := fun i => g_mulW_r (by omega)
    have w2 : ∀ i : Int, gMulW df i = some (df * i) := fun i => g_mulW_l (by omega)
    refine cds_by (fun _ => ?_) fun _ => ?_
    · simp_arith [f1, f2, f3, f3', f4, g1, g2, g4, g5, g7, g8, mul_s hf, s_ownMi, w1, sz2, set_sps, set_its]
      refine fin _ _ ?_
      omega
    simp_arith []
    refine cds_by (fun _ => ?_) fun _ => ?_
    · simp_arith [f1, f2, f3, f3', f4, g1, g2, g4, g5, g7, g8, rmul_s hf, add_ss, s_ownMi, s_ownBi, w2, sz2, set_sps, set_its, List.append_assoc, Int.mul_comm df]
      refine fin _ _ ?_
      omega
    simp_arith [f2, g5]
    by_cases hz : tb' = 0
    · subst hz
      simp_arith [f2, g5]
      exact ⟨tl, x0, l3, b0⟩
    have d1 : gDivN ta' tb' = some (ta'.fdiv tb') := g_divN hz (by have := log2_lt hz tb; omega)
    have d3 := fdiv_le (a := ta') hz
    have d4 := fmod_le (a := ta') hz
    have d2 : gMulW (ta'.fdiv tb') tb' = some (ta'.fdiv tb' * tb') := by
      by_cases hq : ta'.fdiv tb' = 0
      · rw [hq]; exact g_mulW_l (by decide)
      · refine g_mulW ?_
        have z1 := log2_lt hz tb
        have z2 := log2_lt hq (n := e) (by omega)
        omega
    have nz : (tb' == 0) = false := by simpa using hz
    simp_arith [nz]
    refine cds_by (fun _ => ?_) fun _ => ?_
    · simp_arith [f1, f2, f3, f3', f4, g1, g2, g4, g5, g7, g8, mod_s d1 d2, s_ownBi, s_ownMi, d1, d2, sz2, set_sps, set_its]
      refine fin _ _ ?_
      rw [fmod_eq]
      omega
    simp_arith [f2, g5, nz]
    simp_arith [f1, f2, f3, f3', f4, g1, g2, g4, g5, g7, g8, div_s d1, ↓mkSp, s_ownBi, d1, d2, sz2, set_sps, set_its]
    refine fin _ _ ?_
    omega
  rintro sl' h' ⟨tl1, x1, l1, b1, rfl⟩
  have hc1 : dc < (tl1.length : Int) := by omega
  have f1 := x1.s
  have f2 := x1.t
  have f3 : ∀ hs, (h' ++ hs)[nt]? = some (.lst (its tl1)) := fun hs => hp_app f2
  have f3' : ∀ hs, (h' ++ hs)[ns]? = some (.lst (sps tl1)) := fun hs => hp_app f1
  have f4 : ∀ hs o, ((h' ++ hs).set ns o)[nt]? = some (.lst (its tl1)) := fun hs o => hp_ne nst (hp_app f2)
  have g1 := at_sps hc.1 hc1
  have g4 := at_its hc.1 hc1
  have g7 := ix_sps hc.1 hc1
  have g8 := ix_its hc.1 hc1
  have tc := b1.get dc.toNat
  have p60 : gPow 10 60 = some 1000000000000000000000000000000000000000000000000000000000000 := by decide
  have p50 : gPow 10 50 = some 100000000000000000000000000000000000000000000000000 := by decide
  generalize tl1.getD dc.toNat 0 = tc' at *
  have w1 : ∀ i : Int, gMulW i 100000000000000000000000000000000000000000000000000 = some (i * 100000000000000000000000000000000000000000000000000) ∨ True := fun i => .inr trivial
  simp_arith [f2, g4, s_ownUi, p60]
  refine cds_d (fun _ => ?_) fun _ => ?_
  · have d1 : gDivN tc' 100000000000000000000000000000000000000000000000000 = some (tc'.fdiv 100000000000000000000000000000000000000000000000000) := g_divN (by decide) (by decide)
    have d3 := fdiv_le (a := tc') (b := 100000000000000000000000000000000000000000000000000) (by decide)
    have d4 := fmod_le (a := tc') (b := 100000000000000000000000000000000000000000000000000) (by decide)
    have d2 : gMulW (tc'.fdiv 100000000000000000000000000000000000000000000000000) 100000000000000000000000000000000000000000000000000 = some (tc'.fdiv 100000000000000000000000000000000000000000000000000 * 100000000000000000000000000000000000000000000000000) := by
      by_cases hq : tc'.fdiv 100000000000000000000000000000000000000000000000000 = 0
      · rw [hq]; exact g_mulW_l (by decide)
      · refine g_mulW ?_
        have z1 : (100000000000000000000000000000000000000000000000000 : Int).natAbs.log2 < 200 := by decide
        have z2 := log2_lt hq (n := e + 4) (by omega)
        omega
    simp_arith [f1, f2, f3, f3', f4, g1, g4, g7, g8, p50, ↓mkSp, mod_s d1 d2, s_ownBi, s_ownMi, d1, d2, sz2, set_sps, set_its, List.append_assoc]
    refine q _ (tl1.set dc.toNat (tc' - tc'.fdiv 100000000000000000000000000000000000000000000000000 * 100000000000000000000000000000000000000000000000000)) (x1.write nbs nbt nst _ rfl rfl) (by simp [l1]) (b1.set _ ?_)
    rw [fmod_eq]
    have : 2 ^ 200 ≤ 2 ^ (e + 4) := Nat.pow_le_pow_right (by decide) (by omega)
    have : 100000000000000000000000000000000000000000000000000 < 2 ^ 200 := by decide
    omega
  · simp_arith []
    exact q _ tl1 x1 l1 b1
end
structure MD (h h' : Hs) (nb nm np ns nt : Nat) (b : Int) (pl tl : List Int) : Prop where
  bag : ∃ a c, h'[nb]? = some (bagO a b c)
  m : h'[nm]? = some (.lst (mos pl))
  p : h'[np]? = some (.lst (its pl))
  s : h'[ns]? = some (.lst (sps tl))
  t : h'[nt]? = some (.lst (its tl))
  len : h.length ≤ h'.length
  fr : ∀ i, i < h.length → i ≠ nb → i ≠ nm → i ≠ np → i ≠ ns → i ≠ nt → h'[i]? = h[i]?
section
variable {h : Hs} {k : KE A} {nb nm np ns nt : Nat} {a b c : Int} {tl pl : List Int} {e : Nat}
theorem moments_done_ok (hb : h[nb]? = some (bagO a b c)) (hm : h[nm]? = some (.lst (mos pl))) (hp : h[np]? = some (.lst (its pl))) (hs : h[ns]? = some (.lst (sps tl))) (ht : h[nt]? = some (.lst (its tl)))
    (n1 : nb ≠ nm) (n2 : nb ≠ np) (n3 : nb ≠ ns) (n4 : nb ≠ nt) (n5 : nm ≠ np) (n6 : nm ≠ ns) (n7 : nm ≠ nt) (n8 : np ≠ ns) (n9 : np ≠ nt) (n10 : ns ≠ nt) (l3 : tl.length = 3) (l2 : pl.length = 2) (bd : Bd e tl) (bp : Bd e pl)
    (q : ∀ h' tl' pl', MD h h' nb nm np ns nt b pl' tl' → tl'.length = 3 → pl'.length = 2 → Bd (e + 4) tl' → Bd (e + 4) pl' → k.q .non h') : (f_law_moments_done [.ref nb, .ref nm, .ref np, .ref ns, .ref nt] h).sat k := by
  rw [r_law_moments_done]; unfold b_law_moments_done
  refine cut_seq (fun sl' h' => ∃ da dm dn a1 c1, (0 ≤ da ∧ da < 3) ∧ (0 ≤ dm ∧ dm < 2) ∧ (0 ≤ dn ∧ dn < 2) ∧ sl' = [some (.ref nb), some (.ref nm), some (.ref np), some (.ref ns), some (.ref nt), some (.int da), some (.int dm), some (.int dn), none] ∧ h' = h.set nb (bagO a1 b c1)) ?_ ?_
  · simp_arith []
    refine take_ok hb (by decide) (by decide) fun da a1 c1 h0 h4 => ?_
    simp_arith []
    refine take_ok (hp_set hb) (by decide) (by decide) fun db a1 c1 h0 h4 => ?_
    simp_arith [List.set_set]
    refine take_ok (hp_set hb) (by decide) (by decide) fun dc a1 c1 h0 h4 => ?_
    simp_arith [List.set_set]
    exact ⟨_, _, _, _, _, ⟨by assumption, by assumption⟩, ⟨by assumption, by assumption⟩, ⟨by assumption, by assumption⟩, rfl, rfl⟩
  rintro sl' h' ⟨da, dm, dn, a1, c1, ha, hdm, hdn, rfl, rfl⟩
  simp_arith []
  refine take_ok (hp_set hb) (by decide) (by decide) fun dr a2 c2 h0 h4 => ?_
  simp_arith [List.set_set]
  have x0 : MD h (h.set nb (bagO a2 b c2)) nb nm np ns nt b pl tl := ⟨⟨_, _, hp_set hb⟩, hp_ne n1 hm, hp_ne n2 hp, hp_ne n3 hs, hp_ne n4 ht, by simp, fun m _ h2 _ _ _ _ => List.getElem?_set_ne (by omega)⟩
  generalize h.set nb (bagO a2 b c2) = h1 at x0
  have ha' : da < (tl.length : Int) := by omega
  have hm' : dm < (pl.length : Int) := by omega
  have hn' : dn < (pl.length : Int) := by omega
  have ta := bd.get da.toNat
  have tm := bp.get dm.toNat
  have tn := bp.get dn.toNat
  have pe := p4 e
  have f1 := x0.s
  have f2 := x0.t
  have f5 := x0.m
  have f6 := x0.p
  have e1 : ∀ hs, (h1 ++ hs)[nt]? = some (.lst (its tl)) := fun hs => hp_app f2
  have e2 : ∀ hs, (h1 ++ hs)[ns]? = some (.lst (sps tl)) := fun hs => hp_app f1
  have e3 : ∀ hs, (h1 ++ hs)[nm]? = some (.lst (mos pl)) := fun hs => hp_app f5
  have e4 : ∀ hs, (h1 ++ hs)[np]? = some (.lst (its pl)) := fun hs => hp_app f6
  have e5 : ∀ hs o, ((h1 ++ hs).set nm o)[np]? = some (.lst (its pl)) := fun hs o => hp_ne n5 (hp_app f6)
  have e6 : ∀ hs o, ((h1 ++ hs).set ns o)[nt]? = some (.lst (its tl)) := fun hs o => hp_ne n10 (hp_app f2)
  have g1 := at_sps ha.1 ha'
  have g2 := at_its ha.1 ha'
  have g3 := at_mos hdm.1 hm'
  have g4 := at_its hdm.1 hm'
  have g5 := at_mos hdn.1 hn'
  have g6 := at_its hdn.1 hn'
  have g7 := ix_mos hdn.1 hn'
  have g8 := ix_its hdn.1 hn'
  have g9 := ix_sps ha.1 ha'
  have g10 := ix_its ha.1 ha'
  have b0 : Bd (e + 4) tl := bd.mono (by omega)
  have b1 : Bd (e + 4) pl := bp.mono (by omega)
  have wr1 : ∀ (hs : Hs) (v : Int), v.natAbs < 2 ^ (e + 4) → k.q .non (((h1 ++ hs).set nm (.lst (mos (pl.set dn.toNat v)))).set np (.lst (its (pl.set dn.toNat v)))) := fun hs v hv => by
    refine q _ tl (pl.set dn.toNat v) ?_ l3 (by simp [l2]) b0 (b1.set _ hv)
    have l1 := hp_lt f5
    have l2 := hp_lt f6
    obtain ⟨a, c, hb⟩ := x0.bag
    refine ⟨⟨a, c, hp_ne (by omega) (hp_ne (by omega) (hp_app hb))⟩, hp_ne (by omega) (hp_set (hp_app f5)), hp_set (hp_ne (by omega) (hp_app f6)), hp_ne (by omega) (hp_ne (by omega) (e2 _)), hp_ne (by omega) (hp_ne (by omega) (e1 _)), by have := x0.len; simp; omega, fun m h1' h2 h3 h4 h5 h6 => ?_⟩
    rw [List.getElem?_set_ne (by omega), List.getElem?_set_ne (by omega), List.getElem?_append_left (by have := x0.len; omega)]
    exact x0.fr m h1' h2 h3 h4 h5 h6
  have wr2 : ∀ (hs : Hs) (v : Int), v.natAbs < 2 ^ (e + 4) → k.q .non (((h1 ++ hs).set ns (.lst (sps (tl.set da.toNat v)))).set nt (.lst (its (tl.set da.toNat v)))) := fun hs v hv => by
    refine q _ (tl.set da.toNat v) pl ?_ (by simp [l3]) l2 (b0.set _ hv) b1
    have l1 := hp_lt f1
    have l2 := hp_lt f2
    obtain ⟨a, c, hb⟩ := x0.bag
    refine ⟨⟨a, c, hp_ne (by omega) (hp_ne (by omega) (hp_app hb))⟩, hp_ne (by omega) (hp_ne (by omega) (e3 _)), hp_ne (by omega) (hp_ne (by omega) (e4 _)), hp_ne (by omega) (hp_set (hp_app f1)), hp_set (hp_ne (by omega) (hp_app f2)), by have := x0.len; simp; omega, fun m h1' h2 h3 h4 h5 h6 => ?_⟩
    rw [List.getElem?_set_ne (by omega), List.getElem?_set_ne (by omega), List.getElem?_append_left (by have := x0.len; omega)]
    exact x0.fr m h1' h2 h3 h4 h5 h6
  generalize tl.getD da.toNat 0 = ta' at *
  generalize pl.getD dm.toNat 0 = tm' at *
  generalize pl.getD dn.toNat 0 = tn' at *
  refine cds_by (fun _ => ?_) fun _ => ?_
  · simp_arith [f1, f2, f5, f6, e1, e2, e3, e4, e5, e6, g1, g2, g3, g4, g5, g6, g7, g8, g9, g10, add_ms, s_ownBi, sz2, set_mos, set_its]
    refine wr1 _ _ ?_
    omega
  simp_arith []
  refine cds_by (fun _ => ?_) fun _ => ?_
  · simp_arith [f1, f2, f5, f6, e1, e2, e3, e4, e5, e6, g1, g2, g3, g4, g5, g6, g7, g8, g9, g10, add_sm, s_ownBi, sz2, set_mos, set_its, Int.add_comm ta']
    refine wr1 _ _ ?_
    omega
  simp_arith []
  refine cds_by (fun _ => ?_) fun _ => ?_
  · simp_arith [f1, f2, f5, f6, e1, e2, e3, e4, e5, e6, g1, g2, g3, g4, g5, g6, g7, g8, g9, g10, sub_ms, s_ownBi, sz2, set_mos, set_its]
    refine wr1 _ _ ?_
    omega
  simp_arith [f1, f2, f5, f6, e1, e2, e3, e4, e5, e6, g1, g2, g3, g4, g5, g6, g7, g8, g9, g10, sub_mm, s_ownBi, sz2, set_sps, set_its]
  refine wr2 _ _ ?_
  omega
theorem wZ_sps {x y : A} {l : List Int} {f : Int → A} (h1 : listOf x h = some (l.map f)) (h2 : listOf y h = some (its l)) (i : Nat) : wZ x y i h = some ((l[i]?).map fun t => .tup [f t, .int t]) := by
  unfold wZ its at *
  rw [h1, h2]
  simp only [Option.bind_some, Option.map_some, List.getElem?_map]
  cases l[i]? <;> rfl
theorem agree_ok {xs xt xm xp : A} (h1 : listOf xs h = some (sps tl)) (h2 : listOf xt h = some (its tl)) (h3 : listOf xm h = some (mos pl)) (h4 : listOf xp h = some (its pl)) (l1 : tl.length < 1000) (l2 : pl.length < 1000) (q : k.q (.bl true) h) : (f_law_agree [xs, xt, xm, xp] h).sat k := by
  rw [r_law_agree]; unfold b_law_agree
  refine cut_seq (fun sl' h' => ∃ v4 v5, sl' = [some xs, some xt, some xm, some xp, v4, v5, none] ∧ h' = h) ?_ ?_
  · refine w_forW tl.length (fuel_gt (by omega)) (fun i sl' h' => i ≤ tl.length ∧ ∃ v4 v5, sl' = [some xs, some xt, some xm, some xp, v4, v5, none] ∧ h' = h) (fun i _ _ z => z.1) ?_
    simp_arith [h1, h2]
    refine ⟨⟨Nat.zero_le _, _, _, rfl⟩, ?_⟩
    rintro i sl' h' ⟨hi, v4, v5, rfl, rfl⟩
    rw [wZ_sps h1 h2]
    cases ht : tl[i]? with
    | none => exact .inr ⟨rfl, _, _, rfl, rfl⟩
    | some t =>
      refine .inl ⟨_, rfl, ?_⟩
      have : i < tl.length := (List.getElem?_eq_some_iff.mp ht).1
      simp_arith [is_span, BEq.rfl]
      exact ⟨this, _, _, rfl⟩
  rintro sl' h' ⟨v4, v5, rfl, rfl⟩
  refine cut_seq (fun sl' h'' => ∃ v4 v5 v6, sl' = [some xs, some xt, some xm, some xp, v4, v5, v6] ∧ h'' = h') ?_ ?_
  · refine w_forW pl.length (fuel_gt (by omega)) (fun i sl' h'' => i ≤ pl.length ∧ ∃ v4 v5 v6, sl' = [some xs, some xt, some xm, some xp, v4, v5, v6] ∧ h'' = h') (fun i _ _ z => z.1) ?_
    simp_arith [h3, h4]
    refine ⟨⟨Nat.zero_le _, _, _, _, rfl⟩, ?_⟩
    rintro i sl' h' ⟨hi, v4, v5, v6, rfl, rfl⟩
    rw [wZ_sps h3 h4]
    cases ht : pl[i]? with
    | none => exact .inr ⟨rfl, _, _, _, rfl, rfl⟩
    | some t =>
      refine .inl ⟨_, rfl, ?_⟩
      have : i < pl.length := (List.getElem?_eq_some_iff.mp ht).1
      simp_arith [is_number, isa_11, at_a1, BEq.rfl]
      exact ⟨this, _, _, _, rfl⟩
  rintro sl' h' ⟨v4, v5, v6, rfl, rfl⟩
  simp_arith []
  exact q
end
structure LI (h : Hs) (tl pl sums : List Int) : Prop where
  t : h[1]? = some (.lst (its tl))
  p : h[2]? = some (.lst (its pl))
  s : h[6]? = some (.lst (sps tl))
  m : h[9]? = some (.lst (mos pl))
  tt : h[11]? = some (.lst (sps sums))
  ss : h[12]? = some (.lst (its sums))
  len : 13 ≤ h.length
  l3 : tl.length = 3
  l2 : pl.length = 2
theorem LI.bag {h : Hs} {tl pl sums : List Int} (x : LI h tl pl sums) {n : Nat} {o : O} (hn : 13 ≤ n) : LI (h.set n o) tl pl sums :=
  ⟨hp_ne (by omega) x.t, hp_ne (by omega) x.p, hp_ne (by omega) x.s, hp_ne (by omega) x.m, hp_ne (by omega) x.tt, hp_ne (by omega) x.ss, by simp [x.len], x.l3, x.l2⟩
theorem LI.app {h : Hs} {tl pl sums : List Int} (x : LI h tl pl sums) {hs : Hs} : LI (h ++ hs) tl pl sums :=
  ⟨hp_app x.t, hp_app x.p, hp_app x.s, hp_app x.m, hp_app x.tt, hp_app x.ss, by have := x.len; simp; omega, x.l3, x.l2⟩
theorem sz3 (x y z : A) : Nat.ble [x, y, z].length sizeLine = true := by
  show Nat.ble 3 sizeLine = true
  decide
theorem take_succ_map {f : Int → A} {l : List Int} {i : Nat} {t : Int} (e : l[i]? = some t) : (l.take i).map f ++ [f t] = (l.take (i + 1)).map f := by
  rw [List.take_succ, e]; simp
theorem start_ok {k : KS} {f : FS} {ns : List Int} {h0 : Hs} (q : ∀ b tl pl, tl.length = 3 → pl.length = 2 → Bd 200 tl → Bd 200 pl → (f [some (.scr ns), some (.ref 0), some (.ref 1), some (.ref 2), some (.ref 6), some (.ref 9), none, none, none, none, none, none, none, none, none] ([b, .lst (its tl), .lst (its pl), .dead, .dead, .dead, .lst (sps tl), .dead, .dead, .lst (mos pl)])).sat k) :
    (sSeq (sSet 1 (eK (aCons (eVar 0) (aCons (eC (.int 0)) aNil)) f_law_bag))
  (sSeq (sSet 2 (eLstT (aCons (eK (aCons (eVar 1) aNil) f_law_number) (aCons (eK (aCons (eVar 1) aNil) f_law_number) (aCons (eK (aCons (eVar 1) aNil) f_law_number) aNil)))))
  (sSeq (sSet 3 (eLstT (aCons (eK (aCons (eVar 1) aNil) f_law_number) (aCons (eK (aCons (eVar 1) aNil) f_law_number) aNil))))
  (sSeq (sPar 4 5 (eLcWT (iL (eVar 2)) [14] (gName 14) tYes (eK (aCons (eVar 14) aNil) (mkF 0 f_Span_init))) (eLcWT (iL (eVar 3)) [14] (gName 14) tYes (eK (aCons (eVar 14) aNil) (mkF 1 f_Moment_init)))) f))) [some (.scr ns), none, none, none, none, none, none, none, none, none, none, none, none, none, none] []).sat k := by
  have b30 : ∀ v : Int, v.natAbs < 10 ^ 30 → v.natAbs < 2 ^ 200 := fun v hv => Nat.lt_trans hv (by decide)
  simp_arith []
  refine bag_ok (by decide) fun a b c => ?_
  simp_arith [List.length_nil, List.length_cons, List.nil_append, List.cons_append]
  refine number_ok (n := 0) (h := [bagO a b c]) rfl fun v1 a1 c1 h1 => ?_
  simp_arith []
  refine number_ok (n := 0) (h := [bagO a1 b c1]) rfl fun v2 a2 c2 h2 => ?_
  simp_arith []
  refine number_ok (n := 0) (h := [bagO a2 b c2]) rfl fun v3 a3 c3 h3 => ?_
  simp_arith [sz3]
  simp only [List.length_nil, List.length_cons, List.nil_append, List.cons_append, Nat.reduceAdd]
  refine number_ok (n := 0) (h := [bagO a3 b c3, .lst [.int v1, .int v2, .int v3]]) rfl fun v4 a4 c4 h4 => ?_
  simp_arith []
  refine number_ok (n := 0) (h := [bagO a4 b c4, .lst [.int v1, .int v2, .int v3]]) rfl fun v5 a5 c5 h5 => ?_
  simp only [↓q_ac, ↓q_ac2, ↓s_anil, ↓s_ok, ↓s_acons, ↓q_lt, ↓s_chk, sz2, true_and]
  simp only [List.set_cons_zero, List.length_nil, List.length_cons, List.nil_append, List.cons_append, Nat.reduceAdd]
  simp only [↓q_set, ↓n_seq, ↓s_seq, List.set_cons_succ, List.set_cons_zero]
  simp only [↓s_par]
  simp only [↓s_lcWT]
  obtain ⟨tl, htl⟩ : ∃ tl, tl = [v1, v2, v3] := ⟨_, rfl⟩
  obtain ⟨pl, hpl⟩ : ∃ pl, pl = [v4, v5] := ⟨_, rfl⟩
  have et : [A.int v1, A.int v2, A.int v3] = its tl := by rw [htl]; rfl
  have ep : [A.int v4, A.int v5] = its pl := by rw [hpl]; rfl
  have l3 : tl.length = 3 := by rw [htl]; rfl
  have l2 : pl.length = 2 := by rw [hpl]; rfl
  have bt : Bd 200 tl := by
    intro t ht; subst htl
    simp only [List.mem_cons, List.not_mem_nil, or_false] at ht
    rcases ht with rfl | rfl | rfl <;> exact b30 _ (by assumption)
  have bp : Bd 200 pl := by
    intro t ht; subst hpl
    simp only [List.mem_cons, List.not_mem_nil, or_false] at ht
    rcases ht with rfl | rfl <;> exact b30 _ (by assumption)
  rw [et, ep]
  refine w_lcW 3 (fuel_gt (by decide)) (fun i acc h => i ≤ 3 ∧ acc = sps (tl.take i) ∧ h = [bagO a5 b c5, .lst (its tl), .lst (its pl)] ++ List.replicate i .dead) (fun _ _ _ z => z.1) ?_
  simp_arith [wipeA]
  refine ⟨⟨rfl, rfl⟩, ?_⟩
  rintro i acc h' ⟨hi, rfl, rfl⟩
  have hw : wL (.ref 1) i ([bagO a5 b c5, .lst (its tl), .lst (its pl)] ++ List.replicate i .dead) = some ((tl[i]?).map A.int) := by
    show Option.map _ (some (its tl)) = _
    simp [its]
  rw [hw]
  cases ht : tl[i]? with
  | some t =>
    have hl : i < tl.length := (List.getElem?_eq_some_iff.mp ht).1
    refine .inl ⟨_, rfl, by simp [sps]; exact Nat.lt_of_le_of_lt (Nat.min_le_left _ _) (Nat.lt_of_le_of_lt hi (by decide)), ?_⟩
    simp_arith [↓mkSp]
    exact ⟨by omega, take_succ_map ht, by rw [List.replicate_succ']; simp⟩
  | none =>
    have hl : tl.length ≤ i := List.getElem?_eq_none_iff.mp ht
    refine .inr ⟨rfl, ?_⟩
    have : i = 3 := by omega
    subst this
    rw [List.take_of_length_le hl]
    simp_arith [List.length_nil, List.length_cons, List.nil_append, List.cons_append, List.replicate]
    refine w_lcW 2 (fuel_gt (by decide)) (fun i acc h => i ≤ 2 ∧ acc = mos (pl.take i) ∧ h = [bagO a5 b c5, .lst (its tl), .lst (its pl), .dead, .dead, .dead, .lst (sps tl)] ++ List.replicate i .dead) (fun _ _ _ z => z.1) ?_
    simp_arith [wipeA]
    refine ⟨⟨rfl, rfl⟩, ?_⟩
    rintro i acc h' ⟨hi, rfl, rfl⟩
    have hw : wL (.ref 2) i ([bagO a5 b c5, .lst (its tl), .lst (its pl), .dead, .dead, .dead, .lst (sps tl)] ++ List.replicate i .dead) = some ((pl[i]?).map A.int) := by
      show Option.map _ (some (its pl)) = _
      simp [its]
    rw [hw]
    cases ht : pl[i]? with
    | some t =>
      have hl : i < pl.length := (List.getElem?_eq_some_iff.mp ht).1
      refine .inl ⟨_, rfl, by simp [mos]; exact Nat.lt_of_le_of_lt (Nat.min_le_left _ _) (Nat.lt_of_le_of_lt hi (by decide)), ?_⟩
      simp_arith [↓mkMo]
      exact ⟨by omega, take_succ_map ht, by rw [List.replicate_succ']; simp⟩
    | none =>
      have hl : pl.length ≤ i := List.getElem?_eq_none_iff.mp ht
      refine .inr ⟨rfl, ?_⟩
      have : i = 2 := by omega
      subst this
      rw [List.take_of_length_le hl]
      simp_arith [List.length_nil, List.length_cons, List.nil_append, List.cons_append, List.replicate]
      exact q _ tl pl l3 l2 bt bp
theorem s_listA {x : A} {h : Hs} {ke : KE A} {xs : List A} (e : itemsOf x h = some xs) : (listA x h).sat ke = ke.q (.lst xs) h := by
  unfold listA; rw [e]; rfl
theorem LI.sd {h h' : Hs} {tl tl' pl sums : List Int} {nb : Nat} {b : Int} (x : LI h tl pl sums) (hn : 13 ≤ nb) (s : SD h h' nb 6 1 b tl') (l : tl'.length = 3) : LI h' tl' pl sums :=
  have hl := x.len
  ⟨s.t, (s.fr 2 (by omega) (by omega) (by omega) (by omega)).trans x.p, s.s, (s.fr 9 (by omega) (by omega) (by omega) (by omega)).trans x.m, (s.fr 11 (by omega) (by omega) (by omega) (by omega)).trans x.tt, (s.fr 12 (by omega) (by omega) (by omega) (by omega)).trans x.ss, Nat.le_trans hl s.len, l, x.l2⟩
theorem LI.md {h h' : Hs} {tl tl' pl pl' sums : List Int} {nb : Nat} {b : Int} (x : LI h tl pl sums) (hn : 13 ≤ nb) (s : MD h h' nb 9 2 6 1 b pl' tl') (l : tl'.length = 3) (l' : pl'.length = 2) : LI h' tl' pl' sums :=
  have hl := x.len
  ⟨s.t, s.p, s.s, s.m, (s.fr 11 (by omega) (by omega) (by omega) (by omega) (by omega) (by omega)).trans x.tt, (s.fr 12 (by omega) (by omega) (by omega) (by omega) (by omega) (by omega)).trans x.ss, Nat.le_trans hl s.len, l, l'⟩
structure IW (h : Hs) (tl pl sums : List Int) (n : Nat) : Prop where
  li : LI h tl pl sums
  sl : sums.length = n
  bt : Bd (200 + 4 * n) tl
  bp : Bd (200 + 4 * n) pl
def sl5 (ns : List Int) (kept : List Int) (v1 : Option A) (tot : Int) (v12 v13 : Option A) : Sl := [some (.scr ns), v1, some (.ref 1), some (.ref 2), some (.ref 6), some (.ref 9), some (.lst (sps kept)), some (sp tot), some (.int tot), some (.lst (its kept)), some (.ref 11), some (.ref 12), v12, v13, none]
theorem own_add {h : Hs} {k : KE A} {a b : Int} : (ownI mt_add 0 addI (sp a) (sp b) h).sat k = k.q (sp (a + b)) (h ++ [.dead]) := by
  rw [s_ownI]
  show (true = true ∧ (f_Span_add [sp a, sp b] h).sat k) = _
  rw [r_Span_add]; unfold b_Span_add
  simp_arith [isa_00, at_t0, ↓mkSp]
theorem turn_ok {k : KS} {ns kept tl pl sums : List Int} {h : Hs} {nb n : Nat} {a b c tot : Int} {v12 v13 : Option A} (x : IW h tl pl sums n) (hb : h[nb]? = some (bagO a b c)) (hn : 13 ≤ nb) (n60 : n < 60)
   (q : ∀ h' tl' pl' sums' tot' a' c', IW h' tl' pl' sums' (n + 1) → h'[nb]? = some (bagO a' b c') → k.n (sl5 ns kept (some (.ref nb)) tot' v12 v13) h') :
   ((sSeq (sIf (e2t (eK (aCons (eVar 1) (aCons (eC (.int 3)) aNil)) f_law_take) (eC (.int 0)) (aCmp (fun i j => decide (j < i)))) (sExpr (eK (aCons (eVar 1) (aCons (eVar 4) (aCons (eVar 2) aNil))) f_law_spans_done)) (sExpr (eK (aCons (eVar 1) (aCons (eVar 5) (aCons (eVar 3) (aCons (eVar 4) (aCons (eVar 2) aNil))))) f_law_moments_done)))
  (sSeq (sExpr (eMl (eVar 10) (aCons (eVar 7) aNil) appendA))
  (sSeq (sExpr (eMl (eVar 11) (aCons (eVar 8) aNil) appendA))
  (sSeq (sAug 7 (e2 (eVar 4) (eC (.int 0)) ixA) (ownI mt_add 0 addI))
  (sSeq (sSet 8 (e2 (eVar 8) (e2 (eVar 2) (eC (.int 0)) ixA) aAdd))
  (sIf (tOr (tNot (t1 (eK (aCons (eVar 4) (aCons (eVar 2) (aCons (eVar 5) (aCons (eVar 3) aNil)))) f_law_agree) truA)) (tNot (t1 (eK (aCons (eVar 7) (aCons (eVar 8) aNil)) f_law_is_span) truA))) (sRet (eC (.bl false))) sNx)))))) (sl5 ns kept (some (.ref nb)) tot v12 v13) h).sat k := by
  refine cut_seq (fun sl' h' => ∃ tl' pl' a' c', sl' = sl5 ns kept (some (.ref nb)) tot v12 v13 ∧ LI h' tl' pl' sums ∧ Bd (200 + 4 * (n + 1)) tl' ∧ Bd (200 + 4 * (n + 1)) pl' ∧ h'[nb]? = some (bagO a' b c')) ?_ ?_
  · unfold sl5
    simp_arith []
    refine take_ok hb (by decide) (by decide) fun d a1 c1 h0 h4 => ?_
    have y : LI (h.set nb (bagO a1 b c1)) tl pl sums := x.li.bag hn
    have hb1 : (h.set nb (bagO a1 b c1))[nb]? = some (bagO a1 b c1) := hp_set hb
    generalize h.set nb (bagO a1 b c1) = h1 at y hb1
    simp_arith []
    refine cds_d (fun _ => ?_) fun _ => ?_
    · simp_arith []
      refine spans_done_ok hb1 y.s y.t (by omega) (by omega) (by decide) y.l3 x.bt (by omega) (by omega) fun h' tl' s l b' => ?_
      simp_arith []
      obtain ⟨a', c', hb'⟩ := s.bag
      exact ⟨tl', pl, a', c', y.sd hn s l, b', x.bp.mono (by omega), hb'⟩
    · simp_arith []
      refine moments_done_ok hb1 y.m y.p y.s y.t (by omega) (by omega) (by omega) (by omega) (by decide) (by decide) (by decide) (by decide) (by decide) (by decide) y.l3 y.l2 x.bt x.bp fun h' tl' pl' s l l' b' b2' => ?_
      simp_arith []
      obtain ⟨a', c', hb'⟩ := s.bag
      exact ⟨tl', pl', a', c', y.md hn s l l', b', b2', hb'⟩
  rintro sl' h1 ⟨tl1, pl1, a1, c1, rfl, y, bt, bp, hb1⟩
  have hs : sums.length < sizeLine := by rw [x.sl]; exact Nat.lt_trans n60 (by decide)
  have s1 : Nat.blt (sps sums).length sizeLine = true := by
    show Nat.ble (Nat.succ _) sizeLine = true
    exact Nat.ble_eq_true_of_le (by simp only [sps, List.length_map]; exact hs)
  have s2 : Nat.blt (its sums).length sizeLine = true := by
    show Nat.ble (Nat.succ _) sizeLine = true
    exact Nat.ble_eq_true_of_le (by simp only [its, List.length_map]; exact hs)
  have e1 : (sps sums ++ [sp tot]) = sps (sums ++ [tot]) := by simp [sps]
  have e2 : (its sums ++ [.int tot]) = its (sums ++ [tot]) := by simp [its]
  have g1 : atI (sps tl1) 0 = some (sp (tl1.getD 0 0)) := at_sps (by decide) (by have := y.l3; omega)
  have g2 : atI (its tl1) 0 = some (.int (tl1.getD 0 0)) := at_its (by decide) (by have := y.l3; omega)
  generalize tl1.getD 0 0 = t0 at g1 g2
  unfold sl5
  have f1 := y.tt
  have f2 : ∀ o, (h1.set 11 o)[12]? = some (.lst (its sums)) := fun o => hp_ne (by decide) y.ss
  simp_arith [f1, f2, s1, s2, e1, e2]
  have z : LI ((h1.set 11 (.lst (sps (sums ++ [tot])))).set 12 (.lst (its (sums ++ [tot])))) tl1 pl1 (sums ++ [tot]) :=
    have hl := y.len
    ⟨hp_ne (by omega) (hp_ne (by omega) y.t), hp_ne (by omega) (hp_ne (by omega) y.p), hp_ne (by omega) (hp_ne (by omega) y.s), hp_ne (by omega) (hp_ne (by omega) y.m), hp_ne (by omega) (hp_set y.tt), hp_set (hp_ne (by omega) y.ss), by simp; omega, y.l3, y.l2⟩
  have hb2 : ((h1.set 11 (.lst (sps (sums ++ [tot])))).set 12 (.lst (its (sums ++ [tot]))))[nb]? = some (bagO a1 b c1) := hp_ne (by omega) (hp_ne (by omega) hb1)
  generalize ((h1.set 11 (.lst (sps (sums ++ [tot])))).set 12 (.lst (its (sums ++ [tot])))) = h2 at z hb2
  have z' : LI (h2 ++ [.dead]) tl1 pl1 (sums ++ [tot]) := z.app
  have hb3 : (h2 ++ [.dead])[nb]? = some (bagO a1 b c1) := hp_app hb2
  simp_arith [z.s, g1, own_add]
  generalize h2 ++ [.dead] = h3 at z' hb3
  simp_arith [z'.t, g2]
  refine agree_ok (tl := tl1) (pl := pl1) (by simp only [listOf_ref, z'.s, liO_lst]) (by simp only [listOf_ref, z'.t, liO_lst]) (by simp only [listOf_ref, z'.m, liO_lst]) (by simp only [listOf_ref, z'.p, liO_lst]) (by have := y.l3; omega) (by have := y.l2; omega) ?_
  simp_arith [is_span, BEq.rfl]
  exact q _ tl1 pl1 _ _ _ _ ⟨z', by simp [x.sl], bt, bp⟩ hb3
theorem rangeA_get {n i : Nat} {x : A} (e : (rangeA n)[i]? = some x) : i < n ∧ x = .int (Int.ofNat i) := by
  unfold rangeA at e
  rw [List.getElem?_map] at e
  by_cases h : i < n
  · rw [List.getElem?_range h] at e
    cases e
    exact ⟨h, rfl⟩
  · rw [List.getElem?_eq_none (by simp; omega)] at e
    cases e
theorem rangeA_len {n : Nat} : (rangeA n).length = n := by simp [rangeA]
theorem sat_true {m : Out A} (s : m.sat ⟨fun a _ => a = .bl true, fun _ _ => False⟩) : ∃ h', m = .ok (.bl true) h' := by
  cases m with
  | ok a h => exact ⟨h, by rw [show a = .bl true from s]⟩
  | ex x h => exact s.elim
  | bad => exact s.elim
theorem cut_now {m : OutS} {k : KS} (P : Sl → Hs → Prop) (s : m.sat ⟨P, fun _ _ => False, fun _ _ => False, fun _ _ => False, fun _ _ _ => False⟩) (c : ∀ sl h, P sl h → k.n sl h) : m.sat k :=
  OutS.sat_mono s c (fun _ _ z => z.elim) (fun _ _ z => z.elim) (fun _ _ z => z.elim) fun _ _ _ z => z.elim
theorem sz0 : Nat.ble ([] : List A).length sizeLine = true := (rfl)
theorem law_ok : ∀ ns : List Int, ns.length ≤ 63 → ∃ h', f_law [.scr ns] [] = .ok (.bl true) h' := by
  intro ns hns
  refine sat_true ?_
  rw [r_law]; unfold b_law
  refine start_ok (h0 := []) fun b0 tl pl l3 l2 bt bp => ?_
  have e6 : itemsOf (.ref 6) [b0, .lst (its tl), .lst (its pl), .dead, .dead, .dead, .lst (sps tl), .dead, .dead, .lst (mos pl)] = some (sps tl) := rfl
  simp_arith [s_listA e6, ↓mkSp]
  simp only [List.length_nil, List.length_cons, List.nil_append, List.cons_append, Nat.reduceAdd]
  have e1 : itemsOf (.ref 1) [b0, .lst (its tl), .lst (its pl), .dead, .dead, .dead, .lst (sps tl), .dead, .dead, .lst (mos pl), .dead] = some (its tl) := rfl
  simp_arith [s_listA e1, sz0]
  simp only [List.length_nil, List.length_cons, List.nil_append, List.cons_append, Nat.reduceAdd]
  refine cut_now (fun sl' h' => ∃ tl' pl' sums tot v1 v12 v13, sl' = sl5 ns tl v1 tot v12 v13 ∧ LI h' tl' pl' sums ∧ sums.length ≤ 60) ?_ ?_
  · refine w_for (fun xs i sl' h' => ∃ tl' pl' sums tot v1 v12 v13, sl' = sl5 ns tl v1 tot v12 v13 ∧ IW h' tl' pl' sums (12 * i)) ?_
    simp_arith []
    refine ⟨?_, ⟨tl, pl, [], 0, _, _, _, rfl, ⟨⟨rfl, rfl, rfl, rfl, rfl, rfl, by simp, l3, l2⟩, rfl, bt, bp⟩⟩, ?_, ?_⟩
    · have : Int.ofNat ns.length = (ns.length : Int) := rfl
      split <;> split <;> omega
    · rintro i x sl' h' hx ⟨tl', pl', sums, tot, v1, v12, v13, rfl, z⟩
      obtain ⟨hi, rfl⟩ := rangeA_get hx
      have hi5 : i < 5 := by
        have : Int.ofNat ns.length = (ns.length : Int) := rfl
        revert hi
        split <;> split <;> omega
      unfold sl5
      simp_arith []
      refine bag_ok (Int.ofNat_zero_le i) fun a b c => ?_
      have z' : IW (h' ++ [bagO a b c]) tl' pl' sums (12 * i) := ⟨z.li.app, z.sl, z.bt, z.bp⟩
      have hl := z.li.len
      simp_arith []
      refine w_for (fun xs j sl' h1 => ∃ tl' pl' sums tot v13 a c, sl' = sl5 ns tl (some (.ref h'.length)) tot (some (.int (Int.ofNat i))) v13 ∧ IW h1 tl' pl' sums (12 * i + j) ∧ h1[h'.length]? = some (bagO a b c)) ?_
      simp only [↓s_iRange, ↓s_c, ↓q_ir]
      refine ⟨by decide, ?_⟩
      refine ⟨⟨tl', pl', sums, tot, _, a, c, rfl, z', hp_new⟩, ?_, ?_⟩
      · rintro j x sl' h1 hx ⟨tl', pl', sums, tot, v13, a, c, rfl, z, hb⟩
        obtain ⟨hj, rfl⟩ := rangeA_get hx
        unfold sl5
        simp only [↓s_gname, ↓n_no, ↓n_seq, List.set_cons_succ, List.set_cons_zero]
        show ((sSeq _ _) (sl5 ns tl (some (.ref h'.length)) tot (some (.int (Int.ofNat i))) (some (.int (Int.ofNat j)))) h1).sat _
        refine turn_ok z hb hl (by omega) fun h2 tl2 pl2 sums2 tot2 a2 c2 z2 hb2 => ?_
        exact ⟨tl2, pl2, sums2, tot2, _, a2, c2, rfl, z2, hb2⟩
      · rintro sl' h1 ⟨tl', pl', sums, tot, v13, a, c, rfl, z, hb⟩
        rw [rangeA_len] at z
        exact ⟨tl', pl', sums, tot, _, _, _, rfl, z⟩
    · rintro sl' h1 ⟨tl', pl', sums, tot, v1, v12, v13, rfl, z⟩
      refine ⟨tl', pl', sums, tot, _, _, _, rfl, z.li, ?_⟩
      rw [z.sl, rangeA_len]
      have : Int.ofNat ns.length = (ns.length : Int) := rfl
      split <;> split <;> omega
  rintro sl' h1 ⟨tl', pl', sums, tot, v1, v12, v13, rfl, z, hs⟩
  unfold sl5
  simp_arith []
  refine agree_ok (tl := tl) (pl := pl') rfl rfl (by simp only [listOf_ref, z.m, liO_lst]) (by simp only [listOf_ref, z.p, liO_lst]) (by omega) (by have := z.l2; omega) ?_
  simp_arith []
  refine agree_ok (tl := sums) (pl := pl') (by simp only [listOf_ref, z.tt, liO_lst]) (by simp only [listOf_ref, z.ss, liO_lst]) (by simp only [listOf_ref, z.m, liO_lst]) (by simp only [listOf_ref, z.p, liO_lst]) (by omega) (by have := z.l2; omega) ?_
  simp_arith []
theorem cx_false {P : Program} {w : World} (H : Hp) (s : Shared) (e : Value) (s' : Shared) (h : L2.CX P w [] H s (fun _ _ _ => False) e s') : False := by
  obtain ⟨_, _, _, _, _, _, _, _, _, _, _, _, z⟩ := h
  exact z.elim
theorem all_mk {l : PySem.W.OpenLaw} {w : World} {K : PySem.W.Frag} {h : Heap} {mg : Str → Option Value} {fa C_0 C_1 f_Span_init_ f_Moment_init_ f_Span_add_ f_Span_sub_ f_Span_neg_ f_Span_abs_ f_Span_mul_ f_Span_rmul_ f_Span_floordiv_ f_Span_mod_ f_Moment_add_ f_Moment_sub_ f_law_bag_ f_law_take_ f_law_number_ f_law_is_number_ f_law_is_span_ f_law_spans_done_ f_law_moments_done_ f_law_agree_ f_law_ : Addr} (X : K.In h) (Gn : h.Ns mainGlobals mg) (hfa : mg "law" = some (.ref fa))
    {od_Span_init an_Span_init od_Moment_init an_Moment_init od_Span_add an_Span_add od_Span_sub an_Span_sub od_Span_neg an_Span_neg od_Span_abs an_Span_abs od_Span_mul an_Span_mul od_Span_rmul an_Span_rmul od_Span_floordiv an_Span_floordiv od_Span_mod an_Span_mod od_Moment_add an_Moment_add od_Moment_sub an_Moment_sub od_law_bag an_law_bag od_law_take an_law_take od_law_number an_law_number od_law_is_number an_law_is_number od_law_is_span an_law_is_span od_law_spans_done an_law_spans_done od_law_moments_done an_law_moments_done od_law_agree an_law_agree od_law an_law : Option Addr} {sl_Span_init sl_Moment_init sl_Span_add sl_Span_sub sl_Span_neg sl_Span_abs sl_Span_mul sl_Span_rmul sl_Span_floordiv sl_Span_mod sl_Moment_add sl_Moment_sub sl_law_bag sl_law_take sl_law_number sl_law_is_number sl_law_is_span sl_law_spans_done sl_law_moments_done sl_law_agree sl_law : Array (Option Value)} {oc_Span_init kV_Span_init dc_Span_init pm_Span_init cd_Span_init ct_Span_init oc_Moment_init kV_Moment_init dc_Moment_init pm_Moment_init cd_Moment_init ct_Moment_init oc_Span_add kV_Span_add dc_Span_add pm_Span_add cd_Span_add ct_Span_add oc_Span_sub kV_Span_sub dc_Span_sub pm_Span_sub cd_Span_sub ct_Span_sub oc_Span_neg kV_Span_neg dc_Span_neg pm_Span_neg cd_Span_neg ct_Span_neg oc_Span_abs kV_Span_abs dc_Span_abs pm_Span_abs cd_Span_abs ct_Span_abs oc_Span_mul kV_Span_mul dc_Span_mul pm_Span_mul cd_Span_mul ct_Span_mul oc_Span_rmul kV_Span_rmul dc_Span_rmul pm_Span_rmul cd_Span_rmul ct_Span_rmul oc_Span_floordiv kV_Span_floordiv dc_Span_floordiv pm_Span_floordiv cd_Span_floordiv ct_Span_floordiv oc_Span_mod kV_Span_mod dc_Span_mod pm_Span_mod cd_Span_mod ct_Span_mod oc_Moment_add kV_Moment_add dc_Moment_add pm_Moment_add cd_Moment_add ct_Moment_add oc_Moment_sub kV_Moment_sub dc_Moment_sub pm_Moment_sub cd_Moment_sub ct_Moment_sub oc_law_bag kV_law_bag dc_law_bag pm_law_bag cd_law_bag ct_law_bag oc_law_take kV_law_take dc_law_take pm_law_take cd_law_take ct_law_take oc_law_number kV_law_number dc_law_number pm_law_number cd_law_number ct_law_number oc_law_is_number kV_law_is_number dc_law_is_number pm_law_is_number cd_law_is_number ct_law_is_number oc_law_is_span kV_law_is_span dc_law_is_span pm_law_is_span cd_law_is_span ct_law_is_span oc_law_spans_done kV_law_spans_done dc_law_spans_done pm_law_spans_done cd_law_spans_done ct_law_spans_done oc_law_moments_done kV_law_moments_done dc_law_moments_done pm_law_moments_done cd_law_moments_done ct_law_moments_done oc_law_agree kV_law_agree dc_law_agree pm_law_agree cd_law_agree ct_law_agree oc_law kV_law dc_law pm_law cd_law ct_law : Value}
    {cD_0 cD_1 : ClassData}
    (aC_0 : PySem.W.nsIn K mainGlobals "Span" = some (some (.ref C_0)))
    (pg_0 : PySem.W.plainGet K C_0 Str.empty = true)
    (hd_0 : PySem.W.hasDictIn K C_0 = true)
    (po_0 : PySem.W.plainOver K C_0 = true)
    (sa_0 : PySem.W.findIn K (.ref C_0) "__setattr__" = some (some (.builtin "object.__setattr__")))
    (mk_0 : PySem.W.makesIn K C_0 = true)
    (kc_0 : PySem.W.keepIn K (.ref C_0) = true)
    (ha_0 : PySem.W.findIn K (.ref C_0) "__class__" = some (some (.builtin "object.__class__")))
    (hm_0 : PySem.W.mroIn K C_0 (.type "object") = some true)
    (tc_0 : PySem.W.typeIn K (.ref C_0) = some (.type "type"))
    (sf_0 : PySem.W.selfFirst K C_0 = true)
    (cl_0 : PySem.W.clsIn K C_0 = some cD_0)
    (na_0_ticks : PySem.W.findIn K (.ref C_0) "ticks" = some none)
    (st_0_int : PySem.W.subIn K (.ref C_0) (.type "int") = some false)
    (st_0_str : PySem.W.subIn K (.ref C_0) (.type "str") = some false)
    (st_0_bool : PySem.W.subIn K (.ref C_0) (.type "bool") = some false)
    (ts_int_0 : PySem.W.subIn K (.type "int") (.ref C_0) = some false)
    (ts_str_0 : PySem.W.subIn K (.type "str") (.ref C_0) = some false)
    (ts_bool_0 : PySem.W.subIn K (.type "bool") (.ref C_0) = some false)
    (ts_NoneType_0 : PySem.W.subIn K (.type "NoneType") (.ref C_0) = some false)
    (ts_list_0 : PySem.W.subIn K (.type "list") (.ref C_0) = some false)
    (ts_tuple_0 : PySem.W.subIn K (.type "tuple") (.ref C_0) = some false)
    (aC_1 : PySem.W.nsIn K mainGlobals "Moment" = some (some (.ref C_1)))
    (pg_1 : PySem.W.plainGet K C_1 Str.empty = true)
    (hd_1 : PySem.W.hasDictIn K C_1 = true)
    (po_1 : PySem.W.plainOver K C_1 = true)
    (sa_1 : PySem.W.findIn K (.ref C_1) "__setattr__" = some (some (.builtin "object.__setattr__")))
    (mk_1 : PySem.W.makesIn K C_1 = true)
    (kc_1 : PySem.W.keepIn K (.ref C_1) = true)
    (ha_1 : PySem.W.findIn K (.ref C_1) "__class__" = some (some (.builtin "object.__class__")))
    (hm_1 : PySem.W.mroIn K C_1 (.type "object") = some true)
    (tc_1 : PySem.W.typeIn K (.ref C_1) = some (.type "type"))
    (sf_1 : PySem.W.selfFirst K C_1 = true)
    (cl_1 : PySem.W.clsIn K C_1 = some cD_1)
    (na_1_at : PySem.W.findIn K (.ref C_1) "at" = some none)
    (st_1_int : PySem.W.subIn K (.ref C_1) (.type "int") = some false)
    (st_1_str : PySem.W.subIn K (.ref C_1) (.type "str") = some false)
    (st_1_bool : PySem.W.subIn K (.ref C_1) (.type "bool") = some false)
    (ts_int_1 : PySem.W.subIn K (.type "int") (.ref C_1) = some false)
    (ts_str_1 : PySem.W.subIn K (.type "str") (.ref C_1) = some false)
    (ts_bool_1 : PySem.W.subIn K (.type "bool") (.ref C_1) = some false)
    (ts_NoneType_1 : PySem.W.subIn K (.type "NoneType") (.ref C_1) = some false)
    (ts_list_1 : PySem.W.subIn K (.type "list") (.ref C_1) = some false)
    (ts_tuple_1 : PySem.W.subIn K (.type "tuple") (.ref C_1) = some false)
    (sub_0_0 : PySem.W.subIn K (.ref C_0) (.ref C_0) = some true)
    (sub_0_1 : PySem.W.subIn K (.ref C_0) (.ref C_1) = some false)
    (sub_1_0 : PySem.W.subIn K (.ref C_1) (.ref C_0) = some false)
    (sub_1_1 : PySem.W.subIn K (.ref C_1) (.ref C_1) = some true)
    (hn : PySem.W.specialIn K (.builtin "object.__class__") "__get__" = some (some (.builtin "getset_descriptor.__get__")))
    (htk : PySem.W.takesIn K (.builtin "object.__class__") = some true)
    (a_Span_init : PySem.W.findIn K (.ref C_0) "__init__" = some (some (.ref f_Span_init_)))
    (i_Span_init : PySem.W.isFn K (.ref f_Span_init_) = true)
    (l_Span_init : K.lookup f_Span_init_ = some ⟨oc_Span_init, od_Span_init, .func (PySem.W.fnOf "__init__" "Span.__init__" (defArgs s_Span_init) (defBody s_Span_init) (defScope s_Span_init) .none kV_Span_init dc_Span_init pm_Span_init an_Span_init cd_Span_init ct_Span_init), sl_Span_init⟩)
    (c_Span_init : PySem.W.codeIn K cd_Span_init "Span.__init__" = true)
    (k_Span_init : PySem.W.keepIn K (.ref f_Span_init_) = true)
    (a_Moment_init : PySem.W.findIn K (.ref C_1) "__init__" = some (some (.ref f_Moment_init_)))
    (i_Moment_init : PySem.W.isFn K (.ref f_Moment_init_) = true)
    (l_Moment_init : K.lookup f_Moment_init_ = some ⟨oc_Moment_init, od_Moment_init, .func (PySem.W.fnOf "__init__" "Moment.__init__" (defArgs s_Moment_init) (defBody s_Moment_init) (defScope s_Moment_init) .none kV_Moment_init dc_Moment_init pm_Moment_init an_Moment_init cd_Moment_init ct_Moment_init), sl_Moment_init⟩)
    (c_Moment_init : PySem.W.codeIn K cd_Moment_init "Moment.__init__" = true)
    (k_Moment_init : PySem.W.keepIn K (.ref f_Moment_init_) = true)
    (a_Span_add : PySem.W.findIn K (.ref C_0) "__add__" = some (some (.ref f_Span_add_)))
    (i_Span_add : PySem.W.isFn K (.ref f_Span_add_) = true)
    (l_Span_add : K.lookup f_Span_add_ = some ⟨oc_Span_add, od_Span_add, .func (PySem.W.fnOf "__add__" "Span.__add__" (defArgs s_Span_add) (defBody s_Span_add) (defScope s_Span_add) .none kV_Span_add dc_Span_add pm_Span_add an_Span_add cd_Span_add ct_Span_add), sl_Span_add⟩)
    (c_Span_add : PySem.W.codeIn K cd_Span_add "Span.__add__" = true)
    (k_Span_add : PySem.W.keepIn K (.ref f_Span_add_) = true)
    (a_Span_sub : PySem.W.findIn K (.ref C_0) "__sub__" = some (some (.ref f_Span_sub_)))
    (i_Span_sub : PySem.W.isFn K (.ref f_Span_sub_) = true)
    (l_Span_sub : K.lookup f_Span_sub_ = some ⟨oc_Span_sub, od_Span_sub, .func (PySem.W.fnOf "__sub__" "Span.__sub__" (defArgs s_Span_sub) (defBody s_Span_sub) (defScope s_Span_sub) .none kV_Span_sub dc_Span_sub pm_Span_sub an_Span_sub cd_Span_sub ct_Span_sub), sl_Span_sub⟩)
    (c_Span_sub : PySem.W.codeIn K cd_Span_sub "Span.__sub__" = true)
    (k_Span_sub : PySem.W.keepIn K (.ref f_Span_sub_) = true)
    (a_Span_neg : PySem.W.findIn K (.ref C_0) "__neg__" = some (some (.ref f_Span_neg_)))
    (i_Span_neg : PySem.W.isFn K (.ref f_Span_neg_) = true)
    (l_Span_neg : K.lookup f_Span_neg_ = some ⟨oc_Span_neg, od_Span_neg, .func (PySem.W.fnOf "__neg__" "Span.__neg__" (defArgs s_Span_neg) (defBody s_Span_neg) (defScope s_Span_neg) .none kV_Span_neg dc_Span_neg pm_Span_neg an_Span_neg cd_Span_neg ct_Span_neg), sl_Span_neg⟩)
    (c_Span_neg : PySem.W.codeIn K cd_Span_neg "Span.__neg__" = true)
    (k_Span_neg : PySem.W.keepIn K (.ref f_Span_neg_) = true)
    (a_Span_abs : PySem.W.findIn K (.ref C_0) "__abs__" = some (some (.ref f_Span_abs_)))
    (i_Span_abs : PySem.W.isFn K (.ref f_Span_abs_) = true)
    (l_Span_abs : K.lookup f_Span_abs_ = some ⟨oc_Span_abs, od_Span_abs, .func (PySem.W.fnOf "__abs__" "Span.__abs__" (defArgs s_Span_abs) (defBody s_Span_abs) (defScope s_Span_abs) .none kV_Span_abs dc_Span_abs pm_Span_abs an_Span_abs cd_Span_abs ct_Span_abs), sl_Span_abs⟩)
    (c_Span_abs : PySem.W.codeIn K cd_Span_abs "Span.__abs__" = true)
    (k_Span_abs : PySem.W.keepIn K (.ref f_Span_abs_) = true)
    (a_Span_mul : PySem.W.findIn K (.ref C_0) "__mul__" = some (some (.ref f_Span_mul_)))
    (i_Span_mul : PySem.W.isFn K (.ref f_Span_mul_) = true)
    (l_Span_mul : K.lookup f_Span_mul_ = some ⟨oc_Span_mul, od_Span_mul, .func (PySem.W.fnOf "__mul__" "Span.__mul__" (defArgs s_Span_mul) (defBody s_Span_mul) (defScope s_Span_mul) .none kV_Span_mul dc_Span_mul pm_Span_mul an_Span_mul cd_Span_mul ct_Span_mul), sl_Span_mul⟩)
    (c_Span_mul : PySem.W.codeIn K cd_Span_mul "Span.__mul__" = true)
    (k_Span_mul : PySem.W.keepIn K (.ref f_Span_mul_) = true)
    (a_Span_rmul : PySem.W.findIn K (.ref C_0) "__rmul__" = some (some (.ref f_Span_rmul_)))
    (i_Span_rmul : PySem.W.isFn K (.ref f_Span_rmul_) = true)
    (l_Span_rmul : K.lookup f_Span_rmul_ = some ⟨oc_Span_rmul, od_Span_rmul, .func (PySem.W.fnOf "__rmul__" "Span.__rmul__" (defArgs s_Span_rmul) (defBody s_Span_rmul) (defScope s_Span_rmul) .none kV_Span_rmul dc_Span_rmul pm_Span_rmul an_Span_rmul cd_Span_rmul ct_Span_rmul), sl_Span_rmul⟩)
    (c_Span_rmul : PySem.W.codeIn K cd_Span_rmul "Span.__rmul__" = true)
    (k_Span_rmul : PySem.W.keepIn K (.ref f_Span_rmul_) = true)
    (a_Span_floordiv : PySem.W.findIn K (.ref C_0) "__floordiv__" = some (some (.ref f_Span_floordiv_)))
    (i_Span_floordiv : PySem.W.isFn K (.ref f_Span_floordiv_) = true)
    (l_Span_floordiv : K.lookup f_Span_floordiv_ = some ⟨oc_Span_floordiv, od_Span_floordiv, .func (PySem.W.fnOf "__floordiv__" "Span.__floordiv__" (defArgs s_Span_floordiv) (defBody s_Span_floordiv) (defScope s_Span_floordiv) .none kV_Span_floordiv dc_Span_floordiv pm_Span_floordiv an_Span_floordiv cd_Span_floordiv ct_Span_floordiv), sl_Span_floordiv⟩)
    (c_Span_floordiv : PySem.W.codeIn K cd_Span_floordiv "Span.__floordiv__" = true)
    (k_Span_floordiv : PySem.W.keepIn K (.ref f_Span_floordiv_) = true)
    (a_Span_mod : PySem.W.findIn K (.ref C_0) "__mod__" = some (some (.ref f_Span_mod_)))
    (i_Span_mod : PySem.W.isFn K (.ref f_Span_mod_) = true)
    (l_Span_mod : K.lookup f_Span_mod_ = some ⟨oc_Span_mod, od_Span_mod, .func (PySem.W.fnOf "__mod__" "Span.__mod__" (defArgs s_Span_mod) (defBody s_Span_mod) (defScope s_Span_mod) .none kV_Span_mod dc_Span_mod pm_Span_mod an_Span_mod cd_Span_mod ct_Span_mod), sl_Span_mod⟩)
    (c_Span_mod : PySem.W.codeIn K cd_Span_mod "Span.__mod__" = true)
    (k_Span_mod : PySem.W.keepIn K (.ref f_Span_mod_) = true)
    (a_Moment_add : PySem.W.findIn K (.ref C_1) "__add__" = some (some (.ref f_Moment_add_)))
    (i_Moment_add : PySem.W.isFn K (.ref f_Moment_add_) = true)
    (l_Moment_add : K.lookup f_Moment_add_ = some ⟨oc_Moment_add, od_Moment_add, .func (PySem.W.fnOf "__add__" "Moment.__add__" (defArgs s_Moment_add) (defBody s_Moment_add) (defScope s_Moment_add) .none kV_Moment_add dc_Moment_add pm_Moment_add an_Moment_add cd_Moment_add ct_Moment_add), sl_Moment_add⟩)
    (c_Moment_add : PySem.W.codeIn K cd_Moment_add "Moment.__add__" = true)
    (k_Moment_add : PySem.W.keepIn K (.ref f_Moment_add_) = true)
    (a_Moment_sub : PySem.W.findIn K (.ref C_1) "__sub__" = some (some (.ref f_Moment_sub_)))
    (i_Moment_sub : PySem.W.isFn K (.ref f_Moment_sub_) = true)
    (l_Moment_sub : K.lookup f_Moment_sub_ = some ⟨oc_Moment_sub, od_Moment_sub, .func (PySem.W.fnOf "__sub__" "Moment.__sub__" (defArgs s_Moment_sub) (defBody s_Moment_sub) (defScope s_Moment_sub) .none kV_Moment_sub dc_Moment_sub pm_Moment_sub an_Moment_sub cd_Moment_sub ct_Moment_sub), sl_Moment_sub⟩)
    (c_Moment_sub : PySem.W.codeIn K cd_Moment_sub "Moment.__sub__" = true)
    (k_Moment_sub : PySem.W.keepIn K (.ref f_Moment_sub_) = true)
    (a_law_bag : PySem.W.nsIn K mainGlobals "_law_bag" = some (some (.ref f_law_bag_)))
    (l_law_bag : K.lookup f_law_bag_ = some ⟨oc_law_bag, od_law_bag, .func (PySem.W.fnOf "_law_bag" "_law_bag" (defArgs s_law_bag) (defBody s_law_bag) (defScope s_law_bag) .none kV_law_bag dc_law_bag pm_law_bag an_law_bag cd_law_bag ct_law_bag), sl_law_bag⟩)
    (c_law_bag : PySem.W.codeIn K cd_law_bag "_law_bag" = true)
    (k_law_bag : PySem.W.keepIn K (.ref f_law_bag_) = true)
    (a_law_take : PySem.W.nsIn K mainGlobals "_law_take" = some (some (.ref f_law_take_)))
    (l_law_take : K.lookup f_law_take_ = some ⟨oc_law_take, od_law_take, .func (PySem.W.fnOf "_law_take" "_law_take" (defArgs s_law_take) (defBody s_law_take) (defScope s_law_take) .none kV_law_take dc_law_take pm_law_take an_law_take cd_law_take ct_law_take), sl_law_take⟩)
    (c_law_take : PySem.W.codeIn K cd_law_take "_law_take" = true)
    (k_law_take : PySem.W.keepIn K (.ref f_law_take_) = true)
    (a_law_number : PySem.W.nsIn K mainGlobals "_law_number" = some (some (.ref f_law_number_)))
    (l_law_number : K.lookup f_law_number_ = some ⟨oc_law_number, od_law_number, .func (PySem.W.fnOf "_law_number" "_law_number" (defArgs s_law_number) (defBody s_law_number) (defScope s_law_number) .none kV_law_number dc_law_number pm_law_number an_law_number cd_law_number ct_law_number), sl_law_number⟩)
    (c_law_number : PySem.W.codeIn K cd_law_number "_law_number" = true)
    (k_law_number : PySem.W.keepIn K (.ref f_law_number_) = true)
    (a_law_is_number : PySem.W.nsIn K mainGlobals "_law_is_number" = some (some (.ref f_law_is_number_)))
    (l_law_is_number : K.lookup f_law_is_number_ = some ⟨oc_law_is_number, od_law_is_number, .func (PySem.W.fnOf "_law_is_number" "_law_is_number" (defArgs s_law_is_number) (defBody s_law_is_number) (defScope s_law_is_number) .none kV_law_is_number dc_law_is_number pm_law_is_number an_law_is_number cd_law_is_number ct_law_is_number), sl_law_is_number⟩)
    (c_law_is_number : PySem.W.codeIn K cd_law_is_number "_law_is_number" = true)
    (k_law_is_number : PySem.W.keepIn K (.ref f_law_is_number_) = true)
    (a_law_is_span : PySem.W.nsIn K mainGlobals "_law_is_span" = some (some (.ref f_law_is_span_)))
    (l_law_is_span : K.lookup f_law_is_span_ = some ⟨oc_law_is_span, od_law_is_span, .func (PySem.W.fnOf "_law_is_span" "_law_is_span" (defArgs s_law_is_span) (defBody s_law_is_span) (defScope s_law_is_span) .none kV_law_is_span dc_law_is_span pm_law_is_span an_law_is_span cd_law_is_span ct_law_is_span), sl_law_is_span⟩)
    (c_law_is_span : PySem.W.codeIn K cd_law_is_span "_law_is_span" = true)
    (k_law_is_span : PySem.W.keepIn K (.ref f_law_is_span_) = true)
    (a_law_spans_done : PySem.W.nsIn K mainGlobals "_law_spans_done" = some (some (.ref f_law_spans_done_)))
    (l_law_spans_done : K.lookup f_law_spans_done_ = some ⟨oc_law_spans_done, od_law_spans_done, .func (PySem.W.fnOf "_law_spans_done" "_law_spans_done" (defArgs s_law_spans_done) (defBody s_law_spans_done) (defScope s_law_spans_done) .none kV_law_spans_done dc_law_spans_done pm_law_spans_done an_law_spans_done cd_law_spans_done ct_law_spans_done), sl_law_spans_done⟩)
    (c_law_spans_done : PySem.W.codeIn K cd_law_spans_done "_law_spans_done" = true)
    (k_law_spans_done : PySem.W.keepIn K (.ref f_law_spans_done_) = true)
    (a_law_moments_done : PySem.W.nsIn K mainGlobals "_law_moments_done" = some (some (.ref f_law_moments_done_)))
    (l_law_moments_done : K.lookup f_law_moments_done_ = some ⟨oc_law_moments_done, od_law_moments_done, .func (PySem.W.fnOf "_law_moments_done" "_law_moments_done" (defArgs s_law_moments_done) (defBody s_law_moments_done) (defScope s_law_moments_done) .none kV_law_moments_done dc_law_moments_done pm_law_moments_done an_law_moments_done cd_law_moments_done ct_law_moments_done), sl_law_moments_done⟩)
    (c_law_moments_done : PySem.W.codeIn K cd_law_moments_done "_law_moments_done" = true)
    (k_law_moments_done : PySem.W.keepIn K (.ref f_law_moments_done_) = true)
    (a_law_agree : PySem.W.nsIn K mainGlobals "_law_agree" = some (some (.ref f_law_agree_)))
    (l_law_agree : K.lookup f_law_agree_ = some ⟨oc_law_agree, od_law_agree, .func (PySem.W.fnOf "_law_agree" "_law_agree" (defArgs s_law_agree) (defBody s_law_agree) (defScope s_law_agree) .none kV_law_agree dc_law_agree pm_law_agree an_law_agree cd_law_agree ct_law_agree), sl_law_agree⟩)
    (c_law_agree : PySem.W.codeIn K cd_law_agree "_law_agree" = true)
    (k_law_agree : PySem.W.keepIn K (.ref f_law_agree_) = true)
    (a_law : PySem.W.nsIn K mainGlobals "law" = some (some (.ref f_law_)))
    (l_law : K.lookup f_law_ = some ⟨oc_law, od_law, .func (PySem.W.fnOf "law" "law" (defArgs s_law) (defBody s_law) (defScope s_law) .none kV_law dc_law pm_law an_law cd_law ct_law), sl_law⟩)
    (c_law : PySem.W.codeIn K cd_law "law" = true)
    (k_law : PySem.W.keepIn K (.ref f_law_) = true)
    (z_isinstance : PySem.W.nsIn K mainGlobals "isinstance" = some none)
    (z_abs : PySem.W.nsIn K mainGlobals "abs" = some none)
    (z_int : PySem.W.nsIn K mainGlobals "int" = some none)
    (z_len : PySem.W.nsIn K mainGlobals "len" = some none)
    (z_bool : PySem.W.nsIn K mainGlobals "bool" = some none)
    (z_zip : PySem.W.nsIn K mainGlobals "zip" = some none)
    (z_list : PySem.W.nsIn K mainGlobals "list" = some none)
    (z_range : PySem.W.nsIn K mainGlobals "range" = some none)
    (z_max : PySem.W.nsIn K mainGlobals "max" = some none)
    (z_min : PySem.W.nsIn K mainGlobals "min" = some none)
    (mro_0 : cD_0.mro = [.ref C_0, .type "object"])
    (ni_0 : PySem.W.findIn K (.ref C_0) "__iadd__" = some none)
    (nio : PySem.W.findIn K (.type "object") "__iadd__" = some none)
    (rf_0_Sub : PySem.W.findIn K (.ref C_0) "__rsub__" = some none)
    (rf_1_Sub : PySem.W.findIn K (.ref C_1) "__rsub__" = some none)
    (rf_0_Add : PySem.W.findIn K (.ref C_0) "__radd__" = some none)
    (rf_1_Add : PySem.W.findIn K (.ref C_1) "__radd__" = some none)
    (im1 : PySem.W.findIn K (.type "int") "__mul__" = some (some (.builtin "int.__mul__")))
    (im2 : PySem.W.findIn K (.type "int") "__rmul__" = some (some (.builtin "int.__rmul__")))
    (rf_0_FloorDiv : PySem.W.findIn K (.ref C_0) "__rfloordiv__" = some none)
    (rf_0_Mod : PySem.W.findIn K (.ref C_0) "__rmod__" = some none)
    : ∃ fd : FuncData, (∀ (s : Shared) (v : Value), BindsTo s fd ⟨[v], []⟩ [("_law_script", v)]) ∧ ∀ base : Heap, K.In base → base.Ns mainGlobals mg → FnOk l.prog w K mg base (L2.CX l.prog w) 6 fa fd ["_law_script"] (spLaw K) := by
  have e := hfa.symm.trans (PySem.W.mg_of X Gn a_law)
  cases e
  have cr_0 : Cls K C_0 := ⟨pg_0, hd_0, po_0, sa_0⟩
  have cr_1 : Cls K C_1 := ⟨pg_1, hd_1, po_1, sa_1⟩
  have F_Span_init := fun_mk (st := s_Span_init) l_Span_init c_Span_init k_Span_init
  have b_Span_init := F_Span_init.binds (ps := ["self", "ticks"]) fun _ _ _ _ _ _ us hl => match us, hl with | [_, _], _ => rfl
  have F_Moment_init := fun_mk (st := s_Moment_init) l_Moment_init c_Moment_init k_Moment_init
  have b_Moment_init := F_Moment_init.binds (ps := ["self", "at"]) fun _ _ _ _ _ _ us hl => match us, hl with | [_, _], _ => rfl
  have F_Span_add := fun_mk (st := s_Span_add) l_Span_add c_Span_add k_Span_add
  have b_Span_add := F_Span_add.binds (ps := ["self", "other"]) fun _ _ _ _ _ _ us hl => match us, hl with | [_, _], _ => rfl
  have F_Span_sub := fun_mk (st := s_Span_sub) l_Span_sub c_Span_sub k_Span_sub
  have b_Span_sub := F_Span_sub.binds (ps := ["self", "other"]) fun _ _ _ _ _ _ us hl => match us, hl with | [_, _], _ => rfl
  have F_Span_neg := fun_mk (st := s_Span_neg) l_Span_neg c_Span_neg k_Span_neg
  have b_Span_neg := F_Span_neg.binds (ps := ["self"]) fun _ _ _ _ _ _ us hl => match us, hl with | [_], _ => rfl
  have F_Span_abs := fun_mk (st := s_Span_abs) l_Span_abs c_Span_abs k_Span_abs
  have b_Span_abs := F_Span_abs.binds (ps := ["self"]) fun _ _ _ _ _ _ us hl => match us, hl with | [_], _ => rfl
  have F_Span_mul := fun_mk (st := s_Span_mul) l_Span_mul c_Span_mul k_Span_mul
  have b_Span_mul := F_Span_mul.binds (ps := ["self", "other"]) fun _ _ _ _ _ _ us hl => match us, hl with | [_, _], _ => rfl
  have F_Span_rmul := fun_mk (st := s_Span_rmul) l_Span_rmul c_Span_rmul k_Span_rmul
  have b_Span_rmul := F_Span_rmul.binds (ps := ["self", "other"]) fun _ _ _ _ _ _ us hl => match us, hl with | [_, _], _ => rfl
  have F_Span_floordiv := fun_mk (st := s_Span_floordiv) l_Span_floordiv c_Span_floordiv k_Span_floordiv
  have b_Span_floordiv := F_Span_floordiv.binds (ps := ["self", "other"]) fun _ _ _ _ _ _ us hl => match us, hl with | [_, _], _ => rfl
  have F_Span_mod := fun_mk (st := s_Span_mod) l_Span_mod c_Span_mod k_Span_mod
  have b_Span_mod := F_Span_mod.binds (ps := ["self", "other"]) fun _ _ _ _ _ _ us hl => match us, hl with | [_, _], _ => rfl
  have F_Moment_add := fun_mk (st := s_Moment_add) l_Moment_add c_Moment_add k_Moment_add
  have b_Moment_add := F_Moment_add.binds (ps := ["self", "other"]) fun _ _ _ _ _ _ us hl => match us, hl with | [_, _], _ => rfl
  have F_Moment_sub := fun_mk (st := s_Moment_sub) l_Moment_sub c_Moment_sub k_Moment_sub
  have b_Moment_sub := F_Moment_sub.binds (ps := ["self", "other"]) fun _ _ _ _ _ _ us hl => match us, hl with | [_, _], _ => rfl
  have F_law_bag := fun_mk (st := s_law_bag) l_law_bag c_law_bag k_law_bag
  have b_law_bag := F_law_bag.binds (ps := ["_law_script", "_law_at"]) fun _ _ _ _ _ _ us hl => match us, hl with | [_, _], _ => rfl
  have F_law_take := fun_mk (st := s_law_take) l_law_take c_law_take k_law_take
  have b_law_take := F_law_take.binds (ps := ["_law_bag_here", "_law_many"]) fun _ _ _ _ _ _ us hl => match us, hl with | [_, _], _ => rfl
  have F_law_number := fun_mk (st := s_law_number) l_law_number c_law_number k_law_number
  have b_law_number := F_law_number.binds (ps := ["_law_bag_here"]) fun _ _ _ _ _ _ us hl => match us, hl with | [_], _ => rfl
  have F_law_is_number := fun_mk (st := s_law_is_number) l_law_is_number c_law_is_number k_law_is_number
  have b_law_is_number := F_law_is_number.binds (ps := ["_law_thing", "_law_due"]) fun _ _ _ _ _ _ us hl => match us, hl with | [_, _], _ => rfl
  have F_law_is_span := fun_mk (st := s_law_is_span) l_law_is_span c_law_is_span k_law_is_span
  have b_law_is_span := F_law_is_span.binds (ps := ["_law_thing", "_law_due"]) fun _ _ _ _ _ _ us hl => match us, hl with | [_, _], _ => rfl
  have F_law_spans_done := fun_mk (st := s_law_spans_done) l_law_spans_done c_law_spans_done k_law_spans_done
  have b_law_spans_done := F_law_spans_done.binds (ps := ["_law_bag_here", "_law_spans", "_law_ticks"]) fun _ _ _ _ _ _ us hl => match us, hl with | [_, _, _], _ => rfl
  have F_law_moments_done := fun_mk (st := s_law_moments_done) l_law_moments_done c_law_moments_done k_law_moments_done
  have b_law_moments_done := F_law_moments_done.binds (ps := ["_law_bag_here", "_law_moments", "_law_points", "_law_spans", "_law_ticks"]) fun _ _ _ _ _ _ us hl => match us, hl with | [_, _, _, _, _], _ => rfl
  have F_law_agree := fun_mk (st := s_law_agree) l_law_agree c_law_agree k_law_agree
  have b_law_agree := F_law_agree.binds (ps := ["_law_spans", "_law_ticks", "_law_moments", "_law_points"]) fun _ _ _ _ _ _ us hl => match us, hl with | [_, _, _, _], _ => rfl
  have F_law := fun_mk (st := s_law) l_law c_law k_law
  refine ⟨PySem.W.fnOf "law" "law" (defArgs s_law) (defBody s_law) (defScope s_law) .none kV_law dc_law pm_law an_law cd_law ct_law, fun s v => .of_eq rfl, fun base _ _ => ?_⟩
  let G : Gc := ⟨l.prog, w, K, mg, base, fun n => [C_0, C_1].getD n 0, fun n => ([["ticks"], ["at"]] : List (List Str)).getD n []⟩
  have R_0 : ClsR G 0 := ⟨cr_0, by show List.Nodup (["ticks"] : List Str); decide +kernel⟩
  have T_0 : InsT G 0 := ⟨cr_0, ha_0, hn, htk, hm_0⟩
  have R_1 : ClsR G 1 := ⟨cr_1, by show List.Nodup (["at"] : List Str); decide +kernel⟩
  have T_1 : InsT G 1 := ⟨cr_1, ha_1, hn, htk, hm_1⟩
  have ne_0_1 : C_0 ≠ C_1 := fun z => by
    have := sub_0_1
    rw [z, sub_1_1] at this
    cases this
  have ne_1_0 : C_1 ≠ C_0 := fun z => by
    have := sub_1_0
    rw [z, sub_0_0] at this
    cases this
  have IO : IsaOk G isa := by
    refine ⟨fun c d b e => ?_, fun c n b e => ?_, fun n d b e => ?_⟩
    · match c, d, e with
      | 0, 0, e => cases e; exact ⟨T_0, kit_same'⟩
      | 0, 1, e => cases e; exact ⟨T_0, kit_sub (by show (PySem.W.clsIn K C_1).isSome = true; rw [cl_1]; rfl) tc_1 sub_0_1 (fun z => ne_0_1 (by injection z))⟩
      | 1, 0, e => cases e; exact ⟨T_1, kit_sub (by show (PySem.W.clsIn K C_0).isSome = true; rw [cl_0]; rfl) tc_0 sub_1_0 (fun z => ne_1_0 (by injection z))⟩
      | 1, 1, e => cases e; exact ⟨T_1, kit_same'⟩
      | 0, (_ + 2), e => cases e
      | 1, (_ + 2), e => cases e
      | (_ + 2), _, e => cases e
    · have e' : isa_bt c n = some b := e
      unfold isa_bt at e'
      split at e'
      · rename_i z
        rw [Bool.and_eq_true] at z
        obtain ⟨z1, z2⟩ := z
        have z1 : c < 2 := Nat.le_of_ble_eq_true z1
        have z2 := List.mem_of_elem_eq_true z2
        simp only [List.mem_cons, List.not_mem_nil, or_false] at z2
        cases e'
        match c, z1 with
        | 0, _ =>
          rcases z2 with rfl | rfl | rfl
          · exact ⟨T_0, kit_bt (by decide +kernel) st_0_int (fun z => nomatch z)⟩
          · exact ⟨T_0, kit_bt (by decide +kernel) st_0_str (fun z => nomatch z)⟩
          · exact ⟨T_0, kit_bt (by decide +kernel) st_0_bool (fun z => nomatch z)⟩
        | 1, _ =>
          rcases z2 with rfl | rfl | rfl
          · exact ⟨T_1, kit_bt (by decide +kernel) st_1_int (fun z => nomatch z)⟩
          · exact ⟨T_1, kit_bt (by decide +kernel) st_1_str (fun z => nomatch z)⟩
          · exact ⟨T_1, kit_bt (by decide +kernel) st_1_bool (fun z => nomatch z)⟩
      · cases e'
    · have e' : isa_tb n d = some b := e
      unfold isa_tb at e'
      split at e'
      · rename_i z
        rw [Bool.and_eq_true] at z
        obtain ⟨z1, z2⟩ := z
        have z1 : d < 2 := Nat.le_of_ble_eq_true z1
        have z2 := List.mem_of_elem_eq_true z2
        simp only [List.mem_cons, List.not_mem_nil, or_false] at z2
        cases e'
        match d, z1 with
        | 0, _ =>
          rcases z2 with rfl | rfl | rfl | rfl | rfl | rfl
          · exact kit_sub (by show (PySem.W.clsIn K C_0).isSome = true; rw [cl_0]; rfl) tc_0 ts_int_0 (fun z => nomatch z)
          · exact kit_sub (by show (PySem.W.clsIn K C_0).isSome = true; rw [cl_0]; rfl) tc_0 ts_str_0 (fun z => nomatch z)
          · exact kit_sub (by show (PySem.W.clsIn K C_0).isSome = true; rw [cl_0]; rfl) tc_0 ts_bool_0 (fun z => nomatch z)
          · exact kit_sub (by show (PySem.W.clsIn K C_0).isSome = true; rw [cl_0]; rfl) tc_0 ts_NoneType_0 (fun z => nomatch z)
          · exact kit_sub (by show (PySem.W.clsIn K C_0).isSome = true; rw [cl_0]; rfl) tc_0 ts_list_0 (fun z => nomatch z)
          · exact kit_sub (by show (PySem.W.clsIn K C_0).isSome = true; rw [cl_0]; rfl) tc_0 ts_tuple_0 (fun z => nomatch z)
        | 1, _ =>
          rcases z2 with rfl | rfl | rfl | rfl | rfl | rfl
          · exact kit_sub (by show (PySem.W.clsIn K C_1).isSome = true; rw [cl_1]; rfl) tc_1 ts_int_1 (fun z => nomatch z)
          · exact kit_sub (by show (PySem.W.clsIn K C_1).isSome = true; rw [cl_1]; rfl) tc_1 ts_str_1 (fun z => nomatch z)
          · exact kit_sub (by show (PySem.W.clsIn K C_1).isSome = true; rw [cl_1]; rfl) tc_1 ts_bool_1 (fun z => nomatch z)
          · exact kit_sub (by show (PySem.W.clsIn K C_1).isSome = true; rw [cl_1]; rfl) tc_1 ts_NoneType_1 (fun z => nomatch z)
          · exact kit_sub (by show (PySem.W.clsIn K C_1).isSome = true; rw [cl_1]; rfl) tc_1 ts_list_1 (fun z => nomatch z)
          · exact kit_sub (by show (PySem.W.clsIn K C_1).isSome = true; rw [cl_1]; rfl) tc_1 ts_tuple_1 (fun z => nomatch z)
      · cases e'
  have A_ticks : AtOk G "ticks" 0 at_ticks := fun c => match c with | 0 => ⟨R_0, rfl, na_0_ticks⟩ | 1 => trivial | (_ + 2) => trivial
  have A_at : AtOk G "at" 0 at_at := fun c => match c with | 0 => trivial | 1 => ⟨R_1, rfl, na_1_at⟩ | (_ + 2) => trivial
  have bi_isinstance : Bi G.mg "isinstance" (.builtin "isinstance") := ⟨PySem.W.mg_none_of X Gn z_isinstance, by decide +kernel⟩
  have gC_Span : GlobC G "Span" (.cls 0) := ⟨.ref C_0, .ref C_0, PySem.W.mg_of X Gn aC_0, rfl, fun _ _ => .cls⟩
  have gC_Moment : GlobC G "Moment" (.cls 1) := ⟨.ref C_1, .ref C_1, PySem.W.mg_of X Gn aC_1, rfl, fun _ _ => .cls⟩
  have bi_abs : Bi G.mg "abs" (.builtin "abs") := ⟨PySem.W.mg_none_of X Gn z_abs, by decide +kernel⟩
  have bt_int : Bi G.mg "int" (.type "int") := ⟨PySem.W.mg_none_of X Gn z_int, by decide +kernel⟩
  have bi_len : Bi G.mg "len" (.builtin "len") := ⟨PySem.W.mg_none_of X Gn z_len, by decide +kernel⟩
  have bt_bool : Bi G.mg "bool" (.type "bool") := ⟨PySem.W.mg_none_of X Gn z_bool, by decide +kernel⟩
  have z_zip : G.mg "zip" = none := PySem.W.mg_none_of X Gn z_zip
  have bt_list : Bi G.mg "list" (.type "list") := ⟨PySem.W.mg_none_of X Gn z_list, by decide +kernel⟩
  have z_range : G.mg "range" = none := PySem.W.mg_none_of X Gn z_range
  have bi_max : Bi G.mg "max" (.builtin "max") := ⟨PySem.W.mg_none_of X Gn z_max, by decide +kernel⟩
  have bi_min : Bi G.mg "min" (.builtin "min") := ⟨PySem.W.mg_none_of X Gn z_min, by decide +kernel⟩
  have DC_Span : DcR G "Span" 0 1 1 f_Span_init := ⟨R_0, ar_run, _, _, _, (fn_rx F_Span_init sc_Span_init (by kernel_rfl) rfl rfl (d_Span_init A_ticks)), PySem.W.mg_of X Gn aC_0, ⟨mk_0, a_Span_init, i_Span_init, kc_0⟩, b_Span_init⟩
  have NI_0 : NoI G 0 := ⟨⟨_, cl_0, mro_0⟩, ni_0, nio⟩
  have SF_0 : PySem.W.selfFirst G.K (G.cad 0) = true := sf_0
  have DC_Moment : DcR G "Moment" 1 1 1 f_Moment_init := ⟨R_1, ar_run, _, _, _, (fn_rx F_Moment_init sc_Moment_init (by kernel_rfl) rfl rfl (d_Moment_init A_at)), PySem.W.mg_of X Gn aC_1, ⟨mk_1, a_Moment_init, i_Moment_init, kc_1⟩, b_Moment_init⟩
  have M_Span_add : MtC G "__add__" 3 0 2 f_Span_add := ⟨R_0, ar_run, by show _ ∉ (["ticks"] : List Str); decide +kernel, _, _, _, (fn_rx F_Span_add sc_Span_add (by kernel_rfl) rfl rfl (d_Span_add bi_isinstance IO gC_Span DC_Span A_ticks gC_Moment DC_Moment A_at)), ⟨a_Span_add, i_Span_add, k_Span_add⟩, b_Span_add⟩
  have M_Span_sub : MtC G "__sub__" 3 0 2 f_Span_sub := ⟨R_0, ar_run, by show _ ∉ (["ticks"] : List Str); decide +kernel, _, _, _, (fn_rx F_Span_sub sc_Span_sub (by kernel_rfl) rfl rfl (d_Span_sub bi_isinstance IO gC_Span DC_Span A_ticks)), ⟨a_Span_sub, i_Span_sub, k_Span_sub⟩, b_Span_sub⟩
  have M_Span_neg : MtC G "__neg__" 3 0 1 f_Span_neg := ⟨R_0, ar_run, by show _ ∉ (["ticks"] : List Str); decide +kernel, _, _, _, (fn_rx F_Span_neg sc_Span_neg (by kernel_rfl) rfl rfl (d_Span_neg DC_Span A_ticks)), ⟨a_Span_neg, i_Span_neg, k_Span_neg⟩, b_Span_neg⟩
  have M_Span_abs : MtC G "__abs__" 3 0 1 f_Span_abs := ⟨R_0, ar_run, by show _ ∉ (["ticks"] : List Str); decide +kernel, _, _, _, (fn_rx F_Span_abs sc_Span_abs (by kernel_rfl) rfl rfl (d_Span_abs DC_Span bi_abs A_ticks)), ⟨a_Span_abs, i_Span_abs, k_Span_abs⟩, b_Span_abs⟩
  have M_Span_mul : MtC G "__mul__" 3 0 2 f_Span_mul := ⟨R_0, ar_run, by show _ ∉ (["ticks"] : List Str); decide +kernel, _, _, _, (fn_rx F_Span_mul sc_Span_mul (by kernel_rfl) rfl rfl (d_Span_mul bi_isinstance IO bt_int DC_Span A_ticks)), ⟨a_Span_mul, i_Span_mul, k_Span_mul⟩, b_Span_mul⟩
  have M_Span_rmul : MtC G "__rmul__" 3 0 2 f_Span_rmul := ⟨R_0, ar_run, by show _ ∉ (["ticks"] : List Str); decide +kernel, _, _, _, (fn_rx F_Span_rmul sc_Span_rmul (by kernel_rfl) rfl rfl (d_Span_rmul bi_isinstance IO bt_int DC_Span A_ticks)), ⟨a_Span_rmul, i_Span_rmul, k_Span_rmul⟩, b_Span_rmul⟩
  have M_Span_floordiv : MtC G "__floordiv__" 2 0 2 f_Span_floordiv := ⟨R_0, ar_run, by show _ ∉ (["ticks"] : List Str); decide +kernel, _, _, _, (fn_rx F_Span_floordiv sc_Span_floordiv (by kernel_rfl) rfl rfl (d_Span_floordiv bi_isinstance IO gC_Span A_ticks)), ⟨a_Span_floordiv, i_Span_floordiv, k_Span_floordiv⟩, b_Span_floordiv⟩
  have M_Span_mod : MtC G "__mod__" 3 0 2 f_Span_mod := ⟨R_0, ar_run, by show _ ∉ (["ticks"] : List Str); decide +kernel, _, _, _, (fn_rx F_Span_mod sc_Span_mod (by kernel_rfl) rfl rfl (d_Span_mod bi_isinstance IO gC_Span DC_Span A_ticks)), ⟨a_Span_mod, i_Span_mod, k_Span_mod⟩, b_Span_mod⟩
  have M_Moment_add : MtC G "__add__" 3 1 2 f_Moment_add := ⟨R_1, ar_run, by show _ ∉ (["at"] : List Str); decide +kernel, _, _, _, (fn_rx F_Moment_add sc_Moment_add (by kernel_rfl) rfl rfl (d_Moment_add bi_isinstance IO gC_Span DC_Moment A_at A_ticks)), ⟨a_Moment_add, i_Moment_add, k_Moment_add⟩, b_Moment_add⟩
  have M_Moment_sub : MtC G "__sub__" 3 1 2 f_Moment_sub := ⟨R_1, ar_run, by show _ ∉ (["at"] : List Str); decide +kernel, _, _, _, (fn_rx F_Moment_sub sc_Moment_sub (by kernel_rfl) rfl rfl (d_Moment_sub bi_isinstance IO gC_Span DC_Moment A_at A_ticks gC_Moment DC_Span)), ⟨a_Moment_sub, i_Moment_sub, k_Moment_sub⟩, b_Moment_sub⟩
  have MT_add : MtOk G "__add__" 3 mt_add := fun c f e => match c, e with | 0, e => by cases e; exact ⟨_, M_Span_add.mono (Nat.le_of_ble_eq_true rfl)⟩ | 1, e => by cases e; exact ⟨_, M_Moment_add.mono (Nat.le_of_ble_eq_true rfl)⟩ | (_ + 2), e => by cases e
  have MT_sub : MtOk G "__sub__" 3 mt_sub := fun c f e => match c, e with | 0, e => by cases e; exact ⟨_, M_Span_sub.mono (Nat.le_of_ble_eq_true rfl)⟩ | 1, e => by cases e; exact ⟨_, M_Moment_sub.mono (Nat.le_of_ble_eq_true rfl)⟩ | (_ + 2), e => by cases e
  have MT_neg : MtOk G "__neg__" 3 mt_neg := fun c f e => match c, e with | 0, e => by cases e; exact ⟨_, M_Span_neg.mono (Nat.le_of_ble_eq_true rfl)⟩ | 1, e => by cases e | (_ + 2), e => by cases e
  have MT_abs : MtOk G "__abs__" 3 mt_abs := fun c f e => match c, e with | 0, e => by cases e; exact ⟨_, M_Span_abs.mono (Nat.le_of_ble_eq_true rfl)⟩ | 1, e => by cases e | (_ + 2), e => by cases e
  have MT_mul : MtOk G "__mul__" 3 mt_mul := fun c f e => match c, e with | 0, e => by cases e; exact ⟨_, M_Span_mul.mono (Nat.le_of_ble_eq_true rfl)⟩ | 1, e => by cases e | (_ + 2), e => by cases e
  have MT_rmul : MtOk G "__rmul__" 3 mt_rmul := fun c f e => match c, e with | 0, e => by cases e; exact ⟨_, M_Span_rmul.mono (Nat.le_of_ble_eq_true rfl)⟩ | 1, e => by cases e | (_ + 2), e => by cases e
  have MT_floordiv : MtOk G "__floordiv__" 2 mt_floordiv := fun c f e => match c, e with | 0, e => by cases e; exact ⟨_, M_Span_floordiv.mono (Nat.le_of_ble_eq_true rfl)⟩ | 1, e => by cases e | (_ + 2), e => by cases e
  have MT_mod : MtOk G "__mod__" 3 mt_mod := fun c f e => match c, e with | 0, e => by cases e; exact ⟨_, M_Span_mod.mono (Nat.le_of_ble_eq_true rfl)⟩ | 1, e => by cases e | (_ + 2), e => by cases e
  have dr_Sub : PySem.dunderR Operator.Sub.info.2 = ("__rsub__" : Str) := by decide +kernel
  have OW_Sub : OwB G .Sub "__sub__" 3 mt_sub [0, 1] := by
    refine ⟨by decide +kernel, MT_sub, ?_, ?_, ?_, ?_⟩
    · intro c hc
      simp only [List.mem_cons, List.not_mem_nil, or_false] at hc
      rcases hc with rfl | rfl
      · exact sf_0
      · exact sf_1
    · rw [dr_Sub]
      intro c hc
      simp only [List.mem_cons, List.not_mem_nil, or_false] at hc
      rcases hc with rfl | rfl
      · exact ⟨none, rf_0_Sub, .inl rfl⟩
      · exact ⟨none, rf_1_Sub, .inl rfl⟩
    · intro c hc
      simp only [List.mem_cons, List.not_mem_nil, or_false] at hc
      rcases hc with rfl | rfl
      · exact ⟨_, a_Span_sub⟩
      · exact ⟨_, a_Moment_sub⟩
    · intro c hc d hd ne
      simp only [List.mem_cons, List.not_mem_nil, or_false] at hc hd
      rcases hc with rfl | rfl <;> rcases hd with rfl | rfl
      · exact absurd rfl ne
      · exact ⟨ne_0_1, sub_1_0⟩
      · exact ⟨ne_1_0, sub_0_1⟩
      · exact absurd rfl ne
  have dr_Add : PySem.dunderR Operator.Add.info.2 = ("__radd__" : Str) := by decide +kernel
  have OW_Add : OwB G .Add "__add__" 3 mt_add [0, 1] := by
    refine ⟨by decide +kernel, MT_add, ?_, ?_, ?_, ?_⟩
    · intro c hc
      simp only [List.mem_cons, List.not_mem_nil, or_false] at hc
      rcases hc with rfl | rfl
      · exact sf_0
      · exact sf_1
    · rw [dr_Add]
      intro c hc
      simp only [List.mem_cons, List.not_mem_nil, or_false] at hc
      rcases hc with rfl | rfl
      · exact ⟨none, rf_0_Add, .inl rfl⟩
      · exact ⟨none, rf_1_Add, .inl rfl⟩
    · intro c hc
      simp only [List.mem_cons, List.not_mem_nil, or_false] at hc
      rcases hc with rfl | rfl
      · exact ⟨_, a_Span_add⟩
      · exact ⟨_, a_Moment_add⟩
    · intro c hc d hd ne
      simp only [List.mem_cons, List.not_mem_nil, or_false] at hc hd
      rcases hc with rfl | rfl <;> rcases hd with rfl | rfl
      · exact absurd rfl ne
      · exact ⟨ne_0_1, sub_1_0⟩
      · exact ⟨ne_1_0, sub_0_1⟩
      · exact absurd rfl ne
  have OW_Mult : OwM G 3 mt_mul mt_rmul 0 := ⟨fun c f e => let ⟨n, m⟩ := MT_mul c f e; ⟨n, m.mono (Nat.le_of_ble_eq_true rfl)⟩, fun c f e => let ⟨n, m⟩ := MT_rmul c f e; ⟨n, m.mono (Nat.le_of_ble_eq_true rfl)⟩, sf_0, ⟨_, a_Span_rmul⟩, ⟨_, a_Span_mul⟩, im1, im2, ts_int_0, st_0_int⟩
  have dr_FloorDiv : PySem.dunderR Operator.FloorDiv.info.2 = ("__rfloordiv__" : Str) := by decide +kernel
  have OW_FloorDiv : OwB G .FloorDiv "__floordiv__" 2 mt_floordiv [0] := by
    refine ⟨by decide +kernel, MT_floordiv, ?_, ?_, ?_, ?_⟩
    · intro c hc
      simp only [List.mem_cons, List.not_mem_nil, or_false] at hc
      rcases hc with rfl
      · exact sf_0
    · rw [dr_FloorDiv]
      intro c hc
      simp only [List.mem_cons, List.not_mem_nil, or_false] at hc
      rcases hc with rfl
      · exact ⟨none, rf_0_FloorDiv, .inl rfl⟩
    · intro c hc
      simp only [List.mem_cons, List.not_mem_nil, or_false] at hc
      rcases hc with rfl
      · exact ⟨_, a_Span_floordiv⟩
    · intro c hc d hd ne
      simp only [List.mem_cons, List.not_mem_nil, or_false] at hc hd
      rcases hc with rfl <;> rcases hd with rfl
      · exact absurd rfl ne
  have dr_Mod : PySem.dunderR Operator.Mod.info.2 = ("__rmod__" : Str) := by decide +kernel
  have OW_Mod : OwB G .Mod "__mod__" 3 mt_mod [0] := by
    refine ⟨by decide +kernel, MT_mod, ?_, ?_, ?_, ?_⟩
    · intro c hc
      simp only [List.mem_cons, List.not_mem_nil, or_false] at hc
      rcases hc with rfl
      · exact sf_0
    · rw [dr_Mod]
      intro c hc
      simp only [List.mem_cons, List.not_mem_nil, or_false] at hc
      rcases hc with rfl
      · exact ⟨none, rf_0_Mod, .inl rfl⟩
    · intro c hc
      simp only [List.mem_cons, List.not_mem_nil, or_false] at hc
      rcases hc with rfl
      · exact ⟨_, a_Span_mod⟩
    · intro c hc d hd ne
      simp only [List.mem_cons, List.not_mem_nil, or_false] at hc hd
      rcases hc with rfl <;> rcases hd with rfl
      · exact absurd rfl ne
  have D_law_bag : DfR G "_law_bag" 1 2 f_law_bag := ⟨ar_run, _, _, _, (fn_rx F_law_bag sc_law_bag (by kernel_rfl) rfl rfl (d_law_bag bi_len bi_abs bt_int)), PySem.W.mg_of X Gn a_law_bag, k_law_bag, b_law_bag⟩
  have D_law_take : DfR G "_law_take" 1 2 f_law_take := ⟨ar_run, _, _, _, (fn_rx F_law_take sc_law_take (by kernel_rfl) rfl rfl (d_law_take bt_int)), PySem.W.mg_of X Gn a_law_take, k_law_take, b_law_take⟩
  have D_law_number : DfR G "_law_number" 2 1 f_law_number := ⟨ar_run, _, _, _, (fn_rx F_law_number sc_law_number (by kernel_rfl) rfl rfl (d_law_number D_law_take)), PySem.W.mg_of X Gn a_law_number, k_law_number, b_law_number⟩
  have D_law_is_number : DfR G "_law_is_number" 1 2 f_law_is_number := ⟨ar_run, _, _, _, (fn_rx F_law_is_number sc_law_is_number (by kernel_rfl) rfl rfl (d_law_is_number bi_isinstance IO bt_bool bt_int)), PySem.W.mg_of X Gn a_law_is_number, k_law_is_number, b_law_is_number⟩
  have D_law_is_span : DfR G "_law_is_span" 2 2 f_law_is_span := ⟨ar_run, _, _, _, (fn_rx F_law_is_span sc_law_is_span (by kernel_rfl) rfl rfl (d_law_is_span D_law_is_number A_ticks bi_isinstance IO gC_Span)), PySem.W.mg_of X Gn a_law_is_span, k_law_is_span, b_law_is_span⟩
  have D_law_spans_done : DfR G "_law_spans_done" 5 3 f_law_spans_done := ⟨ar_run, _, _, _, (fn_rx F_law_spans_done sc_law_spans_done (by kernel_rfl) rfl rfl (d_law_spans_done D_law_take OW_Sub OW_Add MT_neg bi_abs MT_abs OW_Mult OW_FloorDiv OW_Mod DC_Span)), PySem.W.mg_of X Gn a_law_spans_done, k_law_spans_done, b_law_spans_done⟩
  have D_law_moments_done : DfR G "_law_moments_done" 4 5 f_law_moments_done := ⟨ar_run, _, _, _, (fn_rx F_law_moments_done sc_law_moments_done (by kernel_rfl) rfl rfl (d_law_moments_done D_law_take OW_Add OW_Sub)), PySem.W.mg_of X Gn a_law_moments_done, k_law_moments_done, b_law_moments_done⟩
  have D_law_agree : DfR G "_law_agree" 3 4 f_law_agree := ⟨ar_run, _, _, _, (fn_rx F_law_agree sc_law_agree (by kernel_rfl) rfl rfl (d_law_agree z_zip D_law_is_span D_law_is_number A_at bi_isinstance IO gC_Moment)), PySem.W.mg_of X Gn a_law_agree, k_law_agree, b_law_agree⟩
  exact law_fn (G := G) law_ok (fn_rx F_law sc_law (by kernel_rfl) rfl rfl (d_law D_law_bag D_law_number DC_Span DC_Moment bt_list z_range bi_max bi_min bi_len D_law_take D_law_spans_done D_law_moments_done MT_add SF_0 NI_0 D_law_is_span D_law_agree))
end Rx

open PySem PySem.W PyProof.Rows
set_option maxRecDepth 100000 in
set_option maxHeartbeats 0 in
theorem PySem.Challenge.cw_strayfiles_k05_whole_sums_of_times_holds : PySem.Challenge.rw_strayfiles_k05_whole_sums_of_times.Holds := by
  w_on; o_law; k_head; (case hw => w_witness2)
  k_fill
  refine L2.walk_of (l := PySem.Challenge.rw_strayfiles_k05_whole_sums_of_times) (n := 63) (k := 6) (x := "_law_script") (CX := fun w => L2.CX PySem.Challenge.pw_strayfiles_k05_whole_sums_of_times w) (sp := fun w => Rx.spLaw _) rfl (by decide) rfl ⟨rfl, by decide, by decide⟩ (fun w h Y => PySem.W.kIn_of Y) ?F (fun _ _ a ns hl _ hS => ⟨a, ns, rfl, hS, hl, fun _ => rfl⟩) (fun _ _ _ _ _ h => Rx.cx_false _ _ _ _ h)
  case F =>
    intro w mg fa h KX G hmg
    refine' Rx.all_mk (l := PySem.Challenge.rw_strayfiles_k05_whole_sums_of_times) KX G hmg ?aC_0 ?pg_0 ?hd_0 ?po_0 ?sa_0 ?mk_0 ?kc_0 ?ha_0 ?hm_0 ?tc_0 ?sf_0 ?cl_0 ?na_0_ticks ?st_0_int ?st_0_str ?st_0_bool ?ts_int_0 ?ts_str_0 ?ts_bool_0 ?ts_NoneType_0 ?ts_list_0 ?ts_tuple_0 ?aC_1 ?pg_1 ?hd_1 ?po_1 ?sa_1 ?mk_1 ?kc_1 ?ha_1 ?hm_1 ?tc_1 ?sf_1 ?cl_1 ?na_1_at ?st_1_int ?st_1_str ?st_1_bool ?ts_int_1 ?ts_str_1 ?ts_bool_1 ?ts_NoneType_1 ?ts_list_1 ?ts_tuple_1 ?sub_0_0 ?sub_0_1 ?sub_1_0 ?sub_1_1 ?hn ?htk ?a_Span_init ?i_Span_init ?l_Span_init ?c_Span_init ?k_Span_init ?a_Moment_init ?i_Moment_init ?l_Moment_init ?c_Moment_init ?k_Moment_init ?a_Span_add ?i_Span_add ?l_Span_add ?c_Span_add ?k_Span_add ?a_Span_sub ?i_Span_sub ?l_Span_sub ?c_Span_sub ?k_Span_sub ?a_Span_neg ?i_Span_neg ?l_Span_neg ?c_Span_neg ?k_Span_neg ?a_Span_abs ?i_Span_abs ?l_Span_abs ?c_Span_abs ?k_Span_abs ?a_Span_mul ?i_Span_mul ?l_Span_mul ?c_Span_mul ?k_Span_mul ?a_Span_rmul ?i_Span_rmul ?l_Span_rmul ?c_Span_rmul ?k_Span_rmul ?a_Span_floordiv ?i_Span_floordiv ?l_Span_floordiv ?c_Span_floordiv ?k_Span_floordiv ?a_Span_mod ?i_Span_mod ?l_Span_mod ?c_Span_mod ?k_Span_mod ?a_Moment_add ?i_Moment_add ?l_Moment_add ?c_Moment_add ?k_Moment_add ?a_Moment_sub ?i_Moment_sub ?l_Moment_sub ?c_Moment_sub ?k_Moment_sub ?a_law_bag ?l_law_bag ?c_law_bag ?k_law_bag ?a_law_take ?l_law_take ?c_law_take ?k_law_take ?a_law_number ?l_law_number ?c_law_number ?k_law_number ?a_law_is_number ?l_law_is_number ?c_law_is_number ?k_law_is_number ?a_law_is_span ?l_law_is_span ?c_law_is_span ?k_law_is_span ?a_law_spans_done ?l_law_spans_done ?c_law_spans_done ?k_law_spans_done ?a_law_moments_done ?l_law_moments_done ?c_law_moments_done ?k_law_moments_done ?a_law_agree ?l_law_agree ?c_law_agree ?k_law_agree ?a_law ?l_law ?c_law ?k_law ?z_isinstance ?z_abs ?z_int ?z_len ?z_bool ?z_zip ?z_list ?z_range ?z_max ?z_min ?mro_0 ?ni_0 ?nio ?rf_0_Sub ?rf_1_Sub ?rf_0_Add ?rf_1_Add ?im1 ?im2 ?rf_0_FloorDiv ?rf_0_Mod
    (case aC_0 => k_is)
    (case pg_0 => k_is)
    (case hd_0 => k_is)
    (case po_0 => k_is)
    (case sa_0 => k_is)
    (case mk_0 => k_is)
    (case kc_0 => k_is)
    (case ha_0 => k_is)
    (case hm_0 => k_is)
    (case tc_0 => k_is)
    (case sf_0 => k_is)
    (case cl_0 => k_is)
    (case na_0_ticks => k_is)
    (case st_0_int => k_is)
    (case st_0_str => k_is)
    (case st_0_bool => k_is)
    (case ts_int_0 => k_is)
    (case ts_str_0 => k_is)
    (case ts_bool_0 => k_is)
    (case ts_NoneType_0 => k_is)
    (case ts_list_0 => k_is)
    (case ts_tuple_0 => k_is)
    (case aC_1 => k_is)
    (case pg_1 => k_is)
    (case hd_1 => k_is)
    (case po_1 => k_is)
    (case sa_1 => k_is)
    (case mk_1 => k_is)
    (case kc_1 => k_is)
    (case ha_1 => k_is)
    (case hm_1 => k_is)
    (case tc_1 => k_is)
    (case sf_1 => k_is)
    (case cl_1 => k_is)
    (case na_1_at => k_is)
    (case st_1_int => k_is)
    (case st_1_str => k_is)
    (case st_1_bool => k_is)
    (case ts_int_1 => k_is)
    (case ts_str_1 => k_is)
    (case ts_bool_1 => k_is)
    (case ts_NoneType_1 => k_is)
    (case ts_list_1 => k_is)
    (case ts_tuple_1 => k_is)
    (case sub_0_0 => k_is)
    (case sub_0_1 => k_is)
    (case sub_1_0 => k_is)
    (case sub_1_1 => k_is)
    (case hn => k_is)
    (case htk => k_is)
    (case a_Span_init => k_is)
    (case i_Span_init => k_is)
    (case l_Span_init => k_is)
    (case c_Span_init => k_is)
    (case k_Span_init => k_is)
    (case a_Moment_init => k_is)
    (case i_Moment_init => k_is)
    (case l_Moment_init => k_is)
    (case c_Moment_init => k_is)
    (case k_Moment_init => k_is)
    (case a_Span_add => k_is)
    (case i_Span_add => k_is)
    (case l_Span_add => k_is)
    (case c_Span_add => k_is)
    (case k_Span_add => k_is)
    (case a_Span_sub => k_is)
    (case i_Span_sub => k_is)
    (case l_Span_sub => k_is)
    (case c_Span_sub => k_is)
    (case k_Span_sub => k_is)
    (case a_Span_neg => k_is)
    (case i_Span_neg => k_is)
    (case l_Span_neg => k_is)
    (case c_Span_neg => k_is)
    (case k_Span_neg => k_is)
    (case a_Span_abs => k_is)
    (case i_Span_abs => k_is)
    (case l_Span_abs => k_is)
    (case c_Span_abs => k_is)
    (case k_Span_abs => k_is)
    (case a_Span_mul => k_is)
    (case i_Span_mul => k_is)
    (case l_Span_mul => k_is)
    (case c_Span_mul => k_is)
    (case k_Span_mul => k_is)
    (case a_Span_rmul => k_is)
    (case i_Span_rmul => k_is)
    (case l_Span_rmul => k_is)
    (case c_Span_rmul => k_is)
    (case k_Span_rmul => k_is)
    (case a_Span_floordiv => k_is)
    (case i_Span_floordiv => k_is)
    (case l_Span_floordiv => k_is)
    (case c_Span_floordiv => k_is)
    (case k_Span_floordiv => k_is)
    (case a_Span_mod => k_is)
    (case i_Span_mod => k_is)
    (case l_Span_mod => k_is)
    (case c_Span_mod => k_is)
    (case k_Span_mod => k_is)
    (case a_Moment_add => k_is)
    (case i_Moment_add => k_is)
    (case l_Moment_add => k_is)
    (case c_Moment_add => k_is)
    (case k_Moment_add => k_is)
    (case a_Moment_sub => k_is)
    (case i_Moment_sub => k_is)
    (case l_Moment_sub => k_is)
    (case c_Moment_sub => k_is)
    (case k_Moment_sub => k_is)
    (case a_law_bag => k_is)
    (case l_law_bag => k_is)
    (case c_law_bag => k_is)
    (case k_law_bag => k_is)
    (case a_law_take => k_is)
    (case l_law_take => k_is)
    (case c_law_take => k_is)
    (case k_law_take => k_is)
    (case a_law_number => k_is)
    (case l_law_number => k_is)
    (case c_law_number => k_is)
    (case k_law_number => k_is)
    (case a_law_is_number => k_is)
    (case l_law_is_number => k_is)
    (case c_law_is_number => k_is)
    (case k_law_is_number => k_is)
    (case a_law_is_span => k_is)
    (case l_law_is_span => k_is)
    (case c_law_is_span => k_is)
    (case k_law_is_span => k_is)
    (case a_law_spans_done => k_is)
    (case l_law_spans_done => k_is)
    (case c_law_spans_done => k_is)
    (case k_law_spans_done => k_is)
    (case a_law_moments_done => k_is)
    (case l_law_moments_done => k_is)
    (case c_law_moments_done => k_is)
    (case k_law_moments_done => k_is)
    (case a_law_agree => k_is)
    (case l_law_agree => k_is)
    (case c_law_agree => k_is)
    (case k_law_agree => k_is)
    (case a_law => k_is)
    (case l_law => k_is)
    (case c_law => k_is)
    (case k_law => k_is)
    (case z_isinstance => k_is)
    (case z_abs => k_is)
    (case z_int => k_is)
    (case z_len => k_is)
    (case z_bool => k_is)
    (case z_zip => k_is)
    (case z_list => k_is)
    (case z_range => k_is)
    (case z_max => k_is)
    (case z_min => k_is)
    (case mro_0 => rfl)
    (case ni_0 => k_is)
    (case nio => k_is)
    (case rf_0_Sub => k_is)
    (case rf_1_Sub => k_is)
    (case rf_0_Add => k_is)
    (case rf_1_Add => k_is)
    (case im1 => k_is)
    (case im2 => k_is)
    (case rf_0_FloorDiv => k_is)
    (case rf_0_Mod => k_is)
