import PyProof.Rows.All
import Wide.All
import OpenK.AllK
import Wide.FinOn
import HandS.ForMost
import HandS.ForExc
import HandS.Wide
import HandS.EndBits
import HandS.IsInst
import HandS.MakeKw
import HandS.Style
import HandS.MakeKwOnly
import HandS.OwnEq
import KE.KOpsOwn
import KE.KCallOwn
import HandS.FStr
import HandS.Zip
import HandS.Flow
import HandS.RaiseMore
import HandS.Property
import HandS.TupAny
import HandS.Deep
import KE.KExcSuper
import HandS.ExcInit
import HandS.ExcField
import HandS.ExcOwn
import HandS.ExcIs
import HandS.TryOnly
import KE.KExcIs
import PyProof.DictMoreH
import HandS.DictTup
import HandS.TupLen
import HandS.Conv
import HandS.More
import KE.SortData
import HandS.Star
import OpenK.KOps
import KE.KOwnIter
import HandS.IterVal
import HandS.OwnIter
import PyProof.ReprRoads
import HandS.Text
import HandS.Ends
import HandS.ReplaceLit
import HandS.Iter
import HandS.DictComp
import KE.KDictPairs
import PySem.Challenge.RW_strayfiles_k29_stages_made
set_option Elab.async false
set_option linter.all false
set_option maxRecDepth 100000
set_option maxHeartbeats 4000000
/-! Sx: a walker by weakest conditions over the hand layer: each judgement is a structure over the syntax, the slots and the heap; one rule a construct. -/
namespace Sx
open PySem L2
open PyProof.Rows (subscriptTail)

/-! ### the judgements -/
structure E (X : Cx) (e : Expr) (σ : St) (H : Hp) (Q : VK) : Prop where
  run : ∀ (pins : List (Addr × Obj)) (s : Shared), Inv X pins σ H s → wpAny (model X.prog X.w) X.A (eval e X.env) (EP X pins σ Q) X.xe s
structure T (X : Cx) (e : Expr) (σ : St) (H : Hp) (Q : Bool → Hp → Prop) : Prop where
  run : ∀ (pins : List (Addr × Obj)) (s : Shared), Inv X pins σ H s → wpAny (model X.prog X.w) X.A (isTrue e X.env (eval e X.env)) (TP X pins σ Q) X.xe s
structure W (X : Cx) (e : Expr) (σ : St) (H : Hp) (Q : Bool → Hp → Prop) : Prop where
  run : ∀ (whole : Sem Value) (pins : List (Addr × Obj)) (s : Shared), Inv X pins σ H s → wpAny (model X.prog X.w) X.A (isTrue e X.env whole) (TP X pins σ Q) X.xe s
structure As (X : Cx) (es : List Expr) (σ : St) (H : Hp) (Q : List V → Hp → Prop) : Prop where
  run : ∀ (pos : Pos) (pins : List (Addr × Obj)) (s : Shared), Inv X pins σ H s → wpAny (model X.prog X.w) X.A (spliced (backTo pos (starEach es X.env))) (AP X pins σ Q) X.xe s
structure S (X : Cx) (st : Stmt) (nx : St → Hp → Prop) (rt : VK) (bk ct : St → Hp → Prop) (σ : St) (H : Hp) : Prop where
  run : ∀ (pins : List (Addr × Obj)) (s : Shared), Inv X pins σ H s → wpAny (model X.prog X.w) X.A (exec st X.env) (SP X pins ⟨nx, rt, bk, ct⟩) X.xe s
structure Ss (X : Cx) (st : List Stmt) (nx : St → Hp → Prop) (rt : VK) (bk ct : St → Hp → Prop) (σ : St) (H : Hp) : Prop where
  run : ∀ (pins : List (Addr × Obj)) (s : Shared), Inv X pins σ H s → wpAny (model X.prog X.w) X.A (execs st X.env) (SP X pins ⟨nx, rt, bk, ct⟩) X.xe s
structure G (X : Cx) (tg : Expr) (v : V) (σ : St) (H : Hp) (Q : St → Hp → Prop) : Prop where
  run : ∀ (pins : List (Addr × Obj)) (s : Shared) (u : Value), Inv X pins σ H s → RelV v u → wpAny (model X.prog X.w) X.A (assign tg X.env u) (fun _ s' => ∃ σ' H', Inv X pins σ' H' s' ∧ Q σ' H') X.xe s
structure Gs (X : Cx) (ts : List Expr) (vs : List V) (σ : St) (H : Hp) (Q : St → Hp → Prop) : Prop where
  run : ∀ (pins : List (Addr × Obj)) (s : Shared) (us : List Value), Inv X pins σ H s → Vals vs us → wpAny (model X.prog X.w) X.A (assignInOrder ((assignEach ts X.env).map (·.2)) us) (fun _ s' => ∃ σ' H', Inv X pins σ' H' s' ∧ Q σ' H') X.xe s
/-- an operation of two, of one, by values; a call by values; truth by value; a subscript by values; a store by values -/
structure B2 (X : Cx) (f : Value → Value → Sem Value) (x y : V) (H : Hp) (Q : VK) : Prop where
  run : ∀ (pins : List (Addr × Obj)) (s : Shared) (σ : St) (v u : Value), Inv X pins σ H s → RelV x v → RelV y u → wpAny (model X.prog X.w) X.A (f v u) (EP X pins σ Q) X.xe s
structure Bo (X : Cx) (op : Operator) (x y : V) (H : Hp) (Q : VK) : Prop where
  run : ∀ (pins : List (Addr × Obj)) (s : Shared) (σ : St) (v u : Value), Inv X pins σ H s → RelV x v → RelV y u → wpAny (model X.prog X.w) X.A (binaryOp op v u) (EP X pins σ Q) X.xe s
structure Co (X : Cx) (op : CmpOp) (x y : V) (H : Hp) (Q : VK) : Prop where
  run : ∀ (pins : List (Addr × Obj)) (s : Shared) (σ : St) (v u : Value), Inv X pins σ H s → RelV x v → RelV y u → wpAny (model X.prog X.w) X.A (compareOp op v u) (EP X pins σ Q) X.xe s
structure Io (X : Cx) (op : Operator) (x y : V) (H : Hp) (Q : VK) : Prop where
  run : ∀ (pins : List (Addr × Obj)) (s : Shared) (σ : St) (v u : Value), Inv X pins σ H s → RelV x v → RelV y u → wpAny (model X.prog X.w) X.A (inplaceOp op v u) (EP X pins σ Q) X.xe s
structure Uo (X : Cx) (op : UnaryOp) (x : V) (H : Hp) (Q : VK) : Prop where
  run : ∀ (pins : List (Addr × Obj)) (s : Shared) (σ : St) (v : Value), Inv X pins σ H s → RelV x v → wpAny (model X.prog X.w) X.A (unaryOp op v) (EP X pins σ Q) X.xe s
structure U1 (X : Cx) (f : Value → Sem Value) (x : V) (H : Hp) (Q : VK) : Prop where
  run : ∀ (pins : List (Addr × Obj)) (s : Shared) (σ : St) (v : Value), Inv X pins σ H s → RelV x v → wpAny (model X.prog X.w) X.A (f v) (EP X pins σ Q) X.xe s
structure C (X : Cx) (f : Value) (vs : List V) (H : Hp) (Q : VK) : Prop where
  run : ∀ (pins : List (Addr × Obj)) (s : Shared) (σ : St) (us : List Value), Inv X pins σ H s → Vals vs us → wpAny (model X.prog X.w) X.A (call f us) (EP X pins σ Q) X.xe s
structure Tr (X : Cx) (x : V) (H : Hp) (Q : Bool → Hp → Prop) : Prop where
  run : ∀ (pins : List (Addr × Obj)) (s : Shared) (σ : St) (u : Value), Inv X pins σ H s → RelV x u → wpAny (model X.prog X.w) X.A (truthy u) (TP X pins σ Q) X.xe s
structure Ix (X : Cx) (a b : Expr) (x y : V) (H : Hp) (Q : VK) : Prop where
  run : ∀ (pins : List (Addr × Obj)) (s : Shared) (σ : St) (v u : Value), Inv X pins σ H s → RelV x v → RelV y u → wpAny (model X.prog X.w) X.A (subscriptTail a b v u) (EP X pins σ Q) X.xe s
structure St3 (X : Cx) (o i v : V) (H : Hp) (Q : Hp → Prop) : Prop where
  run : ∀ (pins : List (Addr × Obj)) (s : Shared) (σ : St) (ov iv u : Value), Inv X pins σ H s → RelV o ov → RelV i iv → RelV v u → wpAny (model X.prog X.w) X.A (setItem ov iv u) (fun _ s' => ∃ H', Inv X pins σ H' s' ∧ Q H') X.xe s
/-- a method of a built-in type, by values -/
structure Mt (X : Cx) (id : String) (x : V) (xs : List V) (H : Hp) (Q : VK) : Prop where
  run : ∀ (pins : List (Addr × Obj)) (s : Shared) (σ : St) (v : Value) (us : List Value), Inv X pins σ H s → RelV x v → Vals xs us → wpAny (model X.prog X.w) X.A (call (.builtin id) (v :: us)) (EP X pins σ Q) X.xe s

section
variable {X : Cx} {e a b : Expr} {es : List Expr} {σ : St} {H : Hp} {Q : VK} {st : Stmt} {sts : List Stmt} {pos : Pos}
theorem pe : PE X e (fun σ H Q => E X e σ H Q) := ⟨fun pins s _ _ _ I h => h.run pins s I⟩
theorem pt : PT X e (fun σ H Q => T X e σ H Q) := ⟨fun pins s _ _ _ I h => h.run pins s I⟩
theorem pw : PW X e (fun σ H Q => W X e σ H Q) := ⟨fun w pins s _ _ _ I h => h.run w pins s I⟩
theorem pa : PA X es (fun σ H Q => As X es σ H Q) := ⟨fun pos pins s _ _ _ I h => h.run pos pins s I⟩
theorem ps : PS X st (fun D σ H => S X st D.nx D.rt D.bk D.ct σ H) := ⟨fun pins s _ _ _ I h => h.run pins s I⟩
theorem pss : PSs X sts (fun D σ H => Ss X sts D.nx D.rt D.bk D.ct σ H) := ⟨fun pins s _ _ _ I h => h.run pins s I⟩
theorem pg : PG X e (fun v σ H Q => G X e v σ H Q) := ⟨fun pins s _ _ _ u _ I r h => h.run pins s u I r⟩
theorem pgs : PGs X es (fun vs σ H Q => Gs X es vs σ H Q) := ⟨fun pins s _ _ _ us _ I r h => h.run pins s us I r⟩
theorem pop {f : Value → Value → Sem Value} : OpR X f (fun x y H Q => B2 X f x y H Q) := fun pins s σ _ _ _ v u _ I rx ry h => h.run pins s σ v u I rx ry
theorem pBo {op : Operator} : OpR X (binaryOp op) (fun x y H Q => Bo X op x y H Q) := fun pins s σ _ _ _ v u _ I rx ry h => h.run pins s σ v u I rx ry
theorem Bo.of {op : Operator} {r : R2} {x y : V} (h : OpR X (binaryOp op) r) (q : r x y H Q) : Bo X op x y H Q := ⟨fun pins s σ v u I rx ry => h pins s σ H x y v u Q I rx ry q⟩
theorem Bo.mono {op : Operator} {x y : V} {Q' : VK} (h : Bo X op x y H Q) (i : ∀ v H, Q v H → Q' v H) : Bo X op x y H Q' := ⟨fun pins s σ v u I r1 r2 => wpAny_mono (h.run pins s σ v u I r1 r2) (fun _ _ ⟨v, H', I', r, q⟩ => ⟨v, H', I', r, i _ _ q⟩) fun _ _ z => z⟩
theorem pCo {op : CmpOp} : OpR X (compareOp op) (fun x y H Q => Co X op x y H Q) := fun pins s σ _ _ _ v u _ I rx ry h => h.run pins s σ v u I rx ry
theorem Co.of {op : CmpOp} {r : R2} {x y : V} (h : OpR X (compareOp op) r) (q : r x y H Q) : Co X op x y H Q := ⟨fun pins s σ v u I rx ry => h pins s σ H x y v u Q I rx ry q⟩
theorem Co.mono {op : CmpOp} {x y : V} {Q' : VK} (h : Co X op x y H Q) (i : ∀ v H, Q v H → Q' v H) : Co X op x y H Q' := ⟨fun pins s σ v u I r1 r2 => wpAny_mono (h.run pins s σ v u I r1 r2) (fun _ _ ⟨v, H', I', r, q⟩ => ⟨v, H', I', r, i _ _ q⟩) fun _ _ z => z⟩
theorem pIo {op : Operator} : OpR X (inplaceOp op) (fun x y H Q => Io X op x y H Q) := fun pins s σ _ _ _ v u _ I rx ry h => h.run pins s σ v u I rx ry
theorem Io.of {op : Operator} {r : R2} {x y : V} (h : OpR X (inplaceOp op) r) (q : r x y H Q) : Io X op x y H Q := ⟨fun pins s σ v u I rx ry => h pins s σ H x y v u Q I rx ry q⟩
theorem Io.mono {op : Operator} {x y : V} {Q' : VK} (h : Io X op x y H Q) (i : ∀ v H, Q v H → Q' v H) : Io X op x y H Q' := ⟨fun pins s σ v u I r1 r2 => wpAny_mono (h.run pins s σ v u I r1 r2) (fun _ _ ⟨v, H', I', r, q⟩ => ⟨v, H', I', r, i _ _ q⟩) fun _ _ z => z⟩
theorem pUo {op : UnaryOp} : UnR X (unaryOp op) (fun x H Q => Uo X op x H Q) := fun pins s σ _ _ v _ I rx h => h.run pins s σ v I rx
theorem Uo.of {op : UnaryOp} {r : V → Hp → VK → Prop} {x : V} (h : UnR X (unaryOp op) r) (q : r x H Q) : Uo X op x H Q := ⟨fun pins s σ v I rx => h pins s σ H x v Q I rx q⟩
theorem pun {f : Value → Sem Value} : UnR X f (fun x H Q => U1 X f x H Q) := fun pins s σ _ _ v _ I rx h => h.run pins s σ v I rx
theorem pcall {f : Value} : CallR X f (fun vs H Q => C X f vs H Q) := fun pins s σ _ _ us _ I r h => h.run pins s σ us I r
theorem pmt {id : String} : MtR X id (fun x xs H Q => Mt X id x xs H Q) := fun pins s σ _ _ _ v us _ I r rs h => h.run pins s σ v us I r rs
theorem pset : PSet X (fun o i v H Q => St3 X o i v H Q) := fun pins s σ _ _ _ _ ov iv u _ I ro ri rv h => h.run pins s σ ov iv u I ro ri rv
theorem E.of {t : TE} (h : PE X e t) (q : t σ H Q) : E X e σ H Q := ⟨fun pins s I => h.run pins s σ H Q I q⟩
theorem T.of {t : TT} {Q : Bool → Hp → Prop} (h : PT X e t) (q : t σ H Q) : T X e σ H Q := ⟨fun pins s I => h.run pins s σ H Q I q⟩
theorem W.of {t : TT} {Q : Bool → Hp → Prop} (h : PW X e t) (q : t σ H Q) : W X e σ H Q := ⟨fun w pins s I => h.run w pins s σ H Q I q⟩
theorem As.of {t : TA} {Q : List V → Hp → Prop} (h : PA X es t) (q : t σ H Q) : As X es σ H Q := ⟨fun pos pins s I => h.run pos pins s σ H Q I q⟩
theorem S.of {t : TS} {nx : St → Hp → Prop} {rt : VK} {bk ct : St → Hp → Prop} (h : PS X st t) (q : t ⟨nx, rt, bk, ct⟩ σ H) : S X st nx rt bk ct σ H := ⟨fun pins s I => h.run pins s σ H _ I q⟩
theorem Ss.of {t : TS} {nx : St → Hp → Prop} {rt : VK} {bk ct : St → Hp → Prop} (h : PSs X sts t) (q : t ⟨nx, rt, bk, ct⟩ σ H) : Ss X sts nx rt bk ct σ H := ⟨fun pins s I => h.run pins s σ H _ I q⟩
theorem G.of {t : TG} {v : V} {Q : St → Hp → Prop} (h : PG X e t) (q : t v σ H Q) : G X e v σ H Q := ⟨fun pins s u I r => h.run pins s σ H v u Q I r q⟩
theorem Gs.of {t : TGs} {vs : List V} {Q : St → Hp → Prop} (h : PGs X es t) (q : t vs σ H Q) : Gs X es vs σ H Q := ⟨fun pins s us I r => h.run pins s σ H vs us Q I r q⟩
theorem B2.of {f : Value → Value → Sem Value} {r : R2} {x y : V} (h : OpR X f r) (q : r x y H Q) : B2 X f x y H Q := ⟨fun pins s σ v u I rx ry => h pins s σ H x y v u Q I rx ry q⟩
theorem U1.of {f : Value → Sem Value} {r : V → Hp → VK → Prop} {x : V} (h : UnR X f r) (q : r x H Q) : U1 X f x H Q := ⟨fun pins s σ v I rx => h pins s σ H x v Q I rx q⟩
theorem C.of {f : Value} {r : List V → Hp → VK → Prop} {vs : List V} (h : CallR X f r) (q : r vs H Q) : C X f vs H Q := ⟨fun pins s σ us I rv => h pins s σ H vs us Q I rv q⟩
theorem Mt.of {id : String} {r : V → List V → Hp → VK → Prop} {x : V} {xs : List V} (h : MtR X id r) (q : r x xs H Q) : Mt X id x xs H Q := ⟨fun pins s σ v us I rx rs => h pins s σ H x xs v us Q I rx rs q⟩
theorem Ix.of {r : R2} {x y : V} (h : IxR X r) (hs : PlainIx b) (q : r x y H Q) : Ix X a b x y H Q := ⟨fun pins s σ v u I rx ry => h a b pins s σ H x y v u Q I rx ry q (hs _ _)⟩
theorem St3.of {t : TSet} {o i v : V} {Q : Hp → Prop} (h : PSet X t) (q : t o i v H Q) : St3 X o i v H Q := ⟨fun pins s σ ov iv u I ro ri rv => h pins s σ H o i v ov iv u Q I ro ri rv q⟩
theorem Tr.of {x : V} {k : Bool} {Q : Bool → Hp → Prop} (h : TruV X.K x H k) (q : Q k H) : Tr X x H Q := ⟨fun pins s σ u I rx => tru_ok pins s σ H x u Q I rx ⟨k, h, q⟩⟩
end

/-! ### heaps: what is kept -/
/-- all but what stands at the addresses ws is kept -/
def Kp (ws : List Addr) (H H' : Hp) : Prop := ∀ a o, H a = some o → a ∉ ws → H' a = some o
theorem Kp.refl {ws : List Addr} {H : Hp} : Kp ws H H := fun _ _ h _ => h
theorem Kp.trans {ws : List Addr} {H H1 H2 : Hp} (a : Kp ws H H1) (b : Kp ws H1 H2) : Kp ws H H2 := fun c o h n => b c o (a c o h n) n
theorem ne_fresh {H : Hp} {a b : Addr} {o : HO} (h' : H b = none) (h : H a = some o) : a ≠ b := ne_of_none h h'
theorem Kp.getC {b : Addr} {ws : List Addr} {H H1 : Hp} {a : Addr} {o : HO} (k : Kp (b :: ws) H H1) (h : H a = some o) (n : a ∉ b :: ws) : H1 a = some o := k a o h n
theorem Kp.trC {b : Addr} {ws : List Addr} {H H1 H2 : Hp} (k : Kp [] H1 H2) (a : Kp (b :: ws) H H1) : Kp (b :: ws) H H2 := fun c o h n => k c o (a c o h n) (fun z => nomatch z)
theorem Kp.tr {ws : List Addr} {H H1 H2 : Hp} (b : Kp ws H1 H2) (a : Kp ws H H1) : Kp ws H H2 := a.trans b
theorem Kp.mono {ws us : List Addr} {H H1 : Hp} (a : Kp ws H H1) (h : ∀ x, x ∈ ws → x ∈ us) : Kp us H H1 := fun c o q n => a c o q fun z => n (h c z)
theorem Kp.get {ws : List Addr} {H H1 : Hp} {a : Addr} {o : HO} (k : Kp ws H H1) (h : H a = some o) (n : a ∉ ws) : H1 a = some o := k a o h n
theorem Kp.get0 {H H1 : Hp} {a : Addr} {o : HO} (k : Kp [] H H1) (h : H a = some o) : H1 a = some o := k a o h (fun z => nomatch z)
theorem Kp.same {H H1 : Hp} (k : Kp [] H H1) : Same H H1 := fun _ _ h => k.get0 h
theorem Kp.of_same {H H1 : Hp} (k : Same H H1) : Kp [] H H1 := fun a o h _ => k a o h
theorem Kp.any {ws : List Addr} {H H1 : Hp} (k : Kp [] H H1) : Kp ws H H1 := k.mono fun _ z => nomatch z
theorem Kp.seqL {K : PySem.W.Frag} {ws : List Addr} {H H1 : Hp} {a : Addr} {xs : List V} (k : Kp ws H H1) (h : SqL K H a xs) (n : a ∉ ws) : SqL K H1 a xs := by
  rcases h with (h | ⟨o, h⟩) | h
  · exact .inl (.inl (k _ _ h n))
  · exact .inl (.inr ⟨o, k _ _ h n⟩)
  · exact .inr h
theorem Kp.seqT {K : PySem.W.Frag} {ws : List Addr} {H H1 : Hp} {a : Addr} {xs : List V} (k : Kp ws H H1) (h : SqT K H a xs) (n : a ∉ ws) : SqT K H1 a xs := by
  rcases h with (h | ⟨o, h⟩) | h
  · exact .inl (.inl (k _ _ h n))
  · exact .inl (.inr ⟨o, k _ _ h n⟩)
  · exact .inr h
theorem Kp.seqL0 {K : PySem.W.Frag} {H H1 : Hp} {a : Addr} {xs : List V} (k : Kp [] H H1) (h : SqL K H a xs) : SqL K H1 a xs := k.seqL h fun z => nomatch z
theorem Kp.seqT0 {K : PySem.W.Frag} {H H1 : Hp} {a : Addr} {xs : List V} (k : Kp [] H H1) (h : SqT K H a xs) : SqT K H1 a xs := k.seqT h fun z => nomatch z
theorem Kp.seqLC {K : PySem.W.Frag} {b : Addr} {ws : List Addr} {H H1 : Hp} {a : Addr} {xs : List V} (k : Kp (b :: ws) H H1) (h : SqL K H a xs) (n : a ∉ b :: ws) : SqL K H1 a xs := k.seqL h n
theorem Kp.seqTC {K : PySem.W.Frag} {b : Addr} {ws : List Addr} {H H1 : Hp} {a : Addr} {xs : List V} (k : Kp (b :: ws) H H1) (h : SqT K H a xs) (n : a ∉ b :: ws) : SqT K H1 a xs := k.seqT h n
theorem kp_new {H : Hp} {p : Addr} {o : HO} (h : H p = none) : Kp [] H (upd H p o) := fun a u e _ => by rw [upd_ne (ne_of_none e h)]; exact e
theorem kp_mut {H : Hp} {p : Addr} {o : HO} : Kp [p] H (upd H p o) := fun a u e n => by rw [upd_ne (fun z => n (by rw [z]; exact List.mem_singleton.mpr rfl))]; exact e
theorem Kp.free {ws : List Addr} {H H1 : Hp} {p : Addr} (k : Kp ws H H1) (h : H1 p = none) (n : p ∉ ws) : H p = none := by
  cases q : H p with
  | none => rfl
  | some o => rw [k p o q n] at h; cases h
/-- a new object: the new heap is a letter -/
theorem new_heap {H : Hp} {p : Addr} {o : HO} {R : Hp → Prop} (h : H p = none) (k : ∀ H', Kp [] H H' → H' p = some o → R H') : R (upd H p o) := k _ (kp_new h) upd_same
theorem mut_heap {H : Hp} {p : Addr} {o : HO} {R : Hp → Prop} (k : ∀ H', Kp [p] H H' → H' p = some o → R H') : R (upd H p o) := k _ kp_mut upd_same

/-! ### names and slots -/
inductive Get : List Str → St → Str → V → Prop where
  | here {N : List Str} {σ : St} {x : Str} {v : V} : Get (x :: N) (some v :: σ) x v
  | there {N : List Str} {σ : St} {x y : Str} {v : V} {o : Option V} (h : Get N σ x v) : Get (y :: N) (o :: σ) x v
inductive SetF : List Str → St → Str → (V → St) → Prop where
  | here {N : List Str} {σ : St} {x : Str} {o : Option V} : SetF (x :: N) (o :: σ) x (fun v => some v :: σ)
  | there {N : List Str} {σ : St} {x y : Str} {o : Option V} {f : V → St} (h : SetF N σ x f) : SetF (y :: N) (o :: σ) x (fun v => o :: f v)
theorem Get.ix {N : List Str} {σ : St} {x : Str} {v : V} (g : Get N σ x v) : ∃ i : Nat, N[i]? = some x ∧ σ[i]? = some (some v) := by
  induction g with
  | here => exact ⟨0, rfl, rfl⟩
  | there _ ih => obtain ⟨i, h1, h2⟩ := ih; exact ⟨i + 1, by simpa using h1, by simpa using h2⟩
theorem SetF.ix {N : List Str} {σ : St} {x : Str} {f : V → St} (g : SetF N σ x f) : ∃ i : Nat, N[i]? = some x ∧ ∀ v, σ.set i (some v) = f v := by
  induction g with
  | here => exact ⟨0, rfl, fun _ => rfl⟩
  | there _ ih => obtain ⟨i, h1, h2⟩ := ih; exact ⟨i + 1, by simpa using h1, fun v => by rw [List.set_cons_succ, h2]⟩
theorem Get.mem {N : List Str} {σ : St} {x : Str} {v : V} (g : Get N σ x v) : x ∈ N := by
  obtain ⟨i, h, _⟩ := g.ix
  exact List.mem_of_getElem? h
theorem SetF.mem {N : List Str} {σ : St} {x : Str} {f : V → St} (g : SetF N σ x f) : x ∈ N := by
  obtain ⟨i, h, _⟩ := g.ix
  exact List.mem_of_getElem? h

/-- a def's names are its own, its globals are global: by one look at the scope -/
def okNames (N GL : List Str) (sc : Scope) : Bool :=
  (N.all fun x => (decide (sc.names.lookup x = some .local) || decide (sc.names.lookup x = some .cell)) && !(x == ("__debug__" : Str)) && !(x == ("__classdict__" : Str))) &&
  (GL.all fun x => decide (sc.names.lookup x = some .globalImplicit) && !(x == ("__debug__" : Str)) && decide (x ≠ ("__name__" : Str)))
/-- where one stands -/
structure Xk (X : Cx) (P : Program) (w : World) (K : PySem.W.Frag) (mg : Str → Option Value) (base : Heap) (sc : Scope) (N GL : List Str) (k : Nat) (E : XK) : Prop where
  prog : X.prog = P
  w : X.w = w
  K : X.K = K
  mg : X.mg = mg
  base : X.base = base
  n : X.N = N
  nd : N.Nodup
  loc : ∀ x ∈ N, Loc X.env.scope x ∧ (x == ("__debug__" : Str)) = false ∧ (x == ("__classdict__" : Str)) = false
  gl : ∀ x ∈ GL, Gl X x ∧ (x == ("__debug__" : Str)) = false ∧ x ≠ ("__name__" : Str)
  fn : ∀ x, X.fn x = true
  room : Room k X.A
  calm : X.calm = true
  tk : Takes X (fun c d _ H => E c d H)
  po : PassesOwn (model X.prog X.w) X.A X.env X.xe
  ev : ∃ (q : Str) (L f : Addr) (cd : Value), X.env = PyProof.Rows.envOfC q sc L f cd
section
variable {P : Program} {w : World} {K : PySem.W.Frag} {mg : Str → Option Value} {base : Heap}
theorem names_ok {X : Cx} {N GL : List Str} (h : okNames N GL X.env.scope = true) :
    (∀ x ∈ N, Loc X.env.scope x ∧ (x == ("__debug__" : Str)) = false ∧ (x == ("__classdict__" : Str)) = false) ∧ ∀ x ∈ GL, Gl X x ∧ (x == ("__debug__" : Str)) = false ∧ x ≠ ("__name__" : Str) := by
  unfold okNames at h
  rw [Bool.and_eq_true, List.all_eq_true, List.all_eq_true] at h
  refine ⟨fun x hx => ?_, fun x hx => ?_⟩
  · have q := h.1 x hx
    simp only [Bool.and_eq_true, Bool.or_eq_true, decide_eq_true_eq, Bool.not_eq_true'] at q
    exact ⟨q.1.1, q.1.2, q.2⟩
  · have q := h.2 x hx
    simp only [Bool.and_eq_true, decide_eq_true_eq, Bool.not_eq_true'] at q
    exact ⟨q.1.1, q.1.2, q.2⟩
/-- THE RULE for a def: its body walked -/
theorem fun_go {x qual : Str} {st : Stmt} {f : Addr} {fd : FuncData} {N ps : List Str} (GL : List Str) {k : Nat} {sp : Sp} (F : Fun K x qual st f fd) (S : FnScope N ps (defScope st)) (hok : okNames N GL (defScope st) = true) (len : ∀ vs H Q E, sp vs H Q E → vs.length = ps.length)
    (body : ∀ (X : Cx) (H : Hp) (vs : List V) (Q : VK) (E : XK), Xk X P w K mg base (defScope st) N GL k E → sp vs H Q E → Ss X (defBody st) (fun _ H' => Q .non H') Q (fun _ _ => False) (fun _ _ => False) (start N vs) H) :
    FnOk P w K mg base (L2.CX P w) (k + 1) f fd ps sp := by
  refine F.okX S len fun cdv A outer s H vs Q E hr h => ⟨_, pss, ?_⟩
  have q := names_ok (X := cxOf (L2.CX P w) P w K mg base N qual (defScope st) f cdv A outer s H E) (N := N) (GL := GL) hok
  exact body _ H vs Q E ⟨rfl, rfl, rfl, rfl, rfl, rfl, S.nd, q.1, q.2, fun _ => rfl, hr, rfl, takes_of rfl rfl rfl rfl, passes_of rfl, _, _, _, _, rfl⟩ h
end
end Sx
set_option Elab.async false
set_option linter.all false
set_option maxRecDepth 100000
set_option maxHeartbeats 4000000
/-! SxR: the walker's rules. -/
namespace Sx
open PySem L2
open PyProof.Rows (subscriptTail)

/-- a def that stands at its name: callable with positional arguments -/
def Df (P : Program) (w : World) (K : PySem.W.Frag) (mg : Str → Option Value) (base : Heap) (x : Str) (j : Nat) (sp : Sp) : Prop :=
  ∃ (f : Addr) (fd : FuncData) (ps : List Str), FnOk P w K mg base (L2.CX P w) j f fd ps sp ∧ mg x = some (.ref f) ∧ PySem.W.keepIn K (.ref f) = true ∧ Binds K fd ps []
/-- a class that stands at its name, made by its __init__ -/
def Dc (P : Program) (w : World) (K : PySem.W.Frag) (mg : Str → Option Value) (base : Heap) (x : Str) (Cl : Addr) (j : Nat) (sp : Sp) : Prop :=
  ∃ (f : Addr) (fd : FuncData) (ps : List Str), FnOk P w K mg base (L2.CX P w) j f fd ps sp ∧ mg x = some (.ref Cl) ∧ Mk K Cl f ∧ Binds K fd ps []
/-- a method of the class at C -/
def Dm (P : Program) (w : World) (K : PySem.W.Frag) (mg : Str → Option Value) (base : Heap) (Cl : Addr) (m : Str) (j : Nat) (sp : Sp) : Prop :=
  ∃ (f : Addr) (fd : FuncData) (ps : List Str), FnOk P w K mg base (L2.CX P w) j f fd ps sp ∧ Meth K Cl m f ∧ Binds K fd ps []
/-- a built-in name -/
def Bi (mg : Str → Option Value) (x : Str) (u : Value) : Prop := mg x = none ∧ bootBuiltins x = some u

/-- two ways -/
def Br (c : Bool) (A B : Prop) : Prop := (c = true → A) ∧ (c = false → B)
theorem Br.ite {c : Bool} {A B : Prop} (h : Br c A B) : if c = true then A else B := by
  cases c with
  | true => rw [if_pos rfl]; exact h.1 rfl
  | false => rw [if_neg Bool.false_ne_true]; exact h.2 rfl
theorem br_t {A B : Prop} (h : A) : Br true A B := ⟨fun _ => h, (fun z => nomatch z)⟩
theorem br_f {A B : Prop} (h : B) : Br false A B := ⟨(fun z => nomatch z), fun _ => h⟩
theorem br_d {p : Prop} [Decidable p] {A B : Prop} (h1 : p → A) (h2 : ¬ p → B) : Br (decide p) A B := ⟨fun z => h1 (of_decide_eq_true z), fun z => h2 (of_decide_eq_false z)⟩
theorem br_dt {p : Prop} [Decidable p] {A B : Prop} (hp : p) (h1 : A) : Br (decide p) A B := br_d (fun _ => h1) fun z => absurd hp z
theorem br_df {p : Prop} [Decidable p] {A B : Prop} (hp : ¬ p) (h1 : B) : Br (decide p) A B := br_d (fun z => absurd z hp) fun _ => h1
theorem br_n {c : Bool} {A B : Prop} (h : Br c B A) : Br (!c) A B := by
  cases c with
  | true => exact br_f (h.1 rfl)
  | false => exact br_t (h.2 rfl)
theorem br_any {c : Bool} {A B : Prop} (h1 : c = true → A) (h2 : c = false → B) : Br c A B := ⟨h1, h2⟩

/-! ### an instance's fields, as a list -/
inductive PutR : Str → V → List (Str × V) → List (Str × V) → Prop where
  | nil {f : Str} {v : V} : PutR f v [] [(f, v)]
  | here {f : Str} {v y : V} {r : List (Str × V)} : PutR f v ((f, y) :: r) ((f, v) :: r)
  | there {f g : Str} {v y : V} {r r' : List (Str × V)} (n : g ≠ f) (h : PutR f v r r') : PutR f v ((g, y) :: r) ((g, y) :: r')
theorem PutR.eq {f : Str} {v : V} {fs fs' : List (Str × V)} (h : PutR f v fs fs') : putF f v fs = fs' := by
  induction h with
  | nil => rfl
  | here => show (if _ = _ then _ else _) = _; rw [if_pos rfl]
  | there n _ ih => show (if _ = _ then _ else _) = _; rw [if_neg n, ih]
theorem lk_here {f : Str} {v : V} {r : List (Str × V)} : ((f, v) :: r).lookup f = some v := by simp [List.lookup]
theorem lk_there {f g : Str} {v y : V} {r : List (Str × V)} (n : f ≠ g) (h : r.lookup f = some v) : ((g, y) :: r).lookup f = some v := by
  have e : (f == g) = false := beq_eq_false_iff_ne.mpr n
  simp only [List.lookup, e]
  exact h
theorem lkn_nil {f : Str} : ([] : List (Str × V)).lookup f = none := rfl
theorem lkn_there {f g : Str} {y : V} {r : List (Str × V)} (n : f ≠ g) (h : r.lookup f = none) : ((g, y) :: r).lookup f = none := by
  have e : (f == g) = false := beq_eq_false_iff_ne.mpr n
  simp only [List.lookup, e]
  exact h

theorem mem_hd {x : Str} {r : List Str} : x ∈ x :: r := List.mem_cons_self
theorem mem_tl {x y : Str} {r : List Str} (h : x ∈ r) : x ∈ y :: r := List.mem_cons_of_mem _ h
theorem ni_nil {a : Addr} : a ∉ ([] : List Addr) := fun z => nomatch z
theorem ni_cons {a b : Addr} {ws : List Addr} (h : a ≠ b) (n : a ∉ ws) : a ∉ b :: ws := fun z => (List.mem_cons.mp z).elim h n
inductive LSet : List V → Nat → V → List V → Prop where
  | here {x v : V} {r : List V} : LSet (x :: r) 0 v (v :: r)
  | there {x v : V} {r r' : List V} {j : Nat} (h : LSet r j v r') : LSet (x :: r) (j + 1) v (x :: r')
theorem LSet.eq {xs xs' : List V} {j : Nat} {v : V} (h : LSet xs j v xs') : xs.set j v = xs' := by
  induction h with
  | here => rfl
  | there _ ih => rw [List.set_cons_succ, ih]
/-- the slots at a def's beginning -/
inductive Start : List Str → List V → St → Prop where
  | done : Start [] [] []
  | non {x : Str} {N : List Str} {σ : St} (h : Start N [] σ) : Start (x :: N) [] (none :: σ)
  | val {x : Str} {v : V} {N : List Str} {vs : List V} {σ : St} (h : Start N vs σ) : Start (x :: N) (v :: vs) (some v :: σ)
theorem Start.eq {N : List Str} {vs : List V} {σ : St} (h : Start N vs σ) : L2.start N vs = σ := by
  induction h with
  | done => rfl
  | @non x N σ h ih =>
    unfold L2.start at ih ⊢
    rw [← ih]
    show List.replicate (N.length + 1) none = none :: List.replicate N.length none
    rfl
  | @val x v N vs σ h ih =>
    unfold L2.start at ih ⊢
    rw [← ih]
    simp
theorem start_go {X : Cx} {N : List Str} {vs : List V} {σ : St} {H : Hp} {sts : List Stmt} {nx bk ct : St → Hp → Prop} {rt : VK} (h : Start N vs σ) (q : Ss X sts nx rt bk ct σ H) : Ss X sts nx rt bk ct (L2.start N vs) H := by
  rw [h.eq]
  exact q

/-- a new tuple, a new list -/
structure NewT (xs : List V) (H : Hp) (Q : VK) : Prop where
  len : xs.length ≤ sizeLine
  q : ∀ p H', H p = none → Kp [] H H' → H' p = some (.tup xs) → Q (.ref p) H'
structure NewL (xs : List V) (H : Hp) (Q : VK) : Prop where
  len : xs.length ≤ sizeLine
  q : ∀ p H', H p = none → Kp [] H H' → H' p = some (.lst xs) → Q (.ref p) H'
/-- a field read, stored -/
structure FldR (K : PySem.W.Frag) (x : V) (f : Str) (H : Hp) (Q : VK) : Prop where
  ex : ∃ a Cl dx fs v, x = .ref a ∧ H a = some (.ins Cl dx fs) ∧ Cls K Cl ∧ NoAttr K Cl f ∧ fs.lookup f = some v ∧ Q v H
structure FldS (K : PySem.W.Frag) (x : V) (f : Str) (y : V) (H : Hp) (R : Hp → Prop) : Prop where
  ex : ∃ a Cl dx fs fs', x = .ref a ∧ H a = some (.ins Cl dx fs) ∧ Cls K Cl ∧ NoAttr K Cl f ∧ fs.length < 1000 ∧ PutR f y fs fs' ∧ ∀ H3, Kp [a] H H3 → H3 a = some (.ins Cl dx fs') → R H3
section
variable {X : Cx} {P : Program} {w : World} {K : PySem.W.Frag} {mg : Str → Option Value} {base : Heap} {sc : Scope} {N GL : List Str} {k : Nat} {EX : XK}
variable {e a b c o : Expr} {es rest : List Expr} {σ : St} {H : Hp} {Q : VK} {TQ : Bool → Hp → Prop} {pos pos' apos p : Pos} {x m : Str} {v : V}

/-! ### names, constants -/
theorem e_var (xk : Xk X P w K mg base sc N GL k EX) (g : Get N σ x v) (q : Q v H) : E X (.Name x pos) σ H Q := by
  obtain ⟨i, h1, h2⟩ := g.ix
  have z := xk.loc x g.mem
  have vis : Vis X.env.scope x := by rcases z.1 with y | y; exact .inl y; exact .inr (.inl y)
  exact .of (pe_var (i := i) (by rw [xk.n]; exact h1) vis z.2.1 z.2.2) ⟨v, h2, q⟩
theorem e_glob {u : Value} (xk : Xk X P w K mg base sc N GL k EX) (hg : x ∈ GL) (hm : mg x = some u) (r : RelV v u) (q : Q v H) : E X (.Name x pos) σ H Q :=
  .of (pe_glob (xk.gl x hg).1 (by rw [xk.mg]; exact hm) r (xk.gl x hg).2.1) q
theorem e_bltn {u : Value} (xk : Xk X P w K mg base sc N GL k EX) (hg : x ∈ GL) (hb : Bi mg x u) (r : RelV v u) (q : Q v H) : E X (.Name x pos) σ H Q :=
  .of (pe_bltn (xk.gl x hg).1 (by rw [xk.mg]; exact hb.1) hb.2 r (xk.gl x hg).2.2 (xk.gl x hg).2.1) q
theorem e_int {i : Int} {j : Nat} (q : Q (.int i) H) : E X (.Constant (.int i) j pos) σ H Q := .of pe_int q
theorem e_bl {i : Bool} {j : Nat} (q : Q (.bl i) H) : E X (.Constant (.bool i) j pos) σ H Q := .of pe_bl q
theorem e_non {j : Nat} (q : Q .non H) : E X (.Constant .none j pos) σ H Q := .of pe_non q
theorem e_str {i : Str} {j : Nat} (q : Q (.str i) H) : E X (.Constant (.str i) j pos) σ H Q := .of pe_str q

/-! ### operators -/
theorem e_bin {op : Operator} (h : E X a σ H fun x H1 => E X b σ H1 fun y H2 => Bo X op x y H2 Q) : E X (.BinOp a op b pos) σ H Q := .of (pe_op pBo pe pe) h
theorem e_neg (h : E X a σ H fun x H1 => Uo X .USub x H1 Q) : E X (.UnaryOp .USub a pos) σ H Q := .of (pe_un pUo pe) h
theorem e_cmp {op : CmpOp} (hm : behindInMarks op b = false) (h : E X a σ H fun x H1 => E X b σ H1 fun y H2 => Co X op x y H2 Q) : E X (.Compare a [op] [b] pos) σ H Q := .of (pe_cmpR pCo pe pe hm) h
theorem e_one {op : BoolOp} (h : E X a σ H Q) : E X (.BoolOp op [a] pos) σ H Q := .of (pe_one pe) h
theorem E.mono {Q' : VK} (h : E X e σ H Q) (i : ∀ v H, Q v H → Q' v H) : E X e σ H Q' := ⟨fun pins s I => wpAny_mono (h.run pins s I) (fun _ _ ⟨v, H', I', r, q⟩ => ⟨v, H', I', r, i _ _ q⟩) fun _ _ z => z⟩
theorem T.mono {Q' : Bool → Hp → Prop} (h : T X e σ H TQ) (i : ∀ v H, TQ v H → Q' v H) : T X e σ H Q' := ⟨fun pins s I => wpAny_mono (h.run pins s I) (fun _ _ ⟨H', I', q⟩ => ⟨H', I', i _ _ q⟩) fun _ _ z => z⟩
theorem As.mono {R R' : List V → Hp → Prop} (h : As X es σ H R) (i : ∀ v H, R v H → R' v H) : As X es σ H R' := ⟨fun pos pins s I => wpAny_mono (h.run pos pins s I) (fun _ _ ⟨v, H', I', r, q⟩ => ⟨v, H', I', r, i _ _ q⟩) fun _ _ z => z⟩
theorem C.mono {f : Value} {vs : List V} {Q' : VK} (h : C X f vs H Q) (i : ∀ v H, Q v H → Q' v H) : C X f vs H Q' := ⟨fun pins s σ us I r => wpAny_mono (h.run pins s σ us I r) (fun _ _ ⟨v, H', I', r, q⟩ => ⟨v, H', I', r, i _ _ q⟩) fun _ _ z => z⟩
theorem B2.mono {f : Value → Value → Sem Value} {x y : V} {Q' : VK} (h : B2 X f x y H Q) (i : ∀ v H, Q v H → Q' v H) : B2 X f x y H Q' := ⟨fun pins s σ v u I r1 r2 => wpAny_mono (h.run pins s σ v u I r1 r2) (fun _ _ ⟨v, H', I', r, q⟩ => ⟨v, H', I', r, i _ _ q⟩) fun _ _ z => z⟩
theorem e_and (h : E X a σ H fun x H1 => ∃ q, x = .bl q ∧ Br q (E X (.BoolOp .And (b :: rest) pos) σ H1 Q) (Q (.bl false) H1)) : E X (.BoolOp .And (a :: b :: rest) pos) σ H Q :=
  .of (pe_and pe pe) (h.mono fun _ _ ⟨q, e, z⟩ => ⟨q, e, z.ite⟩)
theorem e_or (h : E X a σ H fun x H1 => ∃ q, x = .bl q ∧ Br q (Q (.bl true) H1) (E X (.BoolOp .Or (b :: rest) pos) σ H1 Q)) : E X (.BoolOp .Or (a :: b :: rest) pos) σ H Q :=
  .of (pe_or pe pe) (h.mono fun _ _ ⟨q, e, z⟩ => ⟨q, e, z.ite⟩)
theorem e_notV (h : E X a σ H fun x H1 => ∃ q, x = .bl q ∧ Q (.bl (!q)) H1) : E X (.UnaryOp .Not a pos) σ H Q := .of (pe_not pe) h
theorem e_if (h : T X c σ H fun q H1 => Br q (E X a σ H1 Q) (E X b σ H1 Q)) : E X (.IfExp c a b pos) σ H Q := .of (pe_ifExp pt pe pe) (h.mono fun _ _ z => z.ite)

/-! ### tests -/
theorem t_cmp {op : CmpOp} (hm : behindInMarks op b = false) (h : E X a σ H fun x H1 => E X b σ H1 fun y H2 => Co X op x y H2 fun z H3 => ∃ q, z = .bl q ∧ TQ q H3) : T X (.Compare a [op] [b] pos) σ H TQ := .of (pt_cmpR pCo pe pe hm) h
theorem e_chain {op op' : CmpOp} (h : E X a σ H fun x H1 => E X b σ H1 fun y H2 => Co X op x y H2 fun z H3 => ∃ q, z = .bl q ∧ Br q (E X c σ H3 fun z' H4 => Co X op' y z' H4 Q) (Q (.bl false) H3))
    (hm : lastMarks [op, op'] [b, c] = false := by with_unfolding_all rfl) : E X (.Compare a [op, op'] [b, c] pos) σ H Q :=
  .of (pe_chain pCo pCo pe pe pe hm) (h.mono fun _ _ h => h.mono fun _ _ h => h.mono fun _ _ ⟨q, ez, z⟩ => ⟨q, ez, z.ite⟩)
theorem t_chain {op op' : CmpOp} (h : E X a σ H fun x H1 => E X b σ H1 fun y H2 => Co X op x y H2 fun z H3 => ∃ q, z = .bl q ∧ Br q (E X c σ H3 fun z' H4 => Co X op' y z' H4 fun z H3 => ∃ q, z = .bl q ∧ TQ q H3) (TQ false H3))
    (hm : lastMarks [op, op'] [b, c] = false := by with_unfolding_all rfl) : T X (.Compare a [op, op'] [b, c] pos) σ H TQ :=
  .of (pt_chain pCo pCo pe pe pe hm) (h.mono fun _ _ h => h.mono fun _ _ h => h.mono fun _ _ ⟨q, ez, z⟩ => ⟨q, ez, (show Br q _ _ from ⟨z.1, fun e => ⟨false, rfl, z.2 e⟩⟩).ite⟩)
theorem t_and1 (h : T X a σ H TQ) : T X (.BoolOp .And [a] pos) σ H TQ := .of (PW.pt (pw_and1 pt)) h
theorem t_or1 (h : T X a σ H TQ) : T X (.BoolOp .Or [a] pos) σ H TQ := .of (PW.pt (pw_or1 pt)) h
theorem w_and1 (h : T X a σ H TQ) : W X (.BoolOp .And [a] pos) σ H TQ := .of (pw_and1 pt) h
theorem w_or1 (h : T X a σ H TQ) : W X (.BoolOp .Or [a] pos) σ H TQ := .of (pw_or1 pt) h
theorem w_and (h : T X a σ H fun q H1 => Br q (W X (.BoolOp .And (b :: rest) pos) σ H1 TQ) (TQ false H1)) : W X (.BoolOp .And (a :: b :: rest) pos) σ H TQ := .of (pw_and pt pw) (h.mono fun _ _ z => z.ite)
theorem w_or (h : T X a σ H fun q H1 => Br q (TQ true H1) (W X (.BoolOp .Or (b :: rest) pos) σ H1 TQ)) : W X (.BoolOp .Or (a :: b :: rest) pos) σ H TQ := .of (pw_or pt pw) (h.mono fun _ _ z => z.ite)
theorem t_and (h : T X a σ H fun q H1 => Br q (W X (.BoolOp .And (b :: rest) pos) σ H1 TQ) (TQ false H1)) : T X (.BoolOp .And (a :: b :: rest) pos) σ H TQ := .of (PW.pt (pw_and pt pw)) (h.mono fun _ _ z => z.ite)
theorem t_or (h : T X a σ H fun q H1 => Br q (TQ true H1) (W X (.BoolOp .Or (b :: rest) pos) σ H1 TQ)) : T X (.BoolOp .Or (a :: b :: rest) pos) σ H TQ := .of (PW.pt (pw_or pt pw)) (h.mono fun _ _ z => z.ite)
theorem t_not (h : T X a σ H fun q H1 => TQ (!q) H1) : T X (.UnaryOp .Not a pos) σ H TQ := .of (pt_not pt) h
theorem t_val (h : E X e σ H fun x H1 => Tr X x H1 TQ) (he : ∀ whole, isTrue e X.env whole = (do let v ← whole; standAt e.pos; holding [v] (truthy v)) := by intro _; rfl) : T X e σ H TQ := by
  refine ⟨fun pins s I => PyProof.Rows.isTrue_plain (wpAny_mono (h.run pins s I) (fun v s1 ⟨x, H1, I1, r1, q1⟩ => ?_) fun _ _ z => z) (he _)⟩
  exact q1.run pins s1 σ v I1 r1
theorem tr_bl {q : Bool} (h : TQ q H) : Tr X (.bl q) H TQ := .of (k := q) rfl h

/-! ### operations by values -/
theorem b_add {i j : Int} (h : Q (.int (i + j)) H) : Bo X .Add (.int i) (.int j) H Q := .of op_add ⟨i, j, rfl, rfl, h⟩
theorem b_sub {i j : Int} (h : Q (.int (i - j)) H) : Bo X .Sub (.int i) (.int j) H Q := .of op_sub ⟨i, j, rfl, rfl, h⟩
theorem b_mul {i j : Int} (hc : IntMulOk i j) (h : Q (.int (i * j)) H) : Bo X .Mult (.int i) (.int j) H Q := ⟨fun pins s σ v u I r1 r2 => by
  obtain ⟨t, rfl⟩ := r1
  obtain ⟨t', rfl⟩ := r2
  exact PyProof.Rows.mul_int ⟨.int _, H, I.tok _, ⟨_, rfl⟩, h⟩ hc⟩
theorem b_mod {i j : Int} (hj : 0 < j) (h : Q (.int (i % j)) H) : Bo X .Mod (.int i) (.int j) H Q := .of op_mod ⟨i, j, rfl, rfl, hj, h⟩
theorem b_modN {i j : Int} (hj : j ≠ 0) (h : Q (.int (i.fmod j)) H) : Bo X .Mod (.int i) (.int j) H Q := .of op_modN ⟨i, j, rfl, rfl, hj, h⟩
theorem b_fdiv {i j : Int} (hj : CDivW i j) (h : Q (.int (i / j)) H) : Bo X .FloorDiv (.int i) (.int j) H Q := .of op_fdivW ⟨i, j, rfl, rfl, hj, h⟩
theorem b_pow {i j : Int} (hj : CPow i j) (h : Q (.int (i ^ j.toNat)) H) : Bo X .Pow (.int i) (.int j) H Q := .of op_pow ⟨i, j, rfl, rfl, hj, h⟩
theorem b_pow18 (h : Q (.int 1000000000000000000) H) : Bo X .Pow (.int 10) (.int 18) H Q := b_pow ⟨by decide, by decide, by decide⟩ h
theorem b_pow9 (h : Q (.int 1000000000) H) : Bo X .Pow (.int 10) (.int 9) H Q := b_pow ⟨by decide, by decide, by decide⟩ h
theorem b_pow30 (h : Q (.int 1000000000000000000000000000000) H) : Bo X .Pow (.int 10) (.int 30) H Q := b_pow ⟨by decide, by decide, by decide⟩ h
theorem mul_ok_r {i j : Int} (h : -(2 ^ 64) < j ∧ j < 2 ^ 64) : IntMulOk i j := CMul.ok (.inr h)
theorem mul_ok_l {i j : Int} (h : -(2 ^ 64) < i ∧ i < 2 ^ 64) : IntMulOk i j := CMul.ok (.inl h)
theorem b_addS {i j : Str} (hl : i.length + j.length ≤ sizeLine) (h : Q (.str (i ++ j)) H) : Bo X .Add (.str i) (.str j) H Q := .of op_add_str ⟨i, j, rfl, rfl, hl, h⟩
theorem c_lt {i j : Int} (h : Q (.bl (decide (i < j))) H) : Co X .Lt (.int i) (.int j) H Q := .of op_lt ⟨i, j, rfl, rfl, h⟩
theorem c_le {i j : Int} (h : Q (.bl (decide (i ≤ j))) H) : Co X .LtE (.int i) (.int j) H Q := .of op_le ⟨i, j, rfl, rfl, h⟩
theorem c_gt {i j : Int} (h : Q (.bl (decide (j < i))) H) : Co X .Gt (.int i) (.int j) H Q := .of op_gt ⟨i, j, rfl, rfl, h⟩
theorem c_ge {i j : Int} (h : Q (.bl (decide (j ≤ i))) H) : Co X .GtE (.int i) (.int j) H Q := .of op_ge ⟨i, j, rfl, rfl, h⟩
theorem dec_int' {i j : Int} : decide (V.int i = V.int j) = decide (i = j) := by
  by_cases h : i = j
  · subst h; simp
  · rw [decide_eq_false h, decide_eq_false fun z => h (V.int.inj z)]
theorem c_eqI {i j : Int} (h : Q (.bl (decide (i = j))) H) : Co X .Eq (.int i) (.int j) H Q := .of op_eq ⟨rfl, by rw [dec_int']; exact h⟩
theorem c_neI {i j : Int} (h : Q (.bl (!decide (i = j))) H) : Co X .NotEq (.int i) (.int j) H Q := .of op_ne ⟨rfl, by rw [dec_int']; exact h⟩
theorem c_eq {x y : V} (hs : scal x y = true) (h : Q (.bl (decide (x = y))) H) : Co X .Eq x y H Q := .of op_eq ⟨hs, h⟩
theorem c_ne {x y : V} (hs : scal x y = true) (h : Q (.bl (!decide (x = y))) H) : Co X .NotEq x y H Q := .of op_ne ⟨hs, h⟩
theorem c_isN {x : V} (h : Q (.bl (decide (x = .non))) H) : Co X .Is x .non H Q := .of op_isN ⟨rfl, h⟩
theorem c_notN {x : V} (h : Q (.bl (!decide (x = .non))) H) : Co X .IsNot x .non H Q := .of op_notN ⟨rfl, h⟩
theorem u_neg {i : Int} (h : Q (.int (-i)) H) : Uo X .USub (.int i) H Q := .of un_neg ⟨i, rfl, h⟩

/-! ### arguments, displays -/
theorem as_nil {R : List V → Hp → Prop} (h : R [] H) : As X [] σ H R := .of pa_nil h
theorem as_cons {R : List V → Hp → Prop} (h : E X e σ H fun x H1 => As X es σ H1 fun xs H2 => R (x :: xs) H2) (hs : starEach (e :: es) X.env = (false, eval e X.env) :: starEach es X.env := by rfl) : As X (e :: es) σ H R := .of (pa_cons pe pa hs) h
theorem e_tup {j} (h : As X es σ H fun xs H1 => NewT xs H1 Q) : E X (.Tuple es j pos) σ H Q :=
  .of (pe_tup pa) (h.mono fun _ _ ⟨l, z⟩ => ⟨l, fun p np => z p _ np (kp_new np) upd_same⟩)
theorem e_lst (h : As X es σ H fun xs H1 => NewL xs H1 Q) : E X (.List es pos) σ H Q :=
  .of (pe_lst pa) (h.mono fun _ _ ⟨l, z⟩ => ⟨l, fun p np => z p _ np (kp_new np) upd_same⟩)

/-! ### calls -/
theorem e_call {j : Nat} {sp : Sp} (xk : Xk X P w K mg base sc N GL k EX) (hg : x ∈ GL) (D : Df P w K mg base x j sp) (hj : j ≤ k) (h : As X (e :: es) σ H fun vs H1 => sp vs H1 Q EX)
    (he : starEach (e :: es) X.env = (false, eval e X.env) :: starEach es X.env := by rfl) (hpl : (backTo pos (starEach es X.env)).any (·.1) = false := by rfl) : E X (.Call (.Name x p) (e :: es) [] pos) σ H Q := by
  obtain ⟨f, fd, ps, F, hm, kp, b⟩ := D
  obtain ⟨rfl, rfl, rfl, rfl, rfl, -, -, -, gl, -, room, -, tk, -, -⟩ := xk
  refine .of (pe_call F (room.mono hj) (gl x hg).1 hm kp b .nil (passes_call tk fun _ _ _ _ z => z) pa (gl x hg).2.1 he hpl) (h.mono fun vs H1 z => ?_)
  show sp (vs ++ []) H1 Q EX
  rw [List.append_nil]
  exact z
theorem e_call0 {j : Nat} {sp : Sp} (xk : Xk X P w K mg base sc N GL k EX) (hg : x ∈ GL) (D : Df P w K mg base x j sp) (hj : j ≤ k) (h : sp [] H Q EX) : E X (.Call (.Name x p) [] [] pos) σ H Q := by
  obtain ⟨f, fd, ps, F, hm, kp, b⟩ := D
  obtain ⟨rfl, rfl, rfl, rfl, rfl, -, -, -, gl, -, room, -, tk, -, -⟩ := xk
  exact .of (pe_call0 F (room.mono hj) (gl x hg).1 hm kp b .nil (passes_call tk fun _ _ _ _ z => z) (gl x hg).2.1) h
theorem e_make {j : Nat} {sp : Sp} {Cl : Addr} (xk : Xk X P w K mg base sc N GL k EX) (hg : x ∈ GL) (D : Dc P w K mg base x Cl j sp) (hj : j + 1 ≤ k)
    (h : As X (e :: es) σ H fun vs H1 => ∀ x dx H2, H1 x = none → H1 dx = none → dx ≠ x → Kp [] H1 H2 → H2 x = some (.ins Cl dx []) → sp (.ref x :: vs) H2 (fun v H3 => v = .non ∧ Q (.ref x) H3) EX)
    (he : starEach (e :: es) X.env = (false, eval e X.env) :: starEach es X.env := by rfl) (hpl : (backTo pos (starEach es X.env)).any (·.1) = false := by rfl) : E X (.Call (.Name x p) (e :: es) [] pos) σ H Q := by
  obtain ⟨f, fd, ps, F, hm, M, b⟩ := D
  obtain ⟨rfl, rfl, rfl, rfl, rfl, -, -, -, gl, -, room, -, tk, -, -⟩ := xk
  refine .of (pe_make M F (room.mono hj) (gl x hg).1 hm b .nil (passes_call tk fun _ _ _ _ z => z) pa (gl x hg).2.1 he hpl) (h.mono fun vs H1 z => ?_)
  intro x dx n1 n2 n3
  rw [List.append_nil]
  refine z x dx _ n1 n2 n3 ?_ upd_same
  exact (kp_new n2).trans (kp_new (by rw [upd_ne n3.symm]; exact n1))
theorem e_make0 {j : Nat} {sp : Sp} {Cl : Addr} (xk : Xk X P w K mg base sc N GL k EX) (hg : x ∈ GL) (D : Dc P w K mg base x Cl j sp) (hj : j + 1 ≤ k)
    (h : ∀ x dx H2, H x = none → H dx = none → dx ≠ x → Kp [] H H2 → H2 x = some (.ins Cl dx []) → sp [.ref x] H2 (fun v H3 => v = .non ∧ Q (.ref x) H3) EX) : E X (.Call (.Name x p) [] [] pos) σ H Q := by
  obtain ⟨f, fd, ps, F, hm, M, b⟩ := D
  obtain ⟨rfl, rfl, rfl, rfl, rfl, -, -, -, gl, -, room, -, tk, -, -⟩ := xk
  refine .of (pe_make0 M F (room.mono hj) (gl x hg).1 hm b .nil (passes_call tk fun _ _ _ _ z => z) (gl x hg).2.1) ?_
  intro x dx n1 n2 n3
  refine h x dx _ n1 n2 n3 ?_ upd_same
  exact (kp_new n2).trans (kp_new (by rw [upd_ne n3.symm]; exact n1))
theorem e_callB {id : String} (xk : Xk X P w K mg base sc N GL k EX) (hg : x ∈ GL) (hb : Bi mg x (.builtin id)) (h : As X (e :: es) σ H fun vs H1 => C X (.builtin id) vs H1 Q)
    (he : starEach (e :: es) X.env = (false, eval e X.env) :: starEach es X.env := by rfl) (hpl : (backTo pos (starEach es X.env)).any (·.1) = false := by rfl) : E X (.Call (.Name x p) (e :: es) [] pos) σ H Q :=
  .of (pe_callB pcall (xk.gl x hg).1 (by rw [xk.mg]; exact hb.1) hb.2 pa (xk.gl x hg).2.2 (xk.gl x hg).2.1 he hpl) h
theorem e_callT {id : String} (xk : Xk X P w K mg base sc N GL k EX) (hg : x ∈ GL) (hb : Bi mg x (.type id)) (h : As X (e :: es) σ H fun vs H1 => C X (.type id) vs H1 Q)
    (he : starEach (e :: es) X.env = (false, eval e X.env) :: starEach es X.env := by rfl) (hpl : (backTo pos (starEach es X.env)).any (·.1) = false := by rfl) : E X (.Call (.Name x p) (e :: es) [] pos) σ H Q :=
  .of (pe_callTy pcall (xk.gl x hg).1 (by rw [xk.mg]; exact hb.1) hb.2 pa (xk.gl x hg).2.2 (xk.gl x hg).2.1 he hpl) h
theorem e_meth {j : Nat} {sp : Sp} {Cl : Addr} (xk : Xk X P w K mg base sc N GL k EX) (cl : Cls K Cl) (D : Dm P w K mg base Cl m j sp) (hj : j ≤ k)
    (h : E X o σ H fun x H1 => ∃ a dx fs, x = .ref a ∧ H1 a = some (.ins Cl dx fs) ∧ fs.lookup m = none ∧ As X (e :: es) σ H1 fun vs H2 => sp (.ref a :: vs) H2 Q EX) {pl : Sem Bool}
    (hst : starEach (e :: es) X.env = (false, eval e X.env) :: starEach es X.env := by rfl) (hpl : (backTo pos (starEach es X.env)).any (·.1) = false := by rfl)
    (ht : eval (.Call (.Attribute o m apos) (e :: es) [] pos) X.env = (do
      let ov ← eval o X.env
      standAt apos.atName
      let (f, first) ← holding [ov] (getMethod ov m pl)
      callWith pos f first (backTo pos (starEach (e :: es) X.env)) (backToKw pos (keywordEach [] X.env))) := by rfl) : E X (.Call (.Attribute o m apos) (e :: es) [] pos) σ H Q := by
  obtain ⟨f, fd, ps, F, hm, b⟩ := D
  obtain ⟨rfl, rfl, rfl, rfl, rfl, -, -, -, gl, -, room, -, tk, -, -⟩ := xk
  refine .of (pe_meth pe cl hm F (room.mono hj) b .nil (passes_call tk fun _ _ _ _ z => z) pa hst hpl ht) (h.mono fun x H1 ⟨a, dx, fs, e1, e2, e3, z⟩ => ⟨a, dx, fs, e1, e2, e3, z.mono fun vs H2 q => ?_⟩)
  rw [List.append_nil, e1]
  exact q
theorem e_meth0 {j : Nat} {sp : Sp} {Cl : Addr} (xk : Xk X P w K mg base sc N GL k EX) (cl : Cls K Cl) (D : Dm P w K mg base Cl m j sp) (hj : j ≤ k)
    (h : E X o σ H fun x H1 => ∃ a dx fs, x = .ref a ∧ H1 a = some (.ins Cl dx fs) ∧ fs.lookup m = none ∧ sp [.ref a] H1 Q EX) {pl : Sem Bool}
    (ht : eval (.Call (.Attribute o m apos) [] [] pos) X.env = (do
      let ov ← eval o X.env
      standAt apos.atName
      let (f, first) ← holding [ov] (getMethod ov m pl)
      callWith pos f first (backTo pos (starEach [] X.env)) (backToKw pos (keywordEach [] X.env))) := by rfl) : E X (.Call (.Attribute o m apos) [] [] pos) σ H Q := by
  obtain ⟨f, fd, ps, F, hm, b⟩ := D
  obtain ⟨rfl, rfl, rfl, rfl, rfl, -, -, -, gl, -, room, -, tk, -, -⟩ := xk
  refine .of (pe_meth0 pe cl hm F (room.mono hj) b .nil (passes_call tk fun _ _ _ _ z => z) ht) (h.mono fun x H1 ⟨a, dx, fs, e1, e2, e3, z⟩ => ⟨a, dx, fs, e1, e2, e3, ?_⟩)
  subst e1
  exact z
/-- x.f of an instance -/
theorem e_fld {f : Str} (xk : Xk X P w K mg base sc N GL k EX) (h : E X e σ H fun x H1 => FldR K x f H1 Q)
    (hb : attributeBase e f X.env (eval e X.env) = eval e X.env := by rfl) : E X (.Attribute e f pos) σ H Q := by
  obtain ⟨-, -, rfl, -⟩ := xk
  exact .of (pe_fld pe hb) (h.mono fun _ _ z => z.ex)
/-- a[b] -/
theorem e_sub (h : E X a σ H fun x H1 => E X b σ H1 fun y H2 => Ix X a b x y H2 Q) : E X (.Subscript a b pos) σ H Q :=
  ⟨fun pins s I => PyProof.Rows.Subscript_ (binT pe pe I h fun v u s2 x y H2 I2 rx ry q => q.run pins s2 σ v u I2 rx ry)⟩
theorem ix_l {q : Addr} {xs : List V} {i : Int} (xk : Xk X P w K mg base sc N GL k EX) (hs : PlainIx b) (hq : SqL K H q xs) (hi : atI xs i = some v) (h : Q v H) : Ix X a b (.ref q) (.int i) H Q := .of ix_list hs ⟨q, xs, i, v, rfl, rfl, by rw [xk.K]; exact hq, hi, h⟩
theorem ix_t {q : Addr} {xs : List V} {i : Int} (xk : Xk X P w K mg base sc N GL k EX) (hs : PlainIx b) (hq : SqT K H q xs) (hi : atI xs i = some v) (h : Q v H) : Ix X a b (.ref q) (.int i) H Q := .of ix_tup hs ⟨q, xs, i, v, rfl, rfl, by rw [xk.K]; exact hq, hi, h⟩

/-! ### built-ins by values -/
theorem k_abs {i : Int} (h : Q (.int (if i < 0 then -i else i)) H) : C X (.builtin "abs") [.int i] H Q := .of call_abs ⟨i, rfl, h⟩
theorem k_max {i j : Int} (xk : Xk X P w K mg base sc N GL k EX) (h : Q (.int (if j > i then j else i)) H) : C X (.builtin "max") [.int i, .int j] H Q := .of (call_max2 xk.calm) ⟨i, j, rfl, h⟩
theorem k_min {i j : Int} (xk : Xk X P w K mg base sc N GL k EX) (h : Q (.int (if j < i then j else i)) H) : C X (.builtin "min") [.int i, .int j] H Q := .of (call_min2 xk.calm) ⟨i, j, rfl, h⟩
theorem k_int {i : Int} (h : Q (.int i) H) : C X (.type "int") [.int i] H Q := .of call_int1 (.inl ⟨i, rfl, h⟩)
theorem k_intB {q : Bool} (h : Q (.int (if q then 1 else 0)) H) : C X (.type "int") [.bl q] H Q := .of call_int1 (.inr ⟨q, rfl, h⟩)
theorem k_boolB {q : Bool} (h : Q (.bl q) H) : C X (.type "bool") [.bl q] H Q := .of call_bool1 (.inr ⟨q, rfl, h⟩)
theorem k_lenL {q : Addr} {xs : List V} (xk : Xk X P w K mg base sc N GL k EX) (hq : SqL K H q xs) (h : Q (.int xs.length) H) : C X (.builtin "len") [.ref q] H Q := .of call_len_seq ⟨q, xs, rfl, .inl (by rw [xk.K]; exact hq), h⟩
theorem k_lenT {q : Addr} {xs : List V} (xk : Xk X P w K mg base sc N GL k EX) (hq : SqT K H q xs) (h : Q (.int xs.length) H) : C X (.builtin "len") [.ref q] H Q := .of call_len_seq ⟨q, xs, rfl, .inr (by rw [xk.K]; exact hq), h⟩
theorem k_isi {x c : V} {t u : Value} {r : Bool} (xk : Xk X P w K mg base sc N GL k EX) (hc : ClsV c u) (hx : TyX K H x t) (hk : PySem.W.kitOne K t u = some r) (h : Q (.bl r) H) : C X (.builtin "isinstance") [x, c] H Q := .of call_isi ⟨x, c, t, u, r, rfl, hc, by rw [xk.K]; exact hx, by rw [xk.K]; exact hk, h⟩

/-! ### statements -/
variable {st : Stmt} {sts bd el : List Stmt} {nx bk ct : St → Hp → Prop} {rt : VK}
theorem ss_nil (h : nx σ H) : Ss X [] nx rt bk ct σ H := .of pss_nil h
theorem ss_cons (h : S X st (fun σ' H' => Ss X sts nx rt bk ct σ' H') rt bk ct σ H) : Ss X (st :: sts) nx rt bk ct σ H := .of (pss_cons ps pss) h
theorem ss_one (h : S X st nx rt bk ct σ H) : Ss X [st] nx rt bk ct σ H := .of (pss_one ps) h
theorem s_expr (h : E X e σ H fun _ H1 => nx σ H1) (hs : swapsWith e none pos.line X.env = pure false := by rfl) : S X (.Expr e pos) nx rt bk ct σ H := .of (ps_expr pe hs) h
theorem s_ret (h : E X e σ H rt) : S X (.Return (some e) pos) nx rt bk ct σ H := .of (ps_ret pe) h
theorem s_retN (h : rt .non H) : S X (.Return none pos) nx rt bk ct σ H := .of ps_retN h
theorem s_pass (h : nx σ H) : S X (.Pass pos) nx rt bk ct σ H := .of ps_pass h
theorem s_if (h : T X c σ H fun q H1 => Br q (Ss X bd nx rt bk ct σ H1) (Ss X el nx rt bk ct σ H1)) : S X (.If c bd el pos) nx rt bk ct σ H := .of (ps_if pt pss pss) (h.mono fun _ _ z => z.ite)
theorem s_set {f : V → St} (xk : Xk X P w K mg base sc N GL k EX) (g : SetF N σ x f) (h : E X e σ H fun v H1 => nx (f v) H1) (hs : swapsWith e (some (.Name x pos')) pos.line X.env = pure false := by rfl) : S X (.Assign [.Name x pos'] e pos) nx rt bk ct σ H := by
  obtain ⟨i, h1, h2⟩ := g.ix
  refine .of (L2.ps_set (i := i) (by rw [xk.n]; exact xk.nd) (by rw [xk.n]; exact h1) (xk.loc x g.mem).1 pe hs (.inl (xk.fn x))) (h.mono fun v H1 q => ?_)
  show nx (σ.set i (some v)) H1
  rw [h2]
  exact q
theorem s_asg {tg : Expr} (h : E X e σ H fun v H1 => G X tg v σ H1 nx) (hs : swapsWithSole [tg] e pos.line X.env = pure false := by rfl) (hw : swappedStores [tg] e X.env = pure none := by rfl)
    (h1 : (assignEach [tg] X.env).map (·.2) = [assign tg X.env] := by rfl) : S X (.Assign [tg] e pos) nx rt bk ct σ H := .of (ps_asg pe pg hs hw h1) h
theorem g_name {f : V → St} {R : St → Hp → Prop} (xk : Xk X P w K mg base sc N GL k EX) (g : SetF N σ x f) (h : R (f v) H) : G X (.Name x pos) v σ H R := by
  obtain ⟨i, h1, h2⟩ := g.ix
  refine .of (pg_name (i := i) (by rw [xk.n]; exact xk.nd) (by rw [xk.n]; exact h1) (xk.loc x g.mem).1 (.inl (xk.fn x))) ?_
  show R (σ.set i (some v)) H
  rw [h2]
  exact h
theorem g_tup {j n : Nat} {R : St → Hp → Prop} {q : Addr} {xs : List V} (xk : Xk X P w K mg base sc N GL k EX) (hq : SqT K H q xs) (hl : xs.length = n) (h : Gs X es xs σ H R)
    (hn : (assignEach es X.env).length = n := by rfl) (hst : (assignEach es X.env).findIdx? (·.1) = none := by rfl) : G X (.Tuple es j pos) (.ref q) σ H R := .of (pg_tup xk.calm pgs hn hst) ⟨q, xs, rfl, by rw [xk.K]; exact hq, hl, h⟩
theorem gs_nil {R : St → Hp → Prop} (h : R σ H) : Gs X [] [] σ H R := .of pgs_nil ⟨rfl, h⟩
theorem gs_cons {R : St → Hp → Prop} {vs : List V} (h : G X e v σ H fun σ' H' => Gs X es vs σ' H' R) (hs : (assignEach (e :: es) X.env).map (·.2) = assign e X.env :: (assignEach es X.env).map (·.2) := by rfl) : Gs X (e :: es) (v :: vs) σ H R :=
  .of (pgs_cons pg pgs hs) ⟨v, vs, rfl, h⟩
theorem g_sub {R : St → Hp → Prop} {i : Expr} (h : E X o σ H fun ov H1 => E X i σ H1 fun iv H2 => St3 X ov iv v H2 fun H3 => R σ H3)
    (ha : ∀ v, assign (.Subscript o i pos) X.env v = (do
      let ov ← holding [v] (eval o X.env)
      let iv ← holding [v, ov] (eval i X.env)
      standAt pos
      holding [v, ov, iv] (setItem ov iv v)
      release [v, ov, iv] []) := by intro _; rfl) : G X (.Subscript o i pos) v σ H R := .of (pg_sub pe pe pset ha) h
theorem st_l {q : Addr} {xs : List V} {i : Int} {j : Nat} {R : Hp → Prop} (hq : H q = some (.lst xs)) (hi : ixN xs.length i = some j) (h : ∀ H', Kp [q] H H' → H' q = some (.lst (xs.set j v)) → R H') : St3 X (.ref q) (.int i) v H R :=
  .of set_list ⟨q, xs, i, j, rfl, rfl, hq, hi, mut_heap h⟩
/-- o.f = e -/
theorem s_fld {f : Str} (xk : Xk X P w K mg base sc N GL k EX) (h : E X e σ H fun y H1 => E X o σ H1 fun x H2 => FldS K x f y H2 fun H3 => nx σ H3)
    (hs : swapsWith e (some (.Attribute o f pos')) pos.line X.env = pure false := by rfl) : S X (.Assign [.Attribute o f pos'] e pos) nx rt bk ct σ H := by
  obtain ⟨-, -, rfl, -⟩ := xk
  refine .of (ps_fld pe pe hs) (h.mono fun y H1 z => z.mono fun x H2 ⟨⟨a, Cl, dx, fs, fs', e1, e2, e3, e4, e5, e6, q⟩⟩ => ⟨a, Cl, dx, fs, e1, e2, e3, e4, e5, by rw [e6.eq]; exact mut_heap q⟩)
/-- for over a list that stands still -/
theorem s_for {tg iter : Expr} (xk : Xk X P w K mg base sc N GL k EX)
    (h : E X iter σ H fun v H1 => ∃ q xs, v = .ref q ∧ SqL K H1 q xs ∧ ∃ Pv : Nat → St → Hp → Prop, Pv 0 σ H1 ∧ (∀ i σ' H', i ≤ xs.length → Pv i σ' H' → SqL K H' q xs) ∧
      (∀ i y σ' H', xs[i]? = some y → Pv i σ' H' → G X tg y σ' H' fun σ2 H2 => Ss X bd (Pv (i + 1)) rt nx (Pv (i + 1)) σ2 H2) ∧ ∀ σ' H', Pv xs.length σ' H' → nx σ' H')
    (hs : ∀ x, foldedSetIterable iter X.env x = pure x := by intro _; rfl) : S X (.For tg iter bd [] pos) nx rt bk ct σ H := by
  obtain ⟨-, -, rfl, -, -, -, -, -, -, -, -, calm, -, po, -⟩ := xk
  refine .of (ps_for po calm (pi_list pe) pg pss hs) (h.mono fun v H1 ⟨q, xs, e1, e2, Pv, p0, p1, p2, p3⟩ => ⟨q, e1, ⟨xs, e2⟩, for_list (g := fun v σ H Q => G X tg v σ H Q) (tb := fun D σ H => Ss X bd D.nx D.rt D.bk D.ct σ H) (D := ⟨nx, rt, bk, ct⟩) Pv p0 p1 (fun i y σ' H' hy hp => p2 i y σ' H' hy hp) p3⟩)
theorem s_forT {tg iter : Expr} (xk : Xk X P w K mg base sc N GL k EX)
    (h : E X iter σ H fun v H1 => ∃ q xs, v = .ref q ∧ SqT K H1 q xs ∧ ∃ Pv : Nat → St → Hp → Prop, Pv 0 σ H1 ∧ (∀ i σ' H', i ≤ xs.length → Pv i σ' H' → SqT K H' q xs) ∧
      (∀ i y σ' H', xs[i]? = some y → Pv i σ' H' → G X tg y σ' H' fun σ2 H2 => Ss X bd (Pv (i + 1)) rt nx (Pv (i + 1)) σ2 H2) ∧ ∀ σ' H', Pv xs.length σ' H' → nx σ' H')
    (hs : ∀ x, foldedSetIterable iter X.env x = pure x := by intro _; rfl) : S X (.For tg iter bd [] pos) nx rt bk ct σ H := by
  obtain ⟨-, -, rfl, -, -, -, -, -, -, -, -, calm, -, po, -⟩ := xk
  refine .of (ps_for po calm (pi_tup pe) pg pss hs) (h.mono fun v H1 ⟨q, xs, e1, e2, Pv, p0, p1, p2, p3⟩ => ⟨q, e1, ⟨xs, e2⟩, for_tup (g := fun v σ H Q => G X tg v σ H Q) (tb := fun D σ H => Ss X bd D.nx D.rt D.bk D.ct σ H) (D := ⟨nx, rt, bk, ct⟩) Pv p0 p1 (fun i y σ' H' hy hp => p2 i y σ' H' hy hp) p3⟩)
theorem s_forR {tg a : Expr} {pr : Pos} (xk : Xk X P w K mg base sc N GL k EX) (hg : ("range" : Str) ∈ GL) (hm : mg "range" = none)
    (h : E X a σ H fun v H1 => ∃ n : Int, v = .int n ∧ -(2 ^ 62) ≤ n ∧ n < 2 ^ 62 ∧ ∃ Pv : Nat → St → Hp → Prop, Pv 0 σ H1 ∧
      (∀ (i : Nat) σ' H', (i : Int) < n → Pv i σ' H' → G X tg (.int (i : Int)) σ' H' fun σ2 H2 => Ss X bd (Pv (i + 1)) rt nx (Pv (i + 1)) σ2 H2) ∧ ∀ σ' H', Pv n.toNat σ' H' → nx σ' H')
    (hse : starEach [a] X.env = [(false, eval a X.env)] := by rfl) (hs : ∀ x, foldedSetIterable (.Call (.Name "range" pr) [a] [] pos') X.env x = pure x := by intro _; rfl) :
    S X (.For tg (.Call (.Name "range" pr) [a] [] pos') bd [] pos) nx rt bk ct σ H := by
  obtain ⟨-, -, -, rfl, -, -, -, -, gl, -, -, calm, -, po, -⟩ := xk
  refine .of (ps_for po calm (pi_range1 (gl _ hg).1 hm pa hse) pg pss hs) (?_ : As X [a] σ H _)
  refine as_cons (h.mono fun v H1 z => as_nil ?_) (by rw [hse]; rfl)
  obtain ⟨n, rfl, n1, n2, Pv, p0, p2, p3⟩ := z
  refine ⟨n, rfl, n1, n2, for_range (lo := 0) (n := n.toNat) (g := fun v σ H Q => G X tg v σ H Q) (tb := fun D σ H => Ss X bd D.nx D.rt D.bk D.ct σ H) (D := ⟨nx, rt, bk, ct⟩) Pv p0 (fun i σ' H' hi hp => ?_) p3⟩
  rw [Int.zero_add]
  exact p2 i σ' H' (by omega) hp
theorem ex_bl {q : Bool} {R : Bool → Prop} (h : R q) : ∃ c, V.bl q = .bl c ∧ R c := ⟨q, rfl, h⟩
theorem ex_in {i : Int} {R : Int → Prop} (h : R i) : ∃ c, V.int i = .int c ∧ R c := ⟨i, rfl, h⟩
theorem ex_an {A B : Prop} (ha : A) (hb : B) : A ∧ B := ⟨ha, hb⟩
/-- a, b = e1, e2 -/
theorem s_par {x y : Str} {px py pt pt2 : Pos} {kt k2 : Nat} {f : V → St} {g : V → V → St} (xk : Xk X P w K mg base sc N GL k EX) (gx : SetF N σ x f) (gy : ∀ v, SetF N (f v) y (g v)) (hxy : x ≠ y)
    (lx : sc.names.lookup x = some .local) (ly : sc.names.lookup y = some .local)
    (hw : ∀ (q : Str) (L f : Addr) (cd : Value), swappedStores [.Tuple [.Name x px, .Name y py] kt pt] (.Tuple [a, b] k2 pt2) (PyProof.Rows.envOfC q sc L f cd) = pure (some [x, y]))
    (h : E X a σ H fun v H1 => E X b σ H1 fun u H2 => nx (g v u) H2) (hs : starEach [a, b] X.env = [(false, eval a X.env), (false, eval b X.env)] := by rfl) (hs2 : starEach [b] X.env = [(false, eval b X.env)] := by rfl) :
    S X (.Assign [.Tuple [.Name x px, .Name y py] kt pt] (.Tuple [a, b] k2 pt2) pos) nx rt bk ct σ H := by
  obtain ⟨i, h1, h2⟩ := gx.ix
  have z := fun v => (gy v).ix
  obtain ⟨q, L, fa, cd, ev⟩ := xk.ev
  have esc : X.env.scope = sc := by rw [ev]; rfl
  obtain ⟨j, j1⟩ : ∃ j : Nat, N[j]? = some y := let ⟨j, j1, _⟩ := z .non; ⟨j, j1⟩
  have hj : ∀ v u, ((σ.set i (some v)).set j (some u)) = g v u := fun v u => by
    obtain ⟨j', j2, j3⟩ := z v
    have e : j = j' := nd_ix xk.nd j1 j2
    rw [h2, e, j3]
  refine .of (ps_par (i := i) (j := j) xk.calm (by rw [xk.n]; exact xk.nd) (by rw [xk.n]; exact h1) (by rw [xk.n]; exact j1) (fun e => hxy (by
    rw [e, j1] at h1
    exact (Option.some.inj h1).symm)) (by rw [esc]; exact lx) (by rw [esc]; exact ly) pa (by rw [ev]; exact hw _ _ _ _) rfl) ?_
  refine as_cons (h.mono fun v H1 h => as_cons (h.mono fun u H2 h => as_nil ⟨v, u, rfl, ?_⟩) (by rw [hs2]; rfl)) (by rw [hs, hs2])
  rw [hj]
  exact h
/-- a, b, c = e1, e2, e3 -/
theorem s_par3 {x y z : Str} {px py pz pt pt2 : Pos} {kt k2 : Nat} {f : V → St} {g : V → V → St} {g3 : V → V → V → St} (xk : Xk X P w K mg base sc N GL k EX) (gx : SetF N σ x f) (gy : ∀ v, SetF N (f v) y (g v)) (gz : ∀ v u, SetF N (g v u) z (g3 v u)) (hxy : x ≠ y) (hxz : x ≠ z) (hyz : y ≠ z)
    (lx : sc.names.lookup x = some .local) (ly : sc.names.lookup y = some .local) (lz : sc.names.lookup z = some .local)
    (hw : ∀ (q : Str) (L f : Addr) (cd : Value), swappedStores [.Tuple [.Name x px, .Name y py, .Name z pz] kt pt] (.Tuple [a, b, c] k2 pt2) (PyProof.Rows.envOfC q sc L f cd) = pure (some [x, y, z]))
    (h : E X a σ H fun v H1 => E X b σ H1 fun u H2 => E X c σ H2 fun t H3 => nx (g3 v u t) H3) (hs : starEach [a, b, c] X.env = (false, eval a X.env) :: starEach [b, c] X.env := by rfl) (hs2 : starEach [b, c] X.env = (false, eval b X.env) :: starEach [c] X.env := by rfl) (hs3 : starEach [c] X.env = (false, eval c X.env) :: starEach [] X.env := by rfl) :
    S X (.Assign [.Tuple [.Name x px, .Name y py, .Name z pz] kt pt] (.Tuple [a, b, c] k2 pt2) pos) nx rt bk ct σ H := by
  obtain ⟨i, h1, h2⟩ := gx.ix
  obtain ⟨q, L, fa, cd, ev⟩ := xk.ev
  have esc : X.env.scope = sc := by rw [ev]; rfl
  obtain ⟨j, j1⟩ : ∃ j : Nat, N[j]? = some y := let ⟨j, j1, _⟩ := (gy .non).ix; ⟨j, j1⟩
  obtain ⟨l, l1⟩ : ∃ j : Nat, N[j]? = some z := let ⟨j, j1, _⟩ := (gz .non .non).ix; ⟨j, j1⟩
  have hj : ∀ v u t, (((σ.set i (some v)).set j (some u)).set l (some t)) = g3 v u t := fun v u t => by
    obtain ⟨j', j2, j3⟩ := (gy v).ix
    obtain ⟨l', l2, l3⟩ := (gz v u).ix
    have e : j = j' := nd_ix xk.nd j1 j2
    have e' : l = l' := nd_ix xk.nd l1 l2
    rw [h2, e, j3, e', l3]
  have ne : ∀ {i j : Nat} {x y : Str}, N[i]? = some x → N[j]? = some y → x ≠ y → i ≠ j := fun {i j x y} a b n e => n (by
    rw [e, b] at a
    exact (Option.some.inj a).symm)
  refine .of (ps_par3 (i := i) (j := j) (l := l) xk.calm (by rw [xk.n]; exact xk.nd) (by rw [xk.n]; exact h1) (by rw [xk.n]; exact j1) (by rw [xk.n]; exact l1) (ne h1 j1 hxy) (ne h1 l1 hxz) (ne j1 l1 hyz)
    (by rw [esc]; exact lx) (by rw [esc]; exact ly) (by rw [esc]; exact lz) pa (by rw [ev]; exact hw _ _ _ _) rfl) ?_
  refine as_cons (h.mono fun v H1 h => as_cons (h.mono fun u H2 h => as_cons (h.mono fun t H3 h => as_nil ⟨v, u, t, rfl, ?_⟩) hs3) hs2) hs
  rw [hj]
  exact h
/-- a list with a place changed -/
theorem st_lL {q : Addr} {xs xs' : List V} {i : Int} {j : Nat} {R : Hp → Prop} (hq : H q = some (.lst xs)) (hi : ixN xs.length i = some j) (hs : LSet xs j v xs') (h : ∀ H', Kp [q] H H' → H' q = some (.lst xs') → R H') : St3 X (.ref q) (.int i) v H R :=
  st_l hq hi (by rw [hs.eq]; exact h)
theorem b_modG {i j : Int} (hj : 0 < j) (h : ∀ r : Int, 0 ≤ r → r < j → Q (.int r) H) : Bo X .Mod (.int i) (.int j) H Q := b_mod hj (h _ (Int.emod_nonneg _ (by omega)) (Int.emod_lt_of_pos _ hj))
theorem cdiv_of {i n : Int} (h0 : 0 < n) (h1 : n ≤ 10000000000000000000000000000000) : CDivW i n := wide_div (b := 200) h0 (by
  have e : (2 : Nat) ^ 200 = 1606938044258990275541962092341162602522202993782792835301376 := by decide
  rw [e]; omega) (by decide) (by decide)
theorem Kp.fresh {H H1 H2 : Hp} {x : Addr} (a : Kp [] H H1) (b : Kp [x] H1 H2) (n : H x = none) : Kp [] H H2 := fun c o h z => b c o (a c o h z) (ni_cons (ne_of_none h n) ni_nil)
theorem Nat.lt_of_ble_eq_true' {n m : Nat} (h : Nat.ble (n + 1) m = true) : n < m := Nat.le_of_ble_eq_true h
theorem ex_fld {q Cl dx : Addr} {fs : List (Str × V)} {f : Str} {u : V} (h1 : H q = some (.ins Cl dx fs)) (h2 : Cls K Cl) (h3 : NoAttr K Cl f) (h4 : fs.lookup f = some u) (h : Q u H) : FldR K (.ref q) f H Q := ⟨q, Cl, dx, fs, u, rfl, h1, h2, h3, h4, h⟩
theorem ex_put {q Cl dx : Addr} {fs fs' : List (Str × V)} {f : Str} {y : V} {R : Hp → Prop} (h1 : H q = some (.ins Cl dx fs)) (h2 : Cls K Cl) (h3 : NoAttr K Cl f) (h4 : fs.length < 1000) (h5 : PutR f y fs fs') (h : ∀ H3, Kp [q] H H3 → H3 q = some (.ins Cl dx fs') → R H3) :
    FldS K (.ref q) f y H R := ⟨q, Cl, dx, fs, fs', rfl, h1, h2, h3, h4, h5, h⟩
theorem new_tup {xs : List V} {H1 : Hp} (l : xs.length ≤ sizeLine) (h : ∀ p H', H1 p = none → Kp [] H1 H' → H' p = some (.tup xs) → Q (.ref p) H') : NewT xs H1 Q := ⟨l, h⟩
theorem new_lst {xs : List V} {H1 : Hp} (l : xs.length ≤ sizeLine) (h : ∀ p H', H1 p = none → Kp [] H1 H' → H' p = some (.lst xs) → Q (.ref p) H') : NewL xs H1 Q := ⟨l, h⟩
theorem e_cls {q : Addr} (xk : Xk X P w K mg base sc N GL k EX) (hg : x ∈ GL) (hm : mg x = some (.ref q)) (h : Q (.ref q) H) : E X (.Name x pos) σ H Q := e_glob (v := .ref q) xk hg hm rfl h
theorem e_bty {n : String} (xk : Xk X P w K mg base sc N GL k EX) (hg : x ∈ GL) (hb : Bi mg x (.type n)) (h : Q (.ty n) H) : E X (.Name x pos) σ H Q := e_bltn (v := .ty n) xk hg hb rfl h
theorem k_ii {i : Int} (xk : Xk X P w K mg base sc N GL k EX) (h : Q (.bl true) H) : C X (.builtin "isinstance") [.int i, .ty "int"] H Q := k_isi xk (.ty _) (.base (.int i)) (kit_ty (by decide +kernel)) h
theorem k_ib {i : Int} (xk : Xk X P w K mg base sc N GL k EX) (h : Q (.bl false) H) : C X (.builtin "isinstance") [.int i, .ty "bool"] H Q := k_isi xk (.ty _) (.base (.int i)) (kit_ty (by decide +kernel)) h
theorem k_minG {i j : Int} (xk : Xk X P w K mg base sc N GL k EX) (h : ∀ r : Int, (r = i ∨ r = j) → r ≤ i → r ≤ j → Q (.int r) H) : C X (.builtin "min") [.int i, .int j] H Q := k_min xk (h _ (by split <;> omega) (by split <;> omega) (by split <;> omega))
theorem k_maxG {i j : Int} (xk : Xk X P w K mg base sc N GL k EX) (h : ∀ r : Int, (r = i ∨ r = j) → i ≤ r → j ≤ r → Q (.int r) H) : C X (.builtin "max") [.int i, .int j] H Q := k_max xk (h _ (by split <;> omega) (by split <;> omega) (by split <;> omega))
theorem k_absG {i : Int} (h : ∀ r : Int, 0 ≤ r → Q (.int r) H) : C X (.builtin "abs") [.int i] H Q := k_abs (h _ (by split <;> omega))
/-- list + list -/
theorem b_cat {p q : Addr} {xs ys : List V} (xk : Xk X P w K mg base sc N GL k EX) (hp : H p = some (.lst xs)) (hq : H q = some (.lst ys)) (hl : xs.length + ys.length ≤ sizeLine) (h : ∀ r H', H r = none → Kp [] H H' → H' r = some (.lst (xs ++ ys)) → Q (.ref r) H') : Bo X .Add (.ref p) (.ref q) H Q :=
  .of op_cat (by
    refine ⟨p, q, xs, ys, rfl, rfl, ?_, ?_, ?_, ?_⟩
    all_goals first | exact hp | exact hq | exact hl | (intro r nr; exact h r _ nr (kp_new nr) upd_same))
/-- an argument list all of whose values are good -/
def NoSt : Expr → Bool
  | .Starred .. => false
  | _ => true
theorem star_cons {env : Env} (h : NoSt e = true) : starEach (e :: es) env = (false, eval e env) :: starEach es env := by
  cases e <;> first | rfl | cases h
def AllE (Pd : Expr → Prop) : List Expr → Prop
  | [] => True
  | e :: es => Pd e ∧ AllE Pd es
theorem AllE.imp {Pd Pd' : Expr → Prop} (i : ∀ e, Pd e → Pd' e) : ∀ {es : List Expr}, AllE Pd es → AllE Pd' es
  | [], _ => trivial
  | _ :: _, h => ⟨i _ h.1, AllE.imp i h.2⟩
theorem as_all {D : Hp → V → Prop} {R : List V → Hp → Prop} (mon : ∀ H H' v, Kp [] H H' → D H v → D H' v) : ∀ {es : List Expr} {H : Hp}, es.all NoSt = true → (∀ xs H', xs.length = es.length → Kp [] H H' → (∀ v ∈ xs, D H' v) → R xs H') →
    AllE (fun e => ∀ H1, Kp [] H H1 → ∀ Q : VK, (∀ v H2, Kp [] H1 H2 → D H2 v → Q v H2) → E X e σ H1 Q) es → As X es σ H R
  | [], H, _, k, _ => as_nil (k [] H rfl .refl fun _ z => nomatch z)
  | e :: es, H, n, k, h => by
    rw [List.all_cons, Bool.and_eq_true] at n
    refine as_cons (h.1 H .refl _ fun v H1 k1 d1 => ?_) (star_cons n.1)
    refine as_all mon n.2 (fun xs H2 l k2 d2 => k (v :: xs) H2 (by rw [List.length_cons, List.length_cons, l]) (k1.trans k2) fun u hu => ?_) (h.2.imp fun e' m H2 k2 Q q => m H2 (k1.trans k2) Q q)
    rcases List.mem_cons.mp hu with rfl | hu
    · exact mon _ _ _ k2 d1
    · exact d2 u hu
/-! ### guards: which judgement, which construct -/
theorem gE {e : Expr} (h : E X e σ H Q) : E X e σ H Q := h
theorem gT {e : Expr} (h : T X e σ H TQ) : T X e σ H TQ := h
theorem gW {e : Expr} (h : W X e σ H TQ) : W X e σ H TQ := h
theorem gAs {R : List V → Hp → Prop} (h : As X es σ H R) : As X es σ H R := h
theorem gS (h : S X st nx rt bk ct σ H) : S X st nx rt bk ct σ H := h
theorem gSs (h : Ss X sts nx rt bk ct σ H) : Ss X sts nx rt bk ct σ H := h
theorem gG {tg : Expr} {R : St → Hp → Prop} (h : G X tg v σ H R) : G X tg v σ H R := h
theorem gGs {ts : List Expr} {vs : List V} {R : St → Hp → Prop} (h : Gs X ts vs σ H R) : Gs X ts vs σ H R := h
theorem gB {op : Operator} {x y : V} (h : Bo X op x y H Q) : Bo X op x y H Q := h
theorem gC {op : CmpOp} {x y : V} (h : Co X op x y H Q) : Co X op x y H Q := h
theorem gU {op : UnaryOp} {x : V} (h : Uo X op x H Q) : Uo X op x H Q := h
theorem gK {f : Value} {vs : List V} (h : C X f vs H Q) : C X f vs H Q := h
theorem gKlen {x : V} (h : C X (.builtin "len") [x] H Q) : C X (.builtin "len") [x] H Q := h
theorem gGt {ts : List Expr} {j : Nat} {q : Addr} {R : St → Hp → Prop} (h : G X (.Tuple ts j pos) (.ref q) σ H R) : G X (.Tuple ts j pos) (.ref q) σ H R := h
theorem gGs2 {i : Expr} {R : St → Hp → Prop} (h : G X (.Subscript o i pos) v σ H R) : G X (.Subscript o i pos) v σ H R := h
theorem gFr {x : V} {f : Str} (h : FldR K x f H Q) : FldR K x f H Q := h
theorem gFs {x y : V} {f : Str} {R : Hp → Prop} (h : FldS K x f y H R) : FldS K x f y H R := h
theorem gBrr {op : Operator} {a b : Addr} (h : Bo X op (.ref a) (.ref b) H Q) : Bo X op (.ref a) (.ref b) H Q := h
theorem gBrrA {a b : Addr} (h : Bo X .Add (.ref a) (.ref b) H Q) : Bo X .Add (.ref a) (.ref b) H Q := h
theorem gBrrS {a b : Addr} (h : Bo X .Sub (.ref a) (.ref b) H Q) : Bo X .Sub (.ref a) (.ref b) H Q := h
theorem gUr {op : UnaryOp} {a : Addr} (h : Uo X op (.ref a) H Q) : Uo X op (.ref a) H Q := h
theorem gKr {f : Value} {a : Addr} {vs : List V} (h : C X f (.ref a :: vs) H Q) : C X f (.ref a :: vs) H Q := h
theorem gKisi {a c : Addr} (h : C X (.builtin "isinstance") [.ref a, .ref c] H Q) : C X (.builtin "isinstance") [.ref a, .ref c] H Q := h
theorem gKabs {a : Addr} (h : C X (.builtin "abs") [.ref a] H Q) : C X (.builtin "abs") [.ref a] H Q := h
theorem gTr {x : V} (h : Tr X x H TQ) : Tr X x H TQ := h
theorem gIx {x y : V} (h : Ix X a b x y H Q) : Ix X a b x y H Q := h
theorem gSt {o i u : V} {R : Hp → Prop} (h : St3 X o i u H R) : St3 X o i u H R := h
theorem gMt {id : String} {x : V} {xs : List V} (h : Mt X id x xs H Q) : Mt X id x xs H Q := h
theorem gBr {q : Bool} {A B : Prop} (h : Br q A B) : Br q A B := h
theorem gName (h : E X (.Name x pos) σ H Q) : E X (.Name x pos) σ H Q := h
theorem gCall {fe : Expr} {kws : List Keyword} (h : E X (.Call fe es kws pos) σ H Q) : E X (.Call fe es kws pos) σ H Q := h
theorem gCallN {kws : List Keyword} (h : E X (.Call (.Name x p) es kws pos) σ H Q) : E X (.Call (.Name x p) es kws pos) σ H Q := h
theorem gCallA {f : Str} {kws : List Keyword} (h : E X (.Call (.Attribute e f p) es kws pos) σ H Q) : E X (.Call (.Attribute e f p) es kws pos) σ H Q := h
theorem gAttr {f : Str} (h : E X (.Attribute e f pos) σ H Q) : E X (.Attribute e f pos) σ H Q := h
theorem gCmp {ops : List CmpOp} (h : E X (.Compare e ops es pos) σ H Q) : E X (.Compare e ops es pos) σ H Q := h
theorem gCmpT {ops : List CmpOp} (h : T X (.Compare e ops es pos) σ H TQ) : T X (.Compare e ops es pos) σ H TQ := h
theorem gAsg {tgs : List Expr} (h : S X (.Assign tgs e pos) nx rt bk ct σ H) : S X (.Assign tgs e pos) nx rt bk ct σ H := h
theorem gAsgN {pos' : Pos} (h : S X (.Assign [.Name x pos'] e pos) nx rt bk ct σ H) : S X (.Assign [.Name x pos'] e pos) nx rt bk ct σ H := h
theorem gAsgA {f : Str} {pos' : Pos} (h : S X (.Assign [.Attribute o f pos'] e pos) nx rt bk ct σ H) : S X (.Assign [.Attribute o f pos'] e pos) nx rt bk ct σ H := h
theorem gAsgP {ts vs : List Expr} {j j' : Nat} {p' p'' : Pos} (h : S X (.Assign [.Tuple ts j p'] (.Tuple vs j' p'') pos) nx rt bk ct σ H) : S X (.Assign [.Tuple ts j p'] (.Tuple vs j' p'') pos) nx rt bk ct σ H := h
theorem sq_l {q : Addr} {xs : List V} (h : H q = some (.lst xs)) : SqL K H q xs := .inl (.inl h)
theorem sq_t {q : Addr} {xs : List V} (h : H q = some (.tup xs)) : SqT K H q xs := .inl (.inl h)
end
end Sx
set_option Elab.async false
set_option linter.all false
set_option maxRecDepth 100000
set_option maxHeartbeats 4000000
/-! SxO: operators of the text's own classes. -/
namespace Sx
open PySem L2

section
variable {X : Cx} {P : Program} {w : World} {K : PySem.W.Frag} {mg : Str → Option Value} {base : Heap} {sc : Scope} {N GL : List Str} {k : Nat} {EX : XK}
variable {σ : St} {H : Hp} {Q : VK} {TQ : Bool → Hp → Prop} {a b Cl dx dy : Addr} {fs gs : List (Str × V)} {j : Nat} {sp : Sp} {m : Str}

/-- a callee runs somewhere below the body -/
theorem run_at {CX : CXT} {f : Addr} {fd : FuncData} {ps : List Str} {E : XK} {pins : List (Addr × Obj)} {s : Shared} {us : List Value} {vs : List V} {A : Around} (F : FnOk X.prog X.w X.K X.mg X.base CX j f fd ps sp) (hr : Room j A) (fr : A.frames = X.A.frames)
    (hb : Binds X.K fd ps []) (hx : Passes CX X E) (I : L2.Inv X pins σ H s) (r : Vals vs us) (h : sp vs H Q E) : wpAny (model X.prog X.w) A (call (.ref f) us) (EP X pins σ Q) X.xe s := by
  have hl : us.length = ps.length := by rw [← r.length]; exact F.len _ _ _ _ h
  have e0 : Env0 X.prog X.w X.K X.mg X.base A X.stack s H := by
    have e := I.env0
    exact ⟨by rw [fr]; exact e.frames, e.mod, e.bs, e.bsz, e.funs, e.frf, e.hok, e.bare⟩
  refine wpAny_call (codeAny_mono (F.run A X.stack s H ⟨us, []⟩ us vs Q E hr e0 (by
    have := hb s us I.kIn (by simpa using hl)
    simpa using this) r h) fun r s' hq => ?_)
  cases r with
  | error e => exact hx pins σ H s e s' I hq
  | ok fl =>
    cases fl with
    | ret u => exact I.after hq
    | next => exact False.elim hq
    | brk => exact False.elim hq
    | cont => exact False.elim hq
theorem ep_cmp {pins : List (Addr × Obj)} {u : Value} {s' : Shared} (h : EP X pins σ Q u s') : PySem.W.CmpBack (EP X pins σ Q) u s' := by
  obtain ⟨v, H', I, r, q⟩ := id h
  cases v with
  | non => cases r; exact h
  | bl b => cases r; exact h
  | int i => obtain ⟨t, rfl⟩ := r; exact h
  | str i => obtain ⟨t, rfl⟩ := r; exact h
  | byt i => obtain ⟨t, rfl⟩ := r; exact h
  | flt i => obtain ⟨t, rfl⟩ := r; exact h
  | ref i => cases r; exact h
  | ty i => cases r; exact h
/-- an instance of the heap, for the library's rules -/
theorem inst_at {pins : List (Addr × Obj)} {s : Shared} (I : L2.Inv X pins σ H s) (h : H a = some (.ins Cl dx fs)) : ∃ od, PySem.W.InstAt s.heap a (PySem.W.instObj Cl dx) Cl (some od) := by
  obtain ⟨mA, J, _⟩ := ins_get I.hok h
  obtain ⟨od, J, _⟩ := J.look
  exact ⟨od, J⟩
/-- a op b, both instances of one class -/
theorem b_own {op : Operator} (xk : Xk X P w K mg base sc N GL k EX) (D : Dm P w K mg base Cl m j sp) (hj : j ≤ k) (hc : PySem.W.selfFirst K Cl = true) (ha : H a = some (.ins Cl dx fs)) (hb : H b = some (.ins Cl dy gs)) (h : sp [.ref a, .ref b] H Q EX)
    (hn : PySem.dunder op.info.2 = m := by rfl) : Bo X op (.ref a) (.ref b) H Q := by
  obtain ⟨f, fd, ps, F, hm, bb⟩ := D
  obtain ⟨rfl, rfl, rfl, rfl, rfl, -, -, -, gl, -, room, -, tk, -, -⟩ := xk
  refine ⟨fun pins s σ v u I rx ry => ?_⟩
  cases rx
  cases ry
  obtain ⟨m', hF⟩ := I.fr
  obtain ⟨od, J⟩ := inst_at I ha
  obtain ⟨od', J'⟩ := inst_at I hb
  refine PySem.W.binop_K hF I.ok.mod.kin J J'.type hc (by rw [hn]; exact hm.at_) hm.fn ?_
  exact wpAny_mono (run_at F (room.mono hj) rfl bb (passes_call tk fun _ _ _ _ z => z) I (vs := [.ref a, .ref b]) (.cons rfl (.cons rfl .nil)) h) (fun _ _ z => ep_cmp z) fun _ _ z => z
theorem u_own_neg (xk : Xk X P w K mg base sc N GL k EX) (D : Dm P w K mg base Cl "__neg__" j sp) (hj : j ≤ k) (ha : H a = some (.ins Cl dx fs)) (h : sp [.ref a] H Q EX) : Uo X .USub (.ref a) H Q := by
  obtain ⟨f, fd, ps, F, hm, bb⟩ := D
  obtain ⟨rfl, rfl, rfl, rfl, rfl, -, -, -, gl, -, room, -, tk, -, -⟩ := xk
  refine ⟨fun pins s σ v I rx => ?_⟩
  cases rx
  obtain ⟨m', hF⟩ := I.fr
  obtain ⟨od, J⟩ := inst_at I ha
  exact PySem.W.ksp_neg hF I.ok.mod.kin J hm.at_ hm.fn (run_at F (room.mono hj) rfl bb (passes_call tk fun _ _ _ _ z => z) I (vs := [.ref a]) (.cons rfl .nil) h)
theorem k_own_abs (xk : Xk X P w K mg base sc N GL k EX) (D : Dm P w K mg base Cl "__abs__" j sp) (hj : j + 1 ≤ k) (ha : H a = some (.ins Cl dx fs)) (h : sp [.ref a] H Q EX) : C X (.builtin "abs") [.ref a] H Q := by
  obtain ⟨f, fd, ps, F, hm, bb⟩ := D
  obtain ⟨rfl, rfl, rfl, rfl, rfl, -, -, -, gl, -, room, -, tk, -, -⟩ := xk
  refine ⟨fun pins s σ us I r => ?_⟩
  obtain ⟨u, rfl, rx⟩ := vals1 r
  cases rx
  obtain ⟨m', hF⟩ := I.fr
  obtain ⟨od, J⟩ := inst_at I ha
  refine Calls.call_function_entry PyProof.Rows.kind_abs PyProof.Rows.plain_abs PyProof.Rows.entry_abs (PyProof.Rows.args_abs _) ?_
  unfold Builtin.«abs»
  refine wpAny_bind (m := oneArg "abs" _) (wpAny_pure ?_)
  refine wpAny_bind (m := callSpecial? (.ref a) (Str.ofString "__abs__")) (PySem.W.special_fn I.kIn J hm.at_ (beq_iff_eq.mp hm.fn) (wpAny_mono (run_at F (room.mono hj).in1 rfl bb (passes_call tk fun _ _ _ _ z => z) I (vs := [.ref a]) (.cons rfl .nil) h) (fun v s' z => ?_) fun _ _ z => z))
  exact wpAny_pure ⟨_, rfl, z⟩
/-! ### keywords -/
structure Ks (X : Cx) (kws : List Keyword) (σ : St) (H : Hp) (R : List V → Hp → Prop) : Prop where
  run : ∀ (pos : Pos) (pins : List (Addr × Obj)) (s : Shared), L2.Inv X pins σ H s → wpAny (model X.prog X.w) X.A (evalAll ((backToKw pos (keywordEach kws X.env)).map (·.2))) (AP X pins σ R) X.xe s
theorem pks {kws : List Keyword} : PK X kws (fun σ H Q => Ks X kws σ H Q) := ⟨fun pos pins s _ _ _ I h => h.run pos pins s I⟩
theorem Ks.of {kws : List Keyword} {t : TA} {R : List V → Hp → Prop} (h : PK X kws t) (q : t σ H R) : Ks X kws σ H R := ⟨fun pos pins s I => h.run pos pins s σ H R I q⟩
theorem ks_nil {R : List V → Hp → Prop} (h : R [] H) : Ks X [] σ H R := .of pk_nil h
theorem ks_cons {e : Expr} {nm : Option Str} {kpos : Pos} {kws : List Keyword} {R : List V → Hp → Prop} (h : E X e σ H fun x H1 => Ks X kws σ H1 fun xs H2 => R (x :: xs) H2) : Ks X (⟨nm, e, kpos⟩ :: kws) σ H R := .of (pk_cons pe pks) h
theorem Ks.mono {kws : List Keyword} {R R' : List V → Hp → Prop} (h : Ks X kws σ H R) (i : ∀ v H, R v H → R' v H) : Ks X kws σ H R' := ⟨fun pos pins s I => wpAny_mono (h.run pos pins s I) (fun _ _ ⟨v, H', I', r, q⟩ => ⟨v, H', I', r, i _ _ q⟩) fun _ _ z => z⟩
/-- a class that is made by keywords alone -/
def Dck (P : Program) (w : World) (K : PySem.W.Frag) (mg : Str → Option Value) (base : Heap) (x : Str) (Cl : Addr) (ks : List Str) (j : Nat) (sp : Sp) : Prop :=
  ∃ (f : Addr) (fd : FuncData) (ps : List Str), FnOk P w K mg base (L2.CX P w) j f fd ps sp ∧ mg x = some (.ref Cl) ∧ Mk K Cl f ∧ KBn K fd ps 1 ks (fun us ws => us ++ ws) (fun vs zs => vs ++ zs)
theorem kb_of {x qual : Str} {st : Stmt} {f : Addr} {fd : FuncData} {ps ks : List Str} (F : Fun K x qual st f fd)
    (h : ∀ (kV doc pm : Value) (an : Option Addr) (cdv ct : Value) (us ws : List Value), us.length = 1 → ws.length = ks.length → bindArgs (PySem.W.fnOf x qual (defArgs st) (defBody st) (defScope st) .none kV doc pm an cdv ct) ⟨us, ks.zip ws⟩ = pure (ps.zip (us ++ ws))) :
    KBn K fd ps 1 ks (fun us ws => us ++ ws) (fun vs zs => vs ++ zs) := by
  obtain ⟨oc, od, kV, doc, pm, an, cdv, ct, osl, rfl, lk, hcd⟩ := F.ex
  exact ⟨fun s us ws _ l1 l2 => .of_eq (h kV doc pm an cdv ct us ws l1 l2), fun r1 r2 => r1.append r2⟩
theorem e_makeK {x : Str} {p pos : Pos} {kws : List Keyword} {ks : List Str} (xk : Xk X P w K mg base sc N GL k EX) (hg : x ∈ GL) (D : Dck P w K mg base x Cl ks j sp) (hj : j + 1 ≤ k)
    (h : Ks X kws σ H fun zs H1 => zs.length = ks.length ∧ ∀ x dx H2, H1 x = none → H1 dx = none → dx ≠ x → Kp [] H1 H2 → H2 x = some (.ins Cl dx []) → sp (.ref x :: zs) H2 (fun v H3 => v = .non ∧ Q (.ref x) H3) EX)
    (hall : (backToKw pos (keywordEach kws X.env)).all (·.1.isSome) = true := by rfl) (hks : (backToKw pos (keywordEach kws X.env)).filterMap (·.1) = ks := by rfl)
    (hpl : ((backTo pos (starEach [] X.env)).any (·.1) || (backToKw pos (keywordEach kws X.env)).any (·.1.isNone)) = false := by rfl) : E X (.Call (.Name x p) [] kws pos) σ H Q := by
  obtain ⟨f, fd, ps, F, hm, M, b⟩ := D
  obtain ⟨rfl, rfl, rfl, rfl, rfl, -, -, -, gl, -, room, -, tk, -, -⟩ := xk
  refine .of (pe_makeK0 M F (room.mono hj) (gl x hg).1 hm b (passes_call tk fun _ _ _ _ z => z) pks hall hks (gl x hg).2.1 hpl) (h.mono fun zs H1 ⟨l, z⟩ => ?_)
  refine ⟨rfl, l, fun x dx n1 n2 n3 => z x dx _ n1 n2 n3 ?_ upd_same⟩
  exact (kp_new n2).trans (kp_new (by rw [upd_ne n3.symm]; exact n1))
end
end Sx
set_option Elab.async false
set_option linter.all false
set_option maxRecDepth 100000
set_option maxHeartbeats 4000000
/-! SxM: own times int, int times own. -/
namespace Sx
open PySem L2


section
variable {X : Cx} {P : Program} {w : World} {K : PySem.W.Frag} {mg : Str → Option Value} {base : Heap} {sc : Scope} {N GL : List Str} {k : Nat} {EX : XK}
variable {σ : St} {H : Hp} {Q : VK} {TQ : Bool → Hp → Prop} {a b Cl dx dy : Addr} {fs gs : List (Str × V)} {j : Nat} {sp : Sp} {m : Str}

/-- own * int -/
theorem b_ownT {op : Operator} {i : Int} {fo ro rc : Option Value} (xk : Xk X P w K mg base sc N GL k EX) (D : Dm P w K mg base Cl m j sp) (hj : j ≤ k) (hc : PySem.W.selfFirst K Cl = true) (hr : PySem.W.findIn K (.ref Cl) (PySem.dunderR op.info.2) = some rc) (hp : rc = none ∨ ∃ g : Addr, rc = some (.ref g))
    (h1 : PySem.W.findIn K (.type "int") (PySem.dunder op.info.2) = some fo) (h2 : PySem.W.findIn K (.type "int") (PySem.dunderR op.info.2) = some ro) (hsub : PySem.W.subIn K (.type "int") (.ref Cl) = some false)
    (ha : H a = some (.ins Cl dx fs)) (h : sp [.ref a, .int i] H Q EX) (hn : PySem.dunder op.info.2 = m := by rfl) : Bo X op (.ref a) (.int i) H Q := by
  obtain ⟨f, fd, ps, F, hm, bb⟩ := D
  obtain ⟨rfl, rfl, rfl, rfl, rfl, -, -, -, gl, -, room, -, tk, -, -⟩ := xk
  refine ⟨fun pins s σ v u I rx ry => ?_⟩
  cases rx
  obtain ⟨t, rfl⟩ := id ry
  obtain ⟨m', hF⟩ := I.fr
  obtain ⟨od, J⟩ := inst_at I ha
  refine PySem.W.ksp_binT (T := "int") hF I.ok.mod.kin J rfl hc (by rw [hn]; exact hm.at_) hm.fn hr hp h1 h2 hsub ?_
  exact wpAny_mono (run_at F (room.mono hj) rfl bb (passes_call tk fun _ _ _ _ z => z) I (vs := [.ref a, .int i]) (.cons rfl (.cons ry .nil)) h) (fun _ _ z => ep_cmp z) fun _ _ z => z
theorem int_mul_inst (i : Int) (t : Tok) (x C d0 : Addr) : Meets (Builtin.«int.__mul__» ⟨[.int i t, .ref x], []⟩) (fun _ R s => s.heap.get? x = some (PySem.W.instObj C d0) ∧ R (.ok (.ret Value.notImplemented)) s) :=
  .of_wp fun prog w A R s h => by obtain ⟨hp, g, d, tk, os⟩ := s; obtain ⟨hl, h⟩ := h; simp only [PySem.W.instObj] at hl; wp_walk; exact ⟨_, rfl, h⟩
/-- int * own -/
theorem b_ownR {i : Int} {g : Addr} (xk : Xk X P w K mg base sc N GL k EX) (D : Dm P w K mg base Cl "__rmul__" j sp) (hj : j ≤ k) (hc : PySem.W.selfFirst K Cl = true) (hg : PySem.W.findIn K (.ref Cl) "__mul__" = some (some (.ref g)))
    (h1 : PySem.W.findIn K (.type "int") "__mul__" = some (some (.builtin "int.__mul__"))) (h2 : PySem.W.findIn K (.type "int") "__rmul__" = some (some (.builtin "int.__rmul__"))) (hsub : PySem.W.subIn K (.ref Cl) (.type "int") = some false)
    (ha : H a = some (.ins Cl dx fs)) (h : sp [.ref a, .int i] H Q EX) : Bo X .Mult (.int i) (.ref a) H Q := by
  obtain ⟨f, fd, ps, F, hm, bb⟩ := D
  obtain ⟨rfl, rfl, rfl, rfl, rfl, -, -, -, gl, -, room, -, tk, -, -⟩ := xk
  refine ⟨fun pins s σ v u I rx ry => ?_⟩
  cases ry
  obtain ⟨t, rfl⟩ := id rx
  have hx := (ins_get I.hok ha).choose_spec.1.obj
  obtain ⟨m', hF⟩ := I.fr
  obtain ⟨od, J⟩ := inst_at I ha
  have run := wpAny_mono (run_at F (room.mono hj) rfl bb (passes_call tk fun _ _ _ _ z => z) I (vs := [.ref a, .int i]) (.cons rfl (.cons rx .nil)) h) (fun _ _ z => ep_cmp z) fun _ _ z => z
  have one := PySem.W.ksp_try I.kIn J hm.at_ hm.fn run
  have X' := I.kIn
  obtain ⟨cd, rest, hcd, hmr⟩ := PySem.W.ksp_first hc
  have e1 : PySem.dunder "mul" = ("__mul__" : Str) := by decide +kernel
  have e2 : PySem.dunderR "mul" = ("__rmul__" : Str) := by decide +kernel
  obtain ⟨hh, gg, d, tt, os⟩ := s
  have L1 : PySem.W.Looks (model X.prog X.w) hh (typeOf (.int i t)) (.type "int") := PySem.W.Looks.of_pure rfl
  have L2 : PySem.W.Looks (model X.prog X.w) hh (typeOf (.ref a)) (.ref Cl) := J.type
  have L3 : PySem.W.Looks (model X.prog X.w) hh (fillsNumberSlot (.type "int") "mul") true := PySem.W.ksp_fillsT X' (by rw [e1]; exact h1) (by rw [e2]; exact h2)
  have L4 : PySem.W.Looks (model X.prog X.w) hh (fillsNumberSlot (.ref Cl) "mul") true := PySem.W.fills_K X' hcd hmr (by rw [e1]; exact hg)
  have L5 : PySem.W.Looks (model X.prog X.w) hh (isSubtype (.ref Cl) (.type "int")) false := PySem.W.looks_subIn X' hsub
  have L6 : PySem.W.Looks (model X.prog X.w) hh (numberSlotInPython (.type "int") "mul") false := PySem.W.Looks.of_pure rfl
  have hne : (Value.type "int" == Value.ref Cl) = false := Bool.eq_false_iff.mpr fun q => by cases beq_iff_eq.mp q
  unfold binaryOp
  refine wpAny_holding (wpAny_bind ?_)
  show wpAny _ _ (binaryOp1 "mul" _ _) _ _ _
  unfold binaryOp1
  refine wpAny_bind (L1.at (wpAny_bind (L2.at (wpAny_bind (L3.at ?_)))))
  simp only [hne, Bool.false_eq_true, if_false]
  refine wpAny_bind (L4.at ?_)
  ksp_lk
  have sl : Slot "int" (PySem.dunder "mul") "int.__mul__" := by rw [e1]; exact PySem.F.slot_int_mul
  have key : wpAny (model X.prog X.w) X.A (call (.builtin "int.__mul__") [.int i t, .ref a]) (fun v s' => v = .notImplemented ∧ s' = ⟨hh, gg, d, tt, os⟩) X.xe ⟨hh, gg, d, tt, os⟩ :=
    call_meets PySem.F.slot_int_mul (typeIs_int _ _ _) PySem.F.entry_int_mul (PySem.F.args_int_mul_2 _ _) (int_mul_inst i t a Cl dx) ⟨hx, rfl, rfl⟩
  have step : ∀ Q0 : Option Value → Shared → Prop, Q0 none ⟨hh, gg, d, tt, os⟩ → wpAny (model X.prog X.w) X.A (tryMethod (.int i t) (PySem.dunder "mul") (.ref a)) Q0 X.xe ⟨hh, gg, d, tt, os⟩ := fun Q0 h0 => by
    refine wpAny_tryMethod_declines (T := "int") (id := "int.__mul__") ?_ ?_ ?_
    · exact typeIs_int _ _ _
    · exact sl
    · exact wpAny_mono key (fun v s' hv => ⟨hv.1, by rw [hv.2]; exact h0⟩) fun _ _ e => e
  refine step _ ?_
  ksp_lk
  rw [e2]
  refine wpAny_mono one (fun r s' hr' => ?_) fun _ _ e => e
  obtain ⟨v, rfl, hq⟩ := hr'
  ksp_lk
  exact hq
end
end Sx
set_option Elab.async false
set_option linter.all false
set_option maxRecDepth 100000
set_option maxHeartbeats 4000000
/-! SxN: comparisons of own classes; methods that hand back NotImplemented. -/
namespace Sx
open PySem L2

/-! ### a def that hands back NotImplemented and changes nothing -/
def NiR (outer : List Env) (P : Program) (w : World) (H : Hp) (s : Shared) (r : Result) (s' : Shared) : Prop :=
  match r with
  | .ok (.ret u) => u = .notImplemented ∧ s'.os = s.os ∧ PyProof.Rows.AllBare s'.gens ∧ Un (frs outer) [] H H s.heap s'.heap ∧ HOk P w H s'.heap
  | .ok _ => False
  | .error _ => False
structure NiOk (P : Program) (w : World) (K : PySem.W.Frag) (mg : Str → Option Value) (base : Heap) (k : Nat) (f : Addr) (fd : FuncData) (ps : List Str) (pre : List V → Hp → Prop) : Prop where
  len : ∀ vs H, pre vs H → vs.length = ps.length
  run : ∀ (A : Around) (outer : List Env) (s : Shared) (H : Hp) (args : Args) (us : List Value) (vs : List V), Room k A → Env0 P w K mg base A outer s H → BindsTo s fd args (ps.zip us) → Vals vs us → pre vs H →
    codeAny (model P w) A (.call (.ref f) args) (NiR outer P w H s) s
structure Ni (X : Cx) (sts : List Stmt) (σ : St) (H : Hp) : Prop where
  run : ∀ (pins : List (Addr × Obj)) (s : Shared), L2.Inv X pins σ H s → wpAny (model X.prog X.w) X.A (execs sts X.env) (fun fl s' => fl = .ret .notImplemented ∧ ∃ σ', L2.Inv X pins σ' H s') X.xe s
theorem cx_no {P : Program} {w : World} {outer : List Env} {H : Hp} {s : Shared} {e : Value} {s' : Shared} (h : L2.CX P w outer H s (fun _ _ _ => False) e s') : False := by
  obtain ⟨_, _, _, _, _, _, _, _, _, _, _, _, z⟩ := h
  exact z.elim
section
variable {P : Program} {w : World} {K : PySem.W.Frag} {mg : Str → Option Value} {base : Heap}
theorem ni_go {x qual : Str} {st : Stmt} {f : Addr} {fd : FuncData} {N ps : List Str} (GL : List Str) {k : Nat} {pre : List V → Hp → Prop} (F : Fun K x qual st f fd) (S : FnScope N ps (defScope st)) (hok : okNames N GL (defScope st) = true) (len : ∀ vs H, pre vs H → vs.length = ps.length)
    (body : ∀ (X : Cx) (H : Hp) (vs : List V), Xk X P w K mg base (defScope st) N GL k (fun _ _ _ => False) → pre vs H → Ni X (defBody st) (L2.start N vs) H) : NiOk P w K mg base (k + 1) f fd ps pre := by
  obtain ⟨oc, od, kV, doc, pm, an, cdv, ct, osl, rfl, lk, hcd⟩ := F.ex
  refine ⟨len, fun A outer s H args us vs hr e0 hb r hsp => ?_⟩
  have hl := len _ _ hsp
  have KX : K.In s.heap := e0.mod.kin.keeps fun b o e => (e0.bs b o e).1
  have lim : s.heap.NoLimit := e0.mod.nolimit.keeps fun b o e => (e0.bs b o e).1
  have hkind : ∀ y ∈ ps.zip us, (defScope st).names.lookup y.1 = some .local ∨ ((defScope st).names.lookup y.1 = some .cell ∧ ((cellsFrom (s.heap.objs.size + 1) (defScope st).names []).lookup y.1).isSome = true) := fun ⟨n, v⟩ hy => by
    rcases S.par n (List.of_mem_zip hy).1 with q | q
    · exact .inl q
    · exact .inr ⟨q, PySem.W.cellsFrom_some _ _ _ (.inl q)⟩
  refine codeAny_call_function hr.depth (KX _ _ lk) rfl S.co S.gen rfl (PySem.W.codeRec_of KX hcd) (hb _ _ _ _ ?_)
  refine wpAny_newFunctionEnv_cells S.kind hkind fun env he s1 x => ?_
  subst he
  refine ⟨lim.keeps x.toInCall.keep, codeAny_func ?_⟩
  have q := names_ok (X := cxOf (L2.CX P w) P w K mg base N qual (defScope st) f cdv A outer s H (fun _ _ _ => False)) (N := N) (GL := GL) hok
  have hB := body (cxOf (L2.CX P w) P w K mg base N qual (defScope st) f cdv A outer s H (fun _ _ _ => False)) H vs ⟨rfl, rfl, rfl, rfl, rfl, rfl, S.nd, q.1, q.2, fun _ => rfl, hr.deeper _, rfl, takes_of rfl rfl rfl rfl, passes_of rfl, _, _, _, _, rfl⟩ hsp
  have I : L2.Inv (cxOf (L2.CX P w) P w K mg base N qual (defScope st) f cdv A outer s H (fun _ _ _ => False)) [] (L2.start N vs) H s1 := inv_start S hr.hd e0 hl r x
  refine wpAny_mono (hB.run [] s1 I) (fun fl s' hs => ?_) fun e s' hs => ?_
  · obtain ⟨rfl, σ', J⟩ := hs
    exact ⟨rfl, J.os, J.bare, J.base, J.hok⟩
  · exact wpAny_mono hs (fun _ _ z => (cx_no z).elim) fun _ _ z => (cx_no z).elim
/-- a method that hands back NotImplemented where pre holds -/
def Dn (P : Program) (w : World) (K : PySem.W.Frag) (mg : Str → Option Value) (base : Heap) (Cl : Addr) (m : Str) (j : Nat) (pre : List V → Hp → Prop) : Prop :=
  ∃ (f : Addr) (fd : FuncData) (ps : List Str), NiOk P w K mg base j f fd ps pre ∧ Meth K Cl m f ∧ Binds K fd ps []
end
section
variable {X : Cx} {P : Program} {w : World} {K : PySem.W.Frag} {mg : Str → Option Value} {base : Heap} {sc : Scope} {N GL : List Str} {k : Nat} {EX : XK}
variable {σ : St} {H : Hp} {Q : VK} {TQ : Bool → Hp → Prop} {a b Cl Dl dx dy : Addr} {fs gs : List (Str × V)} {j j' : Nat} {sp : Sp} {m : Str} {c : Expr} {bd rest : List Stmt} {pos p : Pos} {pre pre' : List V → Hp → Prop}
theorem ni_if (h : T X c σ H fun q H1 => q = true ∧ H1 = H) (hb : Ni X bd σ H) : Ni X (.If c bd [] pos :: rest) σ H := by
  refine ⟨fun pins s I => ?_⟩
  refine wpAny_execs_cons (wpAny_If (wpAny_mono (h.run pins s I) (fun q s1 z => ?_) fun _ _ z => z))
  obtain ⟨H1, I1, rfl, rfl⟩ := z
  refine wpAny_mono (hb.run pins s1 I1) (fun fl s2 z => ?_) fun _ _ z => z
  obtain ⟨rfl, z⟩ := z
  exact ⟨rfl, z⟩
theorem ni_no (h : T X c σ H fun q H1 => q = false ∧ H1 = H) (hb : Ni X rest σ H) : Ni X (.If c bd [] pos :: rest) σ H := by
  refine ⟨fun pins s I => ?_⟩
  refine wpAny_execs_cons (wpAny_If (wpAny_mono (h.run pins s I) (fun q s1 z => ?_) fun _ _ z => z))
  obtain ⟨H1, I1, rfl, rfl⟩ := z
  refine wpAny_execs_nil ?_
  exact hb.run pins s1 I1
theorem ni_ret (xk : Xk X P w K mg base sc N GL k EX) (hg : ("NotImplemented" : Str) ∈ GL) (hb : mg "NotImplemented" = none) : Ni X (.Return (some (.Name "NotImplemented" p)) pos :: rest) σ H := by
  refine ⟨fun pins s I => ?_⟩
  refine wpAny_execs_cons (wpAny_Return_some (ld_blt I (xk.gl _ hg).1 (by rw [xk.mg]; exact hb) (u := .notImplemented) (by decide +kernel) ?_ (xk.gl _ hg).2.2 (xk.gl _ hg).2.1))
  exact ⟨rfl, σ, I⟩
/-- such a method, called somewhere below the body -/
theorem ni_at {f : Addr} {fd : FuncData} {ps : List Str} {pins : List (Addr × Obj)} {s : Shared} {us : List Value} {vs : List V} {A : Around} (F : NiOk X.prog X.w X.K X.mg X.base j f fd ps pre) (hr : Room j A) (fr : A.frames = X.A.frames)
    (hb : Binds X.K fd ps []) (I : L2.Inv X pins σ H s) (r : Vals vs us) (h : pre vs H) : wpAny (model X.prog X.w) A (call (.ref f) us) (fun u s' => u = .notImplemented ∧ L2.Inv X pins σ H s') X.xe s := by
  have hl : us.length = ps.length := by rw [← r.length]; exact F.len _ _ h
  have e0 : Env0 X.prog X.w X.K X.mg X.base A X.stack s H := by
    have e := I.env0
    exact ⟨by rw [fr]; exact e.frames, e.mod, e.bs, e.bsz, e.funs, e.frf, e.hok, e.bare⟩
  refine wpAny_call (codeAny_mono (F.run A X.stack s H ⟨us, []⟩ us vs hr e0 (by
    have := hb s us I.kIn (by simpa using hl)
    simpa using this) r h) fun r s' hq => ?_)
  cases r with
  | error e => exact False.elim hq
  | ok fl =>
    cases fl with
    | ret u =>
      obtain ⟨rfl, os, bare, un, hok⟩ := hq
      obtain ⟨hh, g, d, t, os'⟩ := s'
      obtain rfl : os' = s.os := os
      exact ⟨rfl, I.call (h' := hh) (g' := g) (d' := d) (t' := t) (ch := []) un hok bare (fun b z => absurd z (by simp))⟩
    | next => exact False.elim hq
    | brk => exact False.elim hq
    | cont => exact False.elim hq
/-- a op b, both instances of one class: ==, <, <=, >, >= -/
theorem c_own {op : CmpOp} (xk : Xk X P w K mg base sc N GL k EX) (D : Dm P w K mg base Cl m j sp) (hj : j ≤ k) (ha : H a = some (.ins Cl dx fs)) (hb : H b = some (.ins Cl dy gs)) (h : sp [.ref a, .ref b] H Q EX)
    (hn : (cmpInfo op).2.1 = m) (hc : ∀ v u, compareOp op v u = richCompare op v u) : Co X op (.ref a) (.ref b) H Q := by
  obtain ⟨f, fd, ps, F, hm, bb⟩ := D
  obtain ⟨rfl, rfl, rfl, rfl, rfl, -, -, -, gl, -, room, -, tk, -, -⟩ := xk
  refine ⟨fun pins s σ v u I rx ry => ?_⟩
  cases rx
  cases ry
  obtain ⟨m', hF⟩ := I.fr
  obtain ⟨od, J⟩ := inst_at I ha
  obtain ⟨od', J'⟩ := inst_at I hb
  rw [hc]
  refine PySem.W.cmp_K (tb := .ref Cl) room.units0 hF I.ok.mod.kin J J'.type (by simp [PySem.W.notFirst]) (by rw [hn]; exact hm.at_) hm.fn ?_
  exact wpAny_mono (run_at F (room.mono hj) rfl bb (passes_call tk fun _ _ _ _ z => z) I (vs := [.ref a, .ref b]) (.cons rfl (.cons rfl .nil)) h) (fun _ _ z => ep_cmp z) fun _ _ z => z
/-- a special method that is a built-in's, of an own instance -/
theorem ifBound_B {M : Model} {A : Around} {E : Value → Shared → Prop} {s : Shared} {x C : Addr} {ox : Obj} {od : Option Obj} {name : Str} {id : String} {args : List Value} {R : Option Value → Shared → Prop} (Y : K.In s.heap) (I : PySem.W.InstAt s.heap x ox C od) (hs : PySem.W.findIn K (.ref C) name = some (some (.builtin id)))
    (hb : ∀ self, bindSpecial (.builtin id) self = pure (.builtin id, [self])) (h : wpAny M A (call (.builtin id) (.ref x :: args)) (fun v => R (some v)) E s) : wpAny M A (callSpecialIfBound? (.ref x) name args) R E s := by
  simp only [callSpecialIfBound?, bindSpecialIfBound?]
  refine wpAny_holding (wpAny_bind (wpAny_bind (wpAny_bind (I.type.here ((PySem.W.looks_findIn Y hs).here ?_)))))
  refine wpAny_bind (wpAny_askSetting (wpAny_ite ?_))
  have fin : wpAny M A (call (.builtin id) ([.ref x] ++ args) >>= fun v => pure (some v)) R E s := wpAny_bind (wpAny_mono h (fun v s' h' => wpAny_pure h') fun _ _ h' => h')
  split
  · exact wpAny_bind ((PySem.W.Looks.of_pure (hb _)).here (wpAny_pure (by exact fin)))
  · exact wpAny_tryCatch (wpAny_bind ((PySem.W.Looks.of_pure (hb _)).here (wpAny_pure (by exact fin))))
/-- object.__ne__ of an own instance, by its own __eq__ -/
theorem call_one {A : Around} {E : Value → Shared → Prop} {s : Shared} {x C f : Addr} {ox : Obj} {od : Option Obj} {y : Value} {prog : Program} {w : World} {R : Value → Shared → Prop} (hu : A.in1.units < cLine) (Y : K.In s.heap) (I : PySem.W.InstAt s.heap x ox C od) (hm : PySem.W.mroIn K C (.type "object") = some true)
    (hr : PySem.W.findIn K (.ref C) "__eq__" = some (some (.ref f))) (hf : PySem.W.isFn K (.ref f) = true)
    (h : wpAny (model prog w) A.in1 (call (.ref f) [.ref x, y]) (fun v s' => (v = .notImplemented ∧ R .notImplemented s') ∨ ∃ q, v = .bool q ∧ R (.bool (!q)) s') E s) : wpAny (model prog w) A (call (.builtin "object.__ne__") [.ref x, y]) R E s := by
  refine wpAny_call (codeAny_call_builtin PySem.F.slot_object_ne.plain PySem.F.cmpEntry_ne (PySem.W.check_slot (i := "object.__ne__") (owner := "object") (n := "__ne__") PySem.F.cmpKind_ne PySem.F.cmpSplit_ne (I.type.andThen (PySem.W.looks_mroIn Y hm)) (PySem.F.cmpArgs_ne _ _) ?_))
  unfold Builtin.«object.__ne__»
  refine wpAny_bind (m := slotArgs "__ne__" 1 _) (wpAny_pure ?_)
  refine wpAny_bind (m := cRoomFor _ _) (wpAny_cRoomFor hu ?_)
  refine wpAny_bind (m := callSpecialIfBound? (.ref x) (Str.ofString "__eq__") _) (PySem.W.ifBound_K Y I hr hf (wpAny_mono h (fun r s' hq => ?_) fun _ _ y => y))
  rcases hq with ⟨rfl, hq⟩ | ⟨q, rfl, hq⟩
  · exact wpAny_pure hq
  · refine wpAny_bind (m := truthy (.bool q)) (wpAny_truthy_bool ?_)
    exact wpAny_pure hq
/-- a comparison by a given first try -/
theorem cmp_by {op : CmpOp} {A : Around} {E : Value → Shared → Prop} {s : Shared} {h₀ : Heap} {L x C : Addr} {y tb : Value} {m : Str → Option Value} {ox : Obj} {od : Option Obj} {prog : Program} {w : World} {R : Value → Shared → Prop} (hu : A.units < cLine) (F : PyProof.Rows.Fr h₀ L s.heap m) (X₀ : K.In h₀) (I : PySem.W.InstAt s.heap x ox C od) (hb : PySem.W.Looks (model prog w) s.heap (typeOf y) tb) (hn : PySem.W.notFirst K C tb = true)
    (one : wpAny (model prog w) A (tryCompare (.ref x) (cmpInfo op).2.1 y) (fun r s' => ∃ v, r = some v ∧ R v s') E s) : wpAny (model prog w) A (richCompare op (.ref x) y) R E s := by
  have X := X₀.keeps F.keep
  unfold richCompare
  simp only [oneThing_ref]
  refine wpAny_holding (wpAny_bind (wpAny_cRoomFor hu ?_))
  refine wpAny_bind (I.type.here (wpAny_bind (hb.here ?_)))
  split
  · rename_i q
    have e : PySem.W.subIn K tb (.ref C) = some false := by
      rcases Bool.or_eq_true_iff.mp hn with e | e
      · rw [beq_iff_eq.mp e] at q; simp at q
      · exact beq_iff_eq.mp e
    refine wpAny_bind ((PySem.W.looks_subIn X e).here ?_)
    simp only [Bool.false_eq_true, if_false]
    refine wpAny_bind (wpAny_mono one (fun r s' z => ?_) fun _ _ e => e)
    obtain ⟨v, rfl, hq⟩ := z
    exact wpAny_pure hq
  · refine wpAny_bind (wpAny_pure ?_)
    simp only [Bool.false_eq_true, if_false]
    refine wpAny_bind (wpAny_mono one (fun r s' z => ?_) fun _ _ e => e)
    obtain ⟨v, rfl, hq⟩ := z
    exact wpAny_pure hq
/-- a != b of one class, by its __eq__ -/
theorem c_ownNe (xk : Xk X P w K mg base sc N GL k EX) (D : Dm P w K mg base Cl "__eq__" j sp) (hj : j + 2 ≤ k) (hne : PySem.W.findIn K (.ref Cl) "__ne__" = some (some (.builtin "object.__ne__"))) (hmr : PySem.W.mroIn K Cl (.type "object") = some true)
    (ha : H a = some (.ins Cl dx fs)) (hb : H b = some (.ins Cl dy gs)) (h : sp [.ref a, .ref b] H (fun v H' => ∃ q, v = .bl q ∧ Q (.bl (!q)) H') EX) : Co X .NotEq (.ref a) (.ref b) H Q := by
  obtain ⟨f, fd, ps, F, hm, bb⟩ := D
  obtain ⟨rfl, rfl, rfl, rfl, rfl, -, -, -, gl, -, room, -, tk, -, -⟩ := xk
  refine ⟨fun pins s σ v u I rx ry => ?_⟩
  cases rx
  cases ry
  obtain ⟨m', hF⟩ := I.fr
  obtain ⟨od, J⟩ := inst_at I ha
  obtain ⟨od', J'⟩ := inst_at I hb
  show wpAny _ _ (richCompare .NotEq _ _) _ _ _
  refine cmp_by (tb := .ref Cl) room.units0 hF I.ok.mod.kin J J'.type (by simp [PySem.W.notFirst]) ?_
  unfold tryCompare
  refine wpAny_bind (ifBound_B I.kIn J (name := (cmpInfo CmpOp.NotEq).2.1) hne (fun self => PySem.F.slot_object_ne.bind self) ?_)
  refine call_one (f := f) (by have := room.un; show X.A.units + 1 < _; omega) I.kIn J hmr hm.at_ hm.fn ?_
  refine wpAny_mono (run_at F (Room.in1 (room.mono (by omega : j + 1 ≤ k))) rfl bb (passes_call tk fun _ _ _ _ z => z) I (vs := [.ref a, .ref b]) (.cons rfl (.cons rfl .nil)) h) (fun u s' z => ?_) fun _ _ z => z
  obtain ⟨v, H', I', r, q, rfl, hq⟩ := z
  cases r
  exact .inr ⟨q, rfl, wpAny_pure ⟨_, rfl, .bl (!q), _, I', rfl, hq⟩⟩

/-! ### comparisons that both sides decline -/
structure Ty (X : Cx) (H : Hp) (x : V) (t : Value) : Prop where
  run : ∀ (pins : List (Addr × Obj)) (s : Shared) (σ : St) (u : Value), L2.Inv X pins σ H s → RelV x u → PySem.W.Looks (model X.prog X.w) s.heap (typeOf u) t
structure Dec (X : Cx) (H : Hp) (nm : Str) (x y : V) : Prop where
  run : ∀ (pins : List (Addr × Obj)) (s : Shared) (σ : St) (u v : Value), L2.Inv X pins σ H s → RelV x u → RelV y v → wpAny (model X.prog X.w) X.A (tryCompare u nm v) (fun r s' => r = none ∧ L2.Inv X pins σ H s') X.xe s
structure Ns (X : Cx) (H : Hp) (x y : V) : Prop where
  one : ∀ (op : CmpOp) (u v : Value), RelV x u → RelV y v → oneThing? op u v = none
  run : ∀ (pins : List (Addr × Obj)) (s : Shared) (σ : St) (u v : Value) (R : Bool → Shared → Prop), L2.Inv X pins σ H s → RelV x u → RelV y v → R false s → wpAny (model X.prog X.w) X.A (isSame u v) R X.xe s
/-- == and != where both decline -/
theorem c_decl {x y : V} {ta tb : Value} {op : CmpOp} {q : Bool} (xk : Xk X P w K mg base sc N GL k EX) (t1 : Ty X H x ta) (t2 : Ty X H y tb) (hne : (ta != tb) = true) (hs : PySem.W.subIn K tb ta = some false) (ns : Ns X H x y) (d1 : Dec X H (cmpInfo op).2.1 x y) (d2 : Dec X H (cmpInfo op).2.2 y x)
    (ho : (op = .Eq ∧ q = false) ∨ (op = .NotEq ∧ q = true)) (h : Q (.bl q) H) : Co X op x y H Q := by
  obtain ⟨rfl, rfl, rfl, rfl, rfl, -, -, -, gl, -, room, -, tk, -, -⟩ := xk
  refine ⟨fun pins s σ v u I rx ry => ?_⟩
  have main : wpAny (model X.prog X.w) X.A (richCompare op v u) (EP X pins σ Q) X.xe s := by
    have e1 := d1.run
    have e2 := d2.run
    rcases hi : cmpInfo op with ⟨sym, f, r⟩
    rw [hi] at e1 e2
    simp only [richCompare, hi, ns.one op v u rx ry]
    refine wpAny_holding ?_
    refine wpAny_bind (wpAny_cRoomFor_or (.inr room.units0) ?_)
    refine wpAny_bind ((t1.run pins s σ v I rx).here (wpAny_bind ((t2.run pins s σ u I ry).here ?_)))
    simp only [hne, if_true]
    refine wpAny_bind ((PySem.W.looks_subIn I.kIn hs).here ?_)
    simp only [Bool.false_eq_true, if_false, Bool.not_false, if_true]
    refine wpAny_bind (wpAny_mono (e1 pins s σ v u I rx ry) (fun r0 s1 z => ?_) fun _ _ z => z)
    obtain ⟨rfl, I1⟩ := z
    refine wpAny_bind (wpAny_mono (e2 pins s1 σ u v I1 ry rx) (fun r0 s2 z => ?_) fun _ _ z => z)
    obtain ⟨rfl, I2⟩ := z
    rcases ho with ⟨rfl, rfl⟩ | ⟨rfl, rfl⟩
    · exact wpAny_bind (wpAny_rule (wpAny_bind (ns.run pins s2 σ v u _ I2 rx ry (wpAny_pure ⟨.bl _, _, I2, rfl, h⟩))))
    · exact wpAny_bind (wpAny_rule (wpAny_bind (ns.run pins s2 σ v u _ I2 rx ry (wpAny_pure ⟨.bl _, _, I2, rfl, h⟩))))
  rcases ho with ⟨rfl, rfl⟩ | ⟨rfl, rfl⟩ <;> exact main
theorem ty_own (ha : H a = some (.ins Cl dx fs)) : Ty X H (.ref a) (.ref Cl) := ⟨fun pins s σ u I r => by cases r; obtain ⟨od, J⟩ := inst_at I ha; exact J.type⟩
theorem ty_int {i : Int} : Ty X H (.int i) (.type "int") := ⟨fun pins s σ u I r => by obtain ⟨t, rfl⟩ := r; exact PySem.W.Looks.of_pure rfl⟩
theorem ty_str {i : Str} : Ty X H (.str i) (.type "str") := ⟨fun pins s σ u I r => by obtain ⟨t, rfl⟩ := r; exact PySem.W.Looks.of_pure rfl⟩
theorem ty_non : Ty X H .non (.type "NoneType") := ⟨fun pins s σ u I r => by cases r; exact PySem.W.Looks.of_pure rfl⟩
theorem dec_own {x : V} (xk : Xk X P w K mg base sc N GL k EX) (D : Dn P w K mg base Cl m j pre) (hj : j ≤ k) (ha : H a = some (.ins Cl dx fs)) (h : pre [.ref a, x] H) : Dec X H m (.ref a) x := by
  obtain ⟨f, fd, ps, F, hm, bb⟩ := D
  obtain ⟨rfl, rfl, rfl, rfl, rfl, -, -, -, gl, -, room, -, tk, -, -⟩ := xk
  refine ⟨fun pins s σ u v I rx ry => ?_⟩
  cases rx
  obtain ⟨od, J⟩ := inst_at I ha
  unfold tryCompare
  refine wpAny_bind (PySem.W.ifBound_K I.kIn J hm.at_ hm.fn (wpAny_mono (ni_at F (room.mono hj) rfl bb I (vs := [.ref a, x]) (.cons rfl (.cons ry .nil)) h) (fun u s' z => ?_) fun _ _ z => z))
  obtain ⟨rfl, I'⟩ := z
  exact wpAny_pure ⟨rfl, I'⟩
theorem dec_ownNe {x : V} (xk : Xk X P w K mg base sc N GL k EX) (D : Dn P w K mg base Cl "__eq__" j pre) (hj : j + 2 ≤ k) (hne : PySem.W.findIn K (.ref Cl) "__ne__" = some (some (.builtin "object.__ne__"))) (hmr : PySem.W.mroIn K Cl (.type "object") = some true)
    (ha : H a = some (.ins Cl dx fs)) (h : pre [.ref a, x] H) : Dec X H "__ne__" (.ref a) x := by
  obtain ⟨f, fd, ps, F, hm, bb⟩ := D
  obtain ⟨rfl, rfl, rfl, rfl, rfl, -, -, -, gl, -, room, -, tk, -, -⟩ := xk
  refine ⟨fun pins s σ u v I rx ry => ?_⟩
  cases rx
  obtain ⟨od, J⟩ := inst_at I ha
  unfold tryCompare
  refine wpAny_bind (ifBound_B I.kIn J hne (fun self => PySem.F.slot_object_ne.bind self) ?_)
  refine call_one (f := f) (by have := room.un; show X.A.units + 1 < _; omega) I.kIn J hmr hm.at_ hm.fn ?_
  refine wpAny_mono (ni_at F (Room.in1 (room.mono (by omega : j + 1 ≤ k))) rfl bb I (vs := [.ref a, x]) (.cons rfl (.cons ry .nil)) h) (fun u s' z => ?_) fun _ _ z => z
  obtain ⟨rfl, I'⟩ := z
  exact .inl ⟨rfl, wpAny_pure ⟨rfl, I'⟩⟩

/-! the built-ins' own __eq__, __ne__ against an own instance -/
theorem int_eq_inst (i : Int) (t : Tok) (x C d0 : Addr) : Meets (Builtin.«int.__eq__» ⟨[.int i t, .ref x], []⟩) (fun _ R s => s.heap.get? x = some (PySem.W.instObj C d0) ∧ R (.ok (.ret Value.notImplemented)) s) :=
  .of_wp fun prog w A R s h => by obtain ⟨hp, g, d, tk, os⟩ := s; obtain ⟨hl, h⟩ := h; simp only [PySem.W.instObj] at hl; wp_walk using wpAny_loadPart' hl, wpAny_load hl; exact ⟨_, rfl, h⟩
theorem int_ne_inst (i : Int) (t : Tok) (x C d0 : Addr) : Meets (Builtin.«int.__ne__» ⟨[.int i t, .ref x], []⟩) (fun _ R s => s.heap.get? x = some (PySem.W.instObj C d0) ∧ R (.ok (.ret Value.notImplemented)) s) :=
  .of_wp fun prog w A R s h => by obtain ⟨hp, g, d, tk, os⟩ := s; obtain ⟨hl, h⟩ := h; simp only [PySem.W.instObj] at hl; wp_walk using wpAny_loadPart' hl, wpAny_load hl; exact ⟨_, rfl, h⟩
theorem str_eq_inst (i : Str) (t : Tok) (x C d0 : Addr) : Meets (Builtin.«str.__eq__» ⟨[.str i t, .ref x], []⟩) (fun _ R s => s.heap.get? x = some (PySem.W.instObj C d0) ∧ R (.ok (.ret Value.notImplemented)) s) :=
  .of_wp fun prog w A R s h => by obtain ⟨hp, g, d, tk, os⟩ := s; obtain ⟨hl, h⟩ := h; simp only [PySem.W.instObj] at hl; wp_walk using wpAny_loadPart' hl, wpAny_load hl; exact ⟨_, rfl, h⟩
theorem str_ne_inst (i : Str) (t : Tok) (x C d0 : Addr) : Meets (Builtin.«str.__ne__» ⟨[.str i t, .ref x], []⟩) (fun _ R s => s.heap.get? x = some (PySem.W.instObj C d0) ∧ R (.ok (.ret Value.notImplemented)) s) :=
  .of_wp fun prog w A R s h => by obtain ⟨hp, g, d, tk, os⟩ := s; obtain ⟨hl, h⟩ := h; simp only [PySem.W.instObj] at hl; wp_walk using wpAny_loadPart' hl, wpAny_load hl; exact ⟨_, rfl, h⟩

theorem list_eq_inst (l : Addr) (items : Array Value) (n : Nat) (dd : Option Addr) (sl : Array (Option Value)) (x C d0 : Addr) : Meets (Builtin.«list.__eq__» ⟨[.ref l, .ref x], []⟩) (fun _ R s => s.heap.get? x = some (PySem.W.instObj C d0) ∧ s.heap.get? l = some { cls := .type "list", dict := dd, data := .seq items n, slots := sl } ∧ K.In s.heap ∧ PySem.W.subIn K (.ref C) (.type "list") = some false ∧ R (.ok (.ret Value.notImplemented)) s) :=
  .of_wp fun prog w A R s h => by obtain ⟨hp, g, d, tk, os⟩ := s; obtain ⟨hx, hl, hK, hS, h⟩ := h; simp only [PySem.W.instObj] at hx; wp_walk using wpAny_loadPart' hl, wpAny_load hl, wpAny_loadPart' hx, wpAny_load hx; refine (PySem.W.looks_subIn hK hS).here ?_; wp_walk; exact ⟨_, rfl, h⟩

theorem dec_int_eq {i : Int} (ha : H a = some (.ins Cl dx fs)) : Dec X H (cmpInfo .Eq).2.1 (.int i) (.ref a) := by
  refine ⟨fun pins s σ u v I rx ry => ?_⟩
  obtain ⟨t, rfl⟩ := id rx
  cases ry
  have hx := (ins_get I.hok ha).choose_spec.1.obj
  refine wpAny_tryCompare_declines (T := "int") (id := "int.__eq__") ?_ ?_ ?_
  · exact typeIs_int _ _ _
  · exact PySem.F.slot_int_eq
  · exact call_meets PySem.F.slot_int_eq (typeIs_int _ _ _) PySem.F.entry_int_eq (PySem.F.args_int_eq_2 _ _) (int_eq_inst i t a Cl dx) ⟨hx, rfl, rfl, I⟩

theorem dec_str_eq {i : Str} (ha : H a = some (.ins Cl dx fs)) : Dec X H (cmpInfo .Eq).2.1 (.str i) (.ref a) := by
  refine ⟨fun pins s σ u v I rx ry => ?_⟩
  obtain ⟨t, rfl⟩ := id rx
  cases ry
  have hx := (ins_get I.hok ha).choose_spec.1.obj
  refine wpAny_tryCompare_declines (T := "str") (id := "str.__eq__") ?_ ?_ ?_
  · exact typeIs_str _ _ _
  · exact PySem.F.slot_str_eq
  · exact call_meets PySem.F.slot_str_eq (typeIs_str _ _ _) PySem.F.entry_str_eq (PySem.F.args_str_eq_2 _ _) (str_eq_inst i t a Cl dx) ⟨hx, rfl, rfl, I⟩

theorem dec_non_eq : Dec X H (cmpInfo .Eq).2.1 .non (.ref a) := by
  refine ⟨fun pins s σ u v I rx ry => ?_⟩
  cases rx
  cases ry
  refine wpAny_tryCompare_declines (T := "NoneType") (id := "NoneType.__eq__") ?_ ?_ ?_
  · rfl
  · exact PySem.F.slot_NoneType_eq
  · exact call_gives PySem.F.slot_NoneType_eq rfl PySem.F.entry_NoneType_eq (PySem.F.args_NoneType_eq_2 _ _) (SeqAt.NoneType___eq___none_ref_0 a) ⟨rfl, rfl, I⟩
theorem dec_lst_eq {l : Addr} {xs : List V} (xk : Xk X P w K mg base sc N GL k EX) (hs : PySem.W.subIn K (.ref Cl) (.type "list") = some false) (hl : H l = some (.lst xs)) (ha : H a = some (.ins Cl dx fs)) : Dec X H (cmpInfo .Eq).2.1 (.ref l) (.ref a) := by
  obtain ⟨rfl, rfl, rfl, rfl, rfl, -, -, -, gl, -, room, -, tk, -, -⟩ := xk
  refine ⟨fun pins s σ u v I rx ry => ?_⟩
  cases rx
  cases ry
  have hx := (ins_get I.hok ha).choose_spec.1.obj
  obtain ⟨_, its, n, _, _, ho⟩ := I.lstM hl
  refine wpAny_tryCompare_declines (T := "list") (id := "list.__eq__") ?_ ?_ ?_
  · exact ⟨_, ho, rfl⟩
  · exact PySem.F.slot_list_eq
  · exact call_meets PySem.F.slot_list_eq ⟨_, ho, rfl⟩ PySem.F.entry_list_eq (PySem.F.args_list_eq_2 _ _) (list_eq_inst l its.toArray n none #[] a Cl dx) ⟨hx, ho, I.kIn, hs, rfl, rfl, I⟩

theorem list_ne_inst (l : Addr) (items : Array Value) (n : Nat) (dd : Option Addr) (sl : Array (Option Value)) (x C d0 : Addr) : Meets (Builtin.«list.__ne__» ⟨[.ref l, .ref x], []⟩) (fun _ R s => s.heap.get? x = some (PySem.W.instObj C d0) ∧ s.heap.get? l = some { cls := .type "list", dict := dd, data := .seq items n, slots := sl } ∧ K.In s.heap ∧ PySem.W.subIn K (.ref C) (.type "list") = some false ∧ R (.ok (.ret Value.notImplemented)) s) :=
  .of_wp fun prog w A R s h => by obtain ⟨hp, g, d, tk, os⟩ := s; obtain ⟨hx, hl, hK, hS, h⟩ := h; simp only [PySem.W.instObj] at hx; wp_walk using wpAny_loadPart' hl, wpAny_load hl, wpAny_loadPart' hx, wpAny_load hx; refine (PySem.W.looks_subIn hK hS).here ?_; wp_walk; exact ⟨_, rfl, h⟩

theorem dec_int_ne {i : Int} (ha : H a = some (.ins Cl dx fs)) : Dec X H (cmpInfo .NotEq).2.1 (.int i) (.ref a) := by
  refine ⟨fun pins s σ u v I rx ry => ?_⟩
  obtain ⟨t, rfl⟩ := id rx
  cases ry
  have hx := (ins_get I.hok ha).choose_spec.1.obj
  refine wpAny_tryCompare_declines (T := "int") (id := "int.__ne__") ?_ ?_ ?_
  · exact typeIs_int _ _ _
  · exact PySem.F.slot_int_ne
  · exact call_meets PySem.F.slot_int_ne (typeIs_int _ _ _) PySem.F.entry_int_ne (PySem.F.args_int_ne_2 _ _) (int_ne_inst i t a Cl dx) ⟨hx, rfl, rfl, I⟩

theorem dec_str_ne {i : Str} (ha : H a = some (.ins Cl dx fs)) : Dec X H (cmpInfo .NotEq).2.1 (.str i) (.ref a) := by
  refine ⟨fun pins s σ u v I rx ry => ?_⟩
  obtain ⟨t, rfl⟩ := id rx
  cases ry
  have hx := (ins_get I.hok ha).choose_spec.1.obj
  refine wpAny_tryCompare_declines (T := "str") (id := "str.__ne__") ?_ ?_ ?_
  · exact typeIs_str _ _ _
  · exact PySem.F.slot_str_ne
  · exact call_meets PySem.F.slot_str_ne (typeIs_str _ _ _) PySem.F.entry_str_ne (PySem.F.args_str_ne_2 _ _) (str_ne_inst i t a Cl dx) ⟨hx, rfl, rfl, I⟩

theorem dec_non_ne : Dec X H (cmpInfo .NotEq).2.1 .non (.ref a) := by
  refine ⟨fun pins s σ u v I rx ry => ?_⟩
  cases rx
  cases ry
  refine wpAny_tryCompare_declines (T := "NoneType") (id := "NoneType.__ne__") ?_ ?_ ?_
  · rfl
  · exact PySem.F.slot_NoneType_ne
  · exact call_gives PySem.F.slot_NoneType_ne rfl PySem.F.entry_NoneType_ne (PySem.F.args_NoneType_ne_2 _ _) (SeqAt.NoneType___ne___none_ref_0 a) ⟨rfl, rfl, I⟩
theorem dec_lst_ne {l : Addr} {xs : List V} (xk : Xk X P w K mg base sc N GL k EX) (hs : PySem.W.subIn K (.ref Cl) (.type "list") = some false) (hl : H l = some (.lst xs)) (ha : H a = some (.ins Cl dx fs)) : Dec X H (cmpInfo .NotEq).2.1 (.ref l) (.ref a) := by
  obtain ⟨rfl, rfl, rfl, rfl, rfl, -, -, -, gl, -, room, -, tk, -, -⟩ := xk
  refine ⟨fun pins s σ u v I rx ry => ?_⟩
  cases rx
  cases ry
  have hx := (ins_get I.hok ha).choose_spec.1.obj
  obtain ⟨_, its, n, _, _, ho⟩ := I.lstM hl
  refine wpAny_tryCompare_declines (T := "list") (id := "list.__ne__") ?_ ?_ ?_
  · exact ⟨_, ho, rfl⟩
  · exact PySem.F.slot_list_ne
  · exact call_meets PySem.F.slot_list_ne ⟨_, ho, rfl⟩ PySem.F.entry_list_ne (PySem.F.args_list_ne_2 _ _) (list_ne_inst l its.toArray n none #[] a Cl dx) ⟨hx, ho, I.kIn, hs, rfl, rfl, I⟩

theorem ty_lst {l : Addr} {xs : List V} (hl : H l = some (.lst xs)) : Ty X H (.ref l) (.type "list") := ⟨fun pins s σ u I r => by
  cases r
  obtain ⟨_, its, n, _, _, ho⟩ := I.lstM hl
  exact fun _ _ _ _ k q => wpAny_typeOf (T := "list") ⟨_, k _ _ ho, rfl⟩ q⟩
theorem ns_int {i : Int} : Ns X H (.ref a) (.int i) := ⟨fun op u v r1 r2 => by cases r1; exact oneThing_ref _ _ _, fun pins s σ u v R I r1 r2 h => by cases r1; obtain ⟨t, rfl⟩ := r2; exact wpAny_of_eq (rfl : isSame (.ref a) (.int i t) = pure false) h⟩
theorem ns_str {i : Str} : Ns X H (.ref a) (.str i) := ⟨fun op u v r1 r2 => by cases r1; exact oneThing_ref _ _ _, fun pins s σ u v R I r1 r2 h => by cases r1; obtain ⟨t, rfl⟩ := r2; exact wpAny_of_eq (rfl : isSame (.ref a) (.str i t) = pure false) h⟩
theorem ns_non : Ns X H (.ref a) .non := ⟨fun op u v r1 r2 => by cases r1; exact oneThing_ref _ _ _, fun pins s σ u v R I r1 r2 h => by cases r1; cases r2; exact wpAny_of_eq (rfl : isSame (.ref a) .none = pure false) h⟩
theorem sn_int {i : Int} : Ns X H (.int i) (.ref a) := ⟨fun op u v r1 r2 => by cases r2; obtain ⟨t, rfl⟩ := r1; rfl, fun pins s σ u v R I r1 r2 h => by cases r2; obtain ⟨t, rfl⟩ := r1; exact wpAny_of_eq (rfl : isSame (.int i t) (.ref a) = pure false) h⟩
theorem sn_str {i : Str} : Ns X H (.str i) (.ref a) := ⟨fun op u v r1 r2 => by cases r2; obtain ⟨t, rfl⟩ := r1; rfl, fun pins s σ u v R I r1 r2 h => by cases r2; obtain ⟨t, rfl⟩ := r1; exact wpAny_of_eq (rfl : isSame (.str i t) (.ref a) = pure false) h⟩
theorem sn_non : Ns X H .non (.ref a) := ⟨fun op u v r1 r2 => by cases r2; cases r1; rfl, fun pins s σ u v R I r1 r2 h => by cases r2; cases r1; exact wpAny_of_eq (rfl : isSame .none (.ref a) = pure false) h⟩
theorem ns_own {b : Addr} (ha : H a = some (.ins Cl dx fs)) (hb : H b = some (.ins Dl dy gs)) (hne : Cl ≠ Dl) : Ns X H (.ref a) (.ref b) := ⟨fun op u v r1 r2 => by cases r1; exact oneThing_ref _ _ _, fun pins s σ u v R I r1 r2 h => by
  cases r1; cases r2
  have hx := (ins_get I.hok ha).choose_spec.1.obj
  have hy := (ins_get I.hok hb).choose_spec.1.obj
  have hab : a ≠ b := fun e => by subst e; rw [ha] at hb; cases hb; exact hne rfl
  exact wpAny_isSame_ref_other hab hx hy (by simp [PySem.W.instObj]) h⟩
theorem ns_ownL {b : Addr} {xs : List V} (ha : H a = some (.ins Cl dx fs)) (hb : H b = some (.lst xs)) : Ns X H (.ref a) (.ref b) := ⟨fun op u v r1 r2 => by cases r1; exact oneThing_ref _ _ _, fun pins s σ u v R I r1 r2 h => by
  cases r1; cases r2
  have hx := (ins_get I.hok ha).choose_spec.1.obj
  obtain ⟨_, its, n, _, _, ho⟩ := I.lstM hb
  have hab : a ≠ b := fun e => by subst e; rw [ha] at hb; cases hb
  exact wpAny_isSame_ref_other hab hx ho (by simp [PySem.W.instObj]) h⟩
theorem sn_own {b : Addr} {xs : List V} (hb : H b = some (.lst xs)) (ha : H a = some (.ins Cl dx fs)) : Ns X H (.ref b) (.ref a) := ⟨fun op u v r1 r2 => by cases r1; exact oneThing_ref _ _ _, fun pins s σ u v R I r1 r2 h => by
  cases r1; cases r2
  have hx := (ins_get I.hok ha).choose_spec.1.obj
  obtain ⟨_, its, n, _, _, ho⟩ := I.lstM hb
  have hab : b ≠ a := fun e => by subst e; rw [ha] at hb; cases hb
  exact SeqAt.wpAny_isSame_ref_other' hab ho hx (by simp [PySem.W.instObj]) h⟩
end
end Sx
set_option Elab.async false
set_option linter.all false
set_option maxRecDepth 100000
set_option maxHeartbeats 4000000
/-! SxP: truth, repr, str of own instances; f-strings; zip of lists; isinstance that says no. -/
namespace Sx
open PySem L2
open PyProof.Rows (UnaryOp_ not_of)

section
variable {X : Cx} {P : Program} {w : World} {K : PySem.W.Frag} {mg : Str → Option Value} {base : Heap} {sc : Scope} {N GL : List Str} {k : Nat} {EX : XK}
variable {σ : St} {H : Hp} {Q : VK} {TQ : Bool → Hp → Prop} {a b Cl Dl dx dy : Addr} {fs gs : List (Str × V)} {j j' : Nat} {sp : Sp} {m : Str} {e e1 e2 : Expr} {es : List Expr} {bd rest : List Stmt} {pos p pt : Pos} {st : Stmt} {nx bk ct : St → Hp → Prop} {rt : VK}

/-! ### not of any value -/
theorem pTr : TruR X (fun x H Q => Tr X x H Q) := fun pins s σ _ _ u _ I rx h => h.run pins s σ u I rx
theorem e_notW (h : E X e σ H fun x H1 => Tr X x H1 fun c H2 => Q (.bl (!c)) H2) : E X (.UnaryOp .Not e pos) σ H Q := by
  refine ⟨fun pins s I => ?_⟩
  refine UnaryOp_ (thn (h.run pins s I) fun v s1 ⟨x, H1, I1, r1, q1⟩ => ?_)
  exact not_of (thn (q1.run pins s1 σ v I1 r1) fun c s2 ⟨H2, I2, q2⟩ => ⟨.bl (!c), H2, I2, rfl, q2⟩)
/-! ### truth of an own instance -/
theorem ep_bool {pins : List (Addr × Obj)} {u : Value} {s' : Shared} (h : EP X pins σ (fun v H' => ∃ q, v = .bl q ∧ TQ q H') u s') : PySem.W.BoolBack (TP X pins σ TQ) u s' := by
  obtain ⟨v, H', I, r, q, rfl, h⟩ := h
  cases r
  exact ⟨H', I, h⟩
theorem tr_own (xk : Xk X P w K mg base sc N GL k EX) (D : Dm P w K mg base Cl "__bool__" j sp) (hj : j ≤ k) (ha : H a = some (.ins Cl dx fs)) (h : sp [.ref a] H (fun v H' => ∃ q, v = .bl q ∧ TQ q H') EX) : Tr X (.ref a) H TQ := by
  obtain ⟨f, fd, ps, F, hm, bb⟩ := D
  obtain ⟨rfl, rfl, rfl, rfl, rfl, -, -, -, gl, -, room, -, tk, -, -⟩ := xk
  refine ⟨fun pins s σ u I rx => ?_⟩
  cases rx
  obtain ⟨m', hF⟩ := I.fr
  obtain ⟨od, J⟩ := inst_at I ha
  exact PySem.W.truthy_K hF I.ok.mod.kin J hm.at_ hm.fn (wpAny_mono (run_at F (room.mono hj) rfl bb (passes_call tk fun _ _ _ _ z => z) I (vs := [.ref a]) (.cons rfl .nil) h) (fun _ _ z => ep_bool z) fun _ _ z => z)
/-- bool(a) -/
theorem k_boolOwn (xk : Xk X P w K mg base sc N GL k EX) (D : Dm P w K mg base Cl "__bool__" j sp) (hj : j + 2 ≤ k) (ha : H a = some (.ins Cl dx fs)) (h : sp [.ref a] H (fun v H' => ∃ q, v = .bl q ∧ Q (.bl q) H') EX) : C X (.type "bool") [.ref a] H Q := by
  obtain ⟨f, fd, ps, F, hm, bb⟩ := D
  obtain ⟨rfl, rfl, rfl, rfl, rfl, -, -, -, gl, -, room, -, tk, -, -⟩ := xk
  refine ⟨fun pins s σ us I r => ?_⟩
  obtain ⟨u, rfl, rx⟩ := vals1 r
  cases rx
  obtain ⟨m', hF⟩ := I.fr
  obtain ⟨od, J⟩ := inst_at I ha
  have run := PySem.W.truthy_K (M := model X.prog X.w) (A := X.A.in1.in1) hF I.ok.mod.kin J hm.at_ hm.fn (wpAny_mono (run_at F (Room.in1 (Room.in1 (room.mono hj))) rfl bb (passes_call tk fun _ _ _ _ z => z) I (vs := [.ref a]) (.cons rfl .nil) h) (fun _ _ z => ep_bool (TQ := fun q H' => Q (.bl q) H') z) fun _ _ z => z)
  refine callType_codes (T := "bool") (Bi := Builtin.«object.__init__») (Q₁ := fun r s₁ => ∃ q, r = .bool q ∧ EP X pins σ Q r s₁) PySem.F.called_bool (PySem.F.typeCall_bool_1 _) PySem.F.entry_object_init ?_ ?_
  · refine codeAny_of_tree ?_
    show wpAny _ X.A.in1.in1 (do checkBuiltinCall "bool.__new__" ⟨[.type "bool", .ref a], []⟩; again (.builtin "bool.__new__" ⟨[.type "bool", .ref a], []⟩)) _ _ s
    refine wpAny_bind (wpAny_of_eq (PySem.F.newCall_bool_1 _) (wpAny_pure ⟨plainId_quiet (by decide +kernel) _, codeAny_builtin PySem.F.entry_bool_new ?_⟩))
    rw [Around.under_plainId (by decide +kernel) _]
    unfold Builtin.«bool.__new__»
    refine wpAny_bind (wpAny_pure ?_)
    refine wpAny_bind (wpAny_of_eq PySem.F.conv_sub_bool ?_)
    refine wpAny_bind (wpAny_pure ?_)
    refine wpAny_bind (wpAny_mono run (fun q s₁ hr => ?_) fun _ _ y => y)
    obtain ⟨H', I', hq⟩ := hr
    exact wpAny_pure ⟨_, rfl, .bl q, H', I', rfl, hq⟩
  · rintro obj s₁ ⟨q, rfl, hq⟩
    exact ⟨rfl, PySem.F.args_object_init_2 _ _, object_init_meets PySem.F.called_bool.init.lookup PySem.F.called_bool.made (by decide) X.prog X.w X.A.in1 _ s₁ ⟨rfl, rfl, hq⟩⟩
/-! ### repr(a), str(a) of an own instance -/
theorem ep_str {pins : List (Addr × Obj)} {u : Value} {s' : Shared} (h : EP X pins σ (fun v H' => ∃ q, v = .str q ∧ Q (.str q) H') u s') : PySem.W.StrBack (EP X pins σ Q) u s' := by
  obtain ⟨v, H', I, r, q, rfl, h⟩ := h
  obtain ⟨t, rfl⟩ := id r
  exact ⟨_, H', I, r, h⟩
theorem k_reprOwn (xk : Xk X P w K mg base sc N GL k EX) (D : Dm P w K mg base Cl "__repr__" j sp) (hj : j + 1 ≤ k) (ha : H a = some (.ins Cl dx fs)) (h : sp [.ref a] H (fun v H' => ∃ q, v = .str q ∧ Q (.str q) H') EX) : C X (.builtin "repr") [.ref a] H Q := by
  obtain ⟨f, fd, ps, F, hm, bb⟩ := D
  obtain ⟨rfl, rfl, rfl, rfl, rfl, -, -, -, gl, -, room, -, tk, -, -⟩ := xk
  refine ⟨fun pins s σ us I r => ?_⟩
  obtain ⟨u, rfl, rx⟩ := vals1 r
  cases rx
  obtain ⟨m', hF⟩ := I.fr
  obtain ⟨od, J⟩ := inst_at I ha
  exact PySem.W.repr_K (by have := room.un; show X.A.units + 1 < _; omega) hF I.ok.mod.kin J hm.at_ hm.fn (wpAny_mono (run_at F (Room.in1 (room.mono hj)) rfl bb (passes_call tk fun _ _ _ _ z => z) I (vs := [.ref a]) (.cons rfl .nil) h) (fun _ _ z => ep_str z) fun _ _ z => z)
theorem k_strOwn (xk : Xk X P w K mg base sc N GL k EX) (D : Dm P w K mg base Cl "__str__" j sp) (hj : j + 2 ≤ k) (ha : H a = some (.ins Cl dx fs)) (h : sp [.ref a] H (fun v H' => ∃ q, v = .str q ∧ Q (.str q) H') EX) : C X (.type "str") [.ref a] H Q := by
  obtain ⟨f, fd, ps, F, hm, bb⟩ := D
  obtain ⟨rfl, rfl, rfl, rfl, rfl, -, -, -, gl, -, room, -, tk, -, -⟩ := xk
  refine ⟨fun pins s σ us I r => ?_⟩
  obtain ⟨u, rfl, rx⟩ := vals1 r
  cases rx
  obtain ⟨od, J⟩ := inst_at I ha
  exact PySem.W.kso_call (by have := room.un; show X.A.units + 1 + 1 < _; omega) I.kIn J hm.at_ hm.fn (wpAny_mono (run_at F (Room.in1 (Room.in1 (room.mono hj))) rfl bb (passes_call tk fun _ _ _ _ z => z) I (vs := [.ref a]) (.cons rfl .nil) h) (fun _ _ z => ep_str z) fun _ _ z => z)
theorem k_strI {i : Int} (hz : i.natAbs.log2 < 1920) (h : Q (.str (toString i)) H) : C X (.type "str") [.int i] H Q := .of call_str_int ⟨i, rfl, hz, h⟩
theorem k_strS {i : Str} (h : Q (.str i) H) : C X (.type "str") [.str i] H Q := .of SkE.call_str_str ⟨i, rfl, h⟩
theorem k_boolI {i : Int} (h : Q (.bl (i != 0)) H) : C X (.type "bool") [.int i] H Q := .of call_bool1 (.inl ⟨i, rfl, h⟩)
/-! ### f-strings -/
structure Fm (x : V) (H : Hp) (Q : VK) : Prop where
  run : (∃ y : Str, x = .str y ∧ y.length ≤ sizeLine ∧ Q (.str y) H) ∨ ∃ i : Int, x = .int i ∧ i.natAbs.log2 < 1920 ∧ Q (.str (toString i)) H
theorem fm_i {i : Int} (hz : i.natAbs.log2 < 1920) (h : Q (.str (toString i)) H) : Fm (.int i) H Q := ⟨.inr ⟨i, rfl, hz, h⟩⟩
theorem fm_s {y : Str} (hz : y.length ≤ sizeLine) (h : Q (.str y) H) : Fm (.str y) H Q := ⟨.inl ⟨y, rfl, hz, h⟩⟩
theorem e_fmt (h : E X e σ H fun x H1 => Fm x H1 Q) : E X (.FormattedValue e (-1) none pos) σ H Q := .of (pe_fmt pe) (h.mono fun _ _ z => z.run)
structure JsV (X : Cx) (es : List Expr) (acc : Str) (x : V) (σ : St) (H : Hp) (R : Str → Hp → Prop) : Prop where
  run : ∃ y : Str, x = .str y ∧ (acc ++ y).length ≤ sizeLine ∧ tJs (es.map fun e σ H Q => E X e σ H Q) (acc ++ y) σ H R
structure Js (X : Cx) (es : List Expr) (acc : Str) (σ : St) (H : Hp) (R : Str → Hp → Prop) : Prop where
  run : tJs (es.map fun e σ H Q => E X e σ H Q) acc σ H R
theorem js_nil {acc : Str} {R : Str → Hp → Prop} (h : R acc H) : Js X [] acc σ H R := ⟨h⟩
theorem js_cons {acc : Str} {R : Str → Hp → Prop} (h : E X e σ H fun x H1 => JsV X es acc x σ H1 R) : Js X (e :: es) acc σ H R := ⟨h.mono fun x H1 z => z.run⟩
theorem js_v {acc y : Str} {R : Str → Hp → Prop} (h1 : (acc ++ y).length ≤ sizeLine) (h : Js X es (acc ++ y) σ H R) : JsV X es acc (.str y) σ H R := ⟨⟨y, rfl, h1, h.run⟩⟩
theorem pj_all : ∀ es : List Expr, PJ X es (es.map fun e σ H Q => E X e σ H Q)
  | [] => .nil
  | _ :: es => .cons pe (pj_all es)
theorem e_join (h : Js X (e1 :: e2 :: es) Str.empty σ H fun out H1 => Q (.str out) H1) : E X (.JoinedStr (e1 :: e2 :: es) pos) σ H Q := .of (pe_joined (pj_all _)) h.run
/-! ### zip of two lists -/
theorem s_zip {ts : List Expr} {jt : Nat} {p2 : Pos} (xk : Xk X P w K mg base sc N GL k EX) (hg : ("zip" : Str) ∈ GL) (hm : mg "zip" = none)
    (h : As X [e1, e2] σ H fun vs H1 => ∃ a b xs ys, vs = [.ref a, .ref b] ∧ SqL K H1 a xs ∧ SqL K H1 b ys ∧ xs.length = ys.length ∧ ∃ Pv : Nat → St → Hp → Prop, Pv 0 σ H1 ∧ (∀ i σ' H', Pv i σ' H' → SqL K H' a xs ∧ SqL K H' b ys) ∧
      (∀ i x y T σ' H' H'', xs[i]? = some x → ys[i]? = some y → Pv i σ' H' → H' T = none → Kp [] H' H'' → H'' T = some (.tup [x, y]) → G X (.Tuple ts jt pt) (.ref T) σ' H'' fun σ2 H2 => Ss X bd (Pv (i + 1)) rt nx (Pv (i + 1)) σ2 H2) ∧ ∀ σ' H', Pv xs.length σ' H' → nx σ' H')
    (h1 : NoSt e1 = true) (h2 : NoSt e2 = true) (hs : ∀ x, foldedSetIterable (.Call (.Name "zip" p) [e1, e2] [] p2) X.env x = pure x := by intro _; rfl) :
    S X (.For (.Tuple ts jt pt) (.Call (.Name "zip" p) [e1, e2] [] p2) bd [] pos) nx rt bk ct σ H := by
  obtain ⟨-, -, rfl, rfl, -, -, -, -, gl, -, -, calm, -, po, -⟩ := xk
  refine .of (ps_for po calm (RZ.pi_zipA (gl _ hg).1 hm pa (star_cons h1) (by rw [star_cons h2]; rfl)) pg pss hs) (h.mono fun vs H1 ⟨a, b, xs, ys, e0, e1, e2, e3, Pv, p0, p1, p2, p3⟩ => ⟨a, b, xs, ys, e0, .inl ⟨e1, e2, ?_⟩⟩)
  exact RZ.for_zipL (g := fun v σ H Q => G X (.Tuple ts jt pt) v σ H Q) (tb := fun D σ H => Ss X bd D.nx D.rt D.bk D.ct σ H) (D := ⟨nx, rt, bk, ct⟩) e3 Pv p0 p1 (fun i x y T σ' H' hx hy hp hT => p2 i x y T σ' H' _ hx hy hp hT (kp_new hT) upd_same) p3
end
end Sx
set_option Elab.async false
set_option linter.all false
set_option maxRecDepth 100000
set_option maxHeartbeats 4000000
/-! SxQ: operators between two own classes. -/
namespace Sx
open PySem L2
section
variable {X : Cx} {P : Program} {w : World} {K : PySem.W.Frag} {mg : Str → Option Value} {base : Heap} {sc : Scope} {N GL : List Str} {k : Nat} {EX : XK}
variable {σ : St} {H : Hp} {Q : VK} {a b Cl Dl dx dy g : Addr} {fs gs : List (Str × V)} {j : Nat} {sp : Sp} {m : Str}
/-- a op b, instances of two own classes that both have the method -/
theorem b_own2 {op : Operator} {rc rd : Option Value} (xk : Xk X P w K mg base sc N GL k EX) (D : Dm P w K mg base Cl m j sp) (hj : j ≤ k) (hc : PySem.W.selfFirst K Cl = true) (hd : PySem.W.selfFirst K Dl = true) (hg : PySem.W.findIn K (.ref Dl) m = some (some (.ref g)))
    (hr : PySem.W.findIn K (.ref Cl) (PySem.dunderR op.info.2) = some rc) (hp : rc = none ∨ ∃ g : Addr, rc = some (.ref g)) (hr' : PySem.W.findIn K (.ref Dl) (PySem.dunderR op.info.2) = some rd) (hp' : rd = none ∨ ∃ g : Addr, rd = some (.ref g))
    (hsub : PySem.W.subIn K (.ref Dl) (.ref Cl) = some false) (hcd : Cl ≠ Dl) (ha : H a = some (.ins Cl dx fs)) (hb : H b = some (.ins Dl dy gs)) (h : sp [.ref a, .ref b] H Q EX) (hn : PySem.dunder op.info.2 = m) : Bo X op (.ref a) (.ref b) H Q := by
  obtain ⟨f, fd, ps, F, hm, bb⟩ := D
  obtain ⟨rfl, rfl, rfl, rfl, rfl, -, -, -, gl, -, room, -, tk, -, -⟩ := xk
  refine ⟨fun pins s σ v u I rx ry => ?_⟩
  cases rx
  cases ry
  subst hn
  obtain ⟨od, J⟩ := inst_at I ha
  obtain ⟨od', J'⟩ := inst_at I hb
  have run := wpAny_mono (run_at F (room.mono hj) rfl bb (passes_call tk fun _ _ _ _ z => z) I (vs := [.ref a, .ref b]) (.cons rfl (.cons rfl .nil)) h) (fun _ _ z => ep_cmp z) fun _ _ z => z
  have one := PySem.W.ksp_try I.kIn J hm.at_ hm.fn run
  have X' := I.kIn
  have hs1 := hm.at_
  obtain ⟨cd, rest, hcc, hmr⟩ := PySem.W.ksp_first hc
  obtain ⟨cd', rest', hcc', hmr'⟩ := PySem.W.ksp_first hd
  rcases hi : op.info with ⟨sym, nm⟩
  rw [hi] at one hg hr hr' hs1
  dsimp only at one hg hr hr' hs1
  obtain ⟨hh, gg, d, tt, os⟩ := s
  have L1 : PySem.W.Looks (model X.prog X.w) hh (typeOf (.ref a)) (.ref Cl) := J.type
  have L2 : PySem.W.Looks (model X.prog X.w) hh (typeOf (.ref b)) (.ref Dl) := J'.type
  have L3 : PySem.W.Looks (model X.prog X.w) hh (fillsNumberSlot (.ref Cl) nm) true := PySem.W.fills_K X' hcc hmr hs1
  have L4 : PySem.W.Looks (model X.prog X.w) hh (fillsNumberSlot (.ref Dl) nm) true := PySem.W.fills_K X' hcc' hmr' hg
  have L5 : PySem.W.Looks (model X.prog X.w) hh (isSubtype (.ref Dl) (.ref Cl)) false := PySem.W.looks_subIn X' hsub
  have L6 : PySem.W.Looks (model X.prog X.w) hh (numberSlotInPython (.ref Cl) nm) true := PySem.W.ksp_inPy X' hs1 hr hp
  have L7 : PySem.W.Looks (model X.prog X.w) hh (numberSlotInPython (.ref Dl) nm) true := PySem.W.ksp_inPy X' hg hr' hp'
  have hne : (Value.ref Cl == Value.ref Dl) = false := Bool.eq_false_iff.mpr fun q => hcd (by have := beq_iff_eq.mp q; injection this)
  simp only [binaryOp, hi]
  refine wpAny_holding (wpAny_bind ?_)
  unfold binaryOp1
  refine wpAny_bind (L1.at (wpAny_bind (L2.at (wpAny_bind (L3.at ?_)))))
  simp only [hne, Bool.false_eq_true, if_false]
  refine wpAny_bind (L4.at ?_)
  simp only [Bool.and_self, if_true]
  refine wpAny_bind (L5.at ?_)
  simp only [Bool.false_eq_true, if_false, Bool.not_false, Bool.and_self, if_true]
  refine wpAny_bind (L6.at ?_)
  simp only [if_true]
  refine wpAny_bind (L7.at ?_)
  simp only [Bool.not_true, Bool.false_eq_true, if_false]
  refine wpAny_bind (wpAny_mono one (fun r s' hr'' => ?_) fun _ _ e => e)
  obtain ⟨v, rfl, hq⟩ := hr''
  ksp_lk
  exact hq
end
end Sx
set_option Elab.async false
set_option linter.all false
set_option maxRecDepth 100000
set_option maxHeartbeats 4000000
/-! Rx: what a piece of syntax computes, as a plain function over values (tuples, lists that stand still, instances that stand still are values; what is changed stands in a small heap by number). -/
namespace Rx
open PySem L2 Sx
open PyProof.Rows (subscriptTail)

/-! ### values, objects, outcomes -/
inductive A where
  | non | bl (b : Bool) | int (i : Int) | str (x : Str) | ty (n : String) | cls (c : Nat) | scr (ns : List Int)
  | tup (xs : List A) | lst (xs : List A) | dk (kvs : List (Key × A)) | dt (kvs : List (List Key × A)) | ins (c : Nat) (fs : List A) | ref (n : Nat)
  | wdk (kvs : List (Key × A)) | ctp (xs : List A)
  deriving Inhabited
inductive O where
  | dead | lst (xs : List A) | dk (kvs : List (Key × A)) | dt (kvs : List (List Key × A)) | ins (c : Nat) (fs : List A) | fdk (kvs : List (Key × A)) | fdt (kvs : List (List Key × A))
  deriving Inhabited
abbrev Hs := List O
abbrev Sl := List (Option A)
structure Xc where
  cls : Nat
  fs : List A
inductive Out (α : Type) where
  | ok (a : α) (h : Hs) | ex (x : Xc) (h : Hs) | bad
inductive OutS where
  | nx (sl : Sl) (h : Hs) | rt (a : A) (h : Hs) | bk (sl : Sl) (h : Hs) | ct (sl : Sl) (h : Hs) | ex (x : Xc) (sl : Sl) (h : Hs) | bad
def Out.bind {α β : Type} (m : Out α) (k : α → Hs → Out β) : Out β :=
  match m with
  | .ok a h => k a h
  | .ex x h => .ex x h
  | .bad => .bad
/-- an expression's outcome within a statement -/
def Out.bindS {α : Type} (m : Out α) (sl : Sl) (k : α → Hs → OutS) : OutS :=
  match m with
  | .ok a h => k a h
  | .ex x h => .ex x sl h
  | .bad => .bad
def OutS.bind (m : OutS) (k : Sl → Hs → OutS) : OutS :=
  match m with
  | .nx sl h => k sl h
  | o => o
/-- what cannot be -/
def chk {α : Type} (c : Bool) (o : Out α) : Out α := match c with | true => o | false => .bad
def need {α β : Type} (o : Option α) (k : α → Out β) : Out β := match o with | some a => k a | none => .bad

/-- the exception that is handled: its slot, its address, its dict's, its class, its fields -/
structure Xi where
  i : Nat
  a : Addr
  d : Addr
  c : Nat
  fs : List A
  vs : List (Str × V)
  oe : Obj
structure Gc where
  P : Program
  w : World
  K : PySem.W.Frag
  mg : Str → Option Value
  base : Heap
  cad : Nat → Addr
  cfs : Nat → List Str
  xi : Option Xi
/-- a dict of the written part, by its keys that are texts -/
structure Wdk (K : PySem.W.Frag) (w : World) (a : Addr) (vs : List (Str × V)) : Prop where
  there : ∃ es n, K.lookup a = some ⟨.type "dict", none, .dict es n, #[]⟩ ∧ PySem.W.KeysLit w.params es.toList ∧ (a == sysModules) = false
  get : ∀ x v, vs.lookup x = some v → ∃ u, PySem.W.nsIn K a x = some (some u) ∧ RelV v u
  no : ∀ x, vs.lookup x = none → PySem.W.nsIn K a x = some none

/-- the addresses of the numbered objects; hd: what is being built behind the scenes -/
structure Rho where
  l : List (Option Addr)
  hd : List Addr
abbrev Rho.add (ρ : Rho) (p : Addr) : Rho := ⟨ρ.l ++ [some p], ρ.hd⟩
abbrev Rho.kill (ρ : Rho) (n : Nat) : Rho := ⟨ρ.l.set n none, ρ.hd⟩
abbrev Rho.hide (ρ : Rho) (p : Addr) : Rho := ⟨ρ.l, p :: ρ.hd⟩
def Live (ρ : Rho) (a : Addr) : Prop := (∃ i : Nat, ρ.l[i]? = some (some a)) ∨ a ∈ ρ.hd

/-- the script, a list that is never written -/
def ScrAt (K : PySem.W.Frag) (H : Hp) (ρ : Rho) (a : Addr) (vs : List V) : Prop :=
  (H a = some (.lst vs) ∧ ¬ Live ρ a) ∨ (∃ o, H a = some (.frz o (.lst vs))) ∨
    ∃ (o : Obj) (its : Array Value) (n : Nat), K.lookup a = some o ∧ o.cls = .type "list" ∧ o.dict = none ∧ o.data = .seq its n ∧ its.size ≤ sizeLine ∧ Vals vs its.toList

inductive RA (G : Gc) (H : Hp) (ρ : Rho) : A → V → Prop where
  | non : RA G H ρ .non .non
  | bl {b : Bool} : RA G H ρ (.bl b) (.bl b)
  | int {i : Int} : RA G H ρ (.int i) (.int i)
  | str {x : Str} : RA G H ρ (.str x) (.str x)
  | ty {n : String} : RA G H ρ (.ty n) (.ty n)
  | cls {c : Nat} : RA G H ρ (.cls c) (.ref (G.cad c))
  | scr {ns : List Int} {a : Addr} (h : ScrAt G.K H ρ a (ns.map V.int)) : RA G H ρ (.scr ns) (.ref a)
  | ctp {xs : List A} {a : Addr} {vs : List V} (h : SqT G.K H a vs) (l : xs.length = vs.length) (r : ∀ (i : Nat) x v, xs[i]? = some x → vs[i]? = some v → RA G H ρ x v) : RA G H ρ (.ctp xs) (.ref a)
  | tup {xs : List A} {a : Addr} {vs : List V} (h : H a = some (.tup vs)) (l : xs.length = vs.length) (r : ∀ (i : Nat) x v, xs[i]? = some x → vs[i]? = some v → RA G H ρ x v) : RA G H ρ (.tup xs) (.ref a)
  | lst {xs : List A} {a : Addr} {vs : List V} (h : H a = some (.lst vs)) (nl : ¬ Live ρ a) (l : xs.length = vs.length) (r : ∀ (i : Nat) x v, xs[i]? = some x → vs[i]? = some v → RA G H ρ x v) : RA G H ρ (.lst xs) (.ref a)
  | dk {xs : List (Key × A)} {a : Addr} {vs : List (Key × V)} (h : H a = some (.dK vs)) (nl : ¬ Live ρ a) (l : xs.map (·.1) = vs.map (·.1)) (r : ∀ (i : Nat) k x k' v, xs[i]? = some (k, x) → vs[i]? = some (k', v) → RA G H ρ x v) : RA G H ρ (.dk xs) (.ref a)
  | dt {xs : List (List Key × A)} {a : Addr} {vs : List (List Key × V)} (h : H a = some (.dT vs)) (nl : ¬ Live ρ a) (l : xs.map (·.1) = vs.map (·.1)) (r : ∀ (i : Nat) k x k' v, xs[i]? = some (k, x) → vs[i]? = some (k', v) → RA G H ρ x v) : RA G H ρ (.dt xs) (.ref a)
  | ins {c : Nat} {xs : List A} {a dx : Addr} {vs : List (Str × V)} (h : H a = some (.ins (G.cad c) dx vs)) (nl : ¬ Live ρ a) (l : vs.map (·.1) = (G.cfs c).take xs.length) (l' : xs.length = vs.length) (r : ∀ (i : Nat) x k v, xs[i]? = some x → vs[i]? = some (k, v) → RA G H ρ x v) : RA G H ρ (.ins c xs) (.ref a)
  | ref {n : Nat} {a : Addr} (hn : n < ρ.l.length) (h : ∀ b, ρ.l[n]? = some (some b) → a = b) : RA G H ρ (.ref n) (.ref a)
  | wdk {xs : List (Key × A)} {a : Addr} {vs : List (Str × V)} (h : Wdk G.K G.w a vs) (l : xs.map (·.1) = vs.map (fun p => Sum.inr p.1)) (r : ∀ (i : Nat) k x k' v, xs[i]? = some (k, x) → vs[i]? = some (k', v) → RA G H ρ x v) : RA G H ρ (.wdk xs) (.ref a)
def RAs (G : Gc) (H : Hp) (ρ : Rho) (xs : List A) (vs : List V) : Prop := xs.length = vs.length ∧ ∀ (i : Nat) x v, xs[i]? = some x → vs[i]? = some v → RA G H ρ x v
def RKs {κ : Type} (G : Gc) (H : Hp) (ρ : Rho) (xs : List (κ × A)) (vs : List (κ × V)) : Prop := xs.map (·.1) = vs.map (·.1) ∧ ∀ (i : Nat) k x k' v, xs[i]? = some (k, x) → vs[i]? = some (k', v) → RA G H ρ x v
/-- an instance's fields, by their places -/
def RFs (G : Gc) (H : Hp) (ρ : Rho) (c : Nat) (xs : List A) (vs : List (Str × V)) : Prop := vs.map (·.1) = (G.cfs c).take xs.length ∧ xs.length = vs.length ∧ ∀ (i : Nat) x k v, xs[i]? = some x → vs[i]? = some (k, v) → RA G H ρ x v
def RO (G : Gc) (H : Hp) (ρ : Rho) (a : Addr) : O → Prop
  | .dead => False
  | .lst xs => ∃ vs, H a = some (.lst vs) ∧ RAs G H ρ xs vs
  | .dk kvs => ∃ vs, H a = some (.dK vs) ∧ RKs G H ρ kvs vs
  | .dt kvs => ∃ vs, H a = some (.dT vs) ∧ RKs G H ρ kvs vs
  | .ins c fs => ∃ dx vs, H a = some (.ins (G.cad c) dx vs) ∧ RFs G H ρ c fs vs
  | .fdk kvs => ∃ o vs, H a = some (.frz o (.dK vs)) ∧ RKs G H ρ kvs vs
  | .fdt kvs => ∃ o vs, H a = some (.frz o (.dT vs)) ∧ RKs G H ρ kvs vs
/-- the handled exception's dict -/
def XiAt (G : Gc) (H : Hp) (ρ : Rho) : Prop := ∀ xi, G.xi = some xi → H xi.d = some (.xd xi.vs) ∧ ¬ Live ρ xi.d ∧ RFs G H ρ xi.c xi.fs xi.vs
structure HR (G : Gc) (H : Hp) (ρ : Rho) (h : Hs) : Prop where
  len : ρ.l.length = h.length
  nd : ∀ (i j : Nat) a, ρ.l[i]? = some (some a) → ρ.l[j]? = some (some a) → i = j
  live : ∀ (i : Nat) o, h[i]? = some o → o ≠ .dead → ∃ a, ρ.l[i]? = some (some a)
  obj : ∀ (i : Nat) a o, ρ.l[i]? = some (some a) → h[i]? = some o → RO G H ρ a o
  sep : ∀ (i : Nat) a, ρ.l[i]? = some (some a) → a ∉ ρ.hd
  hid : ∀ a ∈ ρ.hd, ∃ u, H a = some u ∧ (∀ xs, u ≠ .tup xs) ∧ ∀ o' u', u ≠ .frz o' u'
  xk : XiAt G H ρ
structure Ext (H : Hp) (ρ : Rho) (H' : Hp) (ρ' : Rho) : Prop where
  len : ρ.l.length ≤ ρ'.l.length
  old : ∀ (i : Nat) a, i < ρ.l.length → ρ'.l[i]? = some (some a) → ρ.l[i]? = some (some a)
  new : ∀ (i : Nat) a, ρ.l.length ≤ i → ρ'.l[i]? = some (some a) → H a = none
  keep : ∀ a o, H a = some o → ¬ Live ρ a → H' a = some o
  tup : ∀ a xs, H a = some (.tup xs) → H' a = some (.tup xs)
  frz : ∀ a o u, H a = some (.frz o u) → H' a = some (.frz o u)
  dom : ∀ a, H' a = none → H a = none
  hds : ρ'.hd = ρ.hd
  hidk : ∀ a ∈ ρ.hd, H' a = H a
section
variable {G : Gc} {H H1 H2 H' : Hp} {ρ ρ1 ρ2 ρ' : Rho} {h h1 : Hs}
theorem Ext.refl : Ext H ρ H ρ := ⟨Nat.le_refl _, fun _ _ _ e => e, fun i a hi e => (by rw [List.getElem?_eq_none hi] at e; cases e), fun _ _ e _ => e, fun _ _ e => e, fun _ _ _ e => e, fun _ e => e, rfl, fun _ _ => rfl⟩
theorem Ext.dead (x : Ext H ρ H1 ρ1) {a : Addr} {o : HO} (e : H a = some o) (n : ¬ Live ρ a) : ¬ Live ρ1 a := by
  rintro (⟨i, hi⟩ | hi)
  · by_cases hl : i < ρ.l.length
    · exact n (.inl ⟨i, x.old i a hl hi⟩)
    · have := x.new i a (by omega) hi
      rw [e] at this; cases this
  · exact n (.inr (by rw [x.hds] at hi; exact hi))
theorem Ext.trans (x : Ext H ρ H1 ρ1) (y : Ext H1 ρ1 H2 ρ2) : Ext H ρ H2 ρ2 where
  len := Nat.le_trans x.len y.len
  old := fun i a hi e => x.old i a hi (y.old i a (Nat.lt_of_lt_of_le hi x.len) e)
  new := fun i a hi e => by
    by_cases hl : i < ρ1.l.length
    · exact x.new i a hi (y.old i a hl e)
    · exact x.dom a (y.new i a (by omega) e)
  keep := fun a o e n => y.keep a o (x.keep a o e n) (x.dead e n)
  tup := fun a xs e => y.tup a xs (x.tup a xs e)
  frz := fun a o u e => y.frz a o u (x.frz a o u e)
  dom := fun a e => x.dom a (y.dom a e)
  hds := y.hds.trans x.hds
  hidk := fun a ha => (y.hidk a (by rw [x.hds]; exact ha)).trans (x.hidk a ha)
theorem Ext.sqT (x : Ext H ρ H1 ρ1) {K : PySem.W.Frag} {a : Addr} {vs : List V} (q : SqT K H a vs) : SqT K H1 a vs := by
  rcases q with (q | ⟨o, q⟩) | q
  · exact .inl (.inl (x.tup _ _ q))
  · exact .inl (.inr ⟨o, x.frz _ _ _ q⟩)
  · exact .inr q
theorem Ext.scr (x : Ext H ρ H1 ρ1) {K : PySem.W.Frag} {a : Addr} {vs : List V} (q : ScrAt K H ρ a vs) : ScrAt K H1 ρ1 a vs := by
  rcases q with ⟨q, n⟩ | ⟨o, q⟩ | q
  · exact .inl ⟨x.keep _ _ q n, x.dead q n⟩
  · exact .inr (.inl ⟨o, x.frz _ _ _ q⟩)
  · exact .inr (.inr q)
theorem ScrAt.sqL {K : PySem.W.Frag} {a : Addr} {vs : List V} (q : ScrAt K H ρ a vs) : SqL K H a vs := by
  rcases q with ⟨q, n⟩ | ⟨o, q⟩ | q
  · exact .inl (.inl q)
  · exact .inl (.inr ⟨o, q⟩)
  · exact .inr q
/-- what values lean on is kept -/
structure Kq (H : Hp) (ρ : Rho) (H' : Hp) (ρ' : Rho) : Prop where
  len : ρ.l.length ≤ ρ'.l.length
  old : ∀ (i : Nat) a, i < ρ.l.length → ρ'.l[i]? = some (some a) → ρ.l[i]? = some (some a)
  keep : ∀ a o, H a = some o → ¬ Live ρ a → H' a = some o ∧ ¬ Live ρ' a
  tup : ∀ a xs, H a = some (.tup xs) → H' a = some (.tup xs)
  frz : ∀ a o u, H a = some (.frz o u) → H' a = some (.frz o u)
theorem Ext.kq (x : Ext H ρ H1 ρ1) : Kq H ρ H1 ρ1 := ⟨x.len, x.old, fun a o e n => ⟨x.keep a o e n, x.dead e n⟩, x.tup, x.frz⟩
theorem Kq.refl : Kq H ρ H ρ := Ext.refl.kq
theorem Kq.trans (x : Kq H ρ H1 ρ1) (y : Kq H1 ρ1 H2 ρ2) : Kq H ρ H2 ρ2 where
  len := Nat.le_trans x.len y.len
  old := fun i a hi e => x.old i a hi (y.old i a (Nat.lt_of_lt_of_le hi x.len) e)
  keep := fun a o e n => let ⟨h1, h2⟩ := x.keep a o e n; y.keep a o h1 h2
  tup := fun a xs e => y.tup a xs (x.tup a xs e)
  frz := fun a o u e => y.frz a o u (x.frz a o u e)
theorem Kq.sqT (x : Kq H ρ H1 ρ1) {K : PySem.W.Frag} {a : Addr} {vs : List V} (q : SqT K H a vs) : SqT K H1 a vs := by
  rcases q with (q | ⟨o, q⟩) | q
  · exact .inl (.inl (x.tup _ _ q))
  · exact .inl (.inr ⟨o, x.frz _ _ _ q⟩)
  · exact .inr q
theorem Kq.scr (x : Kq H ρ H1 ρ1) {K : PySem.W.Frag} {a : Addr} {vs : List V} (q : ScrAt K H ρ a vs) : ScrAt K H1 ρ1 a vs := by
  rcases q with ⟨q, n⟩ | ⟨o, q⟩ | q
  · exact .inl (x.keep _ _ q n)
  · exact .inr (.inl ⟨o, x.frz _ _ _ q⟩)
  · exact .inr (.inr q)
theorem RA.mono' {x : A} {v : V} (r : RA G H ρ x v) (e : Kq H ρ H1 ρ1) : RA G H1 ρ1 x v := by
  induction r with
  | non => exact .non
  | bl => exact .bl
  | int => exact .int
  | str => exact .str
  | ty => exact .ty
  | cls => exact .cls
  | scr h => exact .scr (e.scr h)
  | ctp h l _ ih => exact .ctp (e.sqT h) l ih
  | tup h l _ ih => exact .tup (e.tup _ _ h) l ih
  | lst h n l _ ih => exact .lst (e.keep _ _ h n).1 (e.keep _ _ h n).2 l ih
  | dk h n l _ ih => exact .dk (e.keep _ _ h n).1 (e.keep _ _ h n).2 l ih
  | dt h n l _ ih => exact .dt (e.keep _ _ h n).1 (e.keep _ _ h n).2 l ih
  | ins h n l l' _ ih => exact .ins (e.keep _ _ h n).1 (e.keep _ _ h n).2 l l' ih
  | ref hn h => exact .ref (Nat.lt_of_lt_of_le hn e.len) fun b q => h b (e.old _ b hn q)
  | wdk h l _ ih => exact .wdk h l ih
theorem RAs.mono' {xs : List A} {vs : List V} (r : RAs G H ρ xs vs) (e : Kq H ρ H1 ρ1) : RAs G H1 ρ1 xs vs := ⟨r.1, fun i x v a b => (r.2 i x v a b).mono' e⟩
theorem RKs.mono' {κ : Type} {xs : List (κ × A)} {vs : List (κ × V)} (r : RKs G H ρ xs vs) (e : Kq H ρ H1 ρ1) : RKs G H1 ρ1 xs vs := ⟨r.1, fun i k x k' v a b => (r.2 i k x k' v a b).mono' e⟩
theorem RFs.mono' {c : Nat} {xs : List A} {vs : List (Str × V)} (r : RFs G H ρ c xs vs) (e : Kq H ρ H1 ρ1) : RFs G H1 ρ1 c xs vs := ⟨r.1, r.2.1, fun i x k v a b => (r.2.2 i x k v a b).mono' e⟩
theorem XiAt.mono' (x : XiAt G H ρ) (e : Kq H ρ H1 ρ1) : XiAt G H1 ρ1 := fun xi q => let ⟨a, b, c⟩ := x xi q; ⟨(e.keep _ _ a b).1, (e.keep _ _ a b).2, c.mono' e⟩
theorem RA.mono {x : A} {v : V} (r : RA G H ρ x v) (e : Ext H ρ H1 ρ1) : RA G H1 ρ1 x v := r.mono' e.kq
theorem RAs.mono {xs : List A} {vs : List V} (r : RAs G H ρ xs vs) (e : Ext H ρ H1 ρ1) : RAs G H1 ρ1 xs vs := ⟨r.1, fun i x v a b => (r.2 i x v a b).mono e⟩
theorem RKs.mono {κ : Type} {xs : List (κ × A)} {vs : List (κ × V)} (r : RKs G H ρ xs vs) (e : Ext H ρ H1 ρ1) : RKs G H1 ρ1 xs vs := ⟨r.1, fun i k x k' v a b => (r.2 i k x k' v a b).mono e⟩
theorem RFs.mono {c : Nat} {xs : List A} {vs : List (Str × V)} (r : RFs G H ρ c xs vs) (e : Ext H ρ H1 ρ1) : RFs G H1 ρ1 c xs vs := ⟨r.1, r.2.1, fun i x k v a b => (r.2.2 i x k v a b).mono e⟩
theorem RAs.nil : RAs G H ρ [] [] := ⟨rfl, fun _ _ _ e => by simp at e⟩
theorem RAs.cons {x : A} {v : V} {xs : List A} {vs : List V} (r : RA G H ρ x v) (rs : RAs G H ρ xs vs) : RAs G H ρ (x :: xs) (v :: vs) := by
  refine ⟨by simp [rs.1], fun i y u e1 e2 => ?_⟩
  cases i with
  | zero => simp at e1 e2; subst e1 e2; exact r
  | succ i => exact rs.2 i y u (by simpa using e1) (by simpa using e2)
theorem RAs.uncons {x : A} {xs : List A} {vs : List V} (r : RAs G H ρ (x :: xs) vs) : ∃ v us, vs = v :: us ∧ RA G H ρ x v ∧ RAs G H ρ xs us := by
  obtain ⟨l, r⟩ := r
  cases vs with
  | nil => simp at l
  | cons v us => exact ⟨v, us, rfl, r 0 x v rfl rfl, by simpa using l, fun i y u e1 e2 => r (i + 1) y u (by simpa using e1) (by simpa using e2)⟩
theorem RAs.unnil {vs : List V} (r : RAs G H ρ [] vs) : vs = [] := by
  cases vs with
  | nil => rfl
  | cons v us => exact absurd r.1 (by simp)
theorem RAs.append {xs ys : List A} {vs us : List V} (r : RAs G H ρ xs vs) (q : RAs G H ρ ys us) : RAs G H ρ (xs ++ ys) (vs ++ us) := by
  induction xs generalizing vs with
  | nil => rw [r.unnil]; exact q
  | cons x xs ih =>
    obtain ⟨v, us', rfl, rv, rs⟩ := r.uncons
    exact .cons rv (ih rs)
theorem RAs.get {xs : List A} {vs : List V} (r : RAs G H ρ xs vs) {i : Nat} {x : A} (e : xs[i]? = some x) : ∃ v, vs[i]? = some v ∧ RA G H ρ x v := by
  have hi : i < xs.length := by
    by_cases hi : i < xs.length
    · exact hi
    · rw [List.getElem?_eq_none (by omega)] at e; cases e
  have hv : i < vs.length := by rw [← r.1]; exact hi
  exact ⟨vs[i], List.getElem?_eq_getElem hv, r.2 i x _ e (List.getElem?_eq_getElem hv)⟩
theorem RAs.set {xs : List A} {vs : List V} {x : A} {v : V} (r : RAs G H ρ xs vs) (q : RA G H ρ x v) (i : Nat) : RAs G H ρ (xs.set i x) (vs.set i v) := by
  refine ⟨by simp [r.1], fun j y u e1 e2 => ?_⟩
  by_cases hj : i = j
  · subst hj
    by_cases hl : i < xs.length
    · rw [List.getElem?_set_self hl] at e1
      rw [List.getElem?_set_self (by rw [← r.1]; exact hl)] at e2
      cases e1; cases e2; exact q
    · rw [List.getElem?_eq_none (by simp; omega)] at e1; cases e1
  · rw [List.getElem?_set_ne hj] at e1 e2
    exact r.2 j y u e1 e2
theorem RKs.nil {κ : Type} : RKs (κ := κ) G H ρ [] [] := ⟨rfl, fun _ _ _ _ _ e => by simp at e⟩
theorem RKs.cons {κ : Type} {k : κ} {x : A} {v : V} {xs : List (κ × A)} {vs : List (κ × V)} (r : RA G H ρ x v) (rs : RKs G H ρ xs vs) : RKs G H ρ ((k, x) :: xs) ((k, v) :: vs) := by
  refine ⟨by simp [rs.1], fun i k1 y k2 u e1 e2 => ?_⟩
  cases i with
  | zero =>
    simp only [List.getElem?_cons_zero, Option.some.injEq, Prod.mk.injEq] at e1 e2
    obtain ⟨_, rfl⟩ := e1
    obtain ⟨_, rfl⟩ := e2
    exact r
  | succ i => exact rs.2 i k1 y k2 u (by simpa using e1) (by simpa using e2)
theorem RKs.uncons {κ : Type} {k : κ} {x : A} {xs : List (κ × A)} {vs : List (κ × V)} (r : RKs G H ρ ((k, x) :: xs) vs) : ∃ v us, vs = (k, v) :: us ∧ RA G H ρ x v ∧ RKs G H ρ xs us := by
  obtain ⟨l, r⟩ := r
  cases vs with
  | nil => simp at l
  | cons p us =>
    obtain ⟨k', v⟩ := p
    simp only [List.map_cons, List.cons.injEq] at l
    obtain ⟨rfl, l⟩ := l
    exact ⟨v, us, rfl, r 0 k x k v rfl rfl, l, fun i k1 y k2 u e1 e2 => r (i + 1) k1 y k2 u (by simpa using e1) (by simpa using e2)⟩
theorem RKs.unnil {κ : Type} {vs : List (κ × V)} (r : RKs G H ρ [] vs) : vs = [] := by
  cases vs with
  | nil => rfl
  | cons v us => exact absurd r.1 (by simp)
theorem RKs.length {κ : Type} {xs : List (κ × A)} {vs : List (κ × V)} (r : RKs G H ρ xs vs) : xs.length = vs.length := by simpa using congrArg List.length r.1
/-- the slots -/
structure SR (G : Gc) (H : Hp) (ρ : Rho) (sl : Sl) (σ : St) : Prop where
  len : sl.length = σ.length
  get : ∀ (i : Nat) a, sl[i]? = some (some a) → ∃ v, σ[i]? = some (some v) ∧ RA G H ρ a v
  xs : ∀ xi, G.xi = some xi → sl[xi.i]? = some none → σ[xi.i]? = some (some (.ref xi.a))
theorem SR.mono' {sl : Sl} {σ : St} (r : SR G H ρ sl σ) (e : Kq H ρ H1 ρ1) : SR G H1 ρ1 sl σ := ⟨r.len, fun i a q => let ⟨v, e1, e2⟩ := r.get i a q; ⟨v, e1, e2.mono' e⟩, r.xs⟩
theorem SR.mono {sl : Sl} {σ : St} (r : SR G H ρ sl σ) (e : Ext H ρ H1 ρ1) : SR G H1 ρ1 sl σ := r.mono' e.kq
theorem SR.set {sl : Sl} {σ : St} {a : A} {v : V} (r : SR G H ρ sl σ) (q : RA G H ρ a v) (i : Nat) : SR G H ρ (sl.set i (some a)) (σ.set i (some v)) := by
  refine ⟨by simp [r.len], fun j b e => ?_, fun xi hx e => ?_⟩
  · by_cases hj : i = j
    · subst hj
      by_cases hl : i < sl.length
      · rw [List.getElem?_set_self hl] at e
        cases e
        exact ⟨v, List.getElem?_set_self (by rw [← r.len]; exact hl), q⟩
      · rw [List.getElem?_eq_none (by simp; omega)] at e; cases e
    · rw [List.getElem?_set_ne hj] at e ⊢
      exact r.get j b e
  · by_cases hj : i = xi.i
    · subst hj
      by_cases hl : xi.i < sl.length
      · rw [List.getElem?_set_self hl] at e; cases e
      · rw [List.getElem?_eq_none (by simp; omega)] at e; cases e
    · rw [List.getElem?_set_ne hj] at e ⊢
      exact r.xs xi hx e
theorem SR.unset {sl : Sl} {σ : St} (r : SR G H ρ sl σ) (nx : G.xi = none) (i : Nat) : SR G H ρ (sl.set i none) (σ.set i none) := by
  refine ⟨by simp [r.len], fun j b e => ?_, fun xi hx e => ?_⟩
  · by_cases hj : i = j
    · subst hj
      by_cases hl : i < sl.length
      · rw [List.getElem?_set_self hl] at e; cases e
      · rw [List.getElem?_eq_none (by simp; omega)] at e; cases e
    · rw [List.getElem?_set_ne hj] at e ⊢
      exact r.get j b e
  · rw [nx] at hx; cases hx
/-! ### heaps -/
/-- it may be changed -/
def Opn (H : Hp) (a : Addr) : Prop := ∃ u, H a = some u ∧ (∀ xs, u ≠ .tup xs) ∧ ∀ o' u', u ≠ .frz o' u'
theorem RO.stands {a : Addr} {o : O} (r : RO G H ρ a o) : ∃ u, H a = some u ∧ ∀ xs, u ≠ .tup xs := by
  cases o with
  | dead => exact r.elim
  | lst xs => obtain ⟨vs, e, _⟩ := r; exact ⟨_, e, fun _ z => by cases z⟩
  | dk xs => obtain ⟨vs, e, _⟩ := r; exact ⟨_, e, fun _ z => by cases z⟩
  | dt xs => obtain ⟨vs, e, _⟩ := r; exact ⟨_, e, fun _ z => by cases z⟩
  | ins c xs => obtain ⟨dx, vs, e, _⟩ := r; exact ⟨_, e, fun _ z => by cases z⟩
  | fdk xs => obtain ⟨o, vs, e, _⟩ := r; exact ⟨_, e, fun _ z => by cases z⟩
  | fdt xs => obtain ⟨o, vs, e, _⟩ := r; exact ⟨_, e, fun _ z => by cases z⟩
theorem RO.mono' {a : Addr} {o : O} (r : RO G H ρ a o) (e : Kq H ρ H1 ρ1) (k : H1 a = H a) : RO G H1 ρ1 a o := by
  cases o with
  | dead => exact r
  | lst xs => obtain ⟨vs, q, z⟩ := r; exact ⟨vs, k.trans q, z.mono' e⟩
  | dk xs => obtain ⟨vs, q, z⟩ := r; exact ⟨vs, k.trans q, z.mono' e⟩
  | dt xs => obtain ⟨vs, q, z⟩ := r; exact ⟨vs, k.trans q, z.mono' e⟩
  | ins c xs => obtain ⟨dx, vs, q, z⟩ := r; exact ⟨dx, vs, k.trans q, z.mono' e⟩
  | fdk xs => obtain ⟨o, vs, q, z⟩ := r; exact ⟨o, vs, k.trans q, z.mono' e⟩
  | fdt xs => obtain ⟨o, vs, q, z⟩ := r; exact ⟨o, vs, k.trans q, z.mono' e⟩
theorem RO.mono {a : Addr} {o : O} (r : RO G H ρ a o) (e : Ext H ρ H1 ρ1) (k : H1 a = H a) : RO G H1 ρ1 a o := by
  cases o with
  | dead => exact r
  | lst xs => obtain ⟨vs, q, z⟩ := r; exact ⟨vs, k.trans q, z.mono e⟩
  | dk xs => obtain ⟨vs, q, z⟩ := r; exact ⟨vs, k.trans q, z.mono e⟩
  | dt xs => obtain ⟨vs, q, z⟩ := r; exact ⟨vs, k.trans q, z.mono e⟩
  | ins c xs => obtain ⟨dx, vs, q, z⟩ := r; exact ⟨dx, vs, k.trans q, z.mono e⟩
  | fdk xs => obtain ⟨o, vs, q, z⟩ := r; exact ⟨o, vs, k.trans q, z.mono e⟩
  | fdt xs => obtain ⟨o, vs, q, z⟩ := r; exact ⟨o, vs, k.trans q, z.mono e⟩
theorem HR.at_ (r : HR G H ρ h) {i : Nat} {a : Addr} (e : ρ.l[i]? = some (some a)) : ∃ o, h[i]? = some o ∧ RO G H ρ a o := by
  have hi : i < ρ.l.length := by
    by_cases hi : i < ρ.l.length
    · exact hi
    · rw [List.getElem?_eq_none (by omega)] at e; cases e
  have hh : i < h.length := by rw [← r.len]; exact hi
  exact ⟨h[i], List.getElem?_eq_getElem hh, r.obj i a _ e (List.getElem?_eq_getElem hh)⟩
theorem HR.stands (r : HR G H ρ h) {a : Addr} (l : Live ρ a) : ∃ u, H a = some u ∧ ∀ xs, u ≠ .tup xs := by
  rcases l with ⟨i, e⟩ | l
  · obtain ⟨o, _, q⟩ := r.at_ e
    exact q.stands
  · obtain ⟨u, e, nt, _⟩ := r.hid a l
    exact ⟨u, e, nt⟩
/-- a new object that is not tracked -/
theorem HR.ext_new (r : HR G H ρ h) {p : Addr} {o : HO} (n : H p = none) : Ext H ρ (upd H p o) ρ :=
  ⟨Nat.le_refl _, fun _ _ _ e => e, fun i a hi e => (by rw [List.getElem?_eq_none hi] at e; cases e), fun a u e _ => (by rw [upd_ne (ne_of_none e n)]; exact e), fun a xs e => (by rw [upd_ne (ne_of_none e n)]; exact e), fun a o u e => (by rw [upd_ne (ne_of_none e n)]; exact e),
    fun a e => (by
      by_cases ha : a = p
      · rw [ha]; exact n
      · rw [upd_ne ha] at e; exact e), rfl, fun a ha => (by
      obtain ⟨u, e, _⟩ := r.hid a ha
      rw [upd_ne (ne_of_none e n)])⟩
theorem HR.nlive (r : HR G H ρ h) {p : Addr} (n : H p = none) : ¬ Live ρ p := fun l => by
  obtain ⟨u, e, _⟩ := r.stands l
  rw [n] at e; cases e
theorem HR.mono (r : HR G H ρ h) (e : Ext H ρ H1 ρ) (k : ∀ a, Live ρ a → H1 a = H a) : HR G H1 ρ h :=
  ⟨r.len, r.nd, r.live, fun i a o e1 e2 => (r.obj i a o e1 e2).mono e (k a (.inl ⟨i, e1⟩)), r.sep, fun a ha => by rw [e.hidk a ha]; exact r.hid a ha, r.xk.mono' e.kq⟩
theorem HR.new (r : HR G H ρ h) {p : Addr} {o : HO} (n : H p = none) : HR G (upd H p o) ρ h :=
  r.mono (r.ext_new n) fun a l => by
    obtain ⟨u, e, _⟩ := r.stands l
    rw [upd_ne (ne_of_none e n)]
/-- a new object that is tracked -/
theorem HR.ext_track (r : HR G H ρ h) {p : Addr} {o : HO} (n : H p = none) : Ext H ρ (upd H p o) (ρ.add p) := by
  have e := r.ext_new (o := o) n
  refine ⟨by simp, fun i a hi q => ?_, fun i a hi q => ?_, e.keep, e.tup, e.frz, e.dom, rfl, e.hidk⟩
  · rw [List.getElem?_append_left hi] at q; exact q
  · rw [List.getElem?_append_right hi] at q
    cases hk : i - ρ.l.length with
    | zero => rw [hk] at q; simp at q; rw [← q]; exact n
    | succ m => rw [hk] at q; simp at q
theorem HR.track (r : HR G H ρ h) {p : Addr} {o : HO} {ob : O} (n : H p = none) (q : RO G (upd H p o) (ρ.add p) p ob) : HR G (upd H p o) (ρ.add p) (h ++ [ob]) := by
  have nl := r.nlive n
  have split : ∀ {α : Type} {l : List α} {x : α} {i : Nat} {y : α}, (l ++ [x])[i]? = some y → (i < l.length ∧ l[i]? = some y) ∨ (i = l.length ∧ y = x) := by
    intro α l x i y e
    by_cases hi : i < l.length
    · rw [List.getElem?_append_left hi] at e; exact .inl ⟨hi, e⟩
    · rw [List.getElem?_append_right (by omega)] at e
      cases hk : i - l.length with
      | zero => rw [hk] at e; simp at e; exact .inr ⟨by omega, e.symm⟩
      | succ m => rw [hk] at e; simp at e
  refine ⟨by simp [r.len], fun i j a e1 e2 => ?_, fun i o' e1 nd => ?_, fun i a o' e1 e2 => ?_, fun i a e1 ha => ?_, fun a ha => ?_, r.xk.mono' (r.ext_track n).kq⟩
  · rcases split e1 with ⟨h1, e1⟩ | ⟨h1, e1⟩ <;> rcases split e2 with ⟨h2, e2⟩ | ⟨h2, e2⟩
    · exact r.nd i j a e1 e2
    · cases e2; exact absurd (.inl ⟨i, e1⟩) nl
    · cases e1; exact absurd (.inl ⟨j, e2⟩) nl
    · omega
  · rcases split e1 with ⟨h1, e1⟩ | ⟨h1, e1⟩
    · obtain ⟨a, ha⟩ := r.live i o' e1 nd
      exact ⟨a, by rw [List.getElem?_append_left (by rw [r.len]; exact h1)]; exact ha⟩
    · exact ⟨p, by rw [h1, ← r.len]; simp⟩
  · rcases split e1 with ⟨h1, e1⟩ | ⟨h1, e1⟩
    · have hh : i < h.length := by rw [← r.len]; exact h1
      rw [List.getElem?_append_left hh] at e2
      obtain ⟨u, eu, _⟩ := r.stands (.inl ⟨i, e1⟩)
      exact (r.obj i a o' e1 e2).mono (r.ext_track n) (upd_ne (ne_of_none eu n))
    · cases e1
      rw [h1, r.len] at e2
      simp at e2
      subst e2
      exact q
  · rcases split e1 with ⟨h1, e1⟩ | ⟨h1, e1⟩
    · exact r.sep i a e1 ha
    · cases e1; exact nl (.inr ha)
  · rw [(r.ext_new (o := o) n).hidk a ha]; exact r.hid a ha
/-- an object that is tracked changes -/
theorem HR.ext_set (r : HR G H ρ h) {n : Nat} {a : Addr} {o : HO} (e : ρ.l[n]? = some (some a)) (op : Opn H a := by refine ⟨_, by assumption, ?_, ?_⟩; (intro _ z; cases z); (intro _ _ z; cases z)) : Ext H ρ (upd H a o) ρ := by
  obtain ⟨u, eu, nt, nf⟩ := op
  refine ⟨Nat.le_refl _, fun _ _ _ e => e, fun i a hi e => (by rw [List.getElem?_eq_none hi] at e; cases e), fun b w q nl => ?_, fun b xs q => ?_, fun b o' u' q => ?_, fun b q => ?_, rfl, fun b hb => ?_⟩
  · rw [upd_ne fun z => nl (by rw [z]; exact .inl ⟨n, e⟩)]; exact q
  · rw [upd_ne fun z => by rw [z, eu] at q; exact nt xs (Option.some.inj q)]; exact q
  · rw [upd_ne fun z => by rw [z, eu] at q; exact nf o' u' (Option.some.inj q)]; exact q
  · by_cases hb : b = a
    · rw [hb, upd_same] at q; cases q
    · rw [upd_ne hb] at q; exact q
  · rw [upd_ne fun z => r.sep n a e (by rw [← z]; exact hb)]
theorem HR.set (r : HR G H ρ h) {n : Nat} {a : Addr} {o : HO} {ob : O} (e : ρ.l[n]? = some (some a)) (q : RO G (upd H a o) ρ a ob) (op : Opn H a := by refine ⟨_, by assumption, ?_, ?_⟩; (intro _ z; cases z); (intro _ _ z; cases z)) : HR G (upd H a o) ρ (h.set n ob) := by
  refine ⟨by simp [r.len], r.nd, fun i o' e1 nd => ?_, fun i b o' e1 e2 => ?_, r.sep, fun b hb => by rw [(r.ext_set (o := o) e op).hidk b hb]; exact r.hid b hb, r.xk.mono' (r.ext_set e op).kq⟩
  · by_cases hi : n = i
    · subst hi; exact ⟨a, e⟩
    · rw [List.getElem?_set_ne hi] at e1; exact r.live i o' e1 nd
  · by_cases hi : n = i
    · subst hi
      rw [e] at e1
      cases e1
      have hl : n < h.length := by
        by_cases hl : n < h.length
        · exact hl
        · rw [List.getElem?_eq_none (by simp; omega)] at e2; cases e2
      rw [List.getElem?_set_self hl] at e2
      cases e2
      exact q
    · rw [List.getElem?_set_ne hi] at e2
      have nb : b ≠ a := fun z => hi (r.nd n i a e (by rw [← z]; exact e1))
      exact (r.obj i b o' e1 e2).mono (r.ext_set e op) (upd_ne nb)
/-- a tracked object stands still from now on: its number dies -/
theorem HR.ext_die {n : Nat} : Ext H ρ H (ρ.kill n) := by
  refine ⟨by simp, fun i a hi q => ?_, fun i a hi q => ?_, fun _ _ e _ => e, fun _ _ e => e, fun _ _ _ e => e, fun _ e => e, rfl, fun _ _ => rfl⟩
  · by_cases hn : n = i
    · subst hn; rw [List.getElem?_set_self hi] at q; cases q
    · rw [List.getElem?_set_ne hn] at q; exact q
  · rw [List.getElem?_eq_none (by simp; omega)] at q; cases q
theorem HR.die (r : HR G H ρ h) {n : Nat} : HR G H (ρ.kill n) (h.set n .dead) := by
  have back : ∀ {i : Nat} {a : Addr}, (ρ.l.set n none)[i]? = some (some a) → ρ.l[i]? = some (some a) := fun {i a} q => by
    by_cases hi : i < ρ.l.length
    · exact (HR.ext_die (H := H) (ρ := ρ) (n := n)).old i a hi q
    · rw [List.getElem?_eq_none (by simp; omega)] at q; cases q
  refine ⟨by simp [r.len], fun i j a e1 e2 => r.nd i j a (back e1) (back e2), fun i o e1 nd => ?_, fun i a o e1 e2 => ?_, fun i a e1 => r.sep i a (back e1), r.hid, r.xk.mono' HR.ext_die.kq⟩
  · by_cases hi : n = i
    · subst hi
      by_cases hl : n < h.length
      · rw [List.getElem?_set_self hl] at e1; cases e1; exact absurd rfl nd
      · rw [List.getElem?_eq_none (by simp; omega)] at e1; cases e1
    · rw [List.getElem?_set_ne hi] at e1 ⊢; exact r.live i o e1 nd
  · by_cases hi : n = i
    · subst hi
      by_cases hl : n < ρ.l.length
      · rw [List.getElem?_set_self hl] at e1; cases e1
      · rw [List.getElem?_eq_none (by simp; omega)] at e1; cases e1
    · rw [List.getElem?_set_ne hi] at e1 e2
      exact (r.obj i a o e1 e2).mono HR.ext_die rfl
theorem HR.nlive_die (r : HR G H ρ h) {n : Nat} {a : Addr} (e : ρ.l[n]? = some (some a)) : ¬ Live (ρ.kill n) a := by
  rintro (⟨i, q⟩ | q)
  · by_cases hi : n = i
    · subst hi
      by_cases hl : n < ρ.l.length
      · rw [List.getElem?_set_self hl] at q; cases q
      · rw [List.getElem?_eq_none (by simp; omega)] at q; cases q
    · rw [List.getElem?_set_ne hi] at q
      exact hi (r.nd n i a e q)
  · exact r.sep n a e q
/-- a number that is known -/
theorem HR.look (r : HR G H ρ h) {n : Nat} {v : V} {o : O} (q : RA G H ρ (.ref n) v) (e : h[n]? = some o) (nd : o ≠ .dead) : ∃ a, v = .ref a ∧ ρ.l[n]? = some (some a) ∧ RO G H ρ a o := by
  obtain ⟨b, hb⟩ := r.live n o e nd
  cases q with
  | ref hn h => exact ⟨_, rfl, by rw [h b hb]; exact hb, by rw [h b hb]; exact r.obj n b o hb e⟩
/-! ### what is built behind the scenes -/
theorem HR.kq_hide (r : HR G H ρ h) {p : Addr} {o : HO} (n : H p = none) : Kq H ρ (upd H p o) (ρ.hide p) :=
  ⟨Nat.le_refl _, fun _ _ _ e => e, fun a u e nl => ⟨by rw [upd_ne (ne_of_none e n)]; exact e, fun z => z.elim (fun z => nl (.inl z)) fun z => (List.mem_cons.mp z).elim (fun z => by rw [z, n] at e; cases e) fun z => nl (.inr z)⟩,
    fun a xs e => (by rw [upd_ne (ne_of_none e n)]; exact e), fun a o u e => (by rw [upd_ne (ne_of_none e n)]; exact e)⟩
theorem HR.hide (r : HR G H ρ h) {p : Addr} {vs : List V} (n : H p = none) : HR G (upd H p (.lst vs)) (ρ.hide p) h := by
  have nl := r.nlive n
  refine ⟨r.len, r.nd, r.live, fun i a o e1 e2 => ?_, fun i a e1 z => ?_, fun a ha => ?_, r.xk.mono' (r.kq_hide n)⟩
  · obtain ⟨u, eu, _⟩ := r.stands (.inl ⟨i, e1⟩)
    exact (r.obj i a o e1 e2).mono' (r.kq_hide n) (upd_ne (ne_of_none eu n))
  · rcases List.mem_cons.mp z with z | z
    · exact nl (.inl ⟨i, by rw [← z]; exact e1⟩)
    · exact r.sep i a e1 z
  · rcases List.mem_cons.mp ha with z | z
    · rw [z, upd_same]; exact ⟨_, rfl, (fun _ z => by cases z), fun _ _ z => by cases z⟩
    · obtain ⟨u, e, k⟩ := r.hid a z
      exact ⟨u, by rw [upd_ne (ne_of_none e n)]; exact e, k⟩
theorem kq_hid {p : Addr} {o u : HO} (hp : p ∈ ρ.hd) (e : H p = some u) (nt : ∀ xs, u ≠ .tup xs) (nf : ∀ o' u', u ≠ .frz o' u') : Kq H ρ (upd H p o) ρ :=
  ⟨Nat.le_refl _, fun _ _ _ e => e, fun a u' e' nl => ⟨by rw [upd_ne fun z => nl (.inr (by rw [z]; exact hp))]; exact e', nl⟩,
    fun a xs q => (by rw [upd_ne fun z => by rw [z, e] at q; exact nt xs (Option.some.inj q)]; exact q), fun a o' u' q => (by rw [upd_ne fun z => by rw [z, e] at q; exact nf o' u' (Option.some.inj q)]; exact q)⟩
theorem HR.upd_hid (r : HR G H ρ h) {p : Addr} {vs : List V} (hp : p ∈ ρ.hd) : HR G (upd H p (.lst vs)) ρ h := by
  obtain ⟨u, e, nt, nf⟩ := r.hid p hp
  refine ⟨r.len, r.nd, r.live, fun i a o e1 e2 => ?_, r.sep, fun a ha => ?_, r.xk.mono' (kq_hid hp e nt nf)⟩
  · exact (r.obj i a o e1 e2).mono' (kq_hid hp e nt nf) (upd_ne fun z => r.sep i a e1 (by rw [z]; exact hp))
  · by_cases hz : a = p
    · rw [hz, upd_same]; exact ⟨_, rfl, (fun _ z => by cases z), fun _ _ z => by cases z⟩
    · rw [upd_ne hz]; exact r.hid a ha
theorem kq_show {p : Addr} {ρ0 : Rho} (e : ρ.hd = p :: ρ0.hd) : Kq H ρ H ⟨ρ.l, ρ0.hd⟩ :=
  ⟨Nat.le_refl _, fun _ _ _ e => e, fun a o q nl => ⟨q, fun z => nl (z.elim .inl fun z => .inr (by rw [e]; exact List.mem_cons_of_mem _ z))⟩, fun _ _ q => q, fun _ _ _ q => q⟩
theorem HR.unhide (r : HR G H ρ h) {p : Addr} {ρ0 : Rho} (e : ρ.hd = p :: ρ0.hd) : HR G H ⟨ρ.l, ρ0.hd⟩ h :=
  ⟨r.len, r.nd, r.live, fun i a o e1 e2 => (r.obj i a o e1 e2).mono' (kq_show e) rfl, fun i a e1 z => r.sep i a e1 (by rw [e]; exact List.mem_cons_of_mem _ z), fun a ha => r.hid a (by rw [e]; exact List.mem_cons_of_mem _ ha), r.xk.mono' (kq_show e)⟩
end
end Rx
set_option Elab.async false
set_option linter.all false
set_option maxRecDepth 100000
set_option maxHeartbeats 4000000
/-! RxJ: the judgements (DE, DT, DA, DS, DSs, DG, DGs) and the first rules. -/
namespace Rx
open PySem L2 Sx
open PyProof.Rows (subscriptTail)

/-! ### a promise for callers that show nothing just then (no repr is under way) -/
structure FnOk (P : Program) (w : World) (K : PySem.W.Frag) (mg : Str → Option Value) (base : Heap) (CX : CXT) (k : Nat) (f : Addr) (fd : FuncData) (ps : List Str) (sp : Sp) : Prop where
  len : ∀ vs H Q E, sp vs H Q E → vs.length = ps.length
  run : ∀ (A : Around) (outer : List Env) (s : Shared) (H : Hp) (args : Args) (us : List Value) (vs : List V) (Q : VK) (E : XK), Room k A → A.guards = some [] → Env0 P w K mg base A outer s H → BindsTo s fd args (ps.zip us) → Vals vs us → sp vs H Q E →
    codeAny (model P w) A (.call (.ref f) args) (CR CX outer P w H s Q E) s
theorem FnOk.mono {P : Program} {w : World} {K : PySem.W.Frag} {mg : Str → Option Value} {base : Heap} {CX : CXT} {j k : Nat} {f : Addr} {fd : FuncData} {ps : List Str} {sp : Sp} (F : FnOk P w K mg base CX j f fd ps sp) (h : j ≤ k) : FnOk P w K mg base CX k f fd ps sp :=
  ⟨F.len, fun A outer s H args us vs Q E hr => F.run A outer s H args us vs Q E (Room.mono hr h)⟩
theorem FnOk.imp {P : Program} {w : World} {K : PySem.W.Frag} {mg : Str → Option Value} {base : Heap} {CX : CXT} {k : Nat} {f : Addr} {fd : FuncData} {ps : List Str} {sp sp' : Sp} (F : FnOk P w K mg base CX k f fd ps sp) (h : ∀ vs H Q E, sp' vs H Q E → sp vs H Q E) : FnOk P w K mg base CX k f fd ps sp' :=
  ⟨fun vs H Q E q => F.len vs H Q E (h _ _ _ _ q), fun A outer s H args us vs Q E hr hg he hb hv hs => F.run A outer s H args us vs Q E hr hg he hb hv (h _ _ _ _ hs)⟩
open PySem.Spec PyProof.Rows in
theorem fn_ofG {CX : CXT} {P : Program} {w : World} {K : PySem.W.Frag} {mg : Str → Option Value} {base : Heap} {k : Nat} {f : Addr} {name qual : Str} {params : Arguments} {body : List Stmt} {scope : Scope} {dV kV doc pm cdv ct oc : Value} {an od : Option Addr}
    {osl : Array (Option Value)} {N ps : List Str} {sp : Sp} (lk : K.lookup f = some ⟨oc, od, .func (PySem.W.fnOf name qual params body scope dV kV doc pm an cdv ct), osl⟩) (hcd : PySem.W.codeIn K cdv qual = true) (S : FnScope N ps scope)
    (len : ∀ vs H Q E, sp vs H Q E → vs.length = ps.length)
    (hbody : ∀ (A : Around) (outer : List Env) (s : Shared) (H : Hp) (vs : List V) (Q : VK) (E : XK), Room k (A.deeper (PyProof.Rows.envOfC qual scope s.heap.objs.size f cdv)) → A.guards = some [] → sp vs H Q E →
      ∃ t, PSs (cxOf CX P w K mg base N qual scope f cdv A outer s H E) body t ∧ t { nx := fun _ H' => Q .non H', rt := Q } (start N vs) H) :
    FnOk P w K mg base CX (k + 1) f (PySem.W.fnOf name qual params body scope dV kV doc pm an cdv ct) ps sp := by
  refine ⟨len, fun A outer s H args us vs Q E hr hg e0 hb rv hsp => ?_⟩
  have lu := len _ _ _ _ hsp
  have inK : K.In s.heap := e0.mod.kin.keeps fun b o e => (e0.bs b o e).1
  have noL : s.heap.NoLimit := e0.mod.nolimit.keeps fun b o e => (e0.bs b o e).1
  have kinds : ∀ y ∈ ps.zip us, scope.names.lookup y.1 = some .local ∨ (scope.names.lookup y.1 = some .cell ∧ ((cellsFrom (s.heap.objs.size + 1) scope.names []).lookup y.1).isSome = true) := by
    rintro ⟨n, v⟩ hy
    cases S.par n (List.of_mem_zip hy).1 with
    | inl q => exact .inl q
    | inr q => exact .inr ⟨q, PySem.W.cellsFrom_some _ _ _ (.inl q)⟩
  refine codeAny_call_function hr.depth (inK _ _ lk) rfl S.co S.gen rfl (PySem.W.codeRec_of inK hcd) (hb _ _ _ _ (wpAny_newFunctionEnv_cells S.kind kinds fun env he s1 x => ?_))
  subst he
  obtain ⟨t, ht, hq⟩ := hbody A outer s H vs Q E (Room.deeper hr _) hg hsp
  have I : L2.Inv (cxOf CX P w K mg base N qual scope f cdv A outer s H E) [] (start N vs) H s1 := inv_start S hr.hd e0 lu rv x
  refine ⟨noL.keeps x.toInCall.keep, codeAny_func (wpAny_mono (ht.run [] s1 (start N vs) H _ I hq) (fun fl s' hs => ?_) fun e s' hs => hs)⟩
  cases fl with
  | ret u =>
    obtain ⟨v, σ', H', J, rv, q⟩ := hs
    exact ⟨v, H', J.os, J.bare, J.base, J.hok, rv, q⟩
  | next =>
    obtain ⟨σ', H', J, q⟩ := hs
    exact ⟨V.non, H', J.os, J.bare, J.base, J.hok, rfl, q⟩
  | brk => exact (let ⟨_, _, _, q⟩ := hs; False.elim q)
  | cont => exact (let ⟨_, _, _, q⟩ := hs; False.elim q)
theorem run_fnS {X : Cx} {CX : CXT} {k : Nat} {f : Addr} {fd : FuncData} {ps : List Str} {sp : Sp} {E : St → XK} {pins : List (Addr × Obj)} {σ : St} {H : Hp} {s : Shared} {Q : VK} {us : List Value} {vs : List V} (F : FnOk X.prog X.w X.K X.mg X.base CX k f fd ps sp) (hr : Room k X.A) (hg : X.A.guards = some []) (hb : Binds X.K fd ps [])
    (hx : PassesAt CX X σ (E σ)) (I : L2.Inv X pins σ H s) (r : Vals vs us) (h : sp vs H Q (E σ)) : wpAny (model X.prog X.w) X.A (call (.ref f) us) (EP X pins σ Q) X.xe s := by
  have lu : us.length = ps.length := r.length ▸ F.len _ _ _ _ h
  have bb := hb s us I.kIn (by simpa using lu)
  simp only [List.append_nil] at bb
  refine wpAny_call (codeAny_mono (F.run X.A X.stack s H ⟨us, []⟩ us vs Q (E σ) hr hg I.env0 bb r h) fun r s' hq => ?_)
  match r, hq with
  | .error e, hq => exact hx pins H s e s' I hq
  | .ok (.ret u), hq => exact I.after hq
  | .ok .next, hq => exact False.elim hq
  | .ok .brk, hq => exact False.elim hq
  | .ok .cont, hq => exact False.elim hq
theorem pe_callS {X : Cx} {CX : CXT} {k : Nat} {f : Addr} {fd : FuncData} {ps : List Str} {sp : Sp} {E : St → XK} {x : Str} {p pos : Pos} {e : Expr} {es : List Expr} {t : TA} (F : FnOk X.prog X.w X.K X.mg X.base CX k f fd ps sp) (hr : Room k X.A) (gd : X.A.guards = some []) (hg : Gl X x) (hm : X.mg x = some (.ref f)) (hk : PySem.W.keepIn X.K (.ref f) = true)
    (hb : Binds X.K fd ps []) (hx : ∀ σ, PassesAt CX X σ (E σ)) (ha : PA X (e :: es) t) (hdb : (x == ("__debug__" : Str)) = false) (he : starEach (e :: es) X.env = (false, eval e X.env) :: starEach es X.env) (hpl : (backTo pos (starEach es X.env)).any (·.1) = false) :
    PE X (.Call (.Name x p) (e :: es) [] pos) (tCallS sp E t) :=
  ⟨fun pins s σ H Q I h => wpAny_Call_Name_kw (ld_glob I hg hm (PySem.W.callWith_K (h₀ := X.base) I.ok.mod.kin hk (thn (ha.run pos pins s σ H _ I h) fun us s1 ⟨vs, H1, I1, r, q⟩ => ⟨I1.kIn, run_fnS F hr gd hb (hx σ) I1 r q⟩) he hpl) hdb)⟩
theorem make_guards {A : Around} {C : Addr} {us : List Value} {kw : List (Str × Value)} : (A.under (.builtin "type.__call__" ⟨.ref C :: us, kw⟩)).guards = A.guards := by
  obtain ⟨h, d, f, g, u⟩ := A
  cases g <;> simp [Around.under, pushGuards, Code.guards, Code.isGuard, guardIds]
/-- where one stands; cm: nothing is being handled; fb: in a def's own body -/
structure Wh where
  sc : Scope
  N : List Str
  rd : List Nat
  wr : List Nat
  GL : List Str
  k : Nat
  W : WX
  cm : Bool
  fb : Bool
structure Xr (G : Gc) (X : Cx) (L : Wh) : Prop where
  prog : X.prog = G.P
  w : X.w = G.w
  K : X.K = G.K
  mg : X.mg = G.mg
  base : X.base = G.base
  n : X.N = L.N
  nd : L.N.Nodup
  scp : X.env.scope = L.sc
  rdv : ∀ i ∈ L.rd, ∀ x, L.N[i]? = some x → Vis X.env.scope x ∧ (x == ("__debug__" : Str)) = false ∧ (x == ("__classdict__" : Str)) = false
  wrv : ∀ i ∈ L.wr, ∀ x, L.N[i]? = some x → Loc X.env.scope x ∧ (X.fn x = true ∨ X.env.scope.names.lookup x = some .local)
  gl : ∀ x ∈ L.GL, Gl X x ∧ (x == ("__debug__" : Str)) = false ∧ x ≠ ("__name__" : Str)
  room : L.cm = true → Room L.k X.A
  calm : L.cm = true → X.calm = true
  tk : Takes X L.W
  po : PassesOwn (model X.prog X.w) X.A X.env X.xe
  ev : L.fb = true → ∃ (q : Str) (Lo f : Addr) (cd : Value), X.env = PyProof.Rows.envOfC q L.sc Lo f cd
  cx : L.cm = true → G.xi = none
  xp : ∀ xi, G.xi = some xi → (∃ (X0 : Cx) (pn : List (Addr × Obj)), X = X0.suite xi.a ((xi.a, xi.oe) :: pn)) ∧ Zc (.ref (G.cad xi.c)) (some xi.d) xi.oe ∧ ∃ vs, xi.oe.data = .fields vs
  fr : L.fb = true → X.stack = X.env :: X.outer ∧ X.env.frame = some X.env.locals
  un : X.A.units + 200 < cLine
  gd : X.A.guards = some []

/-- an exception's class and own dict -/
def RX (G : Gc) (H : Hp) (ρ : Rho) (x : Xc) (c : Value) (d : Option Addr) : Prop := c = .ref (G.cad x.cls) ∧ ∃ a vs, d = some a ∧ H a = some (.xd vs) ∧ ¬ Live ρ a ∧ RFs G H ρ x.cls x.fs vs
theorem RX.mono {G : Gc} {H H1 : Hp} {ρ ρ1 : Rho} {x : Xc} {c : Value} {d : Option Addr} (r : RX G H ρ x c d) (e : Ext H ρ H1 ρ1) : RX G H1 ρ1 x c d :=
  let ⟨a, b, vs, h1, h2, h3, h4⟩ := r; ⟨a, b, vs, h1, e.keep _ _ h2 h3, e.dead h2 h3, h4.mono e⟩

theorem RX.mono' {G : Gc} {H H1 : Hp} {ρ ρ1 : Rho} {x : Xc} {c : Value} {d : Option Addr} (r : RX G H ρ x c d) (e : Kq H ρ H1 ρ1) : RX G H1 ρ1 x c d :=
  let ⟨a, b, vs, h1, h2, h3, h4⟩ := r; ⟨a, b, vs, h1, (e.keep _ _ h2 h3).1, (e.keep _ _ h2 h3).2, h4.mono' e⟩
/-- what is wished of an outcome -/
def Po {α : Type} (G : Gc) (W : WX) (σ : St) (H : Hp) (ρ : Rho) (R : α → Hp → Rho → Prop) : Out α → Prop
  | .ok a h' => ∀ H' ρ', Ext H ρ H' ρ' → HR G H' ρ' h' → R a H' ρ'
  | .ex x h' => ∀ c d H' ρ', Ext H ρ H' ρ' → HR G H' ρ' h' → RX G H' ρ' x c d → W c d σ H'
  | .bad => False
theorem Po.at1 {α : Type} {G : Gc} {W : WX} {σ : St} {H H1 : Hp} {ρ ρ1 : Rho} {R : α → Hp → Rho → Prop} {m : Out α} (q : Po G W σ H ρ R m) (e : Ext H ρ H1 ρ1) : Po G W σ H1 ρ1 R m := by
  cases m with
  | ok a h' => exact fun H' ρ' e' r => q H' ρ' (e.trans e') r
  | ex x h' => exact fun c d H' ρ' e' r rx => q c d H' ρ' (e.trans e') r rx
  | bad => exact q
def RQ (G : Gc) (Q : VK) : A → Hp → Rho → Prop := fun a H ρ => ∀ v, RA G H ρ a v → Q v H
def RQs (G : Gc) (Q : List V → Hp → Prop) : List A → Hp → Rho → Prop := fun a H ρ => ∀ v, RAs G H ρ a v → Q v H
def RB (Q : Bool → Hp → Prop) : Bool → Hp → Rho → Prop := fun b H _ => Q b H
def RU (Q : Hp → Prop) : Unit → Hp → Rho → Prop := fun _ H _ => Q H

abbrev FE := Sl → Hs → Out A
abbrev FT := Sl → Hs → Out Bool
abbrev FA := Sl → Hs → Out (List A)
abbrev FS := Sl → Hs → OutS
abbrev FG := A → Sl → Hs → OutS
abbrev F := List A → Hs → Out A
structure DE (G : Gc) (L : Wh) (e : Expr) (f : FE) : Prop where
  run : ∀ X, Xr G X L → ∀ σ H ρ sl h, SR G H ρ sl σ → HR G H ρ h → ∀ Q : VK, Po G L.W σ H ρ (RQ G Q) (f sl h) → E X e σ H Q
structure DT (G : Gc) (L : Wh) (e : Expr) (f : FT) : Prop where
  run : ∀ X, Xr G X L → ∀ σ H ρ sl h, SR G H ρ sl σ → HR G H ρ h → ∀ Q : Bool → Hp → Prop, Po G L.W σ H ρ (RB Q) (f sl h) → T X e σ H Q
structure DW (G : Gc) (L : Wh) (e : Expr) (f : FT) : Prop where
  run : ∀ X, Xr G X L → ∀ σ H ρ sl h, SR G H ρ sl σ → HR G H ρ h → ∀ Q : Bool → Hp → Prop, Po G L.W σ H ρ (RB Q) (f sl h) → W X e σ H Q
structure DA (G : Gc) (L : Wh) (es : List Expr) (f : FA) : Prop where
  run : ∀ X, Xr G X L → ∀ σ H ρ sl h, SR G H ρ sl σ → HR G H ρ h → ∀ Q : List V → Hp → Prop, Po G L.W σ H ρ (RQs G Q) (f sl h) → As X es σ H Q
/-- what is wished of a statement's outcome -/
def PoS (G : Gc) (W : WX) (H : Hp) (ρ : Rho) (nx : St → Hp → Prop) (rt : VK) (bk ct : St → Hp → Prop) : OutS → Prop
  | .nx sl h => ∀ σ H' ρ', Ext H ρ H' ρ' → HR G H' ρ' h → SR G H' ρ' sl σ → nx σ H'
  | .rt a h => ∀ v H' ρ', Ext H ρ H' ρ' → HR G H' ρ' h → RA G H' ρ' a v → rt v H'
  | .bk sl h => ∀ σ H' ρ', Ext H ρ H' ρ' → HR G H' ρ' h → SR G H' ρ' sl σ → bk σ H'
  | .ct sl h => ∀ σ H' ρ', Ext H ρ H' ρ' → HR G H' ρ' h → SR G H' ρ' sl σ → ct σ H'
  | .ex x sl h => ∀ c d σ H' ρ', Ext H ρ H' ρ' → HR G H' ρ' h → SR G H' ρ' sl σ → RX G H' ρ' x c d → W c d σ H'
  | .bad => False
theorem PoS.at1 {G : Gc} {W : WX} {H H1 : Hp} {ρ ρ1 : Rho} {nx : St → Hp → Prop} {rt : VK} {bk ct : St → Hp → Prop} {m : OutS} (q : PoS G W H ρ nx rt bk ct m) (e : Ext H ρ H1 ρ1) : PoS G W H1 ρ1 nx rt bk ct m := by
  cases m with
  | nx sl h => exact fun σ H' ρ' e' r => q σ H' ρ' (e.trans e') r
  | rt a h => exact fun σ H' ρ' e' r => q σ H' ρ' (e.trans e') r
  | bk sl h => exact fun σ H' ρ' e' r => q σ H' ρ' (e.trans e') r
  | ct sl h => exact fun σ H' ρ' e' r => q σ H' ρ' (e.trans e') r
  | ex x sl h => exact fun c d σ H' ρ' e' r => q c d σ H' ρ' (e.trans e') r
  | bad => exact q
structure DS (G : Gc) (L : Wh) (st : Stmt) (f : FS) : Prop where
  run : ∀ X, Xr G X L → ∀ σ H ρ sl h, SR G H ρ sl σ → HR G H ρ h → ∀ nx rt bk ct, PoS G L.W H ρ nx rt bk ct (f sl h) → S X st nx rt bk ct σ H
structure DSs (G : Gc) (L : Wh) (st : List Stmt) (f : FS) : Prop where
  run : ∀ X, Xr G X L → ∀ σ H ρ sl h, SR G H ρ sl σ → HR G H ρ h → ∀ nx rt bk ct, PoS G L.W H ρ nx rt bk ct (f sl h) → Ss X st nx rt bk ct σ H
/-- a target: the outcome is nx alone -/
def PoG (G : Gc) (W : WX) (H : Hp) (ρ : Rho) (Q : St → Hp → Prop) (m : OutS) : Prop := PoS G W H ρ Q (fun _ _ => False) (fun _ _ => False) (fun _ _ => False) m
structure DG (G : Gc) (L : Wh) (tg : Expr) (f : FG) : Prop where
  run : ∀ X, Xr G X L → ∀ σ H ρ sl h a v, SR G H ρ sl σ → HR G H ρ h → RA G H ρ a v → ∀ Q, PoG G L.W H ρ Q (f a sl h) → Sx.G X tg v σ H Q
structure DGs (G : Gc) (L : Wh) (ts : List Expr) (f : List A → Sl → Hs → OutS) : Prop where
  run : ∀ X, Xr G X L → ∀ σ H ρ sl h as vs, SR G H ρ sl σ → HR G H ρ h → RAs G H ρ as vs → ∀ Q, PoG G L.W H ρ Q (f as sl h) → Sx.Gs X ts vs σ H Q

section
variable {G : Gc} {L : Wh} {X : Cx} {σ : St} {H : Hp} {ρ : Rho} {sl : Sl} {h : Hs} {a b c e o : Expr} {es : List Expr} {fa fb fc : FE}
/-! ### sequencing -/
theorem DE.bind {β : Type} {k : A → Hs → Out β} {R : β → Hp → Rho → Prop} {Q : VK} (ha : DE G L a fa) (xr : Xr G X L) (sr : SR G H ρ sl σ) (hr : HR G H ρ h) (q : Po G L.W σ H ρ R ((fa sl h).bind k))
    (c : ∀ x h1 v H1 ρ1, Ext H ρ H1 ρ1 → HR G H1 ρ1 h1 → RA G H1 ρ1 x v → SR G H1 ρ1 sl σ → Po G L.W σ H1 ρ1 R (k x h1) → Q v H1) : E X a σ H Q := by
  refine ha.run X xr σ H ρ sl h sr hr Q ?_
  cases hm : fa sl h with
  | ok x h1 =>
    rw [hm] at q
    exact fun H1 ρ1 e1 r1 v ra => c x h1 v H1 ρ1 e1 r1 ra (sr.mono e1) (Po.at1 (m := k x h1) q e1)
  | ex x h1 => rw [hm] at q; exact q
  | bad => rw [hm] at q; exact q
theorem DE.bindS {k : A → Hs → OutS} {nx : St → Hp → Prop} {rt : VK} {bk ct : St → Hp → Prop} {Q : VK} (ha : DE G L a fa) (xr : Xr G X L) (sr : SR G H ρ sl σ) (hr : HR G H ρ h) (q : PoS G L.W H ρ nx rt bk ct ((fa sl h).bindS sl k))
    (c : ∀ x h1 v H1 ρ1, Ext H ρ H1 ρ1 → HR G H1 ρ1 h1 → RA G H1 ρ1 x v → SR G H1 ρ1 sl σ → PoS G L.W H1 ρ1 nx rt bk ct (k x h1) → Q v H1) : E X a σ H Q := by
  refine ha.run X xr σ H ρ sl h sr hr Q ?_
  cases hm : fa sl h with
  | ok x h1 =>
    rw [hm] at q
    exact fun H1 ρ1 e1 r1 v ra => c x h1 v H1 ρ1 e1 r1 ra (sr.mono e1) (PoS.at1 (m := k x h1) q e1)
  | ex x h1 => rw [hm] at q; exact fun cl d H' ρ' e' r' rx => q cl d σ H' ρ' e' r' (sr.mono e') rx
  | bad => rw [hm] at q; exact q
theorem DT.bind {β : Type} {ft : FT} {k : Bool → Hs → Out β} {R : β → Hp → Rho → Prop} {Q : Bool → Hp → Prop} (ha : DT G L a ft) (xr : Xr G X L) (sr : SR G H ρ sl σ) (hr : HR G H ρ h) (q : Po G L.W σ H ρ R ((ft sl h).bind k))
    (c : ∀ x h1 H1 ρ1, Ext H ρ H1 ρ1 → HR G H1 ρ1 h1 → SR G H1 ρ1 sl σ → Po G L.W σ H1 ρ1 R (k x h1) → Q x H1) : T X a σ H Q := by
  refine ha.run X xr σ H ρ sl h sr hr Q ?_
  cases hm : ft sl h with
  | ok x h1 =>
    rw [hm] at q
    exact fun H1 ρ1 e1 r1 => c x h1 H1 ρ1 e1 r1 (sr.mono e1) (Po.at1 (m := k x h1) q e1)
  | ex x h1 => rw [hm] at q; exact q
  | bad => rw [hm] at q; exact q
theorem DT.bindS {ft : FT} {k : Bool → Hs → OutS} {nx : St → Hp → Prop} {rt : VK} {bk ct : St → Hp → Prop} {Q : Bool → Hp → Prop} (ha : DT G L a ft) (xr : Xr G X L) (sr : SR G H ρ sl σ) (hr : HR G H ρ h) (q : PoS G L.W H ρ nx rt bk ct ((ft sl h).bindS sl k))
    (c : ∀ x h1 H1 ρ1, Ext H ρ H1 ρ1 → HR G H1 ρ1 h1 → SR G H1 ρ1 sl σ → PoS G L.W H1 ρ1 nx rt bk ct (k x h1) → Q x H1) : T X a σ H Q := by
  refine ha.run X xr σ H ρ sl h sr hr Q ?_
  cases hm : ft sl h with
  | ok x h1 =>
    rw [hm] at q
    exact fun H1 ρ1 e1 r1 => c x h1 H1 ρ1 e1 r1 (sr.mono e1) (PoS.at1 (m := k x h1) q e1)
  | ex x h1 => rw [hm] at q; exact fun cl d H' ρ' e' r' rx => q cl d σ H' ρ' e' r' (sr.mono e') rx
  | bad => rw [hm] at q; exact q
theorem DA.bind {β : Type} {ft : FA} {k : List A → Hs → Out β} {R : β → Hp → Rho → Prop} {Q : List V → Hp → Prop} (ha : DA G L es ft) (xr : Xr G X L) (sr : SR G H ρ sl σ) (hr : HR G H ρ h) (q : Po G L.W σ H ρ R ((ft sl h).bind k))
    (c : ∀ x h1 v H1 ρ1, Ext H ρ H1 ρ1 → HR G H1 ρ1 h1 → RAs G H1 ρ1 x v → SR G H1 ρ1 sl σ → Po G L.W σ H1 ρ1 R (k x h1) → Q v H1) : As X es σ H Q := by
  refine ha.run X xr σ H ρ sl h sr hr Q ?_
  cases hm : ft sl h with
  | ok x h1 =>
    rw [hm] at q
    exact fun H1 ρ1 e1 r1 v ra => c x h1 v H1 ρ1 e1 r1 ra (sr.mono e1) (Po.at1 (m := k x h1) q e1)
  | ex x h1 => rw [hm] at q; exact q
  | bad => rw [hm] at q; exact q

/-! ### names, constants -/
def eVar (i : Nat) : FE := fun sl h => match sl[i]? with | some (some a) => .ok a h | _ => .bad
def eC (a : A) : FE := fun _ h => .ok a h
theorem de_var (i : Nat) {x : Str} {pos : Pos} (hi : L.N[i]? = some x := by rfl) (hr : L.rd.contains i = true := by rfl) : DE G L (.Name x pos) (eVar i) := by
  refine ⟨fun X xr σ H ρ sl h sr hh Q q => ?_⟩
  unfold eVar at q
  have z := xr.rdv i (by simpa using hr) x hi
  cases hs : sl[i]? with
  | none => rw [hs] at q; exact q.elim
  | some o =>
    cases o with
    | none => rw [hs] at q; exact q.elim
    | some a =>
      rw [hs] at q
      obtain ⟨v, e1, e2⟩ := sr.get i a hs
      exact .of (pe_var (i := i) (by rw [xr.n]; exact hi) z.1 z.2.1 z.2.2) ⟨v, e1, q H ρ .refl hh v e2⟩
theorem de_int {i : Int} {j : Nat} {pos : Pos} : DE G L (.Constant (.int i) j pos) (eC (.int i)) := ⟨fun X xr σ H ρ sl h sr hh Q q => e_int (q H ρ .refl hh _ .int)⟩
theorem de_bl {i : Bool} {j : Nat} {pos : Pos} : DE G L (.Constant (.bool i) j pos) (eC (.bl i)) := ⟨fun X xr σ H ρ sl h sr hh Q q => e_bl (q H ρ .refl hh _ .bl)⟩
theorem de_non {j : Nat} {pos : Pos} : DE G L (.Constant .none j pos) (eC .non) := ⟨fun X xr σ H ρ sl h sr hh Q q => e_non (q H ρ .refl hh _ .non)⟩
theorem de_str {i : Str} {j : Nat} {pos : Pos} : DE G L (.Constant (.str i) j pos) (eC (.str i)) := ⟨fun X xr σ H ρ sl h sr hh Q q => e_str (q H ρ .refl hh _ .str)⟩
/-- a module's constant -/
structure GlobC (G : Gc) (x : Str) (a : A) : Prop where
  ex : ∃ v u, G.mg x = some u ∧ RelV v u ∧ ∀ H ρ, RA G H ρ a v
theorem de_glob {x : Str} {a : A} {pos : Pos} (g : GlobC G x a) (hg : x ∈ L.GL) : DE G L (.Name x pos) (eC a) := by
  refine ⟨fun X xr σ H ρ sl h sr hh Q q => ?_⟩
  obtain ⟨v, u, e, r, ra⟩ := g.ex
  exact .of (pe_glob (xr.gl x hg).1 (by rw [xr.mg]; exact e) r (xr.gl x hg).2.1) (q H ρ .refl hh v (ra H ρ))
theorem de_bty {x : Str} {n : String} {pos : Pos} (hb : Bi G.mg x (.type n)) (hg : x ∈ L.GL) : DE G L (.Name x pos) (eC (.ty n)) := by
  refine ⟨fun X xr σ H ρ sl h sr hh Q q => ?_⟩
  exact .of (pe_bltn (v := .ty n) (xr.gl x hg).1 (by rw [xr.mg]; exact hb.1) hb.2 rfl (xr.gl x hg).2.2 (xr.gl x hg).2.1) (q H ρ .refl hh _ .ty)
/-! ### operators by values, the slots fixed -/
structure Bv (X : Cx) (σ : St) (op : Operator) (x y : V) (H : Hp) (Q : VK) : Prop where
  run : ∀ (pins : List (Addr × Obj)) (s : Shared) (v u : Value), Inv X pins σ H s → RelV x v → RelV y u → wpAny (model X.prog X.w) X.A (binaryOp op v u) (EP X pins σ Q) X.xe s
structure Cv (X : Cx) (σ : St) (op : CmpOp) (x y : V) (H : Hp) (Q : VK) : Prop where
  run : ∀ (pins : List (Addr × Obj)) (s : Shared) (v u : Value), Inv X pins σ H s → RelV x v → RelV y u → wpAny (model X.prog X.w) X.A (compareOp op v u) (EP X pins σ Q) X.xe s
structure Iv (X : Cx) (σ : St) (op : Operator) (x y : V) (H : Hp) (Q : VK) : Prop where
  run : ∀ (pins : List (Addr × Obj)) (s : Shared) (v u : Value), Inv X pins σ H s → RelV x v → RelV y u → wpAny (model X.prog X.w) X.A (inplaceOp op v u) (EP X pins σ Q) X.xe s
structure Uv (X : Cx) (σ : St) (op : UnaryOp) (x : V) (H : Hp) (Q : VK) : Prop where
  run : ∀ (pins : List (Addr × Obj)) (s : Shared) (v : Value), Inv X pins σ H s → RelV x v → wpAny (model X.prog X.w) X.A (unaryOp op v) (EP X pins σ Q) X.xe s
structure Kv (X : Cx) (σ : St) (f : Value) (vs : List V) (H : Hp) (Q : VK) : Prop where
  run : ∀ (pins : List (Addr × Obj)) (s : Shared) (us : List Value), Inv X pins σ H s → Vals vs us → wpAny (model X.prog X.w) X.A (call f us) (EP X pins σ Q) X.xe s
structure Tv (X : Cx) (σ : St) (x : V) (H : Hp) (Q : Bool → Hp → Prop) : Prop where
  run : ∀ (pins : List (Addr × Obj)) (s : Shared) (u : Value), Inv X pins σ H s → RelV x u → wpAny (model X.prog X.w) X.A (truthy u) (TP X pins σ Q) X.xe s
structure Xv (X : Cx) (σ : St) (a b : Expr) (x y : V) (H : Hp) (Q : VK) : Prop where
  run : ∀ (pins : List (Addr × Obj)) (s : Shared) (v u : Value), Inv X pins σ H s → RelV x v → RelV y u → wpAny (model X.prog X.w) X.A (subscriptTail a b v u) (EP X pins σ Q) X.xe s
structure Sv (X : Cx) (σ : St) (o i v : V) (H : Hp) (Q : Hp → Prop) : Prop where
  run : ∀ (pins : List (Addr × Obj)) (s : Shared) (ov iv u : Value), Inv X pins σ H s → RelV o ov → RelV i iv → RelV v u → wpAny (model X.prog X.w) X.A (setItem ov iv u) (fun _ s' => ∃ H', Inv X pins σ H' s' ∧ Q H') X.xe s
variable {op : Operator} {cop : CmpOp} {uop : UnaryOp} {x y z : V} {Q : VK} {f : Value} {vs : List V} {TQ : Bool → Hp → Prop}
theorem Bv.of (h : Bo X op x y H Q) : Bv X σ op x y H Q := ⟨fun pins s v u I => h.run pins s σ v u I⟩
theorem Cv.of (h : Co X cop x y H Q) : Cv X σ cop x y H Q := ⟨fun pins s v u I => h.run pins s σ v u I⟩
theorem Iv.of (h : Io X op x y H Q) : Iv X σ op x y H Q := ⟨fun pins s v u I => h.run pins s σ v u I⟩
theorem Uv.of (h : Uo X uop x H Q) : Uv X σ uop x H Q := ⟨fun pins s v I => h.run pins s σ v I⟩
theorem Kv.of (h : C X f vs H Q) : Kv X σ f vs H Q := ⟨fun pins s v I => h.run pins s σ v I⟩
theorem Tv.of (h : Tr X x H TQ) : Tv X σ x H TQ := ⟨fun pins s v I => h.run pins s σ v I⟩
theorem Xv.of (h : Ix X a b x y H Q) : Xv X σ a b x y H Q := ⟨fun pins s v u I => h.run pins s σ v u I⟩
theorem Sv.of {R : Hp → Prop} (h : St3 X x y z H R) : Sv X σ x y z H R := ⟨fun pins s v u w I => h.run pins s σ v u w I⟩
theorem Cv.mono {Q' : VK} (h : Cv X σ cop x y H Q) (i : ∀ v H, Q v H → Q' v H) : Cv X σ cop x y H Q' := ⟨fun pins s v u I r1 r2 => wpAny_mono (h.run pins s v u I r1 r2) (fun _ _ ⟨v, H', I', r, q⟩ => ⟨v, H', I', r, i _ _ q⟩) fun _ _ z => z⟩
/-- the operators' functions -/
structure OpB (G : Gc) (L : Wh) (op : Operator) (g : A → A → Hs → Out A) : Prop where
  run : ∀ X, Xr G X L → ∀ σ H ρ h x y v u, HR G H ρ h → RA G H ρ x v → RA G H ρ y u → ∀ Q, Po G L.W σ H ρ (RQ G Q) (g x y h) → Bv X σ op v u H Q
structure OpI (G : Gc) (L : Wh) (op : Operator) (g : A → A → Hs → Out A) : Prop where
  run : ∀ X, Xr G X L → ∀ σ H ρ h x y v u, HR G H ρ h → RA G H ρ x v → RA G H ρ y u → ∀ Q, Po G L.W σ H ρ (RQ G Q) (g x y h) → Iv X σ op v u H Q
structure OpC (G : Gc) (L : Wh) (op : CmpOp) (g : A → A → Hs → Out A) : Prop where
  run : ∀ X, Xr G X L → ∀ σ H ρ h x y v u, HR G H ρ h → RA G H ρ x v → RA G H ρ y u → ∀ Q, Po G L.W σ H ρ (RQ G Q) (g x y h) → Cv X σ op v u H Q
structure OpU (G : Gc) (L : Wh) (op : UnaryOp) (g : A → Hs → Out A) : Prop where
  run : ∀ X, Xr G X L → ∀ σ H ρ h x v, HR G H ρ h → RA G H ρ x v → ∀ Q, Po G L.W σ H ρ (RQ G Q) (g x h) → Uv X σ op v H Q
structure OpK (G : Gc) (L : Wh) (f : Value) (g : F) : Prop where
  run : ∀ X, Xr G X L → ∀ σ H ρ h xs vs, HR G H ρ h → RAs G H ρ xs vs → ∀ Q, Po G L.W σ H ρ (RQ G Q) (g xs h) → Kv X σ f vs H Q
structure OpT (G : Gc) (L : Wh) (g : A → Hs → Out Bool) : Prop where
  run : ∀ X, Xr G X L → ∀ σ H ρ h x v, HR G H ρ h → RA G H ρ x v → ∀ Q, Po G L.W σ H ρ (RB Q) (g x h) → Tv X σ v H Q
structure OpX (G : Gc) (L : Wh) (g : A → A → Hs → Out A) : Prop where
  run : ∀ X, Xr G X L → ∀ σ H ρ h x y v u (a b : Expr), PlainIx b → HR G H ρ h → RA G H ρ x v → RA G H ρ y u → ∀ Q, Po G L.W σ H ρ (RQ G Q) (g x y h) → Xv X σ a b v u H Q
structure OpS (G : Gc) (L : Wh) (g : A → A → A → Hs → Out Unit) : Prop where
  run : ∀ X, Xr G X L → ∀ σ H ρ h x y z v u w, HR G H ρ h → RA G H ρ x v → RA G H ρ y u → RA G H ρ z w → ∀ Q, Po G L.W σ H ρ (RU Q) (g x y z h) → Sv X σ v u w H Q
def e2 (fa fb : FE) (g : A → A → Hs → Out A) : FE := fun sl h => (fa sl h).bind fun x h1 => (fb sl h1).bind fun y h2 => g x y h2
def e1 (fa : FE) (g : A → Hs → Out A) : FE := fun sl h => (fa sl h).bind g
theorem two (ha : DE G L a fa) (hb : DE G L b fb) (xr : Xr G X L) (sr : SR G H ρ sl σ) (hr : HR G H ρ h) {g : A → A → Hs → Out A} {R : A → Hp → Rho → Prop} {Q2 : V → V → Hp → Prop} (q : Po G L.W σ H ρ R (e2 fa fb g sl h))
    (c : ∀ x y h2 v u H2 ρ2, HR G H2 ρ2 h2 → SR G H2 ρ2 sl σ → RA G H2 ρ2 x v → RA G H2 ρ2 y u → Po G L.W σ H2 ρ2 R (g x y h2) → Q2 v u H2) : E X a σ H fun v H1 => E X b σ H1 fun u H2 => Q2 v u H2 :=
  DE.bind ha xr sr hr q fun x h1 v H1 ρ1 e1 r1 ra s1 q1 => DE.bind hb xr s1 r1 q1 fun y h2 u H2 ρ2 e2 r2 rb s2 q2 => c x y h2 v u H2 ρ2 r2 s2 (ra.mono e2) rb q2
theorem de_bin {g : A → A → Hs → Out A} {pos : Pos} (ho : OpB G L op g) (ha : DE G L a fa) (hb : DE G L b fb) : DE G L (.BinOp a op b pos) (e2 fa fb g) := by
  refine ⟨fun X xr σ H ρ sl h sr hh Q q => ?_⟩
  have z := two ha hb xr sr hh q (Q2 := fun v u H2 => Bv X σ op v u H2 Q) fun x y h2 v u H2 ρ2 r2 s2 ra rb q2 => ho.run X xr σ H2 ρ2 h2 x y v u r2 ra rb Q q2
  exact ⟨fun pins s I => wpAny_BinOp (binT pe pe I z fun v u s2 x y H2 I2 rx ry q => q.run pins s2 v u I2 rx ry)⟩
theorem de_un {g : A → Hs → Out A} {pos : Pos} (ho : OpU G L uop g) (ha : DE G L a fa) : DE G L (.UnaryOp uop a pos) (e1 fa g) := by
  refine ⟨fun X xr σ H ρ sl h sr hh Q q => ?_⟩
  have z := DE.bind ha xr sr hh q (Q := fun v H1 => Uv X σ uop v H1 Q) fun x h1 v H1 ρ1 e1 r1 ra s1 q1 => ho.run X xr σ H1 ρ1 h1 x v r1 ra Q q1
  exact ⟨fun pins s I => PyProof.Rows.UnaryOp_ (thn (z.run pins s I) fun v s1 ⟨x, H1, I1, r1, q1⟩ => q1.run pins s1 v I1 r1)⟩
theorem de_cmp {g : A → A → Hs → Out A} {pos : Pos} (ho : OpC G L cop g) (ha : DE G L a fa) (hb : DE G L b fb) (hm : behindInMarks cop b = false) : DE G L (.Compare a [cop] [b] pos) (e2 fa fb g) := by
  refine ⟨fun X xr σ H ρ sl h sr hh Q q => ?_⟩
  have z := two ha hb xr sr hh q (Q2 := fun v u H2 => Cv X σ cop v u H2 Q) fun x y h2 v u H2 ρ2 r2 s2 ra rb q2 => ho.run X xr σ H2 ρ2 h2 x y v u r2 ra rb Q q2
  exact ⟨fun pins s I => wpAny_Compare1 (binT pe pe I z fun v u s2 x y H2 I2 rx ry q => q.run pins s2 v u I2 rx ry) hm⟩
/-- a value as a truth: True, False alone -/
def isB (a : A) (h : Hs) : Out Bool := match a with | .bl b => .ok b h | _ => .bad
def e2t (fa fb : FE) (g : A → A → Hs → Out A) : FT := fun sl h => (fa sl h).bind fun x h1 => (fb sl h1).bind fun y h2 => (g x y h2).bind isB
theorem isB_ok {W : WX} {m : Out A} {Q : Bool → Hp → Prop} (q : Po G W σ H ρ (RB Q) (m.bind isB)) : Po G W σ H ρ (RQ G fun v H' => ∃ k, v = .bl k ∧ Q k H') m := by
  cases m with
  | ok a h' =>
    cases a <;> try exact q.elim
    rename_i b
    intro H' ρ' e r v rv
    cases rv
    exact ⟨b, rfl, q H' ρ' e r⟩
  | ex x h' => exact q
  | bad => exact q
theorem dt_cmp {g : A → A → Hs → Out A} {pos : Pos} (ho : OpC G L cop g) (ha : DE G L a fa) (hb : DE G L b fb) (hm : behindInMarks cop b = false) : DT G L (.Compare a [cop] [b] pos) (e2t fa fb g) := by
  refine ⟨fun X xr σ H ρ sl h sr hh Q q => ?_⟩
  have z : E X a σ H fun v H1 => E X b σ H1 fun u H2 => Cv X σ cop v u H2 fun z H3 => ∃ k, z = .bl k ∧ Q k H3 :=
    DE.bind ha xr sr hh q fun x h1 v H1 ρ1 e1 r1 ra s1 q1 => DE.bind hb xr s1 r1 q1 fun y h2 u H2 ρ2 e2 r2 rb s2 q2 => ho.run X xr σ H2 ρ2 h2 x y v u r2 (ra.mono e2) rb _ (isB_ok q2)
  refine ⟨fun pins s I => wpAny_isTrue_Compare1 (thn (z.run pins s I) fun v s1 ⟨x, H1, I1, r1, q1⟩ => thn (q1.run pins s1 I1) fun u s2 ⟨y, H2, I2, r2, q2⟩ =>
    thn (q2.run pins s2 v u I2 r1 r2) fun c s3 ⟨z, H3, I3, r3, k, e, q3⟩ => ?_) hm⟩
  subst e
  cases r3
  exact wpAny_truthy_bool ⟨H3, I3, q3⟩
/-! ### tests -/
def t1 (fa : FE) (g : A → Hs → Out Bool) : FT := fun sl h => (fa sl h).bind g
theorem dt_val {g : A → Hs → Out Bool} (ho : OpT G L g) (ha : DE G L e fa) (he : ∀ env whole, isTrue e env whole = (do let v ← whole; standAt e.pos; holding [v] (truthy v)) := by intro _ _; rfl) : DT G L e (t1 fa g) := by
  refine ⟨fun X xr σ H ρ sl h sr hh Q q => ?_⟩
  have z := DE.bind ha xr sr hh q (Q := fun v H1 => Tv X σ v H1 Q) fun x h1 v H1 ρ1 e1 r1 ra s1 q1 => ho.run X xr σ H1 ρ1 h1 x v r1 ra Q q1
  refine ⟨fun pins s I => PyProof.Rows.isTrue_plain (wpAny_mono (z.run pins s I) (fun v s1 ⟨x, H1, I1, r1, q1⟩ => ?_) fun _ _ z => z) (he _ _)⟩
  exact q1.run pins s1 v I1 r1
def tNot (ft : FT) : FT := fun sl h => (ft sl h).bind fun b h1 => .ok (!b) h1
def tAnd (fa fb : FT) : FT := fun sl h => (fa sl h).bind fun b h1 => match b with | true => fb sl h1 | false => .ok false h1
def tOr (fa fb : FT) : FT := fun sl h => (fa sl h).bind fun b h1 => match b with | true => .ok true h1 | false => fb sl h1
variable {rest : List Expr} {ft fu : FT} {pos : Pos}
theorem dt_not (ha : DT G L a ft) : DT G L (.UnaryOp .Not a pos) (tNot ft) :=
  ⟨fun X xr σ H ρ sl h sr hh Q q => t_not (DT.bind ha xr sr hh q fun x h1 H1 ρ1 e1 r1 s1 q1 => q1 H1 ρ1 .refl r1)⟩
theorem dw_and1 (ha : DT G L a ft) : DW G L (.BoolOp .And [a] pos) ft := ⟨fun X xr σ H ρ sl h sr hh Q q => w_and1 (ha.run X xr σ H ρ sl h sr hh Q q)⟩
theorem dw_or1 (ha : DT G L a ft) : DW G L (.BoolOp .Or [a] pos) ft := ⟨fun X xr σ H ρ sl h sr hh Q q => w_or1 (ha.run X xr σ H ρ sl h sr hh Q q)⟩
theorem and_br (xr : Xr G X L) (sr : SR G H ρ sl σ) (hr : HR G H ρ h) (ha : DT G L a ft) (hb : DW G L b fu) {Q : Bool → Hp → Prop} (q : Po G L.W σ H ρ (RB Q) (tAnd ft fu sl h)) :
    T X a σ H fun q H1 => Br q (W X b σ H1 Q) (Q false H1) := DT.bind ha xr sr hr q fun x h1 H1 ρ1 e1 r1 s1 q1 => by
  cases x with
  | true => exact br_t (hb.run X xr σ H1 ρ1 sl h1 s1 r1 Q q1)
  | false => exact br_f (q1 H1 ρ1 .refl r1)
theorem or_br (xr : Xr G X L) (sr : SR G H ρ sl σ) (hr : HR G H ρ h) (ha : DT G L a ft) (hb : DW G L b fu) {Q : Bool → Hp → Prop} (q : Po G L.W σ H ρ (RB Q) (tOr ft fu sl h)) :
    T X a σ H fun q H1 => Br q (Q true H1) (W X b σ H1 Q) := DT.bind ha xr sr hr q fun x h1 H1 ρ1 e1 r1 s1 q1 => by
  cases x with
  | true => exact br_t (q1 H1 ρ1 .refl r1)
  | false => exact br_f (hb.run X xr σ H1 ρ1 sl h1 s1 r1 Q q1)
theorem dw_and (ha : DT G L a ft) (hb : DW G L (.BoolOp .And (b :: rest) pos) fu) : DW G L (.BoolOp .And (a :: b :: rest) pos) (tAnd ft fu) := ⟨fun X xr σ H ρ sl h sr hh Q q => w_and (and_br xr sr hh ha hb q)⟩
theorem dw_or (ha : DT G L a ft) (hb : DW G L (.BoolOp .Or (b :: rest) pos) fu) : DW G L (.BoolOp .Or (a :: b :: rest) pos) (tOr ft fu) := ⟨fun X xr σ H ρ sl h sr hh Q q => w_or (or_br xr sr hh ha hb q)⟩
theorem dt_and (ha : DT G L a ft) (hb : DW G L (.BoolOp .And (b :: rest) pos) fu) : DT G L (.BoolOp .And (a :: b :: rest) pos) (tAnd ft fu) := ⟨fun X xr σ H ρ sl h sr hh Q q => t_and (and_br xr sr hh ha hb q)⟩
theorem dt_or (ha : DT G L a ft) (hb : DW G L (.BoolOp .Or (b :: rest) pos) fu) : DT G L (.BoolOp .Or (a :: b :: rest) pos) (tOr ft fu) := ⟨fun X xr σ H ρ sl h sr hh Q q => t_or (or_br xr sr hh ha hb q)⟩
end
end Rx
set_option Elab.async false
set_option linter.all false
set_option maxRecDepth 100000
set_option maxHeartbeats 4000000
/-! RxE: expressions: and, or, if, chains, arguments, displays, calls of defs, fields, subscripts. -/
namespace Rx
open PySem L2 Sx
open PyProof.Rows (subscriptTail)
section
variable {G : Gc} {L : Wh} {X : Cx} {σ : St} {H : Hp} {ρ : Rho} {sl : Sl} {h : Hs} {a b c e o : Expr} {es rest : List Expr} {fa fb fc : FE} {ft fu : FT} {fs : FA} {pos p apos : Pos} {Q : VK} {cop cop' : CmpOp}
/-! ### and, or, not as values; if; chains of ints -/
def eAnd (fa fb : FE) : FE := fun sl h => (fa sl h).bind fun x h1 => match x with | .bl true => fb sl h1 | .bl false => .ok (.bl false) h1 | _ => .bad
def eOr (fa fb : FE) : FE := fun sl h => (fa sl h).bind fun x h1 => match x with | .bl true => .ok (.bl true) h1 | .bl false => fb sl h1 | _ => .bad
def eNot (fa : FE) : FE := fun sl h => (fa sl h).bind fun x h1 => match x with | .bl b => .ok (.bl (!b)) h1 | _ => .bad
def eIf (ft : FT) (fa fb : FE) : FE := fun sl h => (ft sl h).bind fun b h1 => match b with | true => fa sl h1 | false => fb sl h1
theorem de_one {op : BoolOp} (ha : DE G L a fa) : DE G L (.BoolOp op [a] pos) fa := ⟨fun X xr σ H ρ sl h sr hh Q q => e_one (ha.run X xr σ H ρ sl h sr hh Q q)⟩
theorem de_and (ha : DE G L a fa) (hb : DE G L (.BoolOp .And (b :: rest) pos) fb) : DE G L (.BoolOp .And (a :: b :: rest) pos) (eAnd fa fb) :=
  ⟨fun X xr σ H ρ sl h sr hh Q q => e_and (DE.bind ha xr sr hh q fun x h1 v H1 ρ1 e1 r1 ra s1 q1 => by
    cases ra <;> try exact q1.elim
    rename_i k
    cases k with
    | true => exact ⟨true, rfl, br_t (hb.run X xr σ H1 ρ1 sl h1 s1 r1 Q q1)⟩
    | false => exact ⟨false, rfl, br_f (q1 H1 ρ1 .refl r1 _ .bl)⟩)⟩
theorem de_or (ha : DE G L a fa) (hb : DE G L (.BoolOp .Or (b :: rest) pos) fb) : DE G L (.BoolOp .Or (a :: b :: rest) pos) (eOr fa fb) :=
  ⟨fun X xr σ H ρ sl h sr hh Q q => e_or (DE.bind ha xr sr hh q fun x h1 v H1 ρ1 e1 r1 ra s1 q1 => by
    cases ra <;> try exact q1.elim
    rename_i k
    cases k with
    | true => exact ⟨true, rfl, br_t (q1 H1 ρ1 .refl r1 _ .bl)⟩
    | false => exact ⟨false, rfl, br_f (hb.run X xr σ H1 ρ1 sl h1 s1 r1 Q q1)⟩)⟩
theorem de_not (ha : DE G L a fa) : DE G L (.UnaryOp .Not a pos) (eNot fa) :=
  ⟨fun X xr σ H ρ sl h sr hh Q q => e_notV (DE.bind ha xr sr hh q fun x h1 v H1 ρ1 e1 r1 ra s1 q1 => by
    cases ra <;> try exact q1.elim
    exact ⟨_, rfl, q1 H1 ρ1 .refl r1 _ .bl⟩)⟩
theorem de_if (hc : DT G L c ft) (ha : DE G L a fa) (hb : DE G L b fb) : DE G L (.IfExp c a b pos) (eIf ft fa fb) :=
  ⟨fun X xr σ H ρ sl h sr hh Q q => e_if (DT.bind hc xr sr hh q fun x h1 H1 ρ1 e1 r1 s1 q1 => by
    cases x with
    | true => exact br_t (ha.run X xr σ H1 ρ1 sl h1 s1 r1 Q q1)
    | false => exact br_f (hb.run X xr σ H1 ρ1 sl h1 s1 r1 Q q1))⟩
/-- a comparison of ints -/
structure CmpI (op : CmpOp) (p : Int → Int → Bool) : Prop where
  run : ∀ (X : Cx) (H : Hp) (i j : Int) (Q : VK), Q (.bl (p i j)) H → Co X op (.int i) (.int j) H Q
theorem ci_lt : CmpI .Lt (fun i j => decide (i < j)) := ⟨fun X H i j Q h => c_lt h⟩
theorem ci_le : CmpI .LtE (fun i j => decide (i ≤ j)) := ⟨fun X H i j Q h => c_le h⟩
theorem ci_gt : CmpI .Gt (fun i j => decide (j < i)) := ⟨fun X H i j Q h => c_gt h⟩
theorem ci_ge : CmpI .GtE (fun i j => decide (j ≤ i)) := ⟨fun X H i j Q h => c_ge h⟩
def eChain (p p' : Int → Int → Bool) (fa fb fc : FE) : FE := fun sl h => (fa sl h).bind fun x h1 => (fb sl h1).bind fun y h2 => match x, y with
  | .int i, .int j => (match p i j with
    | true => (fc sl h2).bind fun z h3 => (match z with | .int k => .ok (.bl (p' j k)) h3 | _ => .bad)
    | false => .ok (.bl false) h2)
  | _, _ => .bad
theorem chain_ok {p1 p2 : Int → Int → Bool} (h1 : CmpI cop p1) (h2 : CmpI cop' p2) (ha : DE G L a fa) (hb : DE G L b fb) (hc : DE G L c fc) (xr : Xr G X L) (sr : SR G H ρ sl σ) (hh : HR G H ρ h) (q : Po G L.W σ H ρ (RQ G Q) (eChain p1 p2 fa fb fc sl h)) :
    E X a σ H fun x H1 => E X b σ H1 fun y H2 => Co X cop x y H2 fun z H3 => ∃ q, z = .bl q ∧ Br q (E X c σ H3 fun z' H4 => Co X cop' y z' H4 Q) (Q (.bl false) H3) :=
  DE.bind ha xr sr hh q fun x h1' v H1 ρ1 e1 r1 ra s1 q1 => DE.bind hb xr s1 r1 q1 fun y h2' u H2 ρ2 e2 r2 rb s2 q2 => by
    cases ra <;> try exact q2.elim
    cases rb <;> try exact q2.elim
    rename_i i j
    refine h1.run X H2 i j _ ⟨_, rfl, ?_⟩
    revert q2
    dsimp only
    cases p1 i j with
    | true =>
      intro q2
      refine br_t (DE.bind hc xr s2 r2 q2 fun z h3 w H3 ρ3 e3 r3 rc s3 q3 => ?_)
      cases rc <;> try exact q3.elim
      exact h2.run X H3 _ _ _ (q3 H3 ρ3 .refl r3 _ .bl)
    | false => exact fun q2 => br_f (q2 H2 ρ2 .refl r2 _ .bl)
theorem de_chain {p1 p2 : Int → Int → Bool} (h1 : CmpI cop p1) (h2 : CmpI cop' p2) (ha : DE G L a fa) (hb : DE G L b fb) (hc : DE G L c fc) (hm : lastMarks [cop, cop'] [b, c] = false := by with_unfolding_all rfl) : DE G L (.Compare a [cop, cop'] [b, c] pos) (eChain p1 p2 fa fb fc) :=
  ⟨fun X xr σ H ρ sl h sr hh Q q => e_chain (chain_ok h1 h2 ha hb hc xr sr hh q) hm⟩
theorem dt_chain {p1 p2 : Int → Int → Bool} (h1 : CmpI cop p1) (h2 : CmpI cop' p2) (ha : DE G L a fa) (hb : DE G L b fb) (hc : DE G L c fc) (hm : lastMarks [cop, cop'] [b, c] = false := by with_unfolding_all rfl) : DT G L (.Compare a [cop, cop'] [b, c] pos) (t1 (eChain p1 p2 fa fb fc) isB) := by
  refine ⟨fun X xr σ H ρ sl h sr hh Q q => Sx.t_chain ?_ hm⟩
  have z := chain_ok h1 h2 ha hb hc xr sr hh (Q := fun v H' => ∃ k, v = .bl k ∧ Q k H') (isB_ok q)
  exact z.mono fun _ _ z => z.mono fun _ _ z => z.mono fun _ _ ⟨q, e, b⟩ => ⟨q, e, b.1, fun e => by
    obtain ⟨k, e1, e2⟩ := b.2 e
    cases e1
    exact e2⟩
/-! ### arguments, displays -/
def aNil : FA := fun _ h => .ok [] h
def aCons (fa : FE) (fs : FA) : FA := fun sl h => (fa sl h).bind fun x h1 => (fs sl h1).bind fun xs h2 => .ok (x :: xs) h2
/-- *e: the items of a tuple or a list -/
def itemsOf (x : A) (h : Hs) : Option (List A) := match x with
  | .tup xs => some xs
  | .ctp xs => some xs
  | .lst xs => some xs
  | .ref n => (match h[n]? with | some (.lst xs) => some xs | _ => none)
  | _ => none
def aStar (fa : FE) (fs : FA) : FA := fun sl h => (fa sl h).bind fun x h1 => need (itemsOf x h1) fun xs => (fs sl h1).bind fun ys h2 => .ok (xs ++ ys) h2
theorem da_nil : DA G L [] aNil := ⟨fun X xr σ H ρ sl h sr hh Q q => as_nil (q H ρ .refl hh _ .nil)⟩
theorem da_cons (ha : DE G L e fa) (hs : DA G L es fs) (he : NoSt e = true := by rfl) : DA G L (e :: es) (aCons fa fs) :=
  ⟨fun X xr σ H ρ sl h sr hh Q q => as_cons (DE.bind ha xr sr hh q fun x h1 v H1 ρ1 e1 r1 ra s1 q1 => DA.bind hs xr s1 r1 q1 fun xs h2 vs H2 ρ2 e2 r2 rs s2 q2 => q2 H2 ρ2 .refl r2 _ (.cons (ra.mono e2) rs)) (star_cons he)⟩
def eTup (fs : FA) : FE := fun sl h => (fs sl h).bind fun xs h1 => chk (Nat.ble xs.length sizeLine) (.ok (.tup xs) h1)
def eLst (fs : FA) : FE := fun sl h => (fs sl h).bind fun xs h1 => chk (Nat.ble xs.length sizeLine) (.ok (.lst xs) h1)
/-- a list that will be changed -/
def eLstT (fs : FA) : FE := fun sl h => (fs sl h).bind fun xs h1 => chk (Nat.ble xs.length sizeLine) (.ok (.ref h1.length) (h1 ++ [.lst xs]))
theorem chk_ok {α : Type} {k : Bool} {m : Out α} {W : WX} {R : α → Hp → Rho → Prop} (q : Po G W σ H ρ R (chk k m)) : k = true ∧ Po G W σ H ρ R m := by
  cases k with
  | true => exact ⟨rfl, q⟩
  | false => exact q.elim
theorem need_ok {α β : Type} {k : Option α} {m : α → Out β} {W : WX} {R : β → Hp → Rho → Prop} (q : Po G W σ H ρ R (need k m)) : ∃ x, k = some x ∧ Po G W σ H ρ R (m x) := by
  cases k with
  | some x => exact ⟨x, rfl, q⟩
  | none => exact q.elim
theorem new_tupA (hr : HR G H ρ h) {xs : List A} {vs : List V} {p : Addr} (n : H p = none) (rs : RAs G H ρ xs vs) : RA G (upd H p (.tup vs)) ρ (.tup xs) (.ref p) :=
  let r := rs.mono (hr.ext_new (o := .tup vs) n)
  .tup upd_same r.1 r.2
theorem new_lstA (hr : HR G H ρ h) {xs : List A} {vs : List V} {p : Addr} (n : H p = none) (rs : RAs G H ρ xs vs) : RA G (upd H p (.lst vs)) ρ (.lst xs) (.ref p) :=
  let r := rs.mono (hr.ext_new (o := .lst vs) n)
  .lst upd_same (hr.nlive n) r.1 r.2
theorem new_lstT (hr : HR G H ρ h) {xs : List A} {vs : List V} {p : Addr} (n : H p = none) (rs : RAs G H ρ xs vs) : RA G (upd H p (.lst vs)) (ρ.add p) (.ref h.length) (.ref p) ∧ HR G (upd H p (.lst vs)) (ρ.add p) (h ++ [.lst xs]) :=
  ⟨.ref (by simp [hr.len]) fun b e => by rw [← hr.len] at e; simpa using e, hr.track n ⟨vs, upd_same, rs.mono (hr.ext_track n)⟩⟩
theorem de_tup {j : Nat} (hs : DA G L es fs) : DE G L (.Tuple es j pos) (eTup fs) :=
  ⟨fun X xr σ H ρ sl h sr hh Q q => .of (pe_tup pa) (DA.bind hs xr sr hh q fun xs h1 vs H1 ρ1 e1 r1 rs s1 q1 => by
    obtain ⟨k, q1⟩ := chk_ok q1
    exact ⟨by rw [← rs.1]; exact Nat.le_of_ble_eq_true k, fun p np => q1 _ ρ1 (r1.ext_new np) (r1.new np) _ (new_tupA r1 np rs)⟩)⟩
theorem de_lst (hs : DA G L es fs) : DE G L (.List es pos) (eLst fs) :=
  ⟨fun X xr σ H ρ sl h sr hh Q q => .of (pe_lst pa) (DA.bind hs xr sr hh q fun xs h1 vs H1 ρ1 e1 r1 rs s1 q1 => by
    obtain ⟨k, q1⟩ := chk_ok q1
    exact ⟨by rw [← rs.1]; exact Nat.le_of_ble_eq_true k, fun p np => q1 _ ρ1 (r1.ext_new np) (r1.new np) _ (new_lstA r1 np rs)⟩)⟩
theorem de_lstT (hs : DA G L es fs) : DE G L (.List es pos) (eLstT fs) :=
  ⟨fun X xr σ H ρ sl h sr hh Q q => .of (pe_lst pa) (DA.bind hs xr sr hh q fun xs h1 vs H1 ρ1 e1 r1 rs s1 q1 => by
    obtain ⟨k, q1⟩ := chk_ok q1
    refine ⟨by rw [← rs.1]; exact Nat.le_of_ble_eq_true k, fun p np => ?_⟩
    obtain ⟨z1, z2⟩ := new_lstT r1 np rs
    exact q1 _ _ (r1.ext_track np) z2 _ z1)⟩
/-! ### defs: what they promise -/
def spF (G : Gc) (n : Nat) (f : F) : Sp := fun vs H Q E => vs.length = n ∧ ∃ xs ρ h, RAs G H ρ xs vs ∧ HR G H ρ h ∧ Po G (fun c d _ H => E c d H) [] H ρ (RQ G Q) (f xs h)
theorem Po.wish {α : Type} {W : WX} {R : α → Hp → Rho → Prop} {m : Out α} (q : Po G W σ H ρ R m) : Po G (fun c d _ H => W c d σ H) [] H ρ R m := by
  cases m <;> exact q
def OutS.fin : OutS → Out A
  | .nx _ h => .ok .non h
  | .rt a h => .ok a h
  | .ex x _ h => .ex x h
  | _ => .bad
/-- a def by its body: n parameters, nl names in all -/
def runF (n nl : Nat) (fb : FS) : F := fun xs h => match Nat.beq xs.length n with | true => (fb (xs.map some ++ List.replicate (nl - n) none) h).fin | false => .bad
/-- a function that asks for n arguments -/
def Ar (n : Nat) (f : F) : Prop := ∀ xs h, xs.length ≠ n → f xs h = .bad
theorem ar_run {n nl : Nat} {fb : FS} : Ar n (runF n nl fb) := fun xs h e => by
  unfold runF
  have z : Nat.beq xs.length n = false := by
    cases k : Nat.beq xs.length n with
    | false => rfl
    | true => exact absurd (Nat.eq_of_beq_eq_true k) e
  rw [z]
theorem Ar.len {n : Nat} {f : F} (ar : Ar n f) {W : WX} {R : A → Hp → Rho → Prop} {xs : List A} (q : Po G W σ H ρ R (f xs h)) : xs.length = n := by
  by_cases e : xs.length = n
  · exact e
  · rw [ar xs h e] at q; exact q.elim
def okN (N : List Str) (rd wr : List Nat) (GL : List Str) (sc : Scope) : Bool :=
  (rd.all fun i => match N[i]? with
    | some x => (decide (sc.names.lookup x = some .local) || decide (sc.names.lookup x = some .cell)) && !(x == ("__debug__" : Str)) && !(x == ("__classdict__" : Str))
    | none => true) &&
  (wr.all fun i => match N[i]? with
    | some x => decide (sc.names.lookup x = some .local) || decide (sc.names.lookup x = some .cell)
    | none => true) &&
  (GL.all fun x => decide (sc.names.lookup x = some .globalImplicit) && !(x == ("__debug__" : Str)) && decide (x ≠ ("__name__" : Str)))
abbrev wh (st : Stmt) (N : List Str) (rd wr : List Nat) (GL : List Str) (k : Nat) (W : WX) : Wh := ⟨defScope st, N, rd, wr, GL, k, W, true, true⟩
theorem fn_rx {x qual : Str} {st : Stmt} {f : Addr} {fd : FuncData} {N ps : List Str} {rd wr : List Nat} {GL : List Str} {k n nl : Nat} {fb : FS} (Fn : Fun G.K x qual st f fd) (S : FnScope N ps (defScope st)) (hok : okN N rd wr GL (defScope st) = true)
    (hn : ps.length = n) (hnl : N.length = nl) (body : ∀ W, DSs G (wh st N rd wr GL k W) (defBody st) fb) (hxi : G.xi = none := by rfl) : FnOk G.P G.w G.K G.mg G.base (L2.CX G.P G.w) (k + 1) f fd ps (spF G n (runF n nl fb)) := by
  obtain ⟨oc, od, kV, doc, pm, an, cdv, ct, osl, rfl, lk, hcd⟩ := Fn.ex
  refine fn_ofG lk hcd S (fun vs H Q E q => by rw [hn]; exact q.1) fun A outer s H vs Q E hr gd q => ⟨_, pss, ?_⟩
  obtain ⟨hl, xs, ρ, h, ra, hh, po⟩ := q
  unfold okN at hok
  simp only [Bool.and_eq_true, List.all_eq_true] at hok
  obtain ⟨⟨o1, o2⟩, o3⟩ := hok
  have xr : Xr G (cxOf (L2.CX G.P G.w) G.P G.w G.K G.mg G.base N qual (defScope st) f cdv A outer s H E) (wh st N rd wr GL k fun c d _ H => E c d H) := by
    refine ⟨rfl, rfl, rfl, rfl, rfl, rfl, S.nd, rfl, fun i hi x hx => ?_, fun i hi x hx => ?_, fun x hx => ?_, fun _ => hr, fun _ => rfl, takes_of rfl rfl rfl rfl, passes_of rfl, fun _ => ⟨_, _, _, _, rfl⟩, fun _ => hxi, fun xi e => (by rw [hxi] at e; cases e), fun _ => ⟨rfl, rfl⟩, Nat.lt_of_le_of_lt (Nat.add_le_add_right (Nat.le_add_right _ _) _) hr.un, gd⟩
    · have z := o1 i hi
      have hx : N[i]? = some x := hx
      rw [hx] at z
      simp only [Bool.and_eq_true, Bool.or_eq_true, decide_eq_true_eq, Bool.not_eq_true'] at z
      exact ⟨z.1.1.elim .inl fun z => .inr (.inl z), z.1.2, z.2⟩
    · have z := o2 i hi
      have hx : N[i]? = some x := hx
      rw [hx] at z
      simp only [Bool.or_eq_true, decide_eq_true_eq] at z
      exact ⟨z, .inl rfl⟩
    · have z := o3 x hx
      simp only [Bool.and_eq_true, decide_eq_true_eq, Bool.not_eq_true'] at z
      exact ⟨z.1.1, z.1.2, z.2⟩
  have len : xs.length = n := by rw [ra.1, hl]
  have sr : SR G H ρ (xs.map some ++ List.replicate (nl - n) none) (L2.start N vs) := by
    unfold L2.start
    refine ⟨by simp [ra.1, hnl, hl], fun i a e => ?_, fun xi e => by rw [hxi] at e; cases e⟩
    by_cases hi : i < xs.length
    · rw [List.getElem?_append_left (by simpa using hi), List.getElem?_map] at e
      have e' : xs[i]? = some a := by
        cases q : xs[i]? with
        | none => rw [q] at e; cases e
        | some z => rw [q] at e; cases e; rfl
      obtain ⟨v, e1, e2⟩ := ra.get e'
      exact ⟨v, by rw [List.getElem?_append_left (by rw [List.length_map, ← ra.1]; exact hi), List.getElem?_map, e1]; rfl, e2⟩
    · rw [List.getElem?_append_right (by simpa using hi), List.getElem?_replicate] at e
      split at e <;> cases e
  refine (body _).run _ xr _ H ρ _ h sr hh _ _ _ _ ?_
  have beq : Nat.beq xs.length n = true := by rw [len]; exact Nat.beq_refl n
  unfold runF at po
  rw [beq] at po
  revert po
  dsimp only
  cases fb (xs.map some ++ List.replicate (nl - n) none) h with
  | nx sl' h' => exact fun po σ' H' ρ' e r _ => po H' ρ' e r _ .non
  | rt a h' => exact fun po v H' ρ' e r ra => po H' ρ' e r v ra
  | bk sl' h' => exact fun po => po.elim
  | ct sl' h' => exact fun po => po.elim
  | ex x' sl' h' => exact fun po c d σ' H' ρ' e r _ rx => po c d H' ρ' e r rx
  | bad => exact fun po => po.elim
/-- a def that stands at its name -/
def DfR (G : Gc) (x : Str) (j n : Nat) (f : F) : Prop :=
  Ar n f ∧ ∃ (fa : Addr) (fd : FuncData) (ps : List Str), FnOk G.P G.w G.K G.mg G.base (L2.CX G.P G.w) j fa fd ps (spF G n f) ∧ G.mg x = some (.ref fa) ∧ PySem.W.keepIn G.K (.ref fa) = true ∧ Binds G.K fd ps []
def eK (fs : FA) (f : F) : FE := fun sl h => (fs sl h).bind f
theorem sp_of {n : Nat} {f : F} (ar : Ar n f) {W : WX} {xs : List A} {vs : List V} (hr : HR G H ρ h) (rs : RAs G H ρ xs vs) (q : Po G W σ H ρ (RQ G Q) (f xs h)) : spF G n f vs H Q (WE W σ) :=
  ⟨by rw [← rs.1]; exact ar.len q, xs, ρ, h, rs, hr, q.wish⟩
theorem Xr.fn (xr : Xr G X L) {j : Nat} {fa : Addr} {fd : FuncData} {ps : List Str} {sp : Sp} (Fn : FnOk G.P G.w G.K G.mg G.base (L2.CX G.P G.w) j fa fd ps sp) : FnOk X.prog X.w X.K X.mg X.base (L2.CX X.prog X.w) j fa fd ps sp := by
  rw [xr.prog, xr.w, xr.K, xr.mg, xr.base]; exact Fn
theorem Xr.pass (xr : Xr G X L) (σ : St) : PassesAt (L2.CX X.prog X.w) X σ (WE L.W σ) := passAt xr.tk σ
theorem de_call {x : Str} {j n : Nat} {f : F} (D : DfR G x j n f) (hg : x ∈ L.GL) (hj : j ≤ L.k) (ha : DA G L (e :: es) fs) (he : NoSt e = true := by rfl) (hpl : ∀ env, (backTo pos (starEach es env)).any (·.1) = false := by intro _; rfl) (hc : L.cm = true := by rfl) : DE G L (.Call (.Name x p) (e :: es) [] pos) (eK fs f) := by
  refine ⟨fun X xr σ H ρ sl h sr hh Q q => ?_⟩
  obtain ⟨ar, fa, fd, ps, Fn, hm, kp, b⟩ := D
  refine .of (pe_callS (xr.fn Fn) ((xr.room hc).mono hj) xr.gd (xr.gl x hg).1 (by rw [xr.mg]; exact hm) (by rw [xr.K]; exact kp) (by rw [xr.K]; exact b) (fun σ => xr.pass σ) pa (xr.gl x hg).2.1 (star_cons he) (hpl _)) ?_
  exact DA.bind ha xr sr hh q fun xs h1 vs H1 ρ1 e1 r1 rs s1 q1 => sp_of ar r1 rs q1
theorem de_call0 {x : Str} {j : Nat} {f : F} (D : DfR G x j 0 f) (hg : x ∈ L.GL) (hj : j ≤ L.k) (hc : L.cm = true := by rfl) : DE G L (.Call (.Name x p) [] [] pos) (fun _ h => f [] h) := by
  refine ⟨fun X xr σ H ρ sl h sr hh Q q => ?_⟩
  obtain ⟨ar, fa, fd, ps, Fn, hm, kp, b⟩ := D
  refine ⟨fun pins s I => ?_⟩
  refine wpAny_Call_Name_kw (ld_glob I (xr.gl x hg).1 (by rw [xr.mg]; exact hm) ?_ (xr.gl x hg).2.1)
  exact PySem.W.callWith_K0 I.kIn (by rw [xr.K]; exact kp) (run_fnS (E := WE L.W) (us := []) (vs := []) (xr.fn Fn) ((xr.room hc).mono hj) xr.gd (by rw [xr.K]; exact b) (xr.pass σ) I .nil (sp_of ar hh .nil q))
/-! ### built-in functions and types, called by name -/
theorem de_callB {x : Str} {id : String} {f : F} (hb : Bi G.mg x (.builtin id)) (ho : OpK G L (.builtin id) f) (hg : x ∈ L.GL) (ha : DA G L (e :: es) fs) (he : NoSt e = true := by rfl) (hpl : ∀ env, (backTo pos (starEach es env)).any (·.1) = false := by intro _; rfl) : DE G L (.Call (.Name x p) (e :: es) [] pos) (eK fs f) := by
  refine ⟨fun X xr σ H ρ sl h sr hh Q q => ⟨fun pins s I => ?_⟩⟩
  have z : As X (e :: es) σ H fun vs H1 => Kv X σ (.builtin id) vs H1 Q := DA.bind ha xr sr hh q fun xs h1 vs H1 ρ1 e1 r1 rs s1 q1 => ho.run X xr σ H1 ρ1 h1 xs vs r1 rs Q q1
  refine wpAny_Call_Name_kw (ld_blt I (xr.gl x hg).1 (by rw [xr.mg]; exact hb.1) hb.2 ?_ (xr.gl x hg).2.2 (xr.gl x hg).2.1)
  exact PyProof.Rows.callWith_builtin1 (thn (z.run pos pins s I) fun us s1 ⟨vs, H1, I1, r1, q1⟩ => q1.run pins s1 us I1 r1) (star_cons he) (hpl _)
theorem de_callT {x : Str} {id : String} {f : F} (hb : Bi G.mg x (.type id)) (ho : OpK G L (.type id) f) (hg : x ∈ L.GL) (ha : DA G L (e :: es) fs) (he : NoSt e = true := by rfl) (hpl : ∀ env, (backTo pos (starEach es env)).any (·.1) = false := by intro _; rfl) : DE G L (.Call (.Name x p) (e :: es) [] pos) (eK fs f) := by
  refine ⟨fun X xr σ H ρ sl h sr hh Q q => ⟨fun pins s I => ?_⟩⟩
  have z : As X (e :: es) σ H fun vs H1 => Kv X σ (.type id) vs H1 Q := DA.bind ha xr sr hh q fun xs h1 vs H1 ρ1 e1 r1 rs s1 q1 => ho.run X xr σ H1 ρ1 h1 xs vs r1 rs Q q1
  refine wpAny_Call_Name_kw (ld_blt I (xr.gl x hg).1 (by rw [xr.mg]; exact hb.1) hb.2 ?_ (xr.gl x hg).2.2 (xr.gl x hg).2.1)
  exact PyProof.Rows.callWith_type1 (thn (z.run pos pins s I) fun us s1 ⟨vs, H1, I1, r1, q1⟩ => q1.run pins s1 us I1 r1) (star_cons he) (hpl _)
/-! ### instances -/
def instOf (x : A) (h : Hs) : Option (Nat × List A) := match x with
  | .ins c xs => some (c, xs)
  | .ref n => (match h[n]? with | some (.ins c xs) => some (c, xs) | _ => none)
  | _ => none
theorem inst_ok (hr : HR G H ρ h) {x : A} {v : V} {c : Nat} {xs : List A} (r : RA G H ρ x v) (e : instOf x h = some (c, xs)) : ∃ a dx vs, v = .ref a ∧ H a = some (.ins (G.cad c) dx vs) ∧ RFs G H ρ c xs vs := by
  unfold instOf at e
  cases r with
  | ins h1 nl l l' r => cases e; exact ⟨_, _, _, rfl, h1, l, l', r⟩
  | ref hn hr' =>
    dsimp only at e
    split at e
    · cases e
      rename_i q
      obtain ⟨a, e1, e2, dx, vs, e3, e4⟩ := hr.look (.ref hn hr') q (fun z => by cases z)
      exact ⟨a, dx, vs, e1, e3, e4⟩
    · cases e
  | _ => cases e
/-- what a class has under a name -/
inductive At where
  | fld (i : Nat) | con (a : A) | prp (f : F) | no
/-- a class: its facts -/
structure ClsR (G : Gc) (c : Nat) : Prop where
  cl : Cls G.K (G.cad c)
  nd : (G.cfs c).Nodup
theorem fld_get {c : Nat} {xs : List A} {vs : List (Str × V)} {i : Nat} {x : A} {f : Str} (nd : (G.cfs c).Nodup) (rf : RFs G H ρ c xs vs) (hi : xs[i]? = some x) (hf : (G.cfs c)[i]? = some f) : ∃ v, vs.lookup f = some v ∧ RA G H ρ x v := by
  obtain ⟨l, l', r⟩ := rf
  have hlt : i < xs.length := by
    by_cases hi' : i < xs.length
    · exact hi'
    · rw [List.getElem?_eq_none (by omega)] at hi; cases hi
  have hv : i < vs.length := by omega
  have e := congrArg (fun z => z[i]?) l
  rw [List.getElem?_map, List.getElem?_eq_getElem hv, List.getElem?_take_of_lt hlt, hf] at e
  have e' : vs[i].1 = f := Option.some.inj e
  have nv : (vs.map (·.1)).Nodup := by rw [l]; exact nd.sublist (List.take_sublist _ _)
  refine ⟨vs[i].2, ?_, r i x vs[i].1 vs[i].2 hi (by rw [List.getElem?_eq_getElem hv])⟩
  clear r l hi hf e nd l'
  induction vs generalizing i xs with
  | nil => simp at hv
  | cons p vs ih =>
    cases i with
    | zero =>
      simp only [List.getElem_cons_zero] at e' ⊢
      obtain ⟨k, v⟩ := p
      cases e'
      exact lk_here
    | succ i =>
      simp only [List.getElem_cons_succ] at e' ⊢
      simp only [List.length_cons] at hv
      rw [List.map_cons, List.nodup_cons] at nv
      obtain ⟨k, v⟩ := p
      have nk : f ≠ k := fun z => nv.1 (by rw [← z, ← e']; exact List.mem_map.mpr ⟨vs[i], List.getElem_mem _, rfl⟩)
      exact lk_there nk (ih (xs := List.replicate (i + 1) .non) (by simp) (by omega) e' nv.2)
theorem fld_none {c : Nat} {xs : List A} {vs : List (Str × V)} {f : Str} (rf : RFs G H ρ c xs vs) (hf : f ∉ G.cfs c) : vs.lookup f = none := by
  have hm : f ∉ vs.map (·.1) := fun z => hf (List.mem_of_mem_take (by rw [rf.1] at z; exact z))
  clear rf
  induction vs with
  | nil => rfl
  | cons p vs ih =>
    obtain ⟨k, v⟩ := p
    simp only [List.map_cons, List.mem_cons, not_or] at hm
    exact lkn_there hm.1 (ih hm.2)
/-- a method, by the class of its object -/
structure MtC (G : Gc) (m : Str) (j : Nat) (c n : Nat) (f : F) : Prop where
  cr : ClsR G c
  ar : Ar n f
  no : m ∉ G.cfs c
  ex : ∃ (fa : Addr) (fd : FuncData) (ps : List Str), FnOk G.P G.w G.K G.mg G.base (L2.CX G.P G.w) j fa fd ps (spF G n f) ∧ Meth G.K (G.cad c) m fa ∧ Binds G.K fd ps []
abbrev Mt := Nat → Option F
def MtOk (G : Gc) (m : Str) (j : Nat) (mt : Mt) : Prop := ∀ c f, mt c = some f → ∃ n, MtC G m j c n f
def eM (mt : Mt) (fa : FE) (fs : FA) : FE := fun sl h => (fa sl h).bind fun x h1 => need (instOf x h1) fun p => need (mt p.1) fun f => (fs sl h1).bind fun xs h2 => f (x :: xs) h2
theorem de_meth {m : Str} {j : Nat} {mt : Mt} (D : MtOk G m j mt) (hj : j ≤ L.k) (ho : DE G L o fa) (ha : DA G L (e :: es) fs) {pl : Env → Sem Bool} (he : NoSt e = true := by rfl) (hpl : ∀ env, (backTo pos (starEach es env)).any (·.1) = false := by intro _; rfl)
    (ht : ∀ env, eval (.Call (.Attribute o m apos) (e :: es) [] pos) env = (do
      let ov ← eval o env
      standAt apos.atName
      let (f, first) ← holding [ov] (getMethod ov m (pl env))
      callWith pos f first (backTo pos (starEach (e :: es) env)) (backToKw pos (keywordEach [] env))) := by intro _; rfl) (hc : L.cm = true := by rfl) :
    DE G L (.Call (.Attribute o m apos) (e :: es) [] pos) (eM mt fa fs) := by
  refine ⟨fun X xr σ H ρ sl h sr hh Q q => ⟨fun pins s I => ?_⟩⟩
  have z : E X o σ H fun v H1 => ∃ c a dx vs n f, v = .ref a ∧ H1 a = some (.ins (G.cad c) dx vs) ∧ vs.lookup m = none ∧ MtC G m j c n f ∧ As X (e :: es) σ H1 fun us H2 => spF G n f (.ref a :: us) H2 Q (WE L.W σ) :=
    DE.bind ho xr sr hh q fun x h1 v H1 ρ1 e1 r1 ra s1 q1 => by
      obtain ⟨⟨c, ys⟩, e1, q1⟩ := need_ok q1
      obtain ⟨f, e2, q1⟩ := need_ok q1
      obtain ⟨n, M⟩ := D c f e2
      obtain ⟨a, dx, vs, rfl, e3, e4⟩ := inst_ok r1 ra e1
      exact ⟨c, a, dx, vs, n, f, rfl, e3, fld_none e4 M.no, M, DA.bind ha xr s1 r1 q1 fun xs h2 us H2 ρ2 e5 r2 rs s2 q2 => sp_of M.ar r2 (.cons (ra.mono e5) rs) q2⟩
  refine PySem.W.methodCall_KW (pl := pl X.env) (thn (z.run pins s I) fun u s1 ⟨x, H1, I1, rx, c, a, dx, vs, n, f, ex, ea, l, M, q⟩ => ?_) (ht _)
  subst ex
  obtain rfl : u = Value.ref a := rx
  obtain ⟨fa', fd, ps, Fn, hm, b⟩ := M.ex
  have hm' : Meth X.K (G.cad c) m fa' := by rw [xr.K]; exact hm
  refine getmeth_ok I1 ea (by rw [xr.K]; exact M.cr.cl) hm' l ?_
  refine PySem.W.callWith_K (first := [.ref a]) (h₀ := X.base) I.ok.mod.kin hm'.kp (thn (q.run pos pins s1 I1) fun us s2 ⟨ws, H2, I2, r, q2⟩ => ⟨I2.kIn, ?_⟩) (star_cons he) (hpl _)
  exact run_fnS (E := WE L.W) (us := .ref a :: us) (vs := .ref a :: ws) (xr.fn Fn) ((xr.room hc).mono hj) xr.gd (by rw [xr.K]; exact b) (xr.pass σ) I2 (.cons rfl r) q2
def eM0 (mt : Mt) (fa : FE) : FE := fun sl h => (fa sl h).bind fun x h1 => need (instOf x h1) fun p => need (mt p.1) fun f => f [x] h1
theorem de_meth0 {m : Str} {j : Nat} {mt : Mt} (D : MtOk G m j mt) (hj : j ≤ L.k) (ho : DE G L o fa) {pl : Env → Sem Bool}
    (ht : ∀ env, eval (.Call (.Attribute o m apos) [] [] pos) env = (do
      let ov ← eval o env
      standAt apos.atName
      let (f, first) ← holding [ov] (getMethod ov m (pl env))
      callWith pos f first (backTo pos (starEach [] env)) (backToKw pos (keywordEach [] env))) := by intro _; rfl) (hc : L.cm = true := by rfl) :
    DE G L (.Call (.Attribute o m apos) [] [] pos) (eM0 mt fa) := by
  refine ⟨fun X xr σ H ρ sl h sr hh Q q => ⟨fun pins s I => ?_⟩⟩
  have z : E X o σ H fun v H1 => ∃ c a dx vs n f, v = .ref a ∧ H1 a = some (.ins (G.cad c) dx vs) ∧ vs.lookup m = none ∧ MtC G m j c n f ∧ spF G n f [.ref a] H1 Q (WE L.W σ) :=
    DE.bind ho xr sr hh q fun x h1 v H1 ρ1 e1 r1 ra s1 q1 => by
      obtain ⟨⟨c, ys⟩, e1, q1⟩ := need_ok q1
      obtain ⟨f, e2, q1⟩ := need_ok q1
      obtain ⟨n, M⟩ := D c f e2
      obtain ⟨a, dx, vs, rfl, e3, e4⟩ := inst_ok r1 ra e1
      exact ⟨c, a, dx, vs, n, f, rfl, e3, fld_none e4 M.no, M, sp_of M.ar r1 (.cons ra .nil) q1⟩
  refine PySem.W.methodCall_KW (pl := pl X.env) (thn (z.run pins s I) fun u s1 ⟨x, H1, I1, rx, c, a, dx, vs, n, f, ex, ea, l, M, q⟩ => ?_) (ht _)
  subst ex
  obtain rfl : u = Value.ref a := rx
  obtain ⟨fa', fd, ps, Fn, hm, b⟩ := M.ex
  have hm' : Meth X.K (G.cad c) m fa' := by rw [xr.K]; exact hm
  refine getmeth_ok I1 ea (by rw [xr.K]; exact M.cr.cl) hm' l ?_
  exact PySem.W.callWith_K0 (first := [.ref a]) I1.kIn hm'.kp (run_fnS (E := WE L.W) (us := [.ref a]) (vs := [.ref a]) (xr.fn Fn) ((xr.room hc).mono hj) xr.gd (by rw [xr.K]; exact b) (xr.pass σ) I1 (.cons rfl .nil) q)
/-! ### fields, constants of the class, properties -/
structure PrC (G : Gc) (m : Str) (j : Nat) (c : Nat) (f : F) : Prop where
  ar : Ar 1 f
  ex : ∃ (pa fa : Addr) (fd : FuncData) (ps : List Str), FnOk G.P G.w G.K G.mg G.base (L2.CX G.P G.w) j fa fd ps (spF G 1 f) ∧ PropOf G.K (G.cad c) m pa fa ∧ Binds G.K fd ps []
theorem getprop_okG {X : Cx} {CX : CXT} {k : Nat} {C p g a dx : Addr} {fs : List (Str × V)} {f : Str} {fd : FuncData} {ps : List Str} {sp : Sp} {E : XK} {pins : List (Addr × Obj)} {σ : St} {H : Hp} {s : Shared} {Q : VK} {b : Bool} {E' : Value → Shared → Prop} (I : L2.Inv X pins σ H s) (ea : H a = some (.ins C dx fs)) (c : Cls X.K C)
    (hp : PropOf X.K C f p g) (F : FnOk X.prog X.w X.K X.mg X.base CX k g fd ps sp) (hr : Room (k + 1) X.A) (gd : X.A.guards = some []) (hb : Binds X.K fd ps []) (hx : Passes CX X.nox E) (h : sp [.ref a] H Q E) : wpAny (model X.prog X.w) X.A (getAttr (.ref a) f b) (EP X pins σ Q) E' s := by
  obtain ⟨mA, O, _⟩ := ins_get I.hok ea
  obtain ⟨od, J, _⟩ := O.look
  obtain ⟨rest, hrec⟩ := hp.rec_
  have I1 := I.tok (s.toks + 1)
  have lu : [Value.ref a].length = ps.length := (F.len _ _ _ _ h : [V.ref a].length = ps.length)
  have bb := hb { s with toks := s.toks + 1 } [.ref a] I1.kIn (by simpa using lu)
  simp only [List.append_nil] at bb
  obtain ⟨cd, hc, _⟩ := PySem.W.any_some c.hd
  refine PySem.W.get_bind I.kIn J (PySem.W.plainGet_of (c.get f)).1 (PySem.W.findObj_data (by rw [hc]; rfl) hp.at_ hp.get hp.tak) (PySem.W.plainGet_of (c.get f)).2 (wpAny_call (PySem.W.prop_get (s := { s with toks := s.toks + 1 }) I.kIn hrec
    (codeAny_mono (F.run X.A.in1 X.stack { s with toks := s.toks + 1 } H ⟨[.ref a], []⟩ [.ref a] [.ref a] Q E hr.in1 gd I1.env0.in1 bb (.cons rfl .nil) h) fun r s' hq => ?_)))
  match r, hq with
  | .error er, hq => exact False.elim (hx pins σ H { s with toks := s.toks + 1 } er s' (I1.wish _) hq)
  | .ok (.ret u), hq =>
    obtain ⟨v, H', I3, rv, q3⟩ := I1.after hq
    show wpAny _ _ (handedOut u) _ _ _
    rw [PySem.W.handedOut_of (handed_of rv)]
    exact wpAny_pure ⟨v, H', I3, rv, q3⟩
  | .ok .next, hq => exact False.elim hq
  | .ok .brk, hq => exact False.elim hq
  | .ok .cont, hq => exact False.elim hq
def AtC (G : Gc) (m : Str) (j c : Nat) : At → Prop
  | .fld i => ClsR G c ∧ (G.cfs c)[i]? = some m ∧ NoAttr G.K (G.cad c) m
  | .con a => ClsR G c ∧ m ∉ G.cfs c ∧ ∃ v u, Con G.K (G.cad c) m v u ∧ ∀ H ρ, RA G H ρ a v
  | .prp f => ClsR G c ∧ PrC G m j c f
  | .no => True
def AtOk (G : Gc) (m : Str) (j : Nat) (att : Nat → At) : Prop := ∀ c, AtC G m j c (att c)
def getAt (att : Nat → At) (x : A) (h : Hs) : Out A := need (instOf x h) fun p => match att p.1 with
  | .fld i => need p.2[i]? fun y => .ok y h
  | .con a => .ok a h
  | .prp f => (match f [x] h with | .ok y h1 => .ok y h1 | _ => .bad)
  | .no => .bad
def eAt (att : Nat → At) (fa : FE) : FE := fun sl h => (fa sl h).bind (getAt att)
theorem de_att {m : Str} {j : Nat} {att : Nat → At} (D : AtOk G m j att) (hj : j + 1 ≤ L.k) (ho : DE G L e fa) (hb : ∀ env, attributeBase e m env (eval e env) = eval e env := by intro _; rfl) (hc : L.cm = true := by rfl) : DE G L (.Attribute e m pos) (eAt att fa) := by
  refine ⟨fun X xr σ H ρ sl h sr hh Q q => ⟨fun pins s I => ?_⟩⟩
  have z : E X e σ H fun v H1 => ∃ a, v = .ref a ∧ ∀ pins s, Inv X pins σ H1 s → wpAny (model X.prog X.w) X.A (getAttr (.ref a) m true) (EP X pins σ Q) X.xe s := by
    refine DE.bind ho xr sr hh q fun x h1 v H1 ρ1 e1 r1 ra s1 q1 => ?_
    obtain ⟨⟨c, ys⟩, e1, q1⟩ := need_ok q1
    obtain ⟨a, dx, vs, rfl, e3, e4⟩ := inst_ok r1 ra e1
    refine ⟨a, rfl, fun pins s I => ?_⟩
    have dc := D c
    revert q1 dc
    dsimp only
    cases att c with
    | no => exact fun q1 => q1.elim
    | fld i =>
      rintro q1 ⟨cr, hf, na⟩
      obtain ⟨y, hy, q1⟩ := need_ok q1
      obtain ⟨w', l, rw'⟩ := fld_get cr.nd e4 hy hf
      exact getattr_ok I e3 (by rw [xr.K]; exact cr.cl) (by rw [xr.K]; exact na) l fun u' s2 I2 ru => ⟨w', H1, I2, ru, q1 H1 ρ1 .refl r1 w' rw'⟩
    | con a' =>
      rintro q1 ⟨cr, hf, w', u0, k, rw'⟩
      have k' : Con X.K (G.cad c) m w' u0 := by rw [xr.K]; exact k
      exact getcon_ok I e3 (by rw [xr.K]; exact cr.cl) k' (fld_none e4 hf) fun s2 I2 => ⟨w', H1, I2, k'.rel, q1 H1 ρ1 .refl r1 w' (rw' H1 ρ1)⟩
    | prp f =>
      rintro q1 ⟨cr, pr⟩
      dsimp only at q1
      obtain ⟨pa', fa', fd, ps, Fn, hp, b⟩ := pr.ex
      cases hm : f [x] h1 with
      | ok y h2 =>
        rw [hm] at q1
        have q2 : Po G (fun _ _ _ _ => False) ([] : St) H1 ρ1 (RQ G Q) (f [x] h1) := by rw [hm]; exact q1
        refine getprop_okG (E := fun _ _ _ => False) I e3 (by rw [xr.K]; exact cr.cl) (by rw [xr.K]; exact hp) (xr.fn Fn) ((xr.room hc).mono hj) xr.gd (by rw [xr.K]; exact b) (passes_call (W := fun _ _ _ _ => False) (fun _ _ z => ?_) fun _ _ _ _ z => z) ?_
        · obtain ⟨_, _, _, _, _, _, _, _, _, _, _, _, _, _, _, _, z⟩ := z
          exact z.elim
        · exact ⟨rfl, [x], ρ1, h1, .cons ra .nil, r1, q2⟩
      | ex y h2 => rw [hm] at q1; exact q1.elim
      | bad => rw [hm] at q1; exact q1.elim
  exact attr_of (hb _) (thn (z.run pins s I) fun u s1 ⟨x, H1, I1, rx, a, ex, q⟩ => by
    subst ex
    obtain rfl : u = Value.ref a := rx
    exact q pins s1 I1)
/-! ### subscripts -/
theorem de_sub {g : A → A → Hs → Out A} (ho : OpX G L g) (ha : DE G L a fa) (hb : DE G L b fb) (hs : PlainIx b := by intro _ _; rfl) : DE G L (.Subscript a b pos) (e2 fa fb g) := by
  refine ⟨fun X xr σ H ρ sl h sr hh Q q => ?_⟩
  have z := two ha hb xr sr hh q (Q2 := fun v u H2 => Xv X σ a b v u H2 Q) fun x y h2 v u H2 ρ2 r2 s2 ra rb q2 => ho.run X xr σ H2 ρ2 h2 x y v u a b hs r2 ra rb Q q2
  exact ⟨fun pins s I => PyProof.Rows.Subscript_ (binT pe pe I z fun v u s2 x y H2 I2 rx ry q => q.run pins s2 v u I2 rx ry)⟩
end
end Rx
set_option Elab.async false
set_option linter.all false
set_option maxRecDepth 100000
set_option maxHeartbeats 4000000
/-! RxS: statements, targets, loops, comprehensions, new instances. -/
namespace Rx
open PySem L2 Sx
open PyProof.Rows (subscriptTail)
section
variable {G : Gc} {L : Wh} {X : Cx} {σ : St} {H : Hp} {ρ : Rho} {sl : Sl} {h : Hs} {a b c e o tg iter : Expr} {es rest : List Expr} {fa fb fc : FE} {ft fu : FT} {fs : FA} {pos p apos pos' : Pos} {Q : VK} {st : Stmt} {sts bd el : List Stmt} {f g : FS} {nx bk ct : St → Hp → Prop} {rt : VK}
/-! ### blocks -/
def sNx : FS := fun sl h => .nx sl h
def sSeq (f g : FS) : FS := fun sl h => (f sl h).bind g
theorem dss_nil : DSs G L [] sNx := ⟨fun X xr σ H ρ sl h sr hh nx rt bk ct q => ss_nil (q σ H ρ .refl hh sr)⟩
theorem dss_one (hs : DS G L st f) : DSs G L [st] f := ⟨fun X xr σ H ρ sl h sr hh nx rt bk ct q => ss_one (hs.run X xr σ H ρ sl h sr hh nx rt bk ct q)⟩
theorem DS.bind (hs : DS G L st f) (xr : Xr G X L) (sr : SR G H ρ sl σ) (hr : HR G H ρ h) {k : FS} {nx' : St → Hp → Prop} (q : PoS G L.W H ρ nx rt bk ct ((f sl h).bind k))
    (cc : ∀ sl1 h1 σ1 H1 ρ1, Ext H ρ H1 ρ1 → HR G H1 ρ1 h1 → SR G H1 ρ1 sl1 σ1 → PoS G L.W H1 ρ1 nx rt bk ct (k sl1 h1) → nx' σ1 H1) : S X st nx' rt bk ct σ H := by
  refine hs.run X xr σ H ρ sl h sr hr nx' rt bk ct ?_
  cases hm : f sl h with
  | nx sl1 h1 => rw [hm] at q; exact fun σ1 H1 ρ1 e1 r1 s1 => cc sl1 h1 σ1 H1 ρ1 e1 r1 s1 (PoS.at1 (m := k sl1 h1) q e1)
  | rt a h1 => rw [hm] at q; exact q
  | bk sl1 h1 => rw [hm] at q; exact q
  | ct sl1 h1 => rw [hm] at q; exact q
  | ex x sl1 h1 => rw [hm] at q; exact q
  | bad => rw [hm] at q; exact q
theorem dss_cons (hs : DS G L st f) (ht : DSs G L sts g) : DSs G L (st :: sts) (sSeq f g) :=
  ⟨fun X xr σ H ρ sl h sr hh nx rt bk ct q => ss_cons (DS.bind hs xr sr hh q fun sl1 h1 σ1 H1 ρ1 e1 r1 s1 q1 => ht.run X xr σ1 H1 ρ1 sl1 h1 s1 r1 nx rt bk ct q1)⟩
/-! ### plain statements -/
def sExpr (fa : FE) : FS := fun sl h => (fa sl h).bindS sl fun _ h1 => .nx sl h1
def sRet (fa : FE) : FS := fun sl h => (fa sl h).bindS sl fun a h1 => .rt a h1
def sRetN : FS := fun _ h => .rt .non h
def sIf (ft : FT) (f g : FS) : FS := fun sl h => (ft sl h).bindS sl fun b h1 => match b with | true => f sl h1 | false => g sl h1
def sSet (i : Nat) (fa : FE) : FS := fun sl h => (fa sl h).bindS sl fun a h1 => .nx (sl.set i (some a)) h1
def sBk : FS := fun sl h => .bk sl h
def sCt : FS := fun sl h => .ct sl h
theorem ds_expr (ha : DE G L e fa) (hs : ∀ env, swapsWith e none pos.line env = pure false := by intro _; rfl) : DS G L (.Expr e pos) (sExpr fa) :=
  ⟨fun X xr σ H ρ sl h sr hh nx rt bk ct q => s_expr (DE.bindS ha xr sr hh q fun x h1 v H1 ρ1 e1 r1 ra s1 q1 => q1 σ H1 ρ1 .refl r1 s1) (hs _)⟩
theorem ds_ret (ha : DE G L e fa) : DS G L (.Return (some e) pos) (sRet fa) :=
  ⟨fun X xr σ H ρ sl h sr hh nx rt bk ct q => s_ret (DE.bindS ha xr sr hh q fun x h1 v H1 ρ1 e1 r1 ra s1 q1 => q1 v H1 ρ1 .refl r1 ra)⟩
theorem ds_retN : DS G L (.Return none pos) sRetN := ⟨fun X xr σ H ρ sl h sr hh nx rt bk ct q => s_retN (q _ H ρ .refl hh .non)⟩
theorem ds_pass : DS G L (.Pass pos) sNx := ⟨fun X xr σ H ρ sl h sr hh nx rt bk ct q => s_pass (q σ H ρ .refl hh sr)⟩
theorem ds_bk : DS G L (.Break pos) sBk := ⟨fun X xr σ H ρ sl h sr hh nx rt bk ct q => .of ps_break (q σ H ρ .refl hh sr)⟩
theorem ds_ct : DS G L (.Continue pos) sCt := ⟨fun X xr σ H ρ sl h sr hh nx rt bk ct q => .of ps_continue (q σ H ρ .refl hh sr)⟩
theorem ds_if (hc : DT G L c ft) (ha : DSs G L bd f) (hb : DSs G L el g) : DS G L (.If c bd el pos) (sIf ft f g) :=
  ⟨fun X xr σ H ρ sl h sr hh nx rt bk ct q => s_if (DT.bindS hc xr sr hh q fun x h1 H1 ρ1 e1 r1 s1 q1 => by
    cases x with
    | true => exact br_t (ha.run X xr σ H1 ρ1 sl h1 s1 r1 nx rt bk ct q1)
    | false => exact br_f (hb.run X xr σ H1 ρ1 sl h1 s1 r1 nx rt bk ct q1))⟩
theorem ds_set (i : Nat) {x : Str} (ha : DE G L e fa) (hs : ∀ env, swapsWith e (some (.Name x pos')) pos.line env = pure false := by intro _; rfl) (hi : L.N[i]? = some x := by rfl) (hw : L.wr.contains i = true := by rfl) : DS G L (.Assign [.Name x pos'] e pos) (sSet i fa) := by
  refine ⟨fun X xr σ H ρ sl h sr hh nx rt bk ct q => ?_⟩
  have z := xr.wrv i (by simpa using hw) x hi
  refine .of (L2.ps_set (i := i) (by rw [xr.n]; exact xr.nd) (by rw [xr.n]; exact hi) z.1 pe (hs _) z.2) ?_
  exact DE.bindS ha xr sr hh q fun x h1 v H1 ρ1 e1 r1 ra s1 q1 => q1 _ H1 ρ1 .refl r1 (s1.set ra i)
/-! ### targets; ws: the slots that may be written -/
def Off (ws : List Nat) (σ σ' : St) : Prop := σ'.length = σ.length ∧ ∀ i : Nat, ws.contains i = false → σ'[i]? = σ[i]?
theorem Off.refl {ws : List Nat} : Off ws σ σ := ⟨rfl, fun _ _ => rfl⟩
theorem Off.trans {ws : List Nat} {σ1 σ2 : St} (x : Off ws σ σ1) (y : Off ws σ1 σ2) : Off ws σ σ2 := ⟨y.1.trans x.1, fun i hi => (y.2 i hi).trans (x.2 i hi)⟩
structure DGw (G : Gc) (L : Wh) (ws : List Nat) (tg : Expr) (f : FG) : Prop where
  run : ∀ X, Xr G X L → ∀ σ H ρ sl h a v, SR G H ρ sl σ → HR G H ρ h → RA G H ρ a v → ∀ Q, PoG G L.W H ρ Q (f a sl h) → Sx.G X tg v σ H fun σ' H' => Off ws σ σ' ∧ Q σ' H'
structure DGsw (G : Gc) (L : Wh) (ws : List Nat) (ts : List Expr) (f : List A → Sl → Hs → OutS) : Prop where
  run : ∀ X, Xr G X L → ∀ σ H ρ sl h as vs, SR G H ρ sl σ → HR G H ρ h → RAs G H ρ as vs → ∀ Q, PoG G L.W H ρ Q (f as sl h) → Sx.Gs X ts vs σ H fun σ' H' => Off ws σ σ' ∧ Q σ' H'
def gName (i : Nat) : FG := fun a sl h => .nx (sl.set i (some a)) h
def gsNil : List A → Sl → Hs → OutS := fun as sl h => match as with | [] => .nx sl h | _ => .bad
def gsCons (g : FG) (gs : List A → Sl → Hs → OutS) : List A → Sl → Hs → OutS := fun as sl h => match as with | a :: r => (g a sl h).bind (gs r) | [] => .bad
def gTup (n : Nat) (gs : List A → Sl → Hs → OutS) : FG := fun a sl h => match a with | .tup xs => (match Nat.beq xs.length n with | true => gs xs sl h | false => .bad) | _ => .bad
variable {ws : List Nat} {g1 : FG} {gs : List A → Sl → Hs → OutS} {ts : List Expr}
theorem dg_name (i : Nat) {x : Str} (hi : L.N[i]? = some x := by rfl) (hw : L.wr.contains i = true := by rfl) (hm : ws.contains i = true := by rfl) : DGw G L ws (.Name x pos) (gName i) := by
  refine ⟨fun X xr σ H ρ sl h a v sr hh ra Q q => ?_⟩
  have z := xr.wrv i (by simpa using hw) x hi
  refine .of (pg_name (i := i) (by rw [xr.n]; exact xr.nd) (by rw [xr.n]; exact hi) z.1 z.2) ⟨⟨by simp, fun j hj => ?_⟩, q _ H ρ .refl hh (sr.set ra i)⟩
  rw [List.getElem?_set_ne fun e => by rw [← e, hm] at hj; cases hj]
theorem sxG_mono {v : V} {Q Q' : St → Hp → Prop} (x : Sx.G X tg v σ H Q) (i : ∀ σ H, Q σ H → Q' σ H) : Sx.G X tg v σ H Q' := ⟨fun pins s u I r => wpAny_mono (x.run pins s u I r) (fun _ _ ⟨σ', H', I', q⟩ => ⟨σ', H', I', i _ _ q⟩) fun _ _ z => z⟩
theorem sxGs_mono {vs : List V} {Q Q' : St → Hp → Prop} (x : Sx.Gs X ts vs σ H Q) (i : ∀ σ H, Q σ H → Q' σ H) : Sx.Gs X ts vs σ H Q' := ⟨fun pins s u I r => wpAny_mono (x.run pins s u I r) (fun _ _ ⟨σ', H', I', q⟩ => ⟨σ', H', I', i _ _ q⟩) fun _ _ z => z⟩
theorem dgs_nil : DGsw G L ws [] gsNil := ⟨fun X xr σ H ρ sl h as vs sr hh ra Q q => by
  cases as with
  | nil => rw [ra.unnil]; exact gs_nil ⟨.refl, q σ H ρ .refl hh sr⟩
  | cons _ _ => exact q.elim⟩
theorem PoG.bind {f : OutS} {k : FS} {Q : St → Hp → Prop} (q : PoG G L.W H ρ Q (f.bind k)) : PoG G L.W H ρ (fun σ1 H1 => ∃ sl1 h1 ρ1, Ext H ρ H1 ρ1 ∧ HR G H1 ρ1 h1 ∧ SR G H1 ρ1 sl1 σ1 ∧ PoG G L.W H1 ρ1 Q (k sl1 h1)) f := by
  cases f with
  | nx sl1 h1 => exact fun σ1 H1 ρ1 e1 r1 s1 => ⟨sl1, h1, ρ1, e1, r1, s1, PoS.at1 (m := k sl1 h1) q e1⟩
  | rt a h1 => exact q
  | bk sl1 h1 => exact q
  | ct sl1 h1 => exact q
  | ex x sl1 h1 => exact q
  | bad => exact q
theorem dgs_cons (hg : DGw G L ws e g1) (hs : DGsw G L ws es gs) (ha : ∀ env, (assignEach (e :: es) env).map (·.2) = assign e env :: (assignEach es env).map (·.2) := by intro _; rfl) : DGsw G L ws (e :: es) (gsCons g1 gs) := ⟨fun X xr σ H ρ sl h as vs sr hh ra Q q => by
  cases as with
  | nil => exact q.elim
  | cons x r =>
    obtain ⟨v, us, rfl, rv, rs⟩ := ra.uncons
    refine gs_cons ?_ (ha _)
    refine sxG_mono (hg.run X xr σ H ρ sl h x v sr hh rv _ (PoG.bind q)) ?_
    rintro σ1 H1 ⟨o1, sl1, h1, ρ1, e1, r1, s1, q1⟩
    exact sxGs_mono (hs.run X xr σ1 H1 ρ1 sl1 h1 r us s1 r1 (rs.mono e1) Q q1) fun σ2 H2 ⟨o2, q2⟩ => ⟨o1.trans o2, q2⟩⟩
theorem dg_tup {j n : Nat} (hs : DGsw G L ws es gs) (hn : ∀ env, (assignEach es env).length = n := by intro _; rfl) (hst : ∀ env, (assignEach es env).findIdx? (·.1) = none := by intro _; rfl) (hc : L.cm = true := by rfl) : DGw G L ws (.Tuple es j pos) (gTup n gs) := by
  refine ⟨fun X xr σ H ρ sl h a v sr hh ra Q q => ?_⟩
  cases ra <;> try exact q.elim
  rename_i xs ad vs hq l r
  unfold gTup at q
  dsimp only at q
  cases hb : Nat.beq xs.length n with
  | false => rw [hb] at q; exact q.elim
  | true =>
    rw [hb] at q
    refine .of (pg_tup (xr.calm hc) pgs (hn _) (hst _)) ⟨_, vs, rfl, by rw [xr.K]; exact .inl (.inl hq), by rw [← l]; exact Nat.eq_of_beq_eq_true hb, ?_⟩
    exact hs.run X xr σ H ρ sl h xs vs sr hh ⟨l, r⟩ Q q
/-- o[i] as a target -/
def gSub (fo fi : FE) (g : A → A → A → Hs → Out Unit) : FG := fun a sl h => (fo sl h).bindS sl fun o h1 => (fi sl h1).bindS sl fun i h2 => (g o i a h2).bindS sl fun _ h3 => .nx sl h3
theorem dg_sub {fo fi : FE} {i : Expr} {g : A → A → A → Hs → Out Unit} (hg : OpS G L g) (ho : DE G L o fo) (hi : DE G L i fi)
    (ha : ∀ env v, assign (.Subscript o i pos) env v = (do
      let ov ← holding [v] (eval o env)
      let iv ← holding [v, ov] (eval i env)
      standAt pos
      holding [v, ov, iv] (setItem ov iv v)
      release [v, ov, iv] []) := by intro _ _; rfl) : DGw G L ws (.Subscript o i pos) (gSub fo fi g) := by
  refine ⟨fun X xr σ H ρ sl h a v sr hh ra Q q => ?_⟩
  have z : E X o σ H fun ov H1 => E X i σ H1 fun iv H2 => Sv X σ ov iv v H2 fun H3 => Off ws σ σ ∧ Q σ H3 := by
    refine DE.bindS ho xr sr hh q fun x h1 v1 H1 ρ1 e1 r1 ra1 s1 q1 => DE.bindS hi xr s1 r1 q1 fun y h2 v2 H2 ρ2 e2 r2 ra2 s2 q2 => ?_
    refine hg.run X xr σ H2 ρ2 h2 x y a v1 v2 v r2 (ra1.mono e2) ra2 (ra.mono (e1.trans e2)) _ ?_
    cases hm : g x y a h2 with
    | ok u h3 => rw [hm] at q2; exact fun H3 ρ3 e3 r3 => ⟨.refl, q2 σ H3 ρ3 e3 r3 (s2.mono e3)⟩
    | ex u h3 => rw [hm] at q2; exact fun c d H3 ρ3 e3 r3 rx => q2 c d σ H3 ρ3 e3 r3 (s2.mono e3) rx
    | bad => rw [hm] at q2; exact q2
  refine ⟨fun pins s u I rv => ?_⟩
  rw [ha]
  refine wpAny_bind (wpAny_holding (thn (z.run pins s I) fun ov s1 ⟨x, H1, I1, r1, q1⟩ => ?_))
  refine wpAny_bind (wpAny_holding (thn (q1.run pins s1 I1) fun iv s2 ⟨y, H2, I2, r2, q2⟩ => ?_))
  refine wpAny_bind (wpAny_standAt ?_)
  refine wpAny_bind (wpAny_holding (thn (q2.run pins s2 ov iv u I2 r1 r2 rv) fun _ s3 ⟨H3, I3, q3⟩ => ?_))
  exact wpAny_release ⟨σ, H3, I3, q3⟩
/-- target = e -/
def sAsg (fa : FE) (g : FG) : FS := fun sl h => (fa sl h).bindS sl fun a h1 => match g a sl h1 with
  | .nx sl2 h2 => .nx sl2 h2
  | .ex x sl2 h2 => .ex x sl2 h2
  | _ => .bad
theorem asg_ok {m : OutS} {R : St → Hp → Prop} (q : PoS G L.W H ρ nx rt bk ct (match m with
  | .nx sl2 h2 => .nx sl2 h2
  | .ex x sl2 h2 => .ex x sl2 h2
  | _ => .bad)) (i : ∀ σ H, nx σ H → R σ H) : PoG G L.W H ρ R m := by
  cases m with
  | nx sl2 h2 => exact fun σ' H' ρ' e r s => i _ _ (q σ' H' ρ' e r s)
  | ex x sl2 h2 => exact q
  | rt _ _ => exact q.elim
  | bk _ _ => exact q.elim
  | ct _ _ => exact q.elim
  | bad => exact q.elim
theorem ds_asg (ha : DE G L e fa) (hg : DGw G L ws tg g1) (hs : ∀ env, swapsWithSole [tg] e pos.line env = pure false := by intro _; rfl) (hw : ∀ env, swappedStores [tg] e env = pure none := by intro _; rfl)
    (h1 : ∀ env, (assignEach [tg] env).map (·.2) = [assign tg env] := by intro _; rfl) : DS G L (.Assign [tg] e pos) (sAsg fa g1) :=
  ⟨fun X xr σ H ρ sl h sr hh nx rt bk ct q => .of (ps_asg pe pg (hs _) (hw _) (h1 _)) (DE.bindS ha xr sr hh q fun x h1 v H1 ρ1 e1 r1 ra s1 q1 =>
    sxG_mono (hg.run X xr σ H1 ρ1 sl h1 x v s1 r1 ra _ (asg_ok q1 fun _ _ z => z)) fun _ _ z => z.2)⟩
theorem ds_asgP (ha : DE G L e fa) (hg : DGw G L ws tg g1) (hw : ∀ (q : Str) (Lo f : Addr) (cd : Value), swappedStores [tg] e (PyProof.Rows.envOfC q L.sc Lo f cd) = pure none := by intros; rfl) (hs : ∀ env, swapsWithSole [tg] e pos.line env = pure false := by intro _; rfl)
    (h1 : ∀ env, (assignEach [tg] env).map (·.2) = [assign tg env] := by intro _; rfl) (hf : L.fb = true := by rfl) : DS G L (.Assign [tg] e pos) (sAsg fa g1) :=
  ⟨fun X xr σ H ρ sl h sr hh nx rt bk ct q => by
    obtain ⟨qn, Lo, f, cd, ev⟩ := xr.ev hf
    exact .of (ps_asg pe pg (hs _) (by rw [ev]; exact hw _ _ _ _) (h1 _)) (DE.bindS ha xr sr hh q fun x h1 v H1 ρ1 e1 r1 ra s1 q1 =>
      sxG_mono (hg.run X xr σ H1 ρ1 sl h1 x v s1 r1 ra _ (asg_ok q1 fun _ _ z => z)) fun _ _ z => z.2)⟩
/-- a, b = e1, e2 with plain local names -/
def sPar (i j : Nat) (fa fb : FE) : FS := fun sl h => (fa sl h).bindS sl fun x h1 => (fb sl h1).bindS sl fun y h2 => .nx ((sl.set i (some x)).set j (some y)) h2
theorem ds_par (i j : Nat) {x y : Str} {px py pt pt2 : Pos} {kt k2 : Nat} (ha : DE G L a fa) (hb : DE G L b fb) (hw : ∀ (q : Str) (Lo f : Addr) (cd : Value), swappedStores [.Tuple [.Name x px, .Name y py] kt pt] (.Tuple [a, b] k2 pt2) (PyProof.Rows.envOfC q L.sc Lo f cd) = pure (some [x, y]))
    (lx : L.sc.names.lookup x = some .local) (ly : L.sc.names.lookup y = some .local) (hi : L.N[i]? = some x := by rfl) (hj : L.N[j]? = some y := by rfl) (hij : i ≠ j := by decide) (na : NoSt a = true := by rfl) (nb : NoSt b = true := by rfl)
    (hc : L.cm = true := by rfl) (hf : L.fb = true := by rfl) : DS G L (.Assign [.Tuple [.Name x px, .Name y py] kt pt] (.Tuple [a, b] k2 pt2) pos) (sPar i j fa fb) :=
  ⟨fun X xr σ H ρ sl h sr hh nx rt bk ct q => by
    obtain ⟨qn, Lo, f, cd, ev⟩ := xr.ev hf
    refine .of (ps_par (i := i) (j := j) (xr.calm hc) (by rw [xr.n]; exact xr.nd) (by rw [xr.n]; exact hi) (by rw [xr.n]; exact hj) hij (by rw [xr.scp]; exact lx) (by rw [xr.scp]; exact ly) pa (by rw [ev]; exact hw _ _ _ _) rfl) ?_
    exact as_cons (DE.bindS ha xr sr hh q fun x h1 v H1 ρ1 e1 r1 ra s1 q1 => as_cons (DE.bindS hb xr s1 r1 q1 fun y h2 u H2 ρ2 e2 r2 rb s2 q2 => as_nil ⟨v, u, rfl, q2 _ H2 ρ2 .refl r2 ((s2.set (ra.mono e2) i).set rb j)⟩) (star_cons nb)) (star_cons na)⟩
def sPar3 (i j l : Nat) (fa fb fc : FE) : FS := fun sl h => (fa sl h).bindS sl fun x h1 => (fb sl h1).bindS sl fun y h2 => (fc sl h2).bindS sl fun z h3 => .nx (((sl.set i (some x)).set j (some y)).set l (some z)) h3
theorem ds_par3 (i j l : Nat) {x y z : Str} {px py pz pt pt2 : Pos} {kt k2 : Nat} (ha : DE G L a fa) (hb : DE G L b fb) (hcc : DE G L c fc) (hw : ∀ (q : Str) (Lo f : Addr) (cd : Value), swappedStores [.Tuple [.Name x px, .Name y py, .Name z pz] kt pt] (.Tuple [a, b, c] k2 pt2) (PyProof.Rows.envOfC q L.sc Lo f cd) = pure (some [x, y, z]))
    (lx : L.sc.names.lookup x = some .local) (ly : L.sc.names.lookup y = some .local) (lz : L.sc.names.lookup z = some .local) (hi : L.N[i]? = some x := by rfl) (hj : L.N[j]? = some y := by rfl) (hl : L.N[l]? = some z := by rfl) (hij : i ≠ j := by decide) (hil : i ≠ l := by decide) (hjl : j ≠ l := by decide)
    (na : NoSt a = true := by rfl) (nb : NoSt b = true := by rfl) (nc : NoSt c = true := by rfl) (hc : L.cm = true := by rfl) (hf : L.fb = true := by rfl) : DS G L (.Assign [.Tuple [.Name x px, .Name y py, .Name z pz] kt pt] (.Tuple [a, b, c] k2 pt2) pos) (sPar3 i j l fa fb fc) :=
  ⟨fun X xr σ H ρ sl h sr hh nx rt bk ct q => by
    obtain ⟨qn, Lo, f, cd, ev⟩ := xr.ev hf
    refine .of (ps_par3 (i := i) (j := j) (l := l) (xr.calm hc) (by rw [xr.n]; exact xr.nd) (by rw [xr.n]; exact hi) (by rw [xr.n]; exact hj) (by rw [xr.n]; exact hl) hij hil hjl (by rw [xr.scp]; exact lx) (by rw [xr.scp]; exact ly) (by rw [xr.scp]; exact lz) pa (by rw [ev]; exact hw _ _ _ _) rfl) ?_
    exact as_cons (DE.bindS ha xr sr hh q fun x h1 v H1 ρ1 e1 r1 ra s1 q1 => as_cons (DE.bindS hb xr s1 r1 q1 fun y h2 u H2 ρ2 e2 r2 rb s2 q2 => as_cons (DE.bindS hcc xr s2 r2 q2 fun z h3 t H3 ρ3 e3 r3 rc s3 q3 =>
      as_nil ⟨v, u, t, rfl, q3 _ H3 ρ3 .refl r3 (((s3.set (ra.mono (e2.trans e3)) i).set (rb.mono e3) j).set rc l)⟩) (star_cons nc)) (star_cons nb)) (star_cons na)⟩
/-- x op= e at a name -/
def sAug (i : Nat) (fa : FE) (g : A → A → Hs → Out A) : FS := fun sl h => match sl[i]? with
  | some (some x) => (fa sl h).bindS sl fun y h1 => (g x y h1).bindS sl fun z h2 => .nx (sl.set i (some z)) h2
  | _ => .bad
theorem ds_aug (i : Nat) {x : Str} {op : Operator} {g : A → A → Hs → Out A} (ho : OpI G L op g) (ha : DE G L e fa) (hi : L.N[i]? = some x := by rfl) (hw : L.wr.contains i = true := by rfl) : DS G L (.AugAssign (.Name x pos') op e pos) (sAug i fa g) := by
  refine ⟨fun X xr σ H ρ sl h sr hh nx rt bk ct q => ⟨fun pins s I => ?_⟩⟩
  have z := xr.wrv i (by simpa using hw) x hi
  have hN : X.N.Nodup := by rw [xr.n]; exact xr.nd
  have hi' : X.N[i]? = some x := by rw [xr.n]; exact hi
  unfold sAug at q
  cases hs : sl[i]? with
  | none => rw [hs] at q; exact q.elim
  | some o =>
    cases o with
    | none => rw [hs] at q; exact q.elim
    | some av =>
      rw [hs] at q
      obtain ⟨v, e1, rv⟩ := sr.get i av hs
      obtain ⟨m, hn, hl⟩ := I.loc
      have vis : Vis X.env.scope x := by rcases z.1 with k | k; exact .inl k; exact .inr (.inl k)
      obtain ⟨u, r, l⟩ := hl i x v hi' e1 vis
      refine wpAny_AugAssign_Name ?_
      have w : E X e σ H fun y H1 => Iv X σ op v y H1 fun z H2 => nx (σ.set i (some z)) H2 := by
        refine DE.bindS ha xr sr hh q fun y h1 u1 H1 ρ1 e1 r1 ra s1 q1 => ?_
        refine ho.run X xr σ H1 ρ1 h1 av y v u1 r1 (rv.mono e1) ra _ ?_
        cases hm : g av y h1 with
        | ok z h2 => rw [hm] at q1; exact fun H2 ρ2 e2 r2 w rw' => q1 _ H2 ρ2 e2 r2 ((s1.mono e2).set rw' i)
        | ex z h2 => rw [hm] at q1; exact fun c d H2 ρ2 e2 r2 rx => q1 c d σ H2 ρ2 e2 r2 (s1.mono e2) rx
        | bad => rw [hm] at q1; exact q1
      have go : wpAny (model X.prog X.w) X.A (eval e X.env) (fun w s₂ => wpAny (model X.prog X.w) X.A (inplaceOp op u w) (fun r s₃ => wpAny (model X.prog X.w) X.A (storeName X.env x r) (fun _ => SP X pins ⟨nx, rt, bk, ct⟩ .next) X.xe s₃) X.xe s₂) X.xe s := by
        refine thn (w.run pins s I) fun w s1 ⟨y, H1, I1, r1, q1⟩ => ?_
        refine thn (q1.run pins s1 u w I1 r r1) fun z' s2 ⟨zv, H2, I2, r2, q2⟩ => ?_
        exact store_ok I2 hN hi' z.1 r2 (fun s3 I3 => ⟨_, H2, I3, q2⟩) z.2
      rcases l with ⟨hk, hm⟩ | ⟨hk, c, hc, hcell⟩
      · exact wpAny_loadName_local I.ok.kind hk hn hm go
      · rcases hk with hk | hk
        · exact wpAny_loadName_cell I.ok.kind hk hc hcell go
        · rcases z.1 with k | k
          · have : X.env.scope.names.lookup x = some .free := hk
            rw [k] at this; cases this
          · have : X.env.scope.names.lookup x = some .free := hk
            rw [k] at this; cases this
end
end Rx
set_option Elab.async false
set_option linter.all false
set_option maxRecDepth 100000
set_option maxHeartbeats 4000000
/-! RxL: fields stored, what is walked, for, while, comprehensions, new instances, what stands still from now on. -/
namespace Rx
open PySem L2 Sx
open PyProof.Rows (subscriptTail)
section
variable {G : Gc} {L : Wh} {X : Cx} {σ : St} {H : Hp} {ρ : Rho} {sl : Sl} {h : Hs} {a b c e o tg iter : Expr} {es rest : List Expr} {fa fb fc : FE} {ft fu : FT} {fs fi : FA} {pos p apos pos' : Pos} {Q : VK} {st : Stmt} {sts bd el : List Stmt} {f g : FS} {nx bk ct : St → Hp → Prop} {rt : VK} {ws : List Nat} {g1 : FG}
/-! ### o.f = e -/
def putI (i : Nat) (y : A) (xs : List A) : Option (List A) := match Nat.blt i xs.length with
  | true => some (xs.set i y)
  | false => (match Nat.beq i xs.length with | true => some (xs ++ [y]) | false => none)
theorem putF_set {f : Str} {v : V} : ∀ (vs : List (Str × V)) (m : Nat) (hm : m < vs.length), vs[m].1 = f → (vs.map (·.1)).Nodup → putF f v vs = vs.set m (f, v)
  | [], m, hm, _, _ => by simp at hm
  | (k, w) :: vs, m, hm, hq, nv => by
    rw [List.map_cons, List.nodup_cons] at nv
    show (if k = f then (k, v) :: vs else (k, w) :: putF f v vs) = _
    cases m with
    | zero =>
      have hq : k = f := hq
      rw [if_pos hq, hq]; rfl
    | succ m =>
      simp only [List.length_cons] at hm
      have hm' : m < vs.length := by omega
      have hq : vs[m].1 = f := hq
      have nk : k ≠ f := fun z => nv.1 (by rw [show (k, w).1 = f from z, ← hq]; exact List.mem_map.mpr ⟨vs[m], List.getElem_mem _, rfl⟩)
      rw [if_neg nk, List.set_cons_succ, putF_set vs m hm' hq nv.2]
theorem putI_ok {c i : Nat} {xs xs' : List A} {y : A} {v : V} {vs : List (Str × V)} {f : Str} (nd : (G.cfs c).Nodup) (hf : (G.cfs c)[i]? = some f) (rf : RFs G H ρ c xs vs) (ry : RA G H ρ y v) (e : putI i y xs = some xs') : RFs G H ρ c xs' (putF f v vs) := by
  obtain ⟨l, l', r⟩ := rf
  have hil : i < (G.cfs c).length := by
    by_cases hi : i < (G.cfs c).length
    · exact hi
    · rw [List.getElem?_eq_none (by omega)] at hf; cases hf
  have lle : xs.length ≤ (G.cfs c).length := by
    have := congrArg List.length l
    rw [List.length_map, List.length_take] at this
    omega
  unfold putI at e
  cases hb : Nat.blt i xs.length with
  | true =>
    rw [hb] at e
    cases e
    have hlt : i < xs.length := Nat.le_of_ble_eq_true hb
    have hvi : i < vs.length := by omega
    have key : ∀ (j : Nat) (hj : j < vs.length), vs[j].1 = (G.cfs c)[j]'(by omega) := fun j hj => by
      have e2 := congrArg (fun z => z[j]?) l
      rw [List.getElem?_map, List.getElem?_eq_getElem hj, List.getElem?_take_of_lt (by omega), List.getElem?_eq_getElem (by omega)] at e2
      exact Option.some.inj e2
    have put : putF f v vs = vs.set i (f, v) := by
      have h1 : vs[i].1 = f := by
        rw [key i hvi]
        rw [List.getElem?_eq_getElem hil] at hf
        exact Option.some.inj hf
      have nv : (vs.map (·.1)).Nodup := by rw [l]; exact nd.sublist (List.take_sublist _ _)
      exact putF_set vs i hvi h1 nv
    rw [put]
    refine ⟨?_, by simp [l'], fun j x k w e1 e2 => ?_⟩
    · rw [List.length_set, List.map_set, l]
      refine List.ext_getElem? fun j => ?_
      by_cases hj : i = j
      · subst hj
        rw [List.getElem?_set_self (by rw [List.length_take]; omega), List.getElem?_take_of_lt hlt, hf]
      · rw [List.getElem?_set_ne hj]
    · by_cases hj : i = j
      · subst hj
        rw [List.getElem?_set_self hlt] at e1
        rw [List.getElem?_set_self hvi] at e2
        cases e1; cases e2; exact ry
      · rw [List.getElem?_set_ne hj] at e1 e2
        exact r j x k w e1 e2
  | false =>
    rw [hb] at e
    dsimp only at e
    cases hq : Nat.beq i xs.length with
    | false => rw [hq] at e; cases e
    | true =>
      rw [hq] at e
      cases e
      have hi : i = xs.length := Nat.eq_of_beq_eq_true hq
      have put : putF f v vs = vs ++ [(f, v)] := by
        have nm : f ∉ vs.map (·.1) := by
          rw [l]
          intro z
          obtain ⟨j, hj, ej⟩ := List.mem_iff_getElem.mp z
          rw [List.length_take] at hj
          rw [List.getElem_take] at ej
          have : j = i := nd_ix nd (x := f) (by rw [List.getElem?_eq_getElem (by omega), ej]) hf
          omega
        clear r l l'
        induction vs with
        | nil => rfl
        | cons q vs ih =>
          obtain ⟨k, w⟩ := q
          simp only [List.map_cons, List.mem_cons, not_or] at nm
          show (if k = f then (k, v) :: vs else (k, w) :: putF f v vs) = _
          rw [if_neg fun z => nm.1 z.symm, ih nm.2]; rfl
      rw [put]
      refine ⟨?_, by simp [l'], fun j x k w e1 e2 => ?_⟩
      · rw [List.map_append, l, List.length_append, List.length_singleton, List.take_succ, ← hi, hf]; rfl
      · by_cases hj : j < xs.length
        · rw [List.getElem?_append_left hj] at e1
          rw [List.getElem?_append_left (by omega)] at e2
          exact r j x k w e1 e2
        · rw [List.getElem?_append_right (by omega)] at e1
          rw [List.getElem?_append_right (by omega)] at e2
          rw [l'] at e1
          cases hk : j - vs.length with
          | zero => rw [hk] at e1 e2; simp at e1 e2; rw [← e1, ← e2.2]; exact ry
          | succ m => rw [hk] at e1; simp at e1
def setAt (att : Nat → At) (x y : A) (h : Hs) : Out Unit := match x with
  | .ref n => (match h[n]? with
    | some (.ins c xs) => (match att c with
      | .fld i => chk (Nat.blt xs.length 1000) (need (putI i y xs) fun xs' => .ok () (h.set n (.ins c xs')))
      | _ => .bad)
    | _ => .bad)
  | _ => .bad
def sFld (att : Nat → At) (fo fa : FE) : FS := fun sl h => (fa sl h).bindS sl fun y h1 => (fo sl h1).bindS sl fun x h2 => (setAt att x y h2).bindS sl fun _ h3 => .nx sl h3
theorem ds_fld {m : Str} {j : Nat} {att : Nat → At} {fo : FE} (D : AtOk G m j att) (ho : DE G L o fo) (ha : DE G L e fa) (hs : ∀ env, swapsWith e (some (.Attribute o m pos')) pos.line env = pure false := by intro _; rfl) : DS G L (.Assign [.Attribute o m pos'] e pos) (sFld att fo fa) := by
  refine ⟨fun X xr σ H ρ sl h sr hh nx rt bk ct q => .of (ps_fld pe pe (hs _)) ?_⟩
  refine DE.bindS ha xr sr hh q fun y h1 v1 H1 ρ1 e1 r1 ra1 s1 q1 => DE.bindS ho xr s1 r1 q1 fun x h2 v2 H2 ρ2 e2 r2 ra2 s2 q2 => ?_
  unfold setAt at q2
  cases x <;> try exact q2.elim
  rename_i n
  dsimp only at q2
  cases hn : h2[n]? with
  | none => rw [hn] at q2; exact q2.elim
  | some ob =>
    rw [hn] at q2
    cases ob <;> try exact q2.elim
    rename_i c xs
    have dc := D c
    dsimp only at q2
    revert q2 dc
    cases att c <;> try exact fun q2 => q2.elim
    rename_i i
    rintro q2 ⟨cr, hf, na⟩
    dsimp only at q2
    cases hb : Nat.blt xs.length 1000 with
    | false => rw [hb] at q2; exact q2.elim
    | true =>
      rw [hb] at q2
      cases hp : putI i y xs with
      | none => rw [hp] at q2; exact q2.elim
      | some xs' =>
        rw [hp] at q2
        obtain ⟨ad, rfl, e3, dx, vs, e4, rf⟩ := r2.look ra2 hn (fun z => by cases z)
        have hb' : xs.length < 1000 := Nat.le_of_ble_eq_true hb
        refine ⟨ad, G.cad c, dx, vs, rfl, e4, by rw [xr.K]; exact cr.cl, by rw [xr.K]; exact na, by rw [← rf.2.1]; exact hb', ?_⟩
        have ex := r2.ext_set (o := .ins (G.cad c) dx (putF m v1 vs)) e3
        refine q2 σ _ ρ2 ex (r2.set e3 ⟨dx, _, upd_same, ?_⟩) (s2.mono ex)
        exact putI_ok cr.nd hf (rf.mono ex) ((ra1.mono e2).mono ex) hp
end
end Rx
set_option Elab.async false
set_option linter.all false
set_option maxRecDepth 100000
set_option maxHeartbeats 4000000
/-! RxM: what is walked, for, while, comprehensions. -/
namespace Rx
open PySem L2 Sx
open PyProof.Rows (subscriptTail)
section
variable {G : Gc} {L : Wh} {X : Cx} {σ : St} {H : Hp} {ρ : Rho} {sl : Sl} {h : Hs} {a b c e o tg iter : Expr} {es rest : List Expr} {fa fb fc : FE} {ft fu : FT} {fs fi : FA} {pos p apos pos' : Pos} {Q : VK} {st : Stmt} {sts bd el : List Stmt} {f g : FS} {nx bk ct : St → Hp → Prop} {rt : VK} {ws : List Nat} {g1 : FG}
/-! ### what is walked -/
structure PIr (X : Cx) (tg iter : Expr) (σ : St) (H : Hp) (R : It → Hp → Prop) : Prop where
  run : ∀ (pins : List (Addr × Obj)) (s : Shared), Inv X pins σ H s → wpAny (model X.prog X.w) X.A (eval iter X.env) (fun v s1 => wpAny (model X.prog X.w) X.A (pyIter v) (PIE X pins σ tg R) X.xe s1) X.xe s
theorem pir : PI X tg iter (fun σ H R => PIr X tg iter σ H R) := ⟨fun pins s σ H R I q => q.run pins s I⟩
theorem PIr.of {wi : TI} {R : It → Hp → Prop} (x : PI X tg iter wi) (q : wi σ H R) : PIr X tg iter σ H R := ⟨fun pins s I => x.run pins s σ H R I q⟩
/-- behind a turn: nothing, or a new tuple -/
def YOk (H H' : Hp) : Prop := H' = H ∨ ∃ p vs, H p = none ∧ H' = upd H p (.tup vs)
/-- the walk J yields xs, whatever else happens -/
def ItS (G : Gc) (J : It) (H : Hp) (ρ : Rho) (xs : List A) : Prop := ∀ H2 ρ2 h2, Kq H ρ H2 ρ2 → HR G H2 ρ2 h2 → ∀ i : Nat, (∀ x, xs[i]? = some x → J.go i H2 ∧ ∀ v H3, J.yld i H2 v H3 → YOk H2 H3 ∧ RA G H3 ρ2 x v) ∧ (xs.length ≤ i → J.stop i H2)
structure DI (G : Gc) (L : Wh) (tg iter : Expr) (fi : FA) : Prop where
  run : ∀ X, Xr G X L → ∀ σ H ρ sl h, SR G H ρ sl σ → HR G H ρ h → ∀ R : It → Hp → Prop, Po G L.W σ H ρ (fun xs H1 ρ1 => ∀ J, ItS G J H1 ρ1 xs → R J H1) (fi sl h) → PIr X tg iter σ H R
theorem DI.bindS {k : List A → Hs → OutS} {R : It → Hp → Prop} (ha : DI G L tg iter fi) (xr : Xr G X L) (sr : SR G H ρ sl σ) (hr : HR G H ρ h) (q : PoS G L.W H ρ nx rt bk ct ((fi sl h).bindS sl k))
    (cc : ∀ xs h1 J H1 ρ1, Ext H ρ H1 ρ1 → HR G H1 ρ1 h1 → ItS G J H1 ρ1 xs → SR G H1 ρ1 sl σ → PoS G L.W H1 ρ1 nx rt bk ct (k xs h1) → R J H1) : PIr X tg iter σ H R := by
  refine ha.run X xr σ H ρ sl h sr hr R ?_
  cases hm : fi sl h with
  | ok x h1 =>
    rw [hm] at q
    exact fun H1 ρ1 e1 r1 J it => cc x h1 J H1 ρ1 e1 r1 it (sr.mono e1) (PoS.at1 (m := k x h1) q e1)
  | ex x h1 => rw [hm] at q; exact fun cl d H' ρ' e' r' rx => q cl d σ H' ρ' e' r' (sr.mono e') rx
  | bad => rw [hm] at q; exact q
theorem DI.bind {β : Type} {k : List A → Hs → Out β} {R' : β → Hp → Rho → Prop} {R : It → Hp → Prop} (ha : DI G L tg iter fi) (xr : Xr G X L) (sr : SR G H ρ sl σ) (hr : HR G H ρ h) (q : Po G L.W σ H ρ R' ((fi sl h).bind k))
    (cc : ∀ xs h1 J H1 ρ1, Ext H ρ H1 ρ1 → HR G H1 ρ1 h1 → ItS G J H1 ρ1 xs → SR G H1 ρ1 sl σ → Po G L.W σ H1 ρ1 R' (k xs h1) → R J H1) : PIr X tg iter σ H R := by
  refine ha.run X xr σ H ρ sl h sr hr R ?_
  cases hm : fi sl h with
  | ok x h1 =>
    rw [hm] at q
    exact fun H1 ρ1 e1 r1 J it => cc x h1 J H1 ρ1 e1 r1 it (sr.mono e1) (Po.at1 (m := k x h1) q e1)
  | ex x h1 => rw [hm] at q; exact q
  | bad => rw [hm] at q; exact q
/-- a list that stands still, a tuple -/
def iSeq (fa : FE) : FA := fun sl h => (fa sl h).bind fun x h1 => match x with | .lst xs => .ok xs h1 | .tup xs => .ok xs h1 | _ => .bad
theorem its_list {ad : Addr} {xs : List A} {vs : List V} (e : H ad = some (.lst vs)) (nl : ¬ Live ρ ad) (rs : RAs G H ρ xs vs) : ItS G (Itl G.K ad) H ρ xs := fun H2 ρ2 h2 k hr i => by
  have e2 := (k.keep ad _ e nl).1
  refine ⟨fun x hx => ?_, fun hi => ⟨vs, .inl (.inl e2), by rw [← rs.1]; exact hi⟩⟩
  obtain ⟨v, hv, rv⟩ := rs.get hx
  refine ⟨⟨vs, v, .inl (.inl e2), hv⟩, fun v' H3 ⟨y1, y2⟩ => ⟨.inl y1, ?_⟩⟩
  have : vs[i]? = some v' := y2 vs (.inl (.inl e2))
  rw [hv] at this; cases this
  rw [y1]
  exact rv.mono' k
theorem its_tup {ad : Addr} {xs : List A} {vs : List V} (e : SqT G.K H ad vs) (rs : RAs G H ρ xs vs) : ItS G (Itt G.K ad) H ρ xs := fun H2 ρ2 h2 k hr i => by
  have e2 := k.sqT e
  refine ⟨fun x hx => ?_, fun hi => ⟨vs, e2, by rw [← rs.1]; exact hi⟩⟩
  obtain ⟨v, hv, rv⟩ := rs.get hx
  refine ⟨⟨vs, v, e2, hv⟩, fun v' H3 ⟨y1, y2⟩ => ⟨.inl y1, ?_⟩⟩
  have : vs[i]? = some v' := y2 vs e2
  rw [hv] at this; cases this
  rw [y1]
  exact rv.mono' k
theorem di_list (ha : DE G L iter fa) : DI G L tg iter (fun sl h => (fa sl h).bind fun x h1 => match x with | .lst xs => .ok xs h1 | _ => .bad) := by
  refine ⟨fun X xr σ H ρ sl h sr hh R q => ?_⟩
  refine .of (pi_list pe) (DE.bind ha xr sr hh q fun x h1 v H1 ρ1 e1 r1 ra s1 q1 => ?_)
  cases ra <;> try exact q1.elim
  rename_i xs ad vs e2 nl l r
  refine ⟨ad, rfl, ⟨vs, .inl (.inl e2)⟩, ?_⟩
  rw [xr.K]
  exact q1 H1 ρ1 .refl r1 _ (its_list e2 nl ⟨l, r⟩)
theorem di_tup (ha : DE G L iter fa) : DI G L tg iter (fun sl h => (fa sl h).bind fun x h1 => match x with | .tup xs => .ok xs h1 | .ctp xs => .ok xs h1 | _ => .bad) := by
  refine ⟨fun X xr σ H ρ sl h sr hh R q => ?_⟩
  refine .of (pi_tup pe) (DE.bind ha xr sr hh q fun x h1 v H1 ρ1 e1 r1 ra s1 q1 => ?_)
  cases ra <;> try exact q1.elim
  · rename_i xs ad vs e2 l r
    refine ⟨ad, rfl, ⟨vs, by rw [xr.K]; exact e2⟩, ?_⟩
    rw [xr.K]
    exact q1 H1 ρ1 .refl r1 _ (its_tup e2 ⟨l, r⟩)
  · rename_i xs ad vs e2 l r
    refine ⟨ad, rfl, ⟨vs, .inl (.inl e2)⟩, ?_⟩
    rw [xr.K]
    exact q1 H1 ρ1 .refl r1 _ (its_tup (.inl (.inl e2)) ⟨l, r⟩)
/-- range(n) -/
def rangeA (n : Nat) : List A := (List.range n).map fun i => .int (Int.ofNat i)
def iRange (fa : FE) : FA := fun sl h => (fa sl h).bind fun x h1 => match x with
  | .int n => chk (decide (-4611686018427387904 ≤ n ∧ n < 4611686018427387904)) (.ok (rangeA n.toNat) h1)
  | _ => .bad
theorem di_range {pr : Pos} (hm : G.mg "range" = none) (hg : ("range" : Str) ∈ L.GL) (ha : DE G L a fa) (hn : NoSt a = true := by rfl) : DI G L tg (.Call (.Name "range" pr) [a] [] pos) (iRange fa) := by
  refine ⟨fun X xr σ H ρ sl h sr hh R q => ?_⟩
  have hse : starEach [a] X.env = [(false, eval a X.env)] := star_cons hn
  refine .of (pi_range1 (xr.gl _ hg).1 (by rw [xr.mg]; exact hm) pa hse) ?_
  refine as_cons (DE.bind ha xr sr hh q fun x h1 v H1 ρ1 e1 r1 ra s1 q1 => as_nil ?_) (star_cons hn)
  cases ra <;> try exact q1.elim
  rename_i n
  obtain ⟨hk, q1⟩ := chk_ok q1
  have hk := of_decide_eq_true hk
  refine ⟨n, rfl, by omega, by omega, q1 H1 ρ1 .refl r1 _ fun H2 ρ2 h2 k hr i => ⟨fun x hx => ?_, fun hi => ?_⟩⟩
  · unfold rangeA at hx
    rw [List.getElem?_map] at hx
    have hi : i < n.toNat := by
      by_cases hi : i < n.toNat
      · exact hi
      · rw [List.getElem?_eq_none (by simp; omega)] at hx; cases hx
    rw [List.getElem?_range hi] at hx
    cases hx
    refine ⟨hi, fun v H3 ⟨y1, y2⟩ => ⟨.inl y1, ?_⟩⟩
    rw [y2, Int.zero_add]
    exact .int
  · show n.toNat ≤ i
    unfold rangeA at hi
    simpa using hi
/-- range(a, b) -/
def rangeB (lo : Int) (n : Nat) : List A := (List.range n).map fun i => .int (lo + Int.ofNat i)
def iRange2 (fa fb : FE) : FA := fun sl h => (fa sl h).bind fun x h1 => (fb sl h1).bind fun y h2 => match x, y with
  | .int lo, .int hi => chk (decide (-4611686018427387904 ≤ lo ∧ lo < 4611686018427387904 ∧ -4611686018427387904 ≤ hi ∧ hi < 4611686018427387904)) (.ok (rangeB lo (hi - lo).toNat) h2)
  | _, _ => .bad
theorem di_range2 {pr : Pos} (hm : G.mg "range" = none) (hg : ("range" : Str) ∈ L.GL) (ha : DE G L a fa) (hb : DE G L b fb) (hn : NoSt a = true := by rfl) (hn2 : NoSt b = true := by rfl) : DI G L tg (.Call (.Name "range" pr) [a, b] [] pos) (iRange2 fa fb) := by
  refine ⟨fun X xr σ H ρ sl h sr hh R q => ?_⟩
  have hse2 : starEach [b] X.env = [(false, eval b X.env)] := star_cons hn2
  have hse : starEach [a, b] X.env = [(false, eval a X.env), (false, eval b X.env)] := by rw [star_cons hn, hse2]
  refine .of (pi_range2 (xr.gl _ hg).1 (by rw [xr.mg]; exact hm) pa hse hse2) ?_
  refine as_cons (DE.bind ha xr sr hh q fun x h1 v H1 ρ1 e1 r1 ra s1 q1 => as_cons (DE.bind hb xr s1 r1 q1 fun y h2 u H2 ρ2 e2 r2 rb s2 q2 => as_nil ?_) (star_cons hn2)) (star_cons hn)
  cases ra <;> try exact q2.elim
  cases rb <;> try exact q2.elim
  rename_i lo hi
  obtain ⟨hk, q2⟩ := chk_ok q2
  have hk := of_decide_eq_true hk
  refine ⟨lo, hi, rfl, ⟨by omega, by omega, by omega, by omega⟩, q2 H2 ρ2 .refl r2 _ fun H3 ρ3 h3 k hr i => ⟨fun x hx => ?_, fun hi' => ?_⟩⟩
  · unfold rangeB at hx
    rw [List.getElem?_map] at hx
    have hi' : i < (hi - lo).toNat := by
      by_cases hi' : i < (hi - lo).toNat
      · exact hi'
      · rw [List.getElem?_eq_none (by simp; omega)] at hx; cases hx
    rw [List.getElem?_range hi'] at hx
    cases hx
    refine ⟨hi', fun v H4 ⟨y1, y2⟩ => ⟨.inl y1, ?_⟩⟩
    rw [y2]
    exact .int
  · show (hi - lo).toNat ≤ i
    unfold rangeB at hi'
    simpa using hi'
/-! ### for -/
def forV (g : FG) (b : FS) : List A → FS
  | [], sl, h => .nx sl h
  | x :: xs, sl, h => match g x sl h with
    | .nx sl1 h1 => (match b sl1 h1 with
      | .nx sl2 h2 => forV g b xs sl2 h2
      | .ct sl2 h2 => forV g b xs sl2 h2
      | .bk sl2 h2 => .nx sl2 h2
      | .rt a h2 => .rt a h2
      | .ex x sl2 h2 => .ex x sl2 h2
      | .bad => .bad)
    | .ex x sl1 h1 => .ex x sl1 h1
    | _ => .bad
def sFor (fi : FA) (g : FG) (b : FS) : FS := fun sl h => (fi sl h).bindS sl fun xs h1 => forV g b xs sl h1
theorem YOk.ext {H2 H3 : Hp} {ρ2 : Rho} {h2 : Hs} (y : YOk H2 H3) (r : HR G H2 ρ2 h2) : Ext H2 ρ2 H3 ρ2 ∧ HR G H3 ρ2 h2 := by
  rcases y with y | ⟨p, vs, n, y⟩
  · subst y; exact ⟨.refl, r⟩
  · subst y; exact ⟨r.ext_new n, r.new n⟩
theorem ds_for {b : FS} (hi : DI G L tg iter fi) (hg : DGw G L ws tg g1) (hb : DSs G L bd b) (hs : ∀ env x, foldedSetIterable iter env x = pure x := by intro _ _; rfl) (hc : L.cm = true := by rfl) : DS G L (.For tg iter bd [] pos) (sFor fi g1 b) := by
  refine ⟨fun X xr σ H ρ sl h sr hh nx rt bk ct q => .of (ps_for xr.po (xr.calm hc) pir pg pss (hs _)) ?_⟩
  refine DI.bindS hi xr sr hh q fun xs h1 J H1 ρ1 e1 r1 it s1 q1 => ?_
  refine ⟨fun i m σ' H' => m = xs.length - i ∧ i ≤ xs.length ∧ ∃ sl' h' ρ', Ext H1 ρ1 H' ρ' ∧ HR G H' ρ' h' ∧ SR G H' ρ' sl' σ' ∧ PoS G L.W H' ρ' nx rt bk ct (forV g1 b (xs.drop i) sl' h'), ⟨_, rfl, Nat.zero_le _, sl, h1, ρ1, .refl, r1, s1, q1⟩, ?_⟩
  rintro i m σ' H' ⟨rfl, hi', sl', h', ρ', e', r', s', q'⟩
  obtain ⟨ig, is⟩ := it H' ρ' h' e'.kq r' i
  by_cases hlt : i < xs.length
  · rw [List.drop_eq_getElem_cons hlt] at q'
    obtain ⟨go, yld⟩ := ig xs[i] (List.getElem?_eq_getElem hlt)
    refine .inr ⟨go, fun σ2 H2 => ∃ sl2 h2 ρ2, Ext H1 ρ1 H2 ρ2 ∧ HR G H2 ρ2 h2 ∧ SR G H2 ρ2 sl2 σ2 ∧ PoS G L.W H2 ρ2 nx rt bk ct (forV g1 b (xs.drop (i + 1)) sl2 h2), fun σ2 H2 ⟨sl2, h2, ρ2, z⟩ => ⟨_, by omega, rfl, hlt, sl2, h2, ρ2, z⟩, fun v H3 y => ?_⟩
    obtain ⟨yo, ra⟩ := yld v H3 y
    obtain ⟨e3, r3⟩ := yo.ext r'
    have q3 := PoS.at1 q' e3
    have s3 := s'.mono e3
    have e13 := e'.trans e3
    unfold forV at q3
    refine sxG_mono (hg.run X xr σ' H3 ρ' sl' h' xs[i] v s3 r3 ra (fun σ4 H4 => ∃ sl4 h4 ρ4, Ext H1 ρ1 H4 ρ4 ∧ HR G H4 ρ4 h4 ∧ SR G H4 ρ4 sl4 σ4 ∧ PoS G L.W H4 ρ4 nx rt bk ct (match b sl4 h4 with
      | .nx sl2 h2 => forV g1 b (xs.drop (i + 1)) sl2 h2
      | .ct sl2 h2 => forV g1 b (xs.drop (i + 1)) sl2 h2
      | .bk sl2 h2 => .nx sl2 h2
      | .rt a h2 => .rt a h2
      | .ex x sl2 h2 => .ex x sl2 h2
      | .bad => .bad)) ?_) fun σ4 H4 z => ?_
    · revert q3
      cases g1 xs[i] sl' h' with
      | nx sl4 h4 => exact fun q3 σ4 H4 ρ4 e4 r4 s4 => ⟨sl4, h4, ρ4, e13.trans e4, r4, s4, PoS.at1 q3 e4⟩
      | ex x sl4 h4 => exact fun q3 => q3
      | rt _ _ => exact fun q3 => q3.elim
      | bk _ _ => exact fun q3 => q3.elim
      | ct _ _ => exact fun q3 => q3.elim
      | bad => exact fun q3 => q3.elim
    · obtain ⟨-, sl4, h4, ρ4, e4, r4, s4, q4⟩ := z
      refine hb.run X xr σ4 H4 ρ4 sl4 h4 s4 r4 _ _ _ _ ?_
      revert q4
      cases b sl4 h4 with
      | nx sl5 h5 => exact fun q4 σ5 H5 ρ5 e5 r5 s5 => ⟨sl5, h5, ρ5, e4.trans e5, r5, s5, PoS.at1 q4 e5⟩
      | ct sl5 h5 => exact fun q4 σ5 H5 ρ5 e5 r5 s5 => ⟨sl5, h5, ρ5, e4.trans e5, r5, s5, PoS.at1 q4 e5⟩
      | bk sl5 h5 => exact fun q4 => q4
      | rt a h5 => exact fun q4 => q4
      | ex x sl5 h5 => exact fun q4 => q4
      | bad => exact fun q4 => q4
  · have hd : xs.drop i = [] := List.drop_eq_nil_of_le (by omega)
    rw [hd] at q'
    exact .inl ⟨is (by omega), q' σ' H' ρ' .refl r' s'⟩
/-! ### while: by a number of turns -/
def whlN (c : FT) (b : FS) : Nat → FS
  | 0, _, _ => .bad
  | n + 1, sl, h => (c sl h).bindS sl fun k h1 => match k with
    | true => (match b sl h1 with
      | .nx sl2 h2 => whlN c b n sl2 h2
      | .ct sl2 h2 => whlN c b n sl2 h2
      | .bk sl2 h2 => .nx sl2 h2
      | .rt a h2 => .rt a h2
      | .ex x sl2 h2 => .ex x sl2 h2
      | .bad => .bad)
    | false => .nx sl h1
theorem ds_while {b : FS} (n : Nat) (hc : DT G L c ft) (hb : DSs G L bd b) : DS G L (.While c bd [] pos) (whlN ft b n) := by
  refine ⟨fun X xr σ H ρ sl h sr hh nx rt bk ct q => .of (ps_while xr.po pt pss) ?_⟩
  refine ⟨fun m σ' H' => ∃ sl' h' ρ', HR G H' ρ' h' ∧ SR G H' ρ' sl' σ' ∧ PoS G L.W H' ρ' nx rt bk ct (whlN ft b m sl' h'), ⟨n, sl, h, ρ, hh, sr, q⟩, ?_⟩
  rintro m σ' H' ⟨sl', h', ρ', r', s', q'⟩
  cases m with
  | zero => exact q'.elim
  | succ m =>
    refine DT.bindS hc xr s' r' q' fun k h1 H1 ρ1 e1 r1 s1 q1 => ?_
    cases k with
    | false => exact q1 σ' H1 ρ1 .refl r1 s1
    | true =>
      refine ⟨fun σ2 H2 => ∃ sl2 h2 ρ2, HR G H2 ρ2 h2 ∧ SR G H2 ρ2 sl2 σ2 ∧ PoS G L.W H2 ρ2 nx rt bk ct (whlN ft b m sl2 h2), fun σ2 H2 z => ⟨m, Nat.lt_succ_self m, z⟩, ?_⟩
      refine hb.run X xr σ' H1 ρ1 sl' h1 s1 r1 _ _ _ _ ?_
      revert q1
      dsimp only
      cases b sl' h1 with
      | nx sl5 h5 => exact fun q4 σ5 H5 ρ5 e5 r5 s5 => ⟨sl5, h5, ρ5, r5, s5, PoS.at1 q4 e5⟩
      | ct sl5 h5 => exact fun q4 σ5 H5 ρ5 e5 r5 s5 => ⟨sl5, h5, ρ5, r5, s5, PoS.at1 q4 e5⟩
      | bk sl5 h5 => exact fun q4 => q4
      | rt a h5 => exact fun q4 => q4
      | ex x sl5 h5 => exact fun q4 => q4
      | bad => exact fun q4 => q4
end
end Rx
set_option Elab.async false
set_option linter.all false
set_option maxRecDepth 100000
set_option maxHeartbeats 4000000
/-! RxC: list comprehensions; new instances; what stands still from now on. -/
namespace Rx
open PySem L2 Sx
open PyProof.Rows (subscriptTail)
section
variable {G : Gc} {L : Wh} {X : Cx} {σ : St} {H : Hp} {ρ : Rho} {sl : Sl} {h : Hs} {a b c e o tg iter elt : Expr} {es rest : List Expr} {fa fb fc : FE} {ft fu : FT} {fs fi : FA} {pos p apos pos' : Pos} {Q : VK} {st : Stmt} {sts bd el : List Stmt} {f g : FS} {nx bk ct : St → Hp → Prop} {rt : VK} {ws : List Nat} {g1 : FG}
/-! ### the slots of a block -/
def wipeA (sl : Sl) : List Nat → Sl
  | [] => sl
  | v :: vs => (wipeA sl vs).set v none
theorem wipe_SR (r : SR G H ρ sl σ) (nx : G.xi = none) : ∀ vs : List Nat, SR G H ρ (wipeA sl vs) (wipe σ vs)
  | [] => r
  | v :: vs => (wipe_SR r nx vs).unset nx v
theorem wipe_get (σ : St) (i : Nat) : ∀ vs : List Nat, (wipe σ vs)[i]? = if vs.contains i = true ∧ i < σ.length then some none else σ[i]?
  | [] => by simp [wipe]
  | v :: vs => by
    unfold wipe
    by_cases hv : v = i
    · subst hv
      by_cases hl : v < σ.length
      · rw [List.getElem?_set_self (by rw [wipe_length]; exact hl)]
        rw [if_pos ⟨by simp, hl⟩]
      · rw [List.getElem?_eq_none (by simp [wipe_length]; omega), List.getElem?_eq_none (by omega), if_neg fun z => hl z.2]
    · rw [List.getElem?_set_ne hv, wipe_get σ i vs]
      have : (v :: vs).contains i = vs.contains i := by
        simp only [List.contains_cons]
        have : (i == v) = false := beq_eq_false_iff_ne.mpr fun z => hv z.symm
        rw [this, Bool.false_or]
      rw [this]
theorem wipe_off {vs ws : List Nat} {σ2 : St} (hw : ws.all (fun i => vs.contains i) = true) (o : Off ws (wipe σ vs) σ2) : wipe σ2 vs = wipe σ vs := by
  refine List.ext_getElem? fun i => ?_
  have hl : σ2.length = σ.length := o.1.trans (wipe_length σ vs)
  rw [wipe_get, hl]
  by_cases hi : vs.contains i = true
  · rw [wipe_get]
    by_cases hlt : i < σ.length
    · rw [if_pos ⟨hi, hlt⟩, if_pos ⟨hi, hlt⟩]
    · rw [if_neg fun z => hlt z.2, if_neg fun z => hlt z.2, List.getElem?_eq_none (by omega), List.getElem?_eq_none (by omega)]
  · rw [if_neg fun z => hi z.1]
    refine o.2 i ?_
    cases hc : ws.contains i with
    | false => rfl
    | true =>
      rw [List.all_eq_true] at hw
      exact absurd (hw i (by simpa using hc)) hi
/-! ### the block's place -/
def okB (N : List Str) (rd wr : List Nat) (GL : List Str) (scope sc : Scope) : Bool :=
  (rd.all fun i => match N[i]? with
    | some x => (match sc.names.lookup x with | some .local => true | some .cell => true | some .free => true | _ => false) && !(x == ("__debug__" : Str)) && !(x == ("__classdict__" : Str))
    | none => true) &&
  (wr.all fun i => match N[i]? with
    | some x => (match sc.names.lookup x with | some .local => true | some .cell => scope.names.lookup x == some .cell | _ => false)
    | none => true) &&
  (GL.all fun x => decide (sc.names.lookup x = some .globalImplicit) && !(x == ("__debug__" : Str)) && decide (x ≠ ("__name__" : Str)))
abbrev blkW (L : Wh) (scope : Scope) (rd wr : List Nat) (GL : List Str) : Wh := ⟨relS scope L.sc, L.N, rd, wr, GL, L.k, fun _ _ _ _ => False, true, false⟩
theorem Xr.blk {scope : Scope} {rd wr : List Nat} {GL : List Str} (xr : Xr G X L) (hc : L.cm = true) (ok : okB L.N rd wr GL scope (relS scope L.sc) = true) (s : Shared) (H0 : Hp) (C : Addr) (cl : List (Str × Addr)) (fp : List Addr) :
    Xr G (X.blk s H0 scope (compEnvC scope cl C X.env) fp) (blkW L scope rd wr GL) := by
  have hsc : (compEnvC scope cl C X.env).scope = relS scope L.sc := by
    show relS scope X.env.scope = _
    rw [xr.scp]
  unfold okB at ok
  simp only [Bool.and_eq_true, List.all_eq_true] at ok
  obtain ⟨⟨o1, o2⟩, o3⟩ := ok
  refine ⟨xr.prog, xr.w, xr.K, xr.mg, xr.base, xr.n, xr.nd, hsc, fun i hi x hx => ?_, fun i hi x hx => ?_, fun x hx => ?_, fun _ => xr.room hc, fun _ => xr.calm hc, fun u s' z => ?_, PassesOwn.never, (fun z => by cases z), fun _ => xr.cx hc, fun xi e => (by rw [xr.cx hc] at e; cases e), (fun z => by cases z), xr.un, xr.gd⟩
  · have z := o1 i hi
    have hx : L.N[i]? = some x := hx
    rw [hx] at z
    simp only [Bool.and_eq_true, Bool.not_eq_true'] at z
    refine ⟨?_, z.1.2, z.2⟩
    have z1 := z.1.1
    show Vis (compEnvC scope cl C X.env).scope x
    rw [hsc]
    unfold Vis
    revert z1
    cases (relS scope L.sc).names.lookup x with
    | none => intro z; cases z
    | some k => cases k <;> intro z <;> first | exact .inl rfl | exact .inr (.inl rfl) | exact .inr (.inr rfl) | cases z
  · have z := o2 i hi
    have hx : L.N[i]? = some x := hx
    rw [hx] at z
    dsimp only at z
    show L2.Loc (compEnvC scope cl C X.env).scope x ∧ ((scope.names.lookup x == some .cell) = true ∨ (compEnvC scope cl C X.env).scope.names.lookup x = some .local)
    rw [hsc]
    unfold L2.Loc
    revert z
    cases (relS scope L.sc).names.lookup x with
    | none => intro z; cases z
    | some k => cases k <;> intro z <;> first | exact ⟨.inl rfl, .inr rfl⟩ | exact ⟨.inr rfl, .inl z⟩ | cases z
  · have z := o3 x hx
    simp only [Bool.and_eq_true, decide_eq_true_eq, Bool.not_eq_true'] at z
    refine ⟨?_, z.1.2, z.2⟩
    show (compEnvC scope cl C X.env).scope.names.lookup x = some .globalImplicit
    rw [hsc]
    exact z.1.1
  · obtain ⟨_, _, _, _, _, _, _, _, _, _, _, _, _, _, _, _, z⟩ := z
    exact z
/-! ### list comprehensions -/
/-- the turns: nothing raised within is let out -/
def lcV (g : FG) (t : FT) (fe : FE) (sl : Sl) : List A → List A → Hs → Out (List A)
  | [], acc, h => .ok acc h
  | x :: xs, acc, h => match g x sl h with
    | .nx sl1 h1 => (match t sl1 h1 with
      | .ok true h2 => (match fe sl1 h2 with
        | .ok y h3 => lcV g t fe sl xs (acc ++ [y]) h3
        | _ => .bad)
      | .ok false h2 => lcV g t fe sl xs acc h2
      | _ => .bad)
    | _ => .bad
def lcAll (fi : FA) (own : List Nat) (g : FG) (t : FT) (fe : FE) : FA := fun sl h => (fi sl h).bind fun xs h1 => chk (Nat.ble xs.length sizeLine) (lcV g t fe (wipeA sl own) xs [] h1)
def eLc (fi : FA) (own : List Nat) (g : FG) (t : FT) (fe : FE) : FE := fun sl h => (lcAll fi own g t fe sl h).bind fun ys h1 => .ok (.lst ys) h1
/-- .. as a list that will be changed -/
def eLcT (fi : FA) (own : List Nat) (g : FG) (t : FT) (fe : FE) : FE := fun sl h => (lcAll fi own g t fe sl h).bind fun ys h1 => .ok (.ref h1.length) (h1 ++ [.lst ys])
/-- a clause's tests -/
structure Tst (X : Cx) (ifs : List Expr) (σ : St) (H : Hp) (Q : Bool → Hp → Prop) : Prop where
  run : ∀ (pins : List (Addr × Obj)) (s : Shared), Inv X pins σ H s → wpAny (model X.prog X.w) X.A (forIn ifs true fun c r => if r = true then do let ok ← isTrue c X.env (eval c X.env); pure (ForInStep.yield ok) else pure (ForInStep.yield r)) (TP X pins σ Q) X.xe s
structure DTs (G : Gc) (L : Wh) (ifs : List Expr) (f : FT) : Prop where
  run : ∀ X, Xr G X L → ∀ σ H ρ sl h, SR G H ρ sl σ → HR G H ρ h → ∀ Q : Bool → Hp → Prop, Po G L.W σ H ρ (RB Q) (f sl h) → Tst X ifs σ H Q
def tYes : FT := fun _ h => .ok true h
theorem dts_nil : DTs G L [] tYes := ⟨fun X xr σ H ρ sl h sr hh Q q => ⟨fun pins s I => pts_nil.run pins s σ H Q I (q H ρ .refl hh)⟩⟩
theorem dts_one (hc : DT G L c ft) : DTs G L [c] ft := ⟨fun X xr σ H ρ sl h sr hh Q q => ⟨fun pins s I => (pts_one pt).run pins s σ H Q I (hc.run X xr σ H ρ sl h sr hh Q q)⟩⟩
theorem ext_lift {H1 H' H6 : Hp} {ρ1 ρ' ρ6 : Rho} {h1 : Hs} {D : Addr} (r1 : HR G H1 ρ1 h1) (x : Ext H1 ρ1 H' ⟨ρ'.l, ρ1.hd⟩) (hd : ρ'.hd = D :: ρ1.hd) (n : H1 D = none) (y : Ext H' ρ' H6 ρ6) : Ext H1 ρ1 H6 ⟨ρ6.l, ρ1.hd⟩ := by
  have nlv : ∀ a o, H1 a = some o → ¬ Live ρ1 a → ¬ Live ρ' a := fun a o e nl z => by
    rcases z with z | z
    · exact x.dead e nl (.inl z)
    · rw [hd] at z
      rcases List.mem_cons.mp z with z | z
      · rw [z, n] at e; cases e
      · exact nl (.inr z)
  refine ⟨Nat.le_trans x.len y.len, fun i a hi e => x.old i a hi (y.old i a (Nat.lt_of_lt_of_le hi x.len) e), fun i a hi e => ?_, fun a o e nl => y.keep a o (x.keep a o e nl) (nlv a o e nl), fun a xs e => y.tup a xs (x.tup a xs e), fun a o u e => y.frz a o u (x.frz a o u e), fun a e => x.dom a (y.dom a e), rfl, fun a ha => ?_⟩
  · by_cases hl : i < ρ'.l.length
    · exact x.new i a hi (y.old i a hl e)
    · exact x.dom a (y.new i a (by omega) e)
  · exact (y.hidk a (by rw [hd]; exact List.mem_cons_of_mem _ ha)).trans (x.hidk a ha)
theorem ext_updD {H1 H6 : Hp} {ρ1 ρ6 : Rho} {h1 : Hs} {D : Addr} {o : HO} (r1 : HR G H1 ρ1 h1) (x : Ext H1 ρ1 H6 ρ6) (n : H1 D = none) : Ext H1 ρ1 (upd H6 D o) ρ6 := by
  have ne : ∀ {a u}, H1 a = some u → a ≠ D := fun e => ne_of_none e n
  refine ⟨x.len, x.old, x.new, fun a u e nl => by rw [upd_ne (ne e)]; exact x.keep a u e nl, fun a xs e => by rw [upd_ne (ne e)]; exact x.tup a xs e, fun a u w e => by rw [upd_ne (ne e)]; exact x.frz a u w e, fun a e => ?_, x.hds, fun a ha => ?_⟩
  · by_cases hz : a = D
    · rw [hz]; exact n
    · rw [upd_ne hz] at e; exact x.dom a e
  · obtain ⟨u, e, _⟩ := r1.hid a ha
    rw [upd_ne (ne e)]; exact x.hidk a ha
/-- what a comprehension leaves -/
structure LcEnd (G : Gc) (ys : List A) (hF : Hs) (D : Addr) (HF : Hp) (H1 : Hp) (ρ1 : Rho) : Prop where
  ex : ∃ (us : List V) (ρF : Rho), HF D = some (.lst us) ∧ ρF.hd = D :: ρ1.hd ∧ RAs G HF ρF ys us ∧ HR G HF ρF hF ∧ Ext H1 ρ1 HF ⟨ρF.l, ρ1.hd⟩ ∧ H1 D = none
abbrev gB (X : Cx) (scope : Scope) (tg : Expr) : TG := fun v σ H Q => ∀ s H0 C cl fp, Sx.G (X.blk s H0 scope (compEnvC scope cl C X.env) fp) tg v σ H Q
abbrev tB' (X : Cx) (scope : Scope) (ifs : List Expr) : TT := fun σ H Q => ∀ s H0 C cl fp, Tst (X.blk s H0 scope (compEnvC scope cl C X.env) fp) ifs σ H Q
abbrev eB (X : Cx) (scope : Scope) (elt : Expr) : TE := fun σ H Q => ∀ s H0 C cl fp, E (X.blk s H0 scope (compEnvC scope cl C X.env) fp) elt σ H Q
theorem lc_ok {β : Type} {scope : Scope} {rd wr vs : List Nat} {GL : List Str} {ifs : List Expr} {fe : FE} {k : List A → Hs → Out β} {R : β → Hp → Rho → Prop} {Q : VK} (hc : L.cm = true) (hi : DI G L tg iter fi) (okb : okB L.N rd wr GL scope (relS scope L.sc) = true)
    (hg : DGw G (blkW L scope rd wr GL) ws tg g1) (ht : DTs G (blkW L scope rd wr GL) ifs ft) (he : DE G (blkW L scope rd wr GL) elt fe) (hw : ws.all (fun i => vs.contains i) = true)
    (xr : Xr G X L) (sr : SR G H ρ sl σ) (hh : HR G H ρ h) (q : Po G L.W σ H ρ R ((lcAll fi vs g1 ft fe sl h).bind k))
    (cc : ∀ ys hF D HF H1 ρ1 h1, Ext H ρ H1 ρ1 → HR G H1 ρ1 h1 → LcEnd G ys hF D HF H1 ρ1 → Po G L.W σ H1 ρ1 R (k ys hF) → Q (.ref D) HF) :
    tLc (fun σ H R => PIr X tg iter σ H R) (gB X scope tg) (tB' X scope ifs) (eB X scope elt) vs σ H Q := by
  have q0 : Po G L.W σ H ρ R ((fi sl h).bind fun xs h1 => (chk (Nat.ble xs.length sizeLine) (lcV g1 ft fe (wipeA sl vs) xs [] h1)).bind k) := by
    unfold lcAll at q
    revert q
    cases fi sl h <;> exact fun q => q
  refine DI.bind hi xr sr hh q0 fun xs h1 J H1 ρ1 e1 r1 it s1 q1 D nD => ?_
  cases hsz : Nat.ble xs.length sizeLine with
  | false => rw [hsz] at q1; exact q1.elim
  | true =>
  rw [hsz] at q1
  have hsz := Nat.le_of_ble_eq_true hsz
  have q1 : Po G L.W σ H1 ρ1 R ((lcV g1 ft fe (wipeA sl vs) (xs.drop 0) [] h1).bind k) := q1
  refine ⟨fun i m H' => m = xs.length - i ∧ i ≤ xs.length ∧ ∃ acc us h' ρ', H' D = some (.lst us) ∧ ρ'.hd = D :: ρ1.hd ∧ RAs G H' ρ' acc us ∧ HR G H' ρ' h' ∧ Kq H1 ρ1 H' ρ' ∧ Ext H1 ρ1 H' ⟨ρ'.l, ρ1.hd⟩ ∧ SR G H' ρ' (wipeA sl vs) (wipe σ vs) ∧ acc.length ≤ i ∧
    Po G L.W σ H1 ρ1 R ((lcV g1 ft fe (wipeA sl vs) (xs.drop i) acc h').bind k), ⟨_, rfl, Nat.zero_le _, [], [], h1, ρ1.hide D, upd_same, rfl, .nil, r1.hide nD, r1.kq_hide nD, r1.ext_new nD, (wipe_SR s1 (xr.cx hc) vs).mono' (r1.kq_hide nD), Nat.le_refl _, q1⟩, ?_⟩
  rintro i m H' ⟨rfl, hi', acc, us, h', ρ', hD, hhd, ras, r', kq', ex', s', hacc, q'⟩
  obtain ⟨ig, is⟩ := it H' ρ' h' kq' r' i
  by_cases hlt : i < xs.length
  · rw [List.drop_eq_getElem_cons hlt] at q'
    obtain ⟨go, yld⟩ := ig xs[i] (List.getElem?_eq_getElem hlt)
    refine .inr ⟨go, fun H2 => ∃ acc us h' ρ', H2 D = some (.lst us) ∧ ρ'.hd = D :: ρ1.hd ∧ RAs G H2 ρ' acc us ∧ HR G H2 ρ' h' ∧ Kq H1 ρ1 H2 ρ' ∧ Ext H1 ρ1 H2 ⟨ρ'.l, ρ1.hd⟩ ∧ SR G H2 ρ' (wipeA sl vs) (wipe σ vs) ∧ acc.length ≤ i + 1 ∧
      Po G L.W σ H1 ρ1 R ((lcV g1 ft fe (wipeA sl vs) (xs.drop (i + 1)) acc h').bind k), fun H2 z => ⟨_, by omega, rfl, hlt, z⟩, fun v H3 y s H0 C cl fp => ?_⟩
    obtain ⟨yo, ra⟩ := yld v H3 y
    obtain ⟨e3, r3⟩ := yo.ext r'
    have xb := fun s H0 C cl fp => xr.blk (scope := scope) hc okb s H0 C cl fp
    unfold lcV at q'
    have s3 := s'.mono e3
    -- from any later place of the turn
    have fin : ∀ {H4 : Hp} {ρ4 : Rho}, Ext H3 ρ' H4 ρ4 → H4 D = some (.lst us) ∧ ρ4.hd = D :: ρ1.hd ∧ RAs G H4 ρ4 acc us ∧ Kq H1 ρ1 H4 ρ4 ∧ Ext H1 ρ1 H4 ⟨ρ4.l, ρ1.hd⟩ ∧ SR G H4 ρ4 (wipeA sl vs) (wipe σ vs) := fun {H4 ρ4} e4 => by
      have e34 := e3.trans e4
      exact ⟨by rw [e34.hidk D (by rw [hhd]; exact List.mem_cons_self)]; exact hD, by rw [e34.hds]; exact hhd, ras.mono e34, kq'.trans e34.kq, ext_lift r1 ex' hhd nD e34, s'.mono e34⟩
    cases hgx : g1 xs[i] (wipeA sl vs) h' with
    | nx sl4 h4 =>
      rw [hgx] at q'
      refine sxG_mono (hg.run _ (xb s H0 C cl fp) (wipe σ vs) H3 ρ' (wipeA sl vs) h' xs[i] v s3 r3 ra (fun σ4 H4 => ∃ ρ4, Ext H3 ρ' H4 ρ4 ∧ HR G H4 ρ4 h4 ∧ SR G H4 ρ4 sl4 σ4) (by rw [hgx]; exact fun σ4 H4 ρ4 e4 r4 s4 => ⟨ρ4, e4, r4, s4⟩)) fun σ4 H4 ⟨off, ρ4, e4, r4, s4⟩ => ?_
      refine ⟨wipe_off hw off, fun s H0 C cl fp => ?_⟩
      dsimp only at q'
      refine ht.run _ (xb s H0 C cl fp) σ4 H4 ρ4 sl4 h4 s4 r4 _ ?_
      cases htx : ft sl4 h4 with
      | ok b h5 =>
        rw [htx] at q'
        cases b with
        | false =>
          intro H5 ρ5 e5 r5
          obtain ⟨a1, a2, a3, a4, a5, a6⟩ := fin (e4.trans e5)
          exact ⟨acc, us, h5, ρ5, a1, a2, a3, r5, a4, a5, a6, by omega, q'⟩
        | true =>
          intro H5 ρ5 e5 r5
          unfold RB
          dsimp only
          rw [if_pos rfl]
          intro s H0 C cl fp
          dsimp only at q'
          refine he.run _ (xb s H0 C cl fp) σ4 H5 ρ5 sl4 h5 (s4.mono e5) r5 _ ?_
          cases hex : fe sl4 h5 with
          | ok y h6 =>
            rw [hex] at q'
            intro H6 ρ6 e6 r6 w rw'
            obtain ⟨a1, a2, a3, a4, a5, a6⟩ := fin ((e4.trans e5).trans e6)
            obtain ⟨u0, eu0, nt, nf⟩ := r6.hid D (by rw [a2]; exact List.mem_cons_self)
            have kq7 := kq_hid (ρ := ρ6) (o := .lst (us ++ [w])) (by rw [a2]; exact List.mem_cons_self) eu0 nt nf
            exact ⟨us, a1, by rw [← ras.1]; omega, acc ++ [y], us ++ [w], h6, ρ6, upd_same, a2, (a3.append (.cons rw' .nil)).mono' kq7, r6.upd_hid (by rw [a2]; exact List.mem_cons_self), a4.trans kq7, ext_updD r1 a5 nD, a6.mono' kq7, by simp; omega, q'⟩
          | ex y h6 => rw [hex] at q'; exact q'.elim
          | bad => rw [hex] at q'; exact q'.elim
      | ex b h5 => rw [htx] at q'; exact q'.elim
      | bad => rw [htx] at q'; exact q'.elim
    | rt _ _ => rw [hgx] at q'; exact q'.elim
    | bk _ _ => rw [hgx] at q'; exact q'.elim
    | ct _ _ => rw [hgx] at q'; exact q'.elim
    | ex _ _ _ => rw [hgx] at q'; exact q'.elim
    | bad => rw [hgx] at q'; exact q'.elim
  · have hd : xs.drop i = [] := List.drop_eq_nil_of_le (by omega)
    rw [hd] at q'
    exact .inl ⟨is (by omega), cc acc h' D H' H1 ρ1 h1 e1 r1 ⟨us, ρ', hD, hhd, ras, r', ex', nD⟩ q'⟩
theorem lc_frozen {ys : List A} {hF h1 : Hs} {D : Addr} {HF H1 : Hp} {ρ1 : Rho} (r1 : HR G H1 ρ1 h1) (x : LcEnd G ys hF D HF H1 ρ1) : ∃ ρ', Ext H1 ρ1 HF ρ' ∧ HR G HF ρ' hF ∧ RA G HF ρ' (.lst ys) (.ref D) := by
  obtain ⟨us, ρF, e1, e2, e3, e4, e5, e6⟩ := x.ex
  have k := kq_show (H := HF) (ρ0 := ρ1) e2
  have z := e3.mono' k
  exact ⟨_, e5, e4.unhide e2, .lst e1 (fun z => by
    rcases z with ⟨i, z⟩ | z
    · exact e4.sep i D z (by rw [e2]; exact List.mem_cons_self)
    · obtain ⟨u, e, _⟩ := r1.hid D z
      rw [e6] at e; cases e) z.1 z.2⟩
theorem lc_tracked {ys : List A} {hF h1 : Hs} {D : Addr} {HF H1 : Hp} {ρ1 : Rho} (r1 : HR G H1 ρ1 h1) (x : LcEnd G ys hF D HF H1 ρ1) : ∃ ρ', Ext H1 ρ1 HF ρ' ∧ HR G HF ρ' (hF ++ [.lst ys]) ∧ RA G HF ρ' (.ref hF.length) (.ref D) := by
  obtain ⟨us, ρF, e1, e2, e3, e4, e5, e6⟩ := x.ex
  have nD : D ∉ ρ1.hd := fun z => by
    obtain ⟨u, e, _⟩ := r1.hid D z
    rw [e6] at e; cases e
  have spl : ∀ {i : Nat} {y : Option Addr}, (ρF.l ++ [some D])[i]? = some y → (i < ρF.l.length ∧ ρF.l[i]? = some y) ∨ (i = ρF.l.length ∧ y = some D) := by
    intro i y e
    by_cases hi : i < ρF.l.length
    · rw [List.getElem?_append_left hi] at e; exact .inl ⟨hi, e⟩
    · rw [List.getElem?_append_right (by omega)] at e
      cases hk : i - ρF.l.length with
      | zero => rw [hk] at e; simp at e; exact .inr ⟨by omega, e.symm⟩
      | succ m => rw [hk] at e; simp at e
  have k : Kq HF ρF HF ⟨ρF.l ++ [some D], ρ1.hd⟩ := by
    refine ⟨by simp, fun i a hi e => ?_, fun a o e nl => ⟨e, fun z => ?_⟩, fun _ _ e => e, fun _ _ _ e => e⟩
    · rw [List.getElem?_append_left hi] at e; exact e
    · rcases z with ⟨i, z⟩ | z
      · rcases spl z with ⟨_, z⟩ | ⟨_, z⟩
        · exact nl (.inl ⟨i, z⟩)
        · cases z; exact nl (.inr (by rw [e2]; exact List.mem_cons_self))
      · exact nl (.inr (by rw [e2]; exact List.mem_cons_of_mem _ z))
  refine ⟨⟨ρF.l ++ [some D], ρ1.hd⟩, ⟨by have := e5.len; simp at this ⊢; omega, fun i a hi e => ?_, fun i a hi e => ?_, e5.keep, e5.tup, e5.frz, e5.dom, rfl, e5.hidk⟩, ⟨by simp [e4.len], fun i j a q1 q2 => ?_, fun i o q nd => ?_, fun i a o q1 q2 => ?_, fun i a q z => ?_, fun a ha => e4.hid a (by rw [e2]; exact List.mem_cons_of_mem _ ha), e4.xk.mono' k⟩, .ref (by simp [e4.len]) fun b q => ?_⟩
  · have hl := e5.len
    rw [List.getElem?_append_left (Nat.lt_of_lt_of_le hi hl)] at e
    exact e5.old i a hi e
  · rcases spl e with ⟨_, z⟩ | ⟨_, z⟩
    · exact e5.new i a hi z
    · cases z; exact e6
  · rcases spl q1 with ⟨_, z1⟩ | ⟨h1, z1⟩ <;> rcases spl q2 with ⟨_, z2⟩ | ⟨h2, z2⟩
    · exact e4.nd i j a z1 z2
    · cases z2; exact absurd (by rw [e2]; exact List.mem_cons_self) (e4.sep i D z1)
    · cases z1; exact absurd (by rw [e2]; exact List.mem_cons_self) (e4.sep j D z2)
    · omega
  · by_cases hi : i < hF.length
    · rw [List.getElem?_append_left hi] at q
      obtain ⟨a, ha⟩ := e4.live i o q nd
      exact ⟨a, by rw [List.getElem?_append_left (by rw [e4.len]; exact hi)]; exact ha⟩
    · have hi2 : i = hF.length := by
        by_cases hz : i = hF.length
        · exact hz
        · rw [List.getElem?_eq_none (by simp; omega)] at q; cases q
      exact ⟨D, by rw [hi2, ← e4.len]; simp⟩
  · rcases spl q1 with ⟨h1, z1⟩ | ⟨h1, z1⟩
    · rw [List.getElem?_append_left (by rw [← e4.len]; exact h1)] at q2
      exact (e4.obj i a o z1 q2).mono' k rfl
    · cases z1
      rw [h1, e4.len] at q2
      simp at q2
      subst q2
      exact ⟨us, e1, e3.mono' k⟩
  · rcases spl q with ⟨_, z1⟩ | ⟨_, z1⟩
    · exact e4.sep i a z1 (by rw [e2]; exact List.mem_cons_of_mem _ z)
    · cases z1; exact nD z
  · rw [← e4.len] at q
    simpa using q
theorem de_lc {scope : Scope} {own : List (Str × Nat)} {rd wr : List Nat} {GL : List Str} {ifs : List Expr} {fe : FE} (own' : List Nat) (hi : DI G L tg iter fi) (ok : BlkOk L.N L.sc scope own) (okb : okB L.N rd wr GL scope (relS scope L.sc) = true)
    (hg : DGw G (blkW L scope rd wr GL) ws tg g1) (ht : DTs G (blkW L scope rd wr GL) ifs ft) (he : DE G (blkW L scope rd wr GL) elt fe) (ho : own.map (·.2) = own' := by rfl) (hw : ws.all (fun i => own'.contains i) = true := by rfl) (hs : ∀ env x, foldedSetIterable iter env x = pure x := by intro _ _; rfl) (hc : L.cm = true := by rfl) :
    DE G L (.ListComp elt [⟨tg, iter, ifs, 0⟩] scope pos) (eLc fi own' g1 ft fe) := by
  subst ho
  refine ⟨fun X xr σ H ρ sl h sr hh Q q => .of (pe_lc (own := own) (xr.calm hc) (by rw [xr.n]; exact xr.nd) pir (by rw [xr.n, xr.scp]; exact ok) (fun s H0 C cl fp => ⟨fun pins s σ H x u Q I r q => (q _ _ _ _ _).run pins s u I r⟩) (fun s H0 C cl fp => ⟨fun pins s σ H Q I q => (q _ _ _ _ _).run pins s I⟩) (fun s H0 C cl fp => ⟨fun pins s σ H Q I q => (q _ _ _ _ _).run pins s I⟩) (hs _))
    (lc_ok hc hi okb hg ht he hw xr sr hh q fun ys hF D HF H1 ρ1 h1 e1 r1 le q1 => ?_)⟩
  obtain ⟨ρ', ex, r', ra⟩ := lc_frozen r1 le
  exact q1 HF ρ' ex r' _ ra
theorem de_lcT {scope : Scope} {own : List (Str × Nat)} {rd wr : List Nat} {GL : List Str} {ifs : List Expr} {fe : FE} (own' : List Nat) (hi : DI G L tg iter fi) (ok : BlkOk L.N L.sc scope own) (okb : okB L.N rd wr GL scope (relS scope L.sc) = true)
    (hg : DGw G (blkW L scope rd wr GL) ws tg g1) (ht : DTs G (blkW L scope rd wr GL) ifs ft) (he : DE G (blkW L scope rd wr GL) elt fe) (ho : own.map (·.2) = own' := by rfl) (hw : ws.all (fun i => own'.contains i) = true := by rfl) (hs : ∀ env x, foldedSetIterable iter env x = pure x := by intro _ _; rfl) (hc : L.cm = true := by rfl) :
    DE G L (.ListComp elt [⟨tg, iter, ifs, 0⟩] scope pos) (eLcT fi own' g1 ft fe) := by
  subst ho
  refine ⟨fun X xr σ H ρ sl h sr hh Q q => .of (pe_lc (own := own) (xr.calm hc) (by rw [xr.n]; exact xr.nd) pir (by rw [xr.n, xr.scp]; exact ok) (fun s H0 C cl fp => ⟨fun pins s σ H x u Q I r q => (q _ _ _ _ _).run pins s u I r⟩) (fun s H0 C cl fp => ⟨fun pins s σ H Q I q => (q _ _ _ _ _).run pins s I⟩) (fun s H0 C cl fp => ⟨fun pins s σ H Q I q => (q _ _ _ _ _).run pins s I⟩) (hs _))
    (lc_ok hc hi okb hg ht he hw xr sr hh q fun ys hF D HF H1 ρ1 h1 e1 r1 le q1 => ?_)⟩
  obtain ⟨ρ', ex, r', ra⟩ := lc_tracked r1 le
  exact q1 HF ρ' ex r' _ ra
/-- y = [..], stored within the comprehension's frame -/
theorem ds_setLc (i : Nat) {y : Str} {py spos : Pos} {scope : Scope} {own : List (Str × Nat)} {rd wr : List Nat} {GL : List Str} {ifs : List Expr} {fe : FE} (own' : List Nat) (hsw : ∀ (q : Str) (Lo f : Addr) (cd : Value), swapsWith (.ListComp elt [⟨tg, iter, ifs, 0⟩] scope pos) (some (.Name y py)) spos.line (PyProof.Rows.envOfC q L.sc Lo f cd) = pure true)
    (hyl : L.sc.names.lookup y = some .local) (hi : DI G L tg iter fi) (ok : BlkOk L.N L.sc scope own) (okb : okB L.N rd wr GL scope (relS scope L.sc) = true) (hg : DGw G (blkW L scope rd wr GL) ws tg g1) (ht : DTs G (blkW L scope rd wr GL) ifs ft) (he : DE G (blkW L scope rd wr GL) elt fe) (tr : Bool)
    (ho : own.map (·.2) = own' := by rfl) (hy : L.N[i]? = some y := by rfl) (hw : ws.all (fun i => own'.contains i) = true := by rfl) (hs : ∀ env x, foldedSetIterable iter env x = pure x := by intro _ _; rfl) (hc : L.cm = true := by rfl) (hf : L.fb = true := by rfl) :
    DS G L (.Assign [.Name y py] (.ListComp elt [⟨tg, iter, ifs, 0⟩] scope pos) spos) (sSet i (match tr with | true => eLcT fi own' g1 ft fe | false => eLc fi own' g1 ft fe)) := by
  subst ho
  refine ⟨fun X xr σ H ρ sl h sr hh nx rt bk ct q => ?_⟩
  obtain ⟨qn, Lo, f, cd, ev⟩ := xr.ev hf
  refine .of (ps_setLc (i := i) (own := own) (g := gB X scope tg) (tt := tB' X scope ifs) (te := eB X scope elt) (xr.calm hc) (by rw [xr.n]; exact xr.nd) (by rw [xr.n]; exact hy) (by rw [xr.scp]; exact hyl) (by rw [ev]; exact hsw _ _ _ _) pir (by rw [xr.n, xr.scp]; exact ok) (fun s H0 C cl fp => ⟨fun pins s σ H x u Q I r q => (q _ _ _ _ _).run pins s u I r⟩) (fun s H0 C cl fp => ⟨fun pins s σ H Q I q => (q _ _ _ _ _).run pins s I⟩) (fun s H0 C cl fp => ⟨fun pins s σ H Q I q => (q _ _ _ _ _).run pins s I⟩) (hs _)) ?_
  have key : ∀ {fe' : FE} {kk : List A → Hs → Out A}, fe' = (fun sl h => (lcAll fi (own.map (·.2)) g1 ft fe sl h).bind kk) → PoS G L.W H ρ nx rt bk ct (sSet i fe' sl h) → Po G L.W σ H ρ (RQ G fun v H' => nx (σ.set i (some v)) H') ((lcAll fi (own.map (·.2)) g1 ft fe sl h).bind kk) := by
    intro fe' kk efe q
    rw [efe] at q
    unfold sSet at q
    revert q
    dsimp only
    cases (lcAll fi (own.map (·.2)) g1 ft fe sl h).bind kk with
    | ok a h1 => exact fun q H1 ρ1 e1 r1 v rv => q _ H1 ρ1 e1 r1 ((sr.mono e1).set rv i)
    | ex x h1 => exact fun q c d H1 ρ1 e1 r1 rx => q c d σ H1 ρ1 e1 r1 (sr.mono e1) rx
    | bad => exact fun q => q
  cases tr with
  | true =>
    refine lc_ok (k := fun ys h1 => .ok (.ref h1.length) (h1 ++ [.lst ys])) hc hi okb hg ht he hw xr sr hh (key (fe' := eLcT fi (own.map (·.2)) g1 ft fe) rfl q) fun ys hF D HF H1 ρ1 h1 e1 r1 le q1 => ?_
    obtain ⟨ρ', ex, r', ra⟩ := lc_tracked r1 le
    exact q1 HF ρ' ex r' _ ra
  | false =>
    refine lc_ok (k := fun ys h1 => .ok (.lst ys) h1) hc hi okb hg ht he hw xr sr hh (key (fe' := eLc fi (own.map (·.2)) g1 ft fe) rfl q) fun ys hF D HF H1 ρ1 h1 e1 r1 le q1 => ?_
    obtain ⟨ρ', ex, r', ra⟩ := lc_frozen r1 le
    exact q1 HF ρ' ex r' _ ra
end
end Rx
set_option Elab.async false
set_option linter.all false
set_option maxRecDepth 100000
set_option maxHeartbeats 4000000
/-! RxN: new instances; what stands still from now on; numbers; lists; built-in functions. -/
namespace Rx
open PySem L2 Sx
open PyProof.Rows (subscriptTail)
section
variable {G : Gc} {L : Wh} {X : Cx} {σ : St} {H : Hp} {ρ : Rho} {sl : Sl} {h : Hs} {a b c e o tg iter elt : Expr} {es rest : List Expr} {fa fb fc : FE} {ft fu : FT} {fs fi : FA} {pos p apos pos' : Pos} {Q : VK} {st : Stmt} {sts bd el : List Stmt} {f g : FS} {nx bk ct : St → Hp → Prop} {rt : VK} {ws : List Nat} {g1 : FG}
/-! ### new instances -/
theorem run_makeS {k : Nat} {fa C : Addr} {fd : FuncData} {ps : List Str} {sp : Sp} {Es : St → XK} {pins : List (Addr × Obj)} {s : Shared} {us : List Value} {vs : List V} (M : Mk X.K C fa) (F : FnOk X.prog X.w X.K X.mg X.base (L2.CX X.prog X.w) k fa fd ps sp) (hr : Room (k + 1) X.A) (hg : X.A.guards = some []) (hb : Binds X.K fd ps [])
    (hx : PassesAt (L2.CX X.prog X.w) X σ (Es σ)) (I : Inv X pins σ H s) (r : Vals vs us)
    (h : ∀ x dx, H x = none → H dx = none → dx ≠ x → sp (.ref x :: vs) (upd (upd H dx (.own x)) x (.ins C dx [])) (fun v H2 => v = .non ∧ Q (.ref x) H2) (Es σ)) :
    wpAny (model X.prog X.w) X.A (call (.ref C) us) (EP X pins σ Q) X.xe s := by
  have hq := h (s.heap.objs.size + 1) s.heap.objs.size (I.hok.fresh (Nat.le_succ _)) (I.hok.fresh (Nat.le_refl _)) (Nat.ne_of_lt (Nat.lt_succ_self _))
  have I2 := Inv.made (C := C) I
  have r2 : Vals (V.ref (s.heap.objs.size + 1) :: vs) (Value.ref (s.heap.objs.size + 1) :: us) := .cons rfl r
  have hl : (Value.ref (s.heap.objs.size + 1) :: us ++ []).length = ps.length := by
    have e := r2.length
    rw [F.len _ _ _ _ hq] at e
    rw [List.append_nil]
    exact e.symm
  have bb := hb _ (Value.ref (s.heap.objs.size + 1) :: us) I2.kIn hl
  rw [List.append_nil] at bb
  refine wpAny_call (make_map (f := fa) I.kIn M.makes M.init (beq_iff_eq.mp M.fn) (codeAny_mono (F.run _ X.stack _ _ ⟨Value.ref (s.heap.objs.size + 1) :: us, []⟩ (Value.ref (s.heap.objs.size + 1) :: us) _ _ (Es σ) (hr.make C us []) (make_guards.trans hg)
    (I2.env0.make C us []) bb r2 hq) fun r s' hq' => ?_))
  cases r with
  | error e => exact hx pins _ _ e s' I2 hq'
  | ok fl =>
    cases fl with
    | ret u =>
      obtain ⟨v, H', I3, rv, ev, q3⟩ := I2.after hq'
      subst ev
      exact ⟨rv, ⟨V.ref (s.heap.objs.size + 1), H', I3, rfl, q3⟩⟩
    | next => exact False.elim hq'
    | brk => exact False.elim hq'
    | cont => exact False.elim hq'
/-- a class that stands at its name, made by its __init__ -/
structure DcR (G : Gc) (x : Str) (c j n : Nat) (f : F) : Prop where
  cr : ClsR G c
  ar : Ar (n + 1) f
  ex : ∃ (fa : Addr) (fd : FuncData) (ps : List Str), FnOk G.P G.w G.K G.mg G.base (L2.CX G.P G.w) j fa fd ps (spF G (n + 1) f) ∧ G.mg x = some (.ref (G.cad c)) ∧ Mk G.K (G.cad c) fa ∧ Binds G.K fd ps []
/-- the new one stays open to change -/
def mkT (c : Nat) (f : F) : F := fun xs h => (f (.ref h.length :: xs) (h ++ [.ins c []])).bind fun r h2 => match r with | .non => .ok (.ref h.length) h2 | _ => .bad
/-- it stands still behind its __init__ -/
def finF (n : Nat) (r : A) (h2 : Hs) : Out A := match r with
  | .non => (match h2[n]? with | some (.ins c' ys) => .ok (.ins c' ys) (h2.set n .dead) | _ => .bad)
  | _ => .bad
def mkF (c : Nat) (f : F) : F := fun xs h => (f (.ref h.length :: xs) (h ++ [.ins c []])).bind (finF h.length)
theorem freeze_ins {n : Nat} {x : V} {c : Nat} {ys : List A} (hr : HR G H ρ h) (ra : RA G H ρ (.ref n) x) (e : h[n]? = some (.ins c ys)) : Ext H ρ H (ρ.kill n) ∧ HR G H (ρ.kill n) (h.set n .dead) ∧ RA G H (ρ.kill n) (.ins c ys) x := by
  obtain ⟨ad, rfl, e2, dx, vs, e3, e4⟩ := hr.look ra e (fun z => by cases z)
  have rf := e4.mono (HR.ext_die (H := H) (ρ := ρ) (n := n))
  exact ⟨HR.ext_die, hr.die, .ins e3 (hr.nlive_die e2) rf.1 rf.2.1 rf.2.2⟩
theorem freeze_lst {n : Nat} {x : V} {ys : List A} (hr : HR G H ρ h) (ra : RA G H ρ (.ref n) x) (e : h[n]? = some (.lst ys)) : Ext H ρ H (ρ.kill n) ∧ HR G H (ρ.kill n) (h.set n .dead) ∧ RA G H (ρ.kill n) (.lst ys) x := by
  obtain ⟨ad, rfl, e2, vs, e3, e4⟩ := hr.look ra e (fun z => by cases z)
  have rf := e4.mono (HR.ext_die (H := H) (ρ := ρ) (n := n))
  exact ⟨HR.ext_die, hr.die, .lst e3 (hr.nlive_die e2) rf.1 rf.2⟩
theorem freeze_dk {n : Nat} {x : V} {ys : List (Key × A)} (hr : HR G H ρ h) (ra : RA G H ρ (.ref n) x) (e : h[n]? = some (.dk ys)) : Ext H ρ H (ρ.kill n) ∧ HR G H (ρ.kill n) (h.set n .dead) ∧ RA G H (ρ.kill n) (.dk ys) x := by
  obtain ⟨ad, rfl, e2, vs, e3, e4⟩ := hr.look ra e (fun z => by cases z)
  have rf := e4.mono (HR.ext_die (H := H) (ρ := ρ) (n := n))
  exact ⟨HR.ext_die, hr.die, .dk e3 (hr.nlive_die e2) rf.1 rf.2⟩
theorem freeze_dt {n : Nat} {x : V} {ys : List (List Key × A)} (hr : HR G H ρ h) (ra : RA G H ρ (.ref n) x) (e : h[n]? = some (.dt ys)) : Ext H ρ H (ρ.kill n) ∧ HR G H (ρ.kill n) (h.set n .dead) ∧ RA G H (ρ.kill n) (.dt ys) x := by
  obtain ⟨ad, rfl, e2, vs, e3, e4⟩ := hr.look ra e (fun z => by cases z)
  have rf := e4.mono (HR.ext_die (H := H) (ρ := ρ) (n := n))
  exact ⟨HR.ext_die, hr.die, .dt e3 (hr.nlive_die e2) rf.1 rf.2⟩
/-- the step of making, by values -/
theorem make_ok {n c : Nat} {f k : F} {xs : List A} {vs : List V} {W : WX} (ar : Ar (n + 1) f) (hr : HR G H ρ h) (rs : RAs G H ρ xs vs) (q : Po G W σ H ρ (RQ G Q) (k xs h))
    (hk : ∀ R H2 ρ2 (ad : Addr), Ext H ρ H2 ρ2 → RA G H2 ρ2 (.ref h.length) (.ref ad) → Po G W σ H ρ (RQ G R) (k xs h) → Po G W σ H2 ρ2 (RQ G fun v H3 => v = .non ∧ R (.ref ad) H3) (f (.ref h.length :: xs) (h ++ [.ins c []]))) :
    ∀ x dx, H x = none → H dx = none → dx ≠ x → spF G (n + 1) f (.ref x :: vs) (upd (upd H dx (.own x)) x (.ins (G.cad c) dx [])) (fun v H2 => v = .non ∧ Q (.ref x) H2) (WE W σ) := by
  intro x dx nx ndx ne
  have r1 : HR G (upd H dx (.own x)) ρ h := hr.new ndx
  have e1 : Ext H ρ (upd H dx (.own x)) ρ := hr.ext_new ndx
  have nx1 : upd H dx (.own x) x = none := by rw [upd_ne ne.symm]; exact nx
  have e2 := r1.ext_track (o := .ins (G.cad c) dx []) nx1
  have r2 : HR G (upd (upd H dx (.own x)) x (.ins (G.cad c) dx [])) (ρ.add x) (h ++ [.ins c []]) := r1.track nx1 ⟨dx, [], upd_same, by simp, rfl, fun _ _ _ _ z => by simp at z⟩
  have ra : RA G (upd (upd H dx (.own x)) x (.ins (G.cad c) dx [])) (ρ.add x) (.ref h.length) (.ref x) := .ref (by simp [hr.len]) fun b e => by rw [← hr.len] at e; simpa using e
  have q2 := hk Q _ _ x (e1.trans e2) ra q
  exact ⟨by rw [List.length_cons, ← rs.1, ← ar.len q2, List.length_cons], .ref h.length :: xs, ρ.add x, h ++ [.ins c []], .cons ra (rs.mono (e1.trans e2)), r2, q2.wish⟩
theorem mkT_hk {c : Nat} {f : F} {xs : List A} {W : WX} : ∀ (R : VK) H2 ρ2 (ad : Addr), Ext H ρ H2 ρ2 → RA G H2 ρ2 (.ref h.length) (.ref ad) → Po G W σ H ρ (RQ G R) (mkT c f xs h) → Po G W σ H2 ρ2 (RQ G fun v H3 => v = .non ∧ R (.ref ad) H3) (f (.ref h.length :: xs) (h ++ [.ins c []])) := by
  intro R H2 ρ2 ad e ra q
  unfold mkT at q
  revert q
  cases f (.ref h.length :: xs) (h ++ [.ins c []]) with
  | ok r h2 =>
    intro q H3 ρ3 e3 r3 v rv
    cases r <;> try exact q.elim
    cases rv
    exact ⟨rfl, q H3 ρ3 (e.trans e3) r3 _ (ra.mono e3)⟩
  | ex x h2 => exact fun q c d H3 ρ3 e3 r3 rx => q c d H3 ρ3 (e.trans e3) r3 rx
  | bad => exact fun q => q
theorem mkF_hk {c : Nat} {f : F} {xs : List A} {W : WX} : ∀ (R : VK) H2 ρ2 (ad : Addr), Ext H ρ H2 ρ2 → RA G H2 ρ2 (.ref h.length) (.ref ad) → Po G W σ H ρ (RQ G R) (mkF c f xs h) → Po G W σ H2 ρ2 (RQ G fun v H3 => v = .non ∧ R (.ref ad) H3) (f (.ref h.length :: xs) (h ++ [.ins c []])) := by
  intro R H2 ρ2 ad e ra q
  unfold mkF at q
  revert q
  cases f (.ref h.length :: xs) (h ++ [.ins c []]) with
  | ok r h2 =>
    intro q H3 ρ3 e3 r3 v rv
    revert q
    show Po G W σ H ρ (RQ G R) (finF h.length r h2) → _
    unfold finF
    cases r <;> try exact fun q => q.elim
    dsimp only
    cases hg : h2[h.length]? with
    | none => exact fun q => q.elim
    | some ob =>
      cases ob <;> try exact fun q => q.elim
      rename_i c' ys
      intro q
      cases rv
      obtain ⟨z1, z2, z3⟩ := freeze_ins r3 (ra.mono e3) hg
      exact ⟨rfl, q H3 _ ((e.trans e3).trans z1) z2 _ z3⟩
  | ex x h2 => exact fun q c d H3 ρ3 e3 r3 rx => q c d H3 ρ3 (e.trans e3) r3 rx
  | bad => exact fun q => q
theorem mk_E {x : Str} {cl j n : Nat} {f k : F} (D : DcR G x cl j n f) (hg : x ∈ L.GL) (hj : j + 1 ≤ L.k) (ha : DA G L (e :: es) fs) (he : NoSt e = true) (hpl : ∀ env, (backTo pos (starEach es env)).any (·.1) = false) (hc : L.cm = true)
    (hk : ∀ (σ : St) (H : Hp) (ρ : Rho) (h : Hs) (xs : List A) (R : VK) H2 ρ2 (ad : Addr), Ext H ρ H2 ρ2 → RA G H2 ρ2 (.ref h.length) (.ref ad) → Po G L.W σ H ρ (RQ G R) (k xs h) → Po G L.W σ H2 ρ2 (RQ G fun v H3 => v = .non ∧ R (.ref ad) H3) (f (.ref h.length :: xs) (h ++ [.ins cl []]))) :
    DE G L (.Call (.Name x p) (e :: es) [] pos) (eK fs k) := by
  refine ⟨fun X xr σ H ρ sl h sr hh Q q => ⟨fun pins s I => ?_⟩⟩
  obtain ⟨fa', fd, ps, Fn, hm, M, b⟩ := D.ex
  have z : As X (e :: es) σ H fun vs H1 => ∀ x dx, H1 x = none → H1 dx = none → dx ≠ x → spF G (n + 1) f (.ref x :: vs) (upd (upd H1 dx (.own x)) x (.ins (G.cad cl) dx [])) (fun v H2 => v = .non ∧ Q (.ref x) H2) (WE L.W σ) :=
    DA.bind ha xr sr hh q fun xs h1 vs H1 ρ1 e1 r1 rs s1 q1 => make_ok (k := k) D.ar r1 rs q1 (hk σ H1 ρ1 h1 xs)
  have M' : Mk X.K (G.cad cl) fa' := by rw [xr.K]; exact M
  refine wpAny_Call_Name_kw (ld_glob I (xr.gl x hg).1 (by rw [xr.mg]; exact hm) ?_ (xr.gl x hg).2.1)
  refine PySem.W.callWith_K (h₀ := X.base) I.ok.mod.kin M'.kp (thn (z.run pos pins s I) fun us s1 ⟨vs, H1, I1, r, q⟩ => ⟨I1.kIn, ?_⟩) (star_cons he) (hpl _)
  exact run_makeS (Es := WE L.W) M' (xr.fn Fn) ((xr.room hc).mono hj) xr.gd (by rw [xr.K]; exact b) (xr.pass σ) I1 r q
theorem de_mkT {x : Str} {cl j n : Nat} {f : F} (D : DcR G x cl j n f) (hg : x ∈ L.GL) (hj : j + 1 ≤ L.k) (ha : DA G L (e :: es) fs) (he : NoSt e = true := by rfl) (hpl : ∀ env, (backTo pos (starEach es env)).any (·.1) = false := by intro _; rfl) (hc : L.cm = true := by rfl) :
    DE G L (.Call (.Name x p) (e :: es) [] pos) (eK fs (mkT cl f)) := mk_E D hg hj ha he hpl hc fun σ H ρ h xs => mkT_hk
theorem de_mkF {x : Str} {cl j n : Nat} {f : F} (D : DcR G x cl j n f) (hg : x ∈ L.GL) (hj : j + 1 ≤ L.k) (ha : DA G L (e :: es) fs) (he : NoSt e = true := by rfl) (hpl : ∀ env, (backTo pos (starEach es env)).any (·.1) = false := by intro _; rfl) (hc : L.cm = true := by rfl) :
    DE G L (.Call (.Name x p) (e :: es) [] pos) (eK fs (mkF cl f)) := mk_E D hg hj ha he hpl hc fun σ H ρ h xs => mkF_hk
/-! ### a slot's list, dict, instance stands still from now on -/
def frz (i : Nat) : FS := fun sl h => match sl[i]? with
  | some (some (.ref n)) => (match h[n]? with
    | some (.lst xs) => .nx (sl.set i (some (.lst xs))) (h.set n .dead)
    | some (.dk xs) => .nx (sl.set i (some (.dk xs))) (h.set n .dead)
    | some (.dt xs) => .nx (sl.set i (some (.dt xs))) (h.set n .dead)
    | some (.ins c xs) => .nx (sl.set i (some (.ins c xs))) (h.set n .dead)
    | _ => .bad)
  | _ => .bad
theorem SR.put {i : Nat} {v : V} {x : A} (sr : SR G H ρ sl σ) (hv : σ[i]? = some (some v)) (ra : RA G H ρ x v) : SR G H ρ (sl.set i (some x)) σ := by
  have hl : i < σ.length := by
    by_cases hl : i < σ.length
    · exact hl
    · rw [List.getElem?_eq_none (by omega)] at hv; cases hv
  refine ⟨by simp [sr.len], fun j y e => ?_, fun xi hx e => ?_⟩
  · by_cases hj : i = j
    · subst hj
      rw [List.getElem?_set_self (by rw [sr.len]; exact hl)] at e
      cases e
      exact ⟨v, hv, ra⟩
    · rw [List.getElem?_set_ne hj] at e
      exact sr.get j y e
  · by_cases hj : i = xi.i
    · subst hj
      rw [List.getElem?_set_self (by rw [sr.len]; exact hl)] at e
      cases e
    · rw [List.getElem?_set_ne hj] at e
      exact sr.xs xi hx e
theorem dss_frz (i : Nat) (hs : DSs G L sts f) : DSs G L sts (sSeq (frz i) f) := by
  refine ⟨fun X xr σ H ρ sl h sr hh nx rt bk ct q => ?_⟩
  unfold sSeq frz at q
  cases hi : sl[i]? with
  | none => rw [hi] at q; exact q.elim
  | some o =>
    rw [hi] at q
    cases o with
    | none => exact q.elim
    | some x =>
      cases x <;> try exact q.elim
      rename_i n
      obtain ⟨v, hv, ra⟩ := sr.get i _ hi
      dsimp only at q
      cases hn : h[n]? with
      | none => rw [hn] at q; exact q.elim
      | some ob =>
        rw [hn] at q
        have fin : ∀ {y : A}, Ext H ρ H (ρ.kill n) ∧ HR G H (ρ.kill n) (h.set n .dead) ∧ RA G H (ρ.kill n) y v → PoS G L.W H ρ nx rt bk ct (f (sl.set i (some y)) (h.set n .dead)) → Ss X sts nx rt bk ct σ H := fun {y} z q => by
          obtain ⟨z1, z2, z3⟩ := z
          exact hs.run X xr σ H _ _ _ ((sr.mono z1).put hv z3) z2 nx rt bk ct (PoS.at1 q z1)
        cases ob with
        | dead => exact q.elim
        | lst xs => exact fin (freeze_lst hh ra hn) q
        | dk xs => exact fin (freeze_dk hh ra hn) q
        | dt xs => exact fin (freeze_dt hh ra hn) q
        | ins c xs => exact fin (freeze_ins hh ra hn) q
        | fdk xs => exact q.elim
        | fdt xs => exact q.elim
end
end Rx
set_option Elab.async false
set_option linter.all false
set_option maxRecDepth 100000
set_option maxHeartbeats 4000000
/-! RxO: numbers, texts, lists, tuples: operators and built-in functions by values. -/
namespace Rx
open PySem L2 Sx
open PyProof.Rows (subscriptTail)
section
variable {G : Gc} {L : Wh} {X : Cx} {σ : St} {H : Hp} {ρ : Rho} {sl : Sl} {h : Hs} {Q : VK}
/-- the items of a list, of whatever kind -/
def listOf (x : A) (h : Hs) : Option (List A) := match x with
  | .lst xs => some xs
  | .ref n => (match h[n]? with | some (.lst xs) => some xs | _ => none)
  | _ => none
theorem list_ok (hr : HR G H ρ h) {x : A} {v : V} {xs : List A} (r : RA G H ρ x v) (e : listOf x h = some xs) : ∃ a vs, v = .ref a ∧ H a = some (.lst vs) ∧ RAs G H ρ xs vs := by
  unfold listOf at e
  cases r with
  | lst h1 nl l r => cases e; exact ⟨_, _, rfl, h1, l, r⟩
  | ref hn hr' =>
    dsimp only at e
    split at e
    · cases e
      rename_i q
      obtain ⟨a, e1, e2, vs, e3, e4⟩ := hr.look (.ref hn hr') q (fun z => by cases z)
      exact ⟨a, vs, e1, e3, e4⟩
    · cases e
  | _ => cases e
/-! ### + - * // % ** -/
def aAdd (x y : A) (h : Hs) : Out A := match x with
  | .int i => (match y with | .int j => .ok (.int (i + j)) h | _ => .bad)
  | .str a => (match y with | .str b => chk (Nat.ble (a.length + b.length) sizeLine) (.ok (.str (a ++ b)) h) | _ => .bad)
  | .tup xs => (match y with | .tup ys => chk (Nat.ble (xs.length + ys.length) sizeLine) (.ok (.tup (xs ++ ys)) h) | _ => .bad)
  | _ => need (listOf x h) fun xs => need (listOf y h) fun ys => chk (Nat.ble (xs.length + ys.length) sizeLine) (.ok (.lst (xs ++ ys)) h)
theorem cat_ok {x y : A} {v u : V} {op : Operator} (hop : op = .Add) (hr : HR G H ρ h) (rx : RA G H ρ x v) (ry : RA G H ρ y u) {W : WX}
    (q : Po G W σ H ρ (RQ G Q) (need (listOf x h) fun xs => need (listOf y h) fun ys => chk (Nat.ble (xs.length + ys.length) sizeLine) (.ok (.lst (xs ++ ys)) h))) : Bo X op v u H Q := by
  subst hop
  obtain ⟨xs, e1, q⟩ := need_ok q
  obtain ⟨ys, e2, q⟩ := need_ok q
  obtain ⟨k, q⟩ := chk_ok q
  obtain ⟨a, vs, rfl, ha, ra⟩ := list_ok hr rx e1
  obtain ⟨b, us, rfl, hb, rb⟩ := list_ok hr ry e2
  refine .of op_cat ⟨a, b, vs, us, rfl, rfl, ha, hb, by rw [← ra.1, ← rb.1]; exact Nat.le_of_ble_eq_true k, fun p np => ?_⟩
  exact q _ ρ (hr.ext_new np) (hr.new np) _ (new_lstA hr np (ra.append rb))
theorem ob_add : OpB G L .Add aAdd := by
  refine ⟨fun X xr σ H ρ h x y v u hr rx ry Q q => .of ?_⟩
  cases rx with
  | int =>
    cases ry <;> try exact q.elim
    exact b_add (q H ρ .refl hr _ .int)
  | str =>
    cases ry <;> try exact q.elim
    obtain ⟨k, q⟩ := chk_ok q
    exact b_addS (Nat.le_of_ble_eq_true k) (q H ρ .refl hr _ .str)
  | tup h1 l1 r1 =>
    cases ry <;> try exact q.elim
    rename_i xs a vs ys b us h2 l2 r2
    obtain ⟨k, q⟩ := chk_ok q
    have k := Nat.le_of_ble_eq_true k
    refine .of op_catA ⟨a, b, vs, us, rfl, rfl, by rw [xr.K]; exact .inl (.inl h1), by rw [xr.K]; exact .inl (.inl h2), by rw [← l1, ← l2]; exact k, fun e => ?_, fun _ e => ?_, fun _ _ p np => ?_⟩
    · have : xs = [] := by cases xs with | nil => rfl | cons _ _ => rw [e] at l1; simp at l1
      subst this
      exact q H ρ .refl hr _ (.tup h2 l2 r2)
    · have : ys = [] := by cases ys with | nil => rfl | cons _ _ => rw [e] at l2; simp at l2
      subst this
      rw [List.append_nil] at q
      exact q H ρ .refl hr _ (.tup h1 l1 r1)
    · exact q _ ρ (hr.ext_new np) (hr.new np) _ (new_tupA hr np (RAs.append ⟨l1, r1⟩ ⟨l2, r2⟩))
  | non => exact q.elim
  | bl => exact q.elim
  | ty => exact q.elim
  | cls => exact q.elim
  | scr _ => exact q.elim
  | dk _ _ _ _ => exact q.elim
  | dt _ _ _ _ => exact q.elim
  | wdk _ _ _ => exact q.elim
  | ctp _ _ _ => exact q.elim
  | ins _ _ _ _ _ => exact q.elim
  | lst h1 n1 l1 r1 => exact cat_ok rfl hr (.lst h1 n1 l1 r1) ry q
  | ref hn h1 => exact cat_ok rfl hr (.ref hn h1) ry q
def aInt (g : Int → Int → Option Int) (x y : A) (h : Hs) : Out A := match x with
  | .int i => (match y with | .int j => need (g i j) fun k => .ok (.int k) h | _ => .bad)
  | _ => .bad
theorem int_ok {g : Int → Int → Option Int} {op : Operator} (hg : ∀ (X : Cx) (H : Hp) i j k Q, g i j = some k → Q (.int k) H → Bo X op (.int i) (.int j) H Q) : OpB G L op (aInt g) := by
  refine ⟨fun X xr σ H ρ h x y v u hr rx ry Q q => .of ?_⟩
  cases rx <;> try exact q.elim
  cases ry <;> try exact q.elim
  obtain ⟨k, e, q⟩ := need_ok q
  exact hg X H _ _ k Q e (q H ρ .refl hr _ .int)
def gSub' (i j : Int) : Option Int := some (i - j)
/-- * of which one is small -/
def gMul (i j : Int) : Option Int := match decide ((-18446744073709551616 < i ∧ i < 18446744073709551616) ∨ (-18446744073709551616 < j ∧ j < 18446744073709551616)) with | true => some (i * j) | false => none
def gMod (i j : Int) : Option Int := match decide (0 < j) with | true => some (i % j) | false => none
def gDiv (i j : Int) : Option Int := match decide (0 < j ∧ j ≤ 10000000000000000000000000000000) with | true => some (i / j) | false => none
def gPow (i j : Int) : Option Int := match decide (0 ≤ j ∧ j ≤ 1000 ∧ i.natAbs < 18446744073709551616) with | true => some (i ^ j.toNat) | false => none
theorem ob_sub : OpB G L .Sub (aInt gSub') := int_ok fun X H i j k Q e q => by cases e; exact b_sub q
theorem ob_mul : OpB G L .Mult (aInt gMul) := int_ok fun X H i j k Q e q => by
  unfold gMul at e
  split at e
  · rename_i z
    cases e
    have z := of_decide_eq_true z
    exact b_mul (CMul.ok (z.elim (fun z => .inl ⟨by omega, by omega⟩) fun z => .inr ⟨by omega, by omega⟩)) q
  · cases e
theorem ob_mod : OpB G L .Mod (aInt gMod) := int_ok fun X H i j k Q e q => by
  unfold gMod at e
  split at e
  · rename_i z
    cases e
    exact b_mod (of_decide_eq_true z) q
  · cases e
theorem ob_div : OpB G L .FloorDiv (aInt gDiv) := int_ok fun X H i j k Q e q => by
  unfold gDiv at e
  split at e
  · rename_i z
    cases e
    have z := of_decide_eq_true z
    exact b_fdiv (cdiv_of z.1 z.2) q
  · cases e
theorem ob_pow : OpB G L .Pow (aInt gPow) := int_ok fun X H i j k Q e q => by
  unfold gPow at e
  split at e
  · rename_i z
    cases e
    have z := of_decide_eq_true z
    exact b_pow ⟨z.1, by omega, by have := z.2.2; omega⟩ q
  · cases e
def aNeg (x : A) (h : Hs) : Out A := match x with | .int i => .ok (.int (-i)) h | _ => .bad
theorem ou_neg : OpU G L .USub aNeg := by
  refine ⟨fun X xr σ H ρ h x v hr rx Q q => .of ?_⟩
  cases rx <;> try exact q.elim
  exact u_neg (q H ρ .refl hr _ .int)
/-! ### comparisons -/
def aCmp (p : Int → Int → Bool) (x y : A) (h : Hs) : Out A := match x with
  | .int i => (match y with | .int j => .ok (.bl (p i j)) h | _ => .bad)
  | _ => .bad
theorem oc_int {cop : CmpOp} {p : Int → Int → Bool} (ci : CmpI cop p) : OpC G L cop (aCmp p) := by
  refine ⟨fun X xr σ H ρ h x y v u hr rx ry Q q => .of ?_⟩
  cases rx <;> try exact q.elim
  cases ry <;> try exact q.elim
  exact ci.run X H _ _ Q (q H ρ .refl hr _ .bl)
mutual
/-- plain data -/
def dat : A → Option PyData
  | .non => some .none
  | .bl b => some (.bool b)
  | .int i => some (.int i)
  | .str x => some (.str x)
  | .tup xs => (datAll xs).map .tuple
  | .ctp xs => (datAll xs).map .tuple
  | .lst xs => (datAll xs).map .list
  | _ => none
def datAll : List A → Option (List PyData)
  | [] => some []
  | x :: xs => (dat x).bind fun d => (datAll xs).map fun ds => d :: ds
end
def datH (x : A) (h : Hs) : Option PyData := match x with
  | .ref n => (match h[n]? with | some (.lst xs) => (datAll xs).map .list | _ => none)
  | _ => dat x
theorem datAll_get : ∀ {xs : List A} {ds : List PyData}, datAll xs = some ds → xs.length = ds.length ∧ ∀ (i : Nat) x, xs[i]? = some x → ∃ d, ds[i]? = some d ∧ dat x = some d
  | [], ds, e => by
    unfold datAll at e
    cases e
    exact ⟨rfl, fun i x z => by simp at z⟩
  | x :: xs, ds, e => by
    unfold datAll at e
    cases h1 : dat x with
    | none => rw [h1] at e; cases e
    | some d =>
      rw [h1] at e
      cases h2 : datAll xs with
      | none => rw [h2] at e; cases e
      | some ds' =>
        rw [h2] at e
        cases e
        obtain ⟨l, g⟩ := datAll_get h2
        refine ⟨by simp [l], fun i y z => ?_⟩
        cases i with
        | zero => simp at z; subst z; exact ⟨d, rfl, h1⟩
        | succ i => exact g i y (by simpa using z)
theorem dpAll_of {K : PySem.W.Frag} : ∀ {vs : List V} {ds : List PyData}, vs.length = ds.length → (∀ (i : Nat) v d, vs[i]? = some v → ds[i]? = some d → Dp K H v d) → DpAll K H vs ds
  | [], [], _, _ => .nil
  | [], _ :: _, l, _ => by simp at l
  | _ :: _, [], l, _ => by simp at l
  | v :: vs, d :: ds, l, g => .cons (g 0 v d rfl rfl) (dpAll_of (by simpa using l) fun i v' d' e1 e2 => g (i + 1) v' d' (by simpa using e1) (by simpa using e2))
theorem dat_ok {x : A} {v : V} (r : RA G H ρ x v) : ∀ {d : PyData}, dat x = some d → Dp G.K H v d := by
  induction r with
  | non => intro d e; unfold dat at e; cases e; exact .non
  | bl => intro d e; unfold dat at e; cases e; exact .bl _
  | int => intro d e; unfold dat at e; cases e; exact .int _
  | str => intro d e; unfold dat at e; cases e; exact .str _
  | @tup xs a vs h1 l r ih =>
    intro d e
    unfold dat at e
    cases h2 : datAll xs with
    | none => rw [h2] at e; cases e
    | some ds =>
      rw [h2] at e
      cases e
      obtain ⟨l2, g⟩ := datAll_get h2
      refine .tup (.inl (.inl h1)) (dpAll_of (by rw [← l, l2]) fun i v d e1 e2 => ?_)
      have hi : i < xs.length := by
        by_cases hi : i < xs.length
        · exact hi
        · rw [List.getElem?_eq_none (by omega)] at e1; cases e1
      obtain ⟨d', e3, e4⟩ := g i xs[i] (List.getElem?_eq_getElem hi)
      rw [e3] at e2
      cases e2
      exact ih i xs[i] v (List.getElem?_eq_getElem hi) e1 e4
  | @ctp xs a vs h1 l r ih =>
    intro d e
    unfold dat at e
    cases h2 : datAll xs with
    | none => rw [h2] at e; cases e
    | some ds =>
      rw [h2] at e
      cases e
      obtain ⟨l2, g⟩ := datAll_get h2
      refine .tup h1 (dpAll_of (by rw [← l, l2]) fun i v d e1 e2 => ?_)
      have hi : i < xs.length := by
        by_cases hi : i < xs.length
        · exact hi
        · rw [List.getElem?_eq_none (by omega)] at e1; cases e1
      obtain ⟨d', e3, e4⟩ := g i xs[i] (List.getElem?_eq_getElem hi)
      rw [e3] at e2
      cases e2
      exact ih i xs[i] v (List.getElem?_eq_getElem hi) e1 e4
  | @lst xs a vs h1 n l r ih =>
    intro d e
    unfold dat at e
    cases h2 : datAll xs with
    | none => rw [h2] at e; cases e
    | some ds =>
      rw [h2] at e
      cases e
      obtain ⟨l2, g⟩ := datAll_get h2
      refine .lst (.inl (.inl h1)) (dpAll_of (by rw [← l, l2]) fun i v d e1 e2 => ?_)
      have hi : i < xs.length := by
        by_cases hi : i < xs.length
        · exact hi
        · rw [List.getElem?_eq_none (by omega)] at e1; cases e1
      obtain ⟨d', e3, e4⟩ := g i xs[i] (List.getElem?_eq_getElem hi)
      rw [e3] at e2
      cases e2
      exact ih i xs[i] v (List.getElem?_eq_getElem hi) e1 e4
  | _ => intro d e; unfold dat at e; cases e
theorem datAll_ok {xs : List A} {vs : List V} {ds : List PyData} (r : RAs G H ρ xs vs) (e : datAll xs = some ds) : DpAll G.K H vs ds := by
  obtain ⟨l2, g⟩ := datAll_get e
  refine dpAll_of (by rw [← r.1, l2]) fun i v d e1 e2 => ?_
  have hi : i < xs.length := by
    by_cases hi : i < xs.length
    · exact hi
    · rw [List.getElem?_eq_none (by have := r.1; omega)] at e1; cases e1
  obtain ⟨d', e3, e4⟩ := g i xs[i] (List.getElem?_eq_getElem hi)
  rw [e3] at e2
  cases e2
  exact dat_ok (r.2 i xs[i] v (List.getElem?_eq_getElem hi) e1) e4
theorem datH_ok (hr : HR G H ρ h) {x : A} {v : V} {d : PyData} (r : RA G H ρ x v) (e : datH x h = some d) : Dp G.K H v d := by
  cases x with
  | ref n =>
    unfold datH at e
    dsimp only at e
    split at e
    · rename_i xs hn
      obtain ⟨a, rfl, _, vs, e3, e4⟩ := hr.look r hn (fun z => by cases z)
      cases h2 : datAll xs with
      | none => rw [h2] at e; cases e
      | some ds =>
        rw [h2] at e
        cases e
        exact .lst (.inl (.inl e3)) (datAll_ok e4 h2)
    · cases e
  | _ => exact dat_ok r e
def eqD (x y : A) (h : Hs) : Out Bool := need (datH x h) fun d => need (datH y h) fun e => chk (SeqAt.shaped d && SeqAt.shaped e) (.ok (PyData.eqv d e) h)
def aEq (x y : A) (h : Hs) : Out A := (eqD x y h).bind fun b h1 => .ok (.bl b) h1
def aNe (x y : A) (h : Hs) : Out A := (eqD x y h).bind fun b h1 => .ok (.bl (!b)) h1
theorem eqD_ok {x y : A} {v u : V} {W : WX} {k : Bool → Hs → Out A} (hr : HR G H ρ h) (rx : RA G H ρ x v) (ry : RA G H ρ y u) (q : Po G W σ H ρ (RQ G Q) ((eqD x y h).bind k)) : ∃ d e, Dp G.K H v d ∧ Dp G.K H u e ∧ SeqAt.shaped d = true ∧ SeqAt.shaped e = true ∧ Po G W σ H ρ (RQ G Q) (k (PyData.eqv d e) h) := by
  unfold eqD at q
  cases h1 : datH x h with
  | none => rw [h1] at q; exact q.elim
  | some d =>
    rw [h1] at q
    cases h2 : datH y h with
    | none => rw [h2] at q; exact q.elim
    | some e =>
      rw [h2] at q
      cases hs : SeqAt.shaped d && SeqAt.shaped e with
      | false => exact (show False by unfold need chk at q; simp only [hs] at q; exact q).elim
      | true =>
        have q' : Po G W σ H ρ (RQ G Q) (k (PyData.eqv d e) h) := by unfold need chk at q; simp only [hs] at q; exact q
        rw [Bool.and_eq_true] at hs
        exact ⟨d, e, datH_ok hr rx h1, datH_ok hr ry h2, hs.1, hs.2, q'⟩
theorem oc_eq : OpC G L .Eq aEq := by
  refine ⟨fun X xr σ H ρ h x y v u hr rx ry Q q => .of ?_⟩
  obtain ⟨d, e, h1, h2, s1, s2, q⟩ := eqD_ok hr rx ry q
  exact .of (op_eqD (by have := xr.un; omega)) ⟨d, e, by rw [xr.K]; exact h1, by rw [xr.K]; exact h2, s1, s2, q H ρ .refl hr _ .bl⟩
theorem oc_ne : OpC G L .NotEq aNe := by
  refine ⟨fun X xr σ H ρ h x y v u hr rx ry Q q => .of ?_⟩
  obtain ⟨d, e, h1, h2, s1, s2, q⟩ := eqD_ok hr rx ry q
  exact .of (op_neD (by have := xr.un; omega)) ⟨d, e, by rw [xr.K]; exact h1, by rw [xr.K]; exact h2, s1, s2, q H ρ .refl hr _ .bl⟩
end
end Rx
set_option Elab.async false
set_option linter.all false
set_option maxRecDepth 100000
set_option maxHeartbeats 4000000
/-! RxP: built-in functions, subscripts, in, truth, isinstance, methods of built-in types. -/
namespace Rx
open PySem L2 Sx
open PyProof.Rows (subscriptTail)
section
variable {G : Gc} {L : Wh} {X : Cx} {σ : St} {H : Hp} {ρ : Rho} {sl : Sl} {h : Hs} {Q : VK} {e o : Expr} {es : List Expr} {fa fb : FE} {fs : FA} {pos p apos cpos : Pos}
def f1 (m : A → Hs → Out A) : F := fun xs h => match xs with | [x] => m x h | _ => .bad
def f2 (m : A → A → Hs → Out A) : F := fun xs h => match xs with | [x, y] => m x y h | _ => .bad
theorem ok_one {W : WX} {xs : List A} {vs : List V} {m : A → Hs → Out A} (rs : RAs G H ρ xs vs) (q : Po G W σ H ρ (RQ G Q) (f1 m xs h)) : ∃ x v, xs = [x] ∧ vs = [v] ∧ RA G H ρ x v ∧ Po G W σ H ρ (RQ G Q) (m x h) := by
  cases xs with
  | nil => exact q.elim
  | cons x r =>
    cases r with
    | cons _ _ => exact q.elim
    | nil =>
      obtain ⟨v, us, rfl, rv, rs⟩ := rs.uncons
      rw [rs.unnil]
      exact ⟨x, v, rfl, rfl, rv, q⟩
theorem ok_two {W : WX} {xs : List A} {vs : List V} {m : A → A → Hs → Out A} (rs : RAs G H ρ xs vs) (q : Po G W σ H ρ (RQ G Q) (f2 m xs h)) : ∃ x y v u, xs = [x, y] ∧ vs = [v, u] ∧ RA G H ρ x v ∧ RA G H ρ y u ∧ Po G W σ H ρ (RQ G Q) (m x y h) := by
  cases xs with
  | nil => exact q.elim
  | cons x r =>
    cases r with
    | nil => exact q.elim
    | cons y r =>
      cases r with
      | cons _ _ => exact q.elim
      | nil =>
        obtain ⟨v, us, rfl, rv, rs⟩ := rs.uncons
        obtain ⟨u, us, rfl, ru, rs⟩ := rs.uncons
        rw [rs.unnil]
        exact ⟨x, y, v, u, rfl, rfl, rv, ru, q⟩
/-! ### len, abs, max, min, int, bool -/
def lenA (x : A) (h : Hs) : Out A := match x with
  | .str z => chk (Nat.ble z.length sizeLine) (.ok (.int (Int.ofNat z.length)) h)
  | .tup xs => .ok (.int (Int.ofNat xs.length)) h
  | .ctp xs => .ok (.int (Int.ofNat xs.length)) h
  | .scr ns => .ok (.int (Int.ofNat ns.length)) h
  | .dk kvs => .ok (.int (Int.ofNat kvs.length)) h
  | .lst xs => .ok (.int (Int.ofNat xs.length)) h
  | .ref n => (match h[n]? with
    | some (.lst xs) => .ok (.int (Int.ofNat xs.length)) h
    | some (.dk kvs) => .ok (.int (Int.ofNat kvs.length)) h
    | _ => .bad)
  | _ => .bad
theorem ok_len : OpK G L (.builtin "len") (f1 lenA) := by
  refine ⟨fun X xr σ H ρ h xs vs hr rs Q q => .of ?_⟩
  obtain ⟨x, v, rfl, rfl, ra, q⟩ := ok_one rs q
  cases ra with
  | str =>
    obtain ⟨k, q⟩ := chk_ok q
    exact .of call_len ⟨_, _, rfl, ⟨Nat.le_of_ble_eq_true k, rfl⟩, q H ρ .refl hr _ .int⟩
  | tup h1 l r => exact .of call_len ⟨_, _, rfl, .inr ⟨_, by rw [xr.K]; exact .inl (.inl h1), rfl⟩, by rw [← l]; exact q H ρ .refl hr _ .int⟩
  | ctp h1 l r => exact .of call_len ⟨_, _, rfl, .inr ⟨_, by rw [xr.K]; exact h1, rfl⟩, by rw [← l]; exact q H ρ .refl hr _ .int⟩
  | scr h1 =>
    have q := q H ρ .refl hr _ .int
    refine .of call_len ⟨_, _, rfl, .inl ⟨_, by rw [xr.K]; exact h1.sqL, rfl⟩, ?_⟩
    rw [List.length_map]; exact q
  | lst h1 n l r => exact .of call_len ⟨_, _, rfl, .inl ⟨_, .inl (.inl h1), rfl⟩, by rw [← l]; exact q H ρ .refl hr _ .int⟩
  | dk h1 n l r =>
    have hl := congrArg List.length l
    simp only [List.length_map] at hl
    exact .of call_lenD ⟨_, _, rfl, h1, by rw [← hl]; exact q H ρ .refl hr _ .int⟩
  | @ref n a hn hb =>
    unfold lenA at q
    dsimp only at q
    cases hh : h[n]? with
    | none => rw [hh] at q; exact q.elim
    | some ob =>
      rw [hh] at q
      obtain ⟨ad, e1, e2, ro⟩ : ∃ ad, V.ref a = .ref ad ∧ True ∧ RO G H ρ ad ob := by
        cases ob with
        | dead => exact q.elim
        | lst xs => obtain ⟨ad, e1, _, ro⟩ := hr.look (.ref hn hb) hh (fun z => by cases z); exact ⟨ad, e1, trivial, ro⟩
        | dk xs => obtain ⟨ad, e1, _, ro⟩ := hr.look (.ref hn hb) hh (fun z => by cases z); exact ⟨ad, e1, trivial, ro⟩
        | dt xs => exact q.elim
        | ins c xs => exact q.elim
        | fdk xs => exact q.elim
        | fdt xs => exact q.elim
      cases e1
      cases ob with
      | dead => exact q.elim
      | lst xs =>
        obtain ⟨vs, e3, e4⟩ := ro
        exact .of call_len ⟨_, _, rfl, .inl ⟨_, .inl (.inl e3), rfl⟩, by rw [← e4.1]; exact q H ρ .refl hr _ .int⟩
      | dk xs =>
        obtain ⟨vs, e3, e4⟩ := ro
        exact .of call_lenD ⟨_, _, rfl, e3, by rw [← e4.length]; exact q H ρ .refl hr _ .int⟩
      | dt xs => exact q.elim
      | ins c xs => exact q.elim
      | fdk xs => exact q.elim
      | fdt xs => exact q.elim
  | _ => exact q.elim
def absA (x : A) (h : Hs) : Out A := match x with | .int i => .ok (.int (if i < 0 then -i else i)) h | _ => .bad
theorem ok_abs : OpK G L (.builtin "abs") (f1 absA) := by
  refine ⟨fun X xr σ H ρ h xs vs hr rs Q q => .of ?_⟩
  obtain ⟨x, v, rfl, rfl, ra, q⟩ := ok_one rs q
  cases ra <;> try exact q.elim
  exact Sx.k_abs (q H ρ .refl hr _ .int)
def maxA (x y : A) (h : Hs) : Out A := match x with | .int i => (match y with | .int j => .ok (.int (if j > i then j else i)) h | _ => .bad) | _ => .bad
def minA (x y : A) (h : Hs) : Out A := match x with | .int i => (match y with | .int j => .ok (.int (if j < i then j else i)) h | _ => .bad) | _ => .bad
theorem ok_max (hc : L.cm = true := by rfl) : OpK G L (.builtin "max") (f2 maxA) := by
  refine ⟨fun X xr σ H ρ h xs vs hr rs Q q => .of ?_⟩
  obtain ⟨x, y, v, u, rfl, rfl, ra, rb, q⟩ := ok_two rs q
  cases ra <;> try exact q.elim
  cases rb <;> try exact q.elim
  exact .of (call_max2 (xr.calm hc)) ⟨_, _, rfl, q H ρ .refl hr _ .int⟩
theorem ok_min (hc : L.cm = true := by rfl) : OpK G L (.builtin "min") (f2 minA) := by
  refine ⟨fun X xr σ H ρ h xs vs hr rs Q q => .of ?_⟩
  obtain ⟨x, y, v, u, rfl, rfl, ra, rb, q⟩ := ok_two rs q
  cases ra <;> try exact q.elim
  cases rb <;> try exact q.elim
  exact .of (call_min2 (xr.calm hc)) ⟨_, _, rfl, q H ρ .refl hr _ .int⟩
def intA (x : A) (h : Hs) : Out A := match x with | .int i => .ok (.int i) h | .bl b => .ok (.int (if b then 1 else 0)) h | _ => .bad
theorem ok_int : OpK G L (.type "int") (f1 intA) := by
  refine ⟨fun X xr σ H ρ h xs vs hr rs Q q => .of ?_⟩
  obtain ⟨x, v, rfl, rfl, ra, q⟩ := ok_one rs q
  cases ra <;> try exact q.elim
  · exact Sx.k_intB (q H ρ .refl hr _ .int)
  · exact Sx.k_int (q H ρ .refl hr _ .int)
def boolA (x : A) (h : Hs) : Out A := match x with | .int i => .ok (.bl (i != 0)) h | .bl b => .ok (.bl b) h | _ => .bad
theorem ok_bool : OpK G L (.type "bool") (f1 boolA) := by
  refine ⟨fun X xr σ H ρ h xs vs hr rs Q q => .of ?_⟩
  obtain ⟨x, v, rfl, rfl, ra, q⟩ := ok_one rs q
  cases ra <;> try exact q.elim
  · exact .of call_bool1 (.inr ⟨_, rfl, q H ρ .refl hr _ .bl⟩)
  · exact .of call_bool1 (.inl ⟨_, rfl, q H ρ .refl hr _ .bl⟩)
/-! ### list(x), tuple(x): new ones, of a list or a tuple -/
theorem seq_ok (hr : HR G H ρ h) {x : A} {v : V} {xs : List A} (r : RA G H ρ x v) (e : itemsOf x h = some xs) : ∃ a vs, v = .ref a ∧ (SqL G.K H a vs ∨ SqT G.K H a vs) ∧ RAs G H ρ xs vs := by
  unfold itemsOf at e
  cases r with
  | lst h1 nl l r => cases e; exact ⟨_, _, rfl, .inl (.inl (.inl h1)), l, r⟩
  | tup h1 l r => cases e; exact ⟨_, _, rfl, .inr (.inl (.inl h1)), l, r⟩
  | ctp h1 l r => cases e; exact ⟨_, _, rfl, .inr h1, l, r⟩
  | ref hn hr' =>
    dsimp only at e
    split at e
    · cases e
      rename_i q
      obtain ⟨a, e1, e2, vs, e3, e4⟩ := hr.look (.ref hn hr') q (fun z => by cases z)
      exact ⟨a, vs, e1, .inl (.inl (.inl e3)), e4⟩
    · cases e
  | _ => cases e
def listA (x : A) (h : Hs) : Out A := need (itemsOf x h) fun xs => .ok (.lst xs) h
def listTA (x : A) (h : Hs) : Out A := need (itemsOf x h) fun xs => .ok (.ref h.length) (h ++ [.lst xs])
def tupleA (x : A) (h : Hs) : Out A := match x with
  | .tup xs => .ok (.tup xs) h
  | .ctp xs => .ok (.ctp xs) h
  | _ => need (listOf x h) fun xs => .ok (.tup xs) h
theorem ok_list : OpK G L (.type "list") (f1 listA) := by
  refine ⟨fun X xr σ H ρ h xs vs hr rs Q q => .of ?_⟩
  obtain ⟨x, v, rfl, rfl, ra, q⟩ := ok_one rs q
  obtain ⟨ys, e, q⟩ := need_ok q
  obtain ⟨a, us, rfl, hs, rl⟩ := seq_ok hr ra e
  exact .of call_list_of ⟨a, us, rfl, by rw [xr.K]; exact hs, fun p np => q _ ρ (hr.ext_new np) (hr.new np) _ (new_lstA hr np rl)⟩
theorem ok_listT : OpK G L (.type "list") (f1 listTA) := by
  refine ⟨fun X xr σ H ρ h xs vs hr rs Q q => .of ?_⟩
  obtain ⟨x, v, rfl, rfl, ra, q⟩ := ok_one rs q
  obtain ⟨ys, e, q⟩ := need_ok q
  obtain ⟨a, us, rfl, hs, rl⟩ := seq_ok hr ra e
  exact .of call_list_of ⟨a, us, rfl, by rw [xr.K]; exact hs, fun p np => by
    obtain ⟨z1, z2⟩ := new_lstT hr np rl
    exact q _ _ (hr.ext_track np) z2 _ z1⟩
theorem ok_tuple : OpK G L (.type "tuple") (f1 tupleA) := by
  refine ⟨fun X xr σ H ρ h xs vs hr rs Q q => .of ?_⟩
  obtain ⟨x, v, rfl, rfl, ra, q⟩ := ok_one rs q
  have gen : Po G L.W σ H ρ (RQ G Q) (need (listOf x h) fun xs => .ok (.tup xs) h) → C X (.type "tuple") [v] H Q := fun q => by
    obtain ⟨ys, e, q⟩ := need_ok q
    obtain ⟨a, us, rfl, hs, rl⟩ := list_ok hr ra e
    exact .of call_tuple_of ⟨a, us, rfl, .inl ⟨.inl (.inl hs), fun p np => q _ ρ (hr.ext_new np) (hr.new np) _ (new_tupA hr np rl)⟩⟩
  unfold tupleA at q
  cases x with
  | tup xs =>
    cases ra with
    | tup hs l r => exact .of call_tuple_of ⟨_, _, rfl, .inr ⟨by rw [xr.K]; exact .inl (.inl hs), q H ρ .refl hr _ (.tup hs l r)⟩⟩
  | ctp xs =>
    cases ra with
    | ctp hs l r => exact .of call_tuple_of ⟨_, _, rfl, .inr ⟨by rw [xr.K]; exact hs, q H ρ .refl hr _ (.ctp hs l r)⟩⟩
  | _ => exact gen q
/-! ### truth -/
def truA (x : A) (h : Hs) : Out Bool := match x with
  | .non => .ok false h
  | .bl b => .ok b h
  | .int i => .ok (i != 0) h
  | .str z => chk (Nat.ble z.length sizeLine) (.ok (Int.ofNat z.length != 0) h)
  | _ => need (itemsOf x h) fun xs => .ok (!xs.isEmpty) h
theorem ot_tru : OpT G L truA := by
  refine ⟨fun X xr σ H ρ h x v hr ra Q q => .of ?_⟩
  have em : ∀ {xs : List A} {vs : List V}, RAs G H ρ xs vs → (!xs.isEmpty) = !vs.isEmpty := fun {xs vs} r => by
    cases xs with
    | nil => rw [r.unnil]; rfl
    | cons x xs => obtain ⟨v, us, rfl, _⟩ := r.uncons; rfl
  have gen : Po G L.W σ H ρ (RB Q) (need (itemsOf x h) fun xs => .ok (!xs.isEmpty) h) → Tr X v H Q := fun q => by
    obtain ⟨ys, e, q⟩ := need_ok q
    obtain ⟨a, us, rfl, hs, rl⟩ := seq_ok hr ra e
    refine .of (k := !ys.isEmpty) ?_ (q H ρ .refl hr)
    rcases hs with hs | hs
    · exact .inl ⟨us, by rw [xr.K]; exact hs, em rl⟩
    · exact .inr (.inl ⟨us, by rw [xr.K]; exact hs, em rl⟩)
  cases x with
  | non => cases ra; exact .of (k := false) rfl (q H ρ .refl hr)
  | bl b => cases ra; exact .of (k := b) rfl (q H ρ .refl hr)
  | int i => cases ra; exact .of (k := (i != 0)) rfl (q H ρ .refl hr)
  | str z =>
    cases ra
    obtain ⟨k, q⟩ := chk_ok q
    exact .of (k := ((z.length : Int) != 0)) ⟨Nat.le_of_ble_eq_true k, rfl⟩ (q H ρ .refl hr)
  | _ => exact gen q
theorem ot_bl : OpT G L isB := by
  refine ⟨fun X xr σ H ρ h x v hr ra Q q => .of ?_⟩
  cases ra <;> try exact q.elim
  exact .of (k := _) rfl (q H ρ .refl hr)
/-! ### x[i] -/
def ixA (x y : A) (h : Hs) : Out A := match y with
  | .int i => (match x with
    | .str z => chk (Nat.ble z.length sizeLine) (need (atI z.cps.toList i) fun c => .ok (.str ⟨#[c]⟩) h)
    | .scr ns => need (atI ns i) fun n => .ok (.int n) h
    | _ => need (itemsOf x h) fun xs => need (atI xs i) fun z => .ok z h)
  | _ => .bad
theorem atI_ok {xs : List A} {vs : List V} {i : Int} {z : A} (rs : RAs G H ρ xs vs) (e : atI xs i = some z) : ∃ v, atI vs i = some v ∧ RA G H ρ z v := by
  unfold atI at e ⊢
  rw [← rs.1]
  cases hi : ixN xs.length i with
  | none => rw [hi] at e; cases e
  | some j =>
    rw [hi] at e
    exact rs.get (i := j) e
theorem ox_ix : OpX G L ixA := by
  refine ⟨fun X xr σ H ρ h x y v u a b hb hr ra rb Q q => .of ?_⟩
  have gen : ∀ i, u = .int i → Po G L.W σ H ρ (RQ G Q) (need (itemsOf x h) fun xs => need (atI xs i) fun z => .ok z h) → Ix X a b v u H Q := fun i eu q => by
    subst eu
    obtain ⟨xs, e, q⟩ := need_ok q
    obtain ⟨z, e2, q⟩ := need_ok q
    obtain ⟨ad, us, rfl, hs, rl⟩ := seq_ok hr ra e
    obtain ⟨w, e3, rw'⟩ := atI_ok rl e2
    rcases hs with hs | hs
    · exact .of ix_list hb ⟨ad, us, i, w, rfl, rfl, by rw [xr.K]; exact hs, e3, q H ρ .refl hr w rw'⟩
    · exact .of ix_tup hb ⟨ad, us, i, w, rfl, rfl, by rw [xr.K]; exact hs, e3, q H ρ .refl hr w rw'⟩
  cases rb <;> try exact q.elim
  rename_i i
  cases x with
  | str z =>
    cases ra
    obtain ⟨k, q⟩ := chk_ok q
    obtain ⟨c, e, q⟩ := need_ok q
    exact .of ix_str hb ⟨z, i, c, rfl, rfl, Nat.le_of_ble_eq_true k, e, q H ρ .refl hr _ .str⟩
  | scr ns =>
    cases ra
    rename_i ad hs
    obtain ⟨n, e, q⟩ := need_ok q
    refine .of ix_list hb ⟨ad, ns.map V.int, i, .int n, rfl, rfl, by rw [xr.K]; exact hs.sqL, ?_, q H ρ .refl hr _ .int⟩
    unfold atI at e ⊢
    rw [List.length_map]
    cases hi : ixN ns.length i with
    | none => rw [hi] at e; cases e
    | some j =>
      rw [hi] at e
      show (ns.map V.int)[j]? = _
      rw [List.getElem?_map, show ns[j]? = some n from e]; rfl
  | _ => exact gen i rfl q
/-! ### x[i] = v on lists -/
def setL (x y z : A) (h : Hs) : Out Unit := match x with
  | .ref n => (match h[n]? with
    | some (.lst xs) => (match y with | .int i => need (ixN xs.length i) fun j => .ok () (h.set n (.lst (xs.set j z))) | _ => .bad)
    | _ => .bad)
  | _ => .bad
theorem os_list : OpS G L setL := by
  refine ⟨fun X xr σ H ρ h x y z v u w hr ra rb rc Q q => .of ?_⟩
  cases x <;> try exact q.elim
  rename_i n
  unfold setL at q
  dsimp only at q
  cases hn : h[n]? with
  | none => rw [hn] at q; exact q.elim
  | some ob =>
    rw [hn] at q
    cases ob <;> try exact q.elim
    rename_i xs
    cases rb <;> try exact q.elim
    rename_i i
    obtain ⟨j, e, q⟩ := need_ok q
    obtain ⟨ad, rfl, e2, vs, e3, e4⟩ := hr.look ra hn (fun z => by cases z)
    refine .of set_list ⟨ad, vs, i, j, rfl, rfl, e3, by rw [← e4.1]; exact e, ?_⟩
    have ex := hr.ext_set (o := .lst (vs.set j w)) e2
    exact q _ ρ ex (hr.set e2 ⟨_, upd_same, (e4.mono ex).set (rc.mono ex) j⟩)
/-! ### in, not in: flat things in lists and tuples -/
def flatA : A → Bool
  | .non => true
  | .bl _ => true
  | .int _ => true
  | .str _ => true
  | _ => false
def eqF (x y : A) : Bool := match x with
  | .non => (match y with | .non => true | _ => false)
  | .bl a => (match y with | .bl b => a == b | .int b => (if a then 1 else 0) == b | _ => false)
  | .int a => (match y with | .bl b => a == (if b then 1 else 0) | .int b => a == b | _ => false)
  | .str a => (match y with | .str b => a == b | _ => false)
  | _ => false
def inF (x : A) (ys : List A) : Bool := ys.any fun y => eqF y x
theorem flat_ok {x : A} {v : V} (r : RA G H ρ x v) (hf : flatA x = true) : flatV v = true := by cases r <;> first | rfl | cases hf
theorem eqF_ok {x y : A} {v u : V} (r : RA G H ρ x v) (s : RA G H ρ y u) (hx : flatA x = true) (hy : flatA y = true) : eqF x y = eqV v u := by
  cases r <;> first | cases hx; done | skip
  all_goals (cases s <;> first | rfl | cases hy)
theorem inF_ok {x : A} {v : V} (r : RA G H ρ x v) (hx : flatA x = true) : ∀ {ys : List A} {us : List V}, RAs G H ρ ys us → ys.all flatA = true → us.all flatV = true ∧ inF x ys = inV v us
  | [], us, rs, _ => by rw [rs.unnil]; exact ⟨rfl, rfl⟩
  | y :: ys, us, rs, hf => by
    obtain ⟨u, us, rfl, ru, rs⟩ := rs.uncons
    rw [List.all_cons, Bool.and_eq_true] at hf
    obtain ⟨i1, i2⟩ := inF_ok r hx rs hf.2
    refine ⟨by rw [List.all_cons, flat_ok ru hf.1, i1]; rfl, ?_⟩
    unfold inF inV at *
    rw [List.any_cons, List.any_cons, eqF_ok ru r hf.1 hx, i2]
def inSeq (x y : A) (h : Hs) : Out Bool := need (itemsOf y h) fun ys => chk (flatA x && ys.all flatA) (.ok (inF x ys) h)
def aIn (x y : A) (h : Hs) : Out A := (inSeq x y h).bind fun b h1 => .ok (.bl b) h1
def aNotIn (x y : A) (h : Hs) : Out A := (inSeq x y h).bind fun b h1 => .ok (.bl (!b)) h1
theorem inSeq_ok {x y : A} {v u : V} {W : WX} {k : Bool → Hs → Out A} (hr : HR G H ρ h) (rx : RA G H ρ x v) (ry : RA G H ρ y u) (q : Po G W σ H ρ (RQ G Q) ((inSeq x y h).bind k)) :
    ∃ a us b, u = .ref a ∧ (SqL G.K H a us ∨ SqT G.K H a us) ∧ flatV v = true ∧ us.all flatV = true ∧ b = inV v us ∧ Po G W σ H ρ (RQ G Q) (k b h) := by
  unfold inSeq at q
  cases h1 : itemsOf y h with
  | none => rw [h1] at q; exact q.elim
  | some ys =>
    rw [h1] at q
    cases hs : flatA x && ys.all flatA with
    | false => exact (show False by unfold need chk at q; simp only [hs] at q; exact q).elim
    | true =>
      have q' : Po G W σ H ρ (RQ G Q) (k (inF x ys) h) := by unfold need chk at q; simp only [hs] at q; exact q
      rw [Bool.and_eq_true] at hs
      obtain ⟨a, us, rfl, hq, rl⟩ := seq_ok hr ry h1
      obtain ⟨i1, i2⟩ := inF_ok rx hs.1 rl hs.2
      exact ⟨a, us, _, rfl, hq, flat_ok rx hs.1, i1, i2, q'⟩
theorem oc_in : OpC G L .In aIn := by
  refine ⟨fun X xr σ H ρ h x y v u hr rx ry Q q => .of ?_⟩
  obtain ⟨a, us, b, rfl, hs, f1, f2, e, q⟩ := inSeq_ok hr rx ry q
  exact .of op_in_seq ⟨a, us, rfl, by rw [xr.K]; exact hs, f1, f2, by rw [← e]; exact q H ρ .refl hr _ .bl⟩
theorem oc_notin : OpC G L .NotIn aNotIn := by
  refine ⟨fun X xr σ H ρ h x y v u hr rx ry Q q => .of ?_⟩
  obtain ⟨a, us, b, rfl, hs, f1, f2, e, q⟩ := inSeq_ok hr rx ry q
  exact .of op_notIn_seq ⟨a, us, rfl, by rw [xr.K]; exact hs, f1, f2, by rw [← e]; exact q H ρ .refl hr _ .bl⟩
/-! ### is None -/
def isN (x y : A) (h : Hs) : Out A := match y with | .non => .ok (.bl (match x with | .non => true | _ => false)) h | _ => .bad
def notN (x y : A) (h : Hs) : Out A := match y with | .non => .ok (.bl (match x with | .non => false | _ => true)) h | _ => .bad
theorem oc_isN : OpC G L .Is isN := by
  refine ⟨fun X xr σ H ρ h x y v u hr rx ry Q q => .of ?_⟩
  cases ry <;> try exact q.elim
  refine Sx.c_isN ?_
  cases rx <;> exact q H ρ .refl hr _ .bl
theorem oc_notN : OpC G L .IsNot notN := by
  refine ⟨fun X xr σ H ρ h x y v u hr rx ry Q q => .of ?_⟩
  cases ry <;> try exact q.elim
  refine Sx.c_notN ?_
  cases rx <;> exact q H ρ .refl hr _ .bl
end
end Rx
set_option Elab.async false
set_option linter.all false
set_option maxRecDepth 100000
set_option maxHeartbeats 4000000
/-! RxQ: methods of texts and lists, slices, a text walked, isinstance, what is left out. -/
namespace Rx
open PySem L2 Sx
open PyProof.Rows (subscriptTail)
section
variable {G : Gc} {L : Wh} {X : Cx} {σ : St} {H : Hp} {ρ : Rho} {sl : Sl} {h : Hs} {Q : VK} {e o tg iter lo hi : Expr} {es : List Expr} {fa fb fo fl fh : FE} {fs : FA} {pos p apos cpos p2 : Pos} {st : Stmt}
/-! ### what no way reaches -/
def eBad : FE := fun _ _ => .bad
def sBad : FS := fun _ _ => .bad
theorem de_bad : DE G L e eBad := ⟨fun X xr σ H ρ sl h sr hh Q q => q.elim⟩
theorem ds_bad : DS G L st sBad := ⟨fun X xr σ H ρ sl h sr hh nx rt bk ct q => q.elim⟩
/-! ### methods of built-in types -/
/-- a method by values, of a text -/
structure OpM (G : Gc) (L : Wh) (id : String) (g : A → List A → Hs → Out A) : Prop where
  run : ∀ X, Xr G X L → ∀ σ H ρ h x xs v vs, HR G H ρ h → RA G H ρ x v → RAs G H ρ xs vs → ∀ Q, Po G L.W σ H ρ (RQ G Q) (g x xs h) → Sx.Mt X id v vs H Q
def eMs (fo : FE) (fs : FA) (g : A → List A → Hs → Out A) : FE := fun sl h => (fo sl h).bind fun x h1 => match x with | .str z => (fs sl h1).bind fun xs h2 => g (.str z) xs h2 | _ => .bad
def eMl (fo : FE) (fs : FA) (g : A → List A → Hs → Out A) : FE := fun sl h => (fo sl h).bind fun x h1 => need (listOf x h1) fun _ => (fs sl h1).bind fun xs h2 => g x xs h2
theorem de_mstr {m : Str} {id : String} {g : A → List A → Hs → Out A} (pa' : PlainAttrs "str") (slot : Slot "str" m id) (hty : typeOf (.builtin id) = pure (.type "method_descriptor")) (hm : OpM G L id g) (ho : DE G L o fo) (ha : DA G L (e :: es) fs)
    (hbase : ∀ env, attributeBase o m env (eval o env) = eval o env := by intro _; rfl)
    (hfew : ∀ env, ((backTo cpos (starEach (e :: es) env)).all (fun x => !x.1) && (backToKw cpos (keywordEach [] env)).all (fun x => x.1.isSome)
      && decide ((e :: es).length + ([] : List Keyword).length + (if ([] : List Keyword).isEmpty then 0 else 1) < 30)) = true := by intro _; rfl)
    (hline : (apos.endLine == cpos.line) = true := by rfl) (he : NoSt e = true := by rfl) (hpl : ∀ env, (backTo cpos (starEach es env)).any (·.1) = false := by intro _; rfl) : DE G L (.Call (.Attribute o m apos) (e :: es) [] cpos) (eMs fo fs g) := by
  refine ⟨fun X xr σ H ρ sl h sr hh Q q => .of (pe_bm pa' slot hty pmt pe pa (hbase _) (hfew _) hline (star_cons he) (hpl _)) ?_⟩
  refine DE.bind ho xr sr hh q fun x h1 v H1 ρ1 e1 r1 ra s1 q1 => ?_
  cases ra <;> try exact q1.elim
  exact ⟨rfl, DA.bind ha xr s1 r1 q1 fun xs h2 vs H2 ρ2 e2 r2 rs s2 q2 => hm.run X xr σ H2 ρ2 h2 _ xs _ vs r2 .str rs Q q2⟩
theorem de_mlst {m : Str} {id : String} {g : A → List A → Hs → Out A} (pa' : PlainAttrs "list") (slot : Slot "list" m id) (hty : typeOf (.builtin id) = pure (.type "method_descriptor")) (hm : OpM G L id g) (ho : DE G L o fo) (ha : DA G L (e :: es) fs)
    (hbase : ∀ env, attributeBase o m env (eval o env) = eval o env := by intro _; rfl)
    (hfew : ∀ env, ((backTo cpos (starEach (e :: es) env)).all (fun x => !x.1) && (backToKw cpos (keywordEach [] env)).all (fun x => x.1.isSome)
      && decide ((e :: es).length + ([] : List Keyword).length + (if ([] : List Keyword).isEmpty then 0 else 1) < 30)) = true := by intro _; rfl)
    (hline : (apos.endLine == cpos.line) = true := by rfl) (he : NoSt e = true := by rfl) (hpl : ∀ env, (backTo cpos (starEach es env)).any (·.1) = false := by intro _; rfl) : DE G L (.Call (.Attribute o m apos) (e :: es) [] cpos) (eMl fo fs g) := by
  refine ⟨fun X xr σ H ρ sl h sr hh Q q => .of (pe_bm pa' slot hty pmt pe pa (hbase _) (hfew _) hline (star_cons he) (hpl _)) ?_⟩
  refine DE.bind ho xr sr hh q fun x h1 v H1 ρ1 e1 r1 ra s1 q1 => ?_
  obtain ⟨ys, e2, q1⟩ := need_ok q1
  obtain ⟨ad, us, rfl, e3, _⟩ := list_ok r1 ra e2
  exact ⟨.inl ⟨rfl, us, .inl (.inl e3)⟩, DA.bind ha xr s1 r1 q1 fun xs h2 vs H2 ρ2 e2 r2 rs s2 q2 => hm.run X xr σ H2 ρ2 h2 _ xs _ vs r2 (ra.mono e2) rs Q q2⟩
def appendA (x : A) (xs : List A) (h : Hs) : Out A := match x with
  | .ref n => (match h[n]? with
    | some (.lst ys) => (match xs with | [y] => chk (Nat.blt ys.length sizeLine) (.ok .non (h.set n (.lst (ys ++ [y])))) | _ => .bad)
    | _ => .bad)
  | _ => .bad
theorem om_append : OpM G L "list.append" appendA := by
  refine ⟨fun X xr σ H ρ h x xs v vs hr ra rs Q q => ?_⟩
  cases x <;> try exact q.elim
  rename_i n
  unfold appendA at q
  dsimp only at q
  cases hn : h[n]? with
  | none => rw [hn] at q; exact q.elim
  | some ob =>
    rw [hn] at q
    cases ob <;> try exact q.elim
    rename_i ys
    cases xs with
    | nil => exact q.elim
    | cons y r =>
      cases r with
      | cons _ _ => exact q.elim
      | nil =>
        obtain ⟨k, q⟩ := chk_ok q
        obtain ⟨u, us, rfl, ru, rs⟩ := rs.uncons
        rw [rs.unnil]
        obtain ⟨ad, rfl, e2, ws, e3, e4⟩ := hr.look ra hn (fun z => by cases z)
        have ex := hr.ext_set (o := .lst (ws ++ [u])) e2
        exact .of (show MtR X _ _ from mt_append) ⟨ad, ws, u, rfl, rfl, e3, by rw [← e4.1]; exact Nat.le_of_ble_eq_true k, q _ ρ ex (hr.set e2 ⟨_, upd_same, (e4.mono ex).append (.cons (ru.mono ex) .nil)⟩) _ .non⟩
def extendA (x : A) (xs : List A) (h : Hs) : Out A := match x with
  | .ref n => (match h[n]? with
    | some (.lst ys) => (match xs with | [y] => need (listOf y h) fun zs => chk (Nat.ble (ys.length + zs.length) sizeLine) (.ok .non (h.set n (.lst (ys ++ zs)))) | _ => .bad)
    | _ => .bad)
  | _ => .bad
theorem om_extend : OpM G L "list.extend" extendA := by
  refine ⟨fun X xr σ H ρ h x xs v vs hr ra rs Q q => ?_⟩
  cases x <;> try exact q.elim
  rename_i n
  unfold extendA at q
  dsimp only at q
  cases hn : h[n]? with
  | none => rw [hn] at q; exact q.elim
  | some ob =>
    rw [hn] at q
    cases ob <;> try exact q.elim
    rename_i ys
    cases xs with
    | nil => exact q.elim
    | cons y r =>
      cases r with
      | cons _ _ => exact q.elim
      | nil =>
        obtain ⟨zs, e1, q⟩ := need_ok q
        obtain ⟨k, q⟩ := chk_ok q
        obtain ⟨u, us, rfl, ru, rs⟩ := rs.uncons
        rw [rs.unnil]
        obtain ⟨ad, rfl, e2, ws, e3, e4⟩ := hr.look ra hn (fun z => by cases z)
        obtain ⟨bd, ts, rfl, e5, e6⟩ := list_ok hr ru e1
        have ex := hr.ext_set (o := .lst (ws ++ ts)) e2
        exact .of (show MtR X _ _ from mt_extend) ⟨ad, bd, ws, ts, rfl, rfl, e3, e5, by rw [← e4.1, ← e6.1]; exact Nat.le_of_ble_eq_true k, q _ ρ ex (hr.set e2 ⟨_, upd_same, (e4.mono ex).append (e6.mono ex)⟩) _ .non⟩
/-- all items are texts -/
def allS : List A → Option (List Str)
  | [] => some []
  | .str x :: xs => (allS xs).map fun ys => x :: ys
  | _ :: _ => none
theorem allS_ok : ∀ {xs : List A} {ys : List Str} {vs : List V}, RAs G H ρ xs vs → allS xs = some ys → vs = ys.map V.str
  | [], ys, vs, r, e => by unfold allS at e; cases e; rw [r.unnil]; rfl
  | x :: xs, ys, vs, r, e => by
    obtain ⟨v, us, rfl, rv, rs⟩ := r.uncons
    cases x <;> try (unfold allS at e; cases e; done)
    unfold allS at e
    cases h2 : allS xs with
    | none => rw [h2] at e; cases e
    | some zs =>
      rw [h2] at e
      cases e
      cases rv
      rw [allS_ok rs h2]; rfl
def sumLen (ys : List Str) : Nat := (ys.map (·.length)).sum
def joinA (x : A) (xs : List A) (h : Hs) : Out A := match x with
  | .str a => (match xs with | [y] => need (itemsOf y h) fun zs => need (allS zs) fun ys => chk (Nat.ble (sumLen ys + ys.length * a.length) 16777216) (.ok (.str (Txt.join a ys)) h) | _ => .bad)
  | _ => .bad
theorem om_join : OpM G L "str.join" joinA := by
  refine ⟨fun X xr σ H ρ h x xs v vs hr ra rs Q q => ?_⟩
  cases ra <;> try exact q.elim
  cases xs with
  | nil => exact q.elim
  | cons y r =>
    cases r with
    | cons _ _ => exact q.elim
    | nil =>
      obtain ⟨zs, e1, q⟩ := need_ok q
      obtain ⟨ys, e2, q⟩ := need_ok q
      obtain ⟨k, q⟩ := chk_ok q
      obtain ⟨u, us, rfl, ru, rs⟩ := rs.uncons
      rw [rs.unnil]
      obtain ⟨ad, ws, rfl, hs, rl⟩ := seq_ok hr ru e1
      have := allS_ok rl e2
      subst this
      exact .of mt_join ⟨_, ad, ys, rfl, rfl, by rw [xr.K]; exact hs, Nat.le_of_ble_eq_true k, q H ρ .refl hr _ .str⟩
def strL (ys : List Str) : List A := ys.map A.str
theorem strL_ok {ys : List Str} : RAs G H ρ (strL ys) (ys.map V.str) := by
  unfold strL
  refine ⟨by simp, fun i x v e1 e2 => ?_⟩
  rw [List.getElem?_map] at e1 e2
  cases hy : ys[i]? with
  | none => rw [hy] at e1; cases e1
  | some y => rw [hy] at e1 e2; cases e1; cases e2; exact .str
def splitA (x : A) (xs : List A) (h : Hs) : Out A := match x with
  | .str a => (match xs with | [.str b] => chk (!(b.length == 0) && Nat.ble (a.length + 2) sizeLine) (.ok (.lst (strL (Txt.split a b))) h) | _ => .bad)
  | _ => .bad
theorem om_split : OpM G L "str.split" splitA := by
  refine ⟨fun X xr σ H ρ h x xs v vs hr ra rs Q q => ?_⟩
  cases ra <;> try exact q.elim
  cases xs with
  | nil => exact q.elim
  | cons y r =>
    cases r with
    | cons _ _ => cases y <;> exact q.elim
    | nil =>
      cases y <;> try exact q.elim
      obtain ⟨u, us, rfl, ru, rs⟩ := rs.uncons
      rw [rs.unnil]
      cases ru
      obtain ⟨k, q⟩ := chk_ok q
      rw [Bool.and_eq_true, Bool.not_eq_true'] at k
      exact .of mt_split ⟨_, _, rfl, rfl, k.1, Nat.le_of_ble_eq_true k.2, fun p np => q _ ρ (hr.ext_new np) (hr.new np) _ (new_lstA hr np strL_ok)⟩
/-! ### slices -/
structure DO (G : Gc) (L : Wh) (e : Option Expr) (f : Sl → Hs → Out (Option Int)) : Prop where
  run : ∀ X, Xr G X L → ∃ t : TO, PO X e t ∧ ∀ σ H ρ sl h, SR G H ρ sl σ → HR G H ρ h → ∀ Q : Option Int → Hp → Prop, Po G L.W σ H ρ (fun a H' _ => Q a H') (f sl h) → t σ H Q
def oNone : Sl → Hs → Out (Option Int) := fun _ h => .ok none h
def oSome (fa : FE) : Sl → Hs → Out (Option Int) := fun sl h => (fa sl h).bind fun x h1 => match x with | .int i => .ok (some i) h1 | _ => .bad
theorem do_none : DO G L none oNone := ⟨fun X xr => ⟨_, po_none, fun σ H ρ sl h sr hh Q q => q H ρ .refl hh⟩⟩
theorem do_some (ha : DE G L e fa) : DO G L (some e) (oSome fa) := ⟨fun X xr => ⟨_, po_some pe, fun σ H ρ sl h sr hh Q q => DE.bind ha xr sr hh q fun x h1 v H1 ρ1 e1 r1 ra s1 q1 => by
  cases ra <;> try exact q1.elim
  exact ⟨_, rfl, q1 H1 ρ1 .refl r1⟩⟩⟩
def cutA (xs : List A) (lo hi : Option Int) : List A := (xs.drop (HT.sIx xs.length 0 lo)).take (HT.sIx xs.length xs.length hi - HT.sIx xs.length 0 lo)
theorem RAs.drop {xs : List A} {vs : List V} (r : RAs G H ρ xs vs) (n : Nat) : RAs G H ρ (xs.drop n) (vs.drop n) := ⟨by simp [r.1], fun i x v e1 e2 => r.2 (n + i) x v (by rw [← List.getElem?_drop]; exact e1) (by rw [← List.getElem?_drop]; exact e2)⟩
theorem RAs.take {xs : List A} {vs : List V} (r : RAs G H ρ xs vs) (n : Nat) : RAs G H ρ (xs.take n) (vs.take n) := ⟨by simp [r.1], fun i x v e1 e2 => by
  by_cases hi : i < n
  · rw [List.getElem?_take_of_lt hi] at e1 e2; exact r.2 i x v e1 e2
  · rw [List.getElem?_eq_none (by simp; omega)] at e1; cases e1⟩
theorem cut_ok {xs : List A} {vs : List V} {lo hi : Option Int} (r : RAs G H ρ xs vs) : RAs G H ρ (cutA xs lo hi) (cutV vs lo hi) := by
  unfold cutA cutV
  rw [← r.1]
  exact (r.drop _).take _
/-- x[lo:hi] of a text, a tuple, a list: new (a list: standing still) -/
def slA (x : A) (lo hi : Option Int) (h : Hs) : Out A := match x with
  | .str z => chk (Nat.ble z.length sizeLine) (.ok (.str (cutS z lo hi)) h)
  | .tup xs => .ok (.tup (cutA xs lo hi)) h
  | .ctp xs => .ok (.ctp (cutA xs lo hi)) h
  | _ => need (listOf x h) fun xs => .ok (.lst (cutA xs lo hi)) h
def eSl (fa : FE) (fl fh : Sl → Hs → Out (Option Int)) : FE := fun sl h => (fa sl h).bind fun x h1 => (fl sl h1).bind fun l h2 => (fh sl h2).bind fun u h3 => slA x l u h3
theorem bindO {β : Type} {t : TO} {f : Sl → Hs → Out (Option Int)} {k : Option Int → Hs → Out β} {R : β → Hp → Rho → Prop} {Q : Option Int → Hp → Prop} (g : ∀ σ H ρ sl h, SR G H ρ sl σ → HR G H ρ h → ∀ Q : Option Int → Hp → Prop, Po G L.W σ H ρ (fun a H' _ => Q a H') (f sl h) → t σ H Q) (sr : SR G H ρ sl σ) (hr : HR G H ρ h) (q : Po G L.W σ H ρ R ((f sl h).bind k))
    (c : ∀ x h1 H1 ρ1, Ext H ρ H1 ρ1 → HR G H1 ρ1 h1 → SR G H1 ρ1 sl σ → Po G L.W σ H1 ρ1 R (k x h1) → Q x H1) : t σ H Q := by
  refine g σ H ρ sl h sr hr Q ?_
  cases hm : f sl h with
  | ok x h1 => rw [hm] at q; exact fun H1 ρ1 e1 r1 => c x h1 H1 ρ1 e1 r1 (sr.mono e1) (Po.at1 (m := k x h1) q e1)
  | ex x h1 => rw [hm] at q; exact q
  | bad => rw [hm] at q; exact q
theorem de_slice {lo hi : Option Expr} {fl fh : Sl → Hs → Out (Option Int)} (ha : DE G L e fa) (hl : DO G L lo fl) (hu : DO G L hi fh) : DE G L (.Subscript e (.Slice lo hi none p2) pos) (eSl fa fl fh) := by
  refine ⟨fun X xr σ H ρ sl h sr hh Q q => ?_⟩
  obtain ⟨tl, pl, gl⟩ := hl.run X xr
  obtain ⟨th, ph, gh⟩ := hu.run X xr
  have z : E X e σ H fun x H1 => tl σ H1 fun l H2 => th σ H2 fun u H3 => (∃ zz, x = .str zz ∧ zz.length ≤ sizeLine ∧ Q (.str (cutS zz l u)) H3) ∨ rSlA X.K x l u H3 Q ∨ rSlL X.K x l u H3 Q := by
    refine DE.bind ha xr sr hh q fun x h1 v H1 ρ1 e1 r1 ra s1 q1 => bindO gl s1 r1 q1 fun l h2 H2 ρ2 e2 r2 s2 q2 => bindO gh s2 r2 q2 fun u h3 H3 ρ3 e3 r3 s3 q3 => ?_
    have ra := (ra.mono e2).mono e3
    have gen : Po G L.W σ H3 ρ3 (RQ G Q) (need (listOf x h3) fun xs => .ok (.lst (cutA xs l u)) h3) → rSlL X.K v l u H3 Q := fun q3 => by
      obtain ⟨xs, e4, q3⟩ := need_ok q3
      obtain ⟨ad, vs, rfl, e5, rl⟩ := list_ok r3 ra e4
      exact ⟨ad, vs, rfl, .inl (.inl e5), fun p np => q3 _ ρ3 (r3.ext_new np) (r3.new np) _ (new_lstA r3 np (cut_ok rl))⟩
    cases x with
    | str zz =>
      cases ra
      obtain ⟨k, q3⟩ := chk_ok q3
      exact .inl ⟨zz, rfl, Nat.le_of_ble_eq_true k, q3 H3 ρ3 .refl r3 _ .str⟩
    | tup xs =>
      cases ra
      rename_i ad vs hq ll r
      refine .inr (.inl ⟨ad, vs, rfl, by rw [xr.K]; exact .inl (.inl hq), fun z => ?_, fun _ p np => q3 _ ρ3 (r3.ext_new np) (r3.new np) _ (new_tupA r3 np (cut_ok ⟨ll, r⟩))⟩)
      have ec : cutA xs l u = xs := by
        unfold cutA
        rw [ll, z.1, z.2, Nat.sub_zero, List.drop_zero]
        exact List.take_of_length_le (by omega)
      have q4 := q3 H3 ρ3 .refl r3 (.ref ad)
      rw [ec] at q4
      exact q4 (.tup hq ll r)
    | ctp xs =>
      cases ra
      rename_i ad vs hq ll r
      refine .inr (.inl ⟨ad, vs, rfl, by rw [xr.K]; exact hq, fun z => ?_, fun _ p np => q3 _ ρ3 (r3.ext_new np) (r3.new np) _ (have z := new_tupA r3 np (cut_ok ⟨ll, r⟩); match z with | .tup h l r => .ctp (.inl (.inl h)) l r)⟩)
      have ec : cutA xs l u = xs := by
        unfold cutA
        rw [ll, z.1, z.2, Nat.sub_zero, List.drop_zero]
        exact List.take_of_length_le (by omega)
      have q4 := q3 H3 ρ3 .refl r3 (.ref ad)
      rw [ec] at q4
      exact q4 (.ctp hq ll r)
    | _ => exact .inr (.inr (gen q3))
  refine .of (pe_slice (r := fun x l u H Q => (∃ zz, x = .str zz ∧ zz.length ≤ sizeLine ∧ Q (.str (cutS zz l u)) H) ∨ rSlA X.K x l u H Q ∨ rSlL X.K x l u H Q) ?_ pe pl ph) z
  intro pins s σ H x v vl vu l u slc Q I rx hs pl pu hq
  rcases hq with hq | hq | hq
  · exact sl_str pins s σ H x v vl vu l u slc Q I rx hs pl pu hq
  · exact sl_tupA pins s σ H x v vl vu l u slc Q I rx hs pl pu hq
  · exact sl_list pins s σ H x v vl vu l u slc Q I rx hs pl pu hq
/-! ### a text walked -/
def signs (z : Str) : List A := z.cps.toList.map fun c => .str ⟨#[c]⟩
def iStrA (fa : FE) : FA := fun sl h => (fa sl h).bind fun x h1 => match x with | .str z => .ok (signs z) h1 | _ => .bad
theorem di_str (ha : DE G L iter fa) : DI G L tg iter (iStrA fa) := by
  refine ⟨fun X xr σ H ρ sl h sr hh R q => ?_⟩
  refine .of (pi_str pe) (DE.bind ha xr sr hh q fun x h1 v H1 ρ1 e1 r1 ra s1 q1 => ?_)
  cases ra <;> try exact q1.elim
  rename_i z
  refine ⟨z, rfl, q1 H1 ρ1 .refl r1 _ fun H2 ρ2 h2 k hr i => ⟨fun x hx => ?_, fun hi => ?_⟩⟩
  · unfold signs at hx
    rw [List.getElem?_map, Array.getElem?_toList] at hx
    cases hc : z.cps[i]? with
    | none => rw [hc] at hx; cases hx
    | some c =>
      rw [hc] at hx
      cases hx
      have hi : i < z.cps.size := by
        by_cases hi : i < z.cps.size
        · exact hi
        · rw [Array.getElem?_eq_none (by omega)] at hc; cases hc
      refine ⟨hi, fun v H3 ⟨y1, c', y2, y3⟩ => ⟨.inl y1, ?_⟩⟩
      rw [hc] at y2
      cases y2
      rw [y3]
      exact .str
  · show z.cps.size ≤ i
    unfold signs at hi
    simpa using hi
end
end Rx
namespace Rx
open PySem L2 Sx
def iLst (fa : FE) : FA := fun sl h => (fa sl h).bind fun x h1 => match x with | .lst xs => .ok xs h1 | _ => .bad
def iTup (fa : FE) : FA := fun sl h => (fa sl h).bind fun x h1 => match x with | .tup xs => .ok xs h1 | .ctp xs => .ok xs h1 | _ => .bad
theorem di_list' {G : Gc} {L : Wh} {tg iter : Expr} {fa : FE} (ha : DE G L iter fa) : DI G L tg iter (iLst fa) := di_list ha
theorem di_tup' {G : Gc} {L : Wh} {tg iter : Expr} {fa : FE} (ha : DE G L iter fa) : DI G L tg iter (iTup fa) := di_tup ha
def gBad : FG := fun _ _ _ => .bad
theorem dg_bad {G : Gc} {L : Wh} {ws : List Nat} {tg : Expr} : DGw G L ws tg gBad := ⟨fun X xr σ H ρ sl h a v sr hh ra Q q => q.elim⟩
/-- a great number that nothing unfolds -/
def fuelUp (n : Nat) : Nat := if h : n = 0 then 1000000000 else fuelUp (n - 1)
termination_by n
decreasing_by omega
def FUEL : Nat := fuelUp 0
theorem FUEL_eq : FUEL = 1000000000 := by
  unfold FUEL
  rw [fuelUp]
  rfl
theorem fuel_gt {m : Nat} (h : m < 1000000000) : m < FUEL := by rw [FUEL_eq]; exact h
end Rx
set_option Elab.async false
set_option linter.all false
set_option maxRecDepth 100000
set_option maxHeartbeats 4000000
/-! RxR: own operators, isinstance, zip. -/
namespace Rx
open PySem L2 Sx
open PyProof.Rows (subscriptTail)
section
variable {G : Gc} {L : Wh} {X : Cx} {σ : St} {H : Hp} {ρ : Rho} {sl : Sl} {h : Hs} {Q : VK}
/-! ### isinstance -/
structure Isa where
  sub : Nat → Nat → Option Bool
  bt : Nat → String → Option Bool
  tb : String → Nat → Option Bool
/-- an instance's class as isinstance wants it -/
structure InsT (G : Gc) (c : Nat) : Prop where
  cl : Cls G.K (G.cad c)
  ha : PySem.W.findIn G.K (.ref (G.cad c)) "__class__" = some (some (.builtin "object.__class__"))
  hn : PySem.W.specialIn G.K (.builtin "object.__class__") "__get__" = some (some (.builtin "getset_descriptor.__get__"))
  htk : PySem.W.takesIn G.K (.builtin "object.__class__") = some true
  hm : PySem.W.mroIn G.K (G.cad c) (.type "object") = some true
structure IsaOk (G : Gc) (I : Isa) : Prop where
  sub : ∀ c d b, I.sub c d = some b → InsT G c ∧ PySem.W.kitOne G.K (.ref (G.cad c)) (.ref (G.cad d)) = some b
  bt : ∀ c n b, I.bt c n = some b → InsT G c ∧ PySem.W.kitOne G.K (.ref (G.cad c)) (.type n) = some b
  tb : ∀ n d b, I.tb n d = some b → PySem.W.kitOne G.K (.type n) (.ref (G.cad d)) = some b
/-- the name of a value's built-in type -/
def tyN (x : A) (h : Hs) : Option String := match x with
  | .non => some "NoneType"
  | .bl _ => some "bool"
  | .int _ => some "int"
  | .str _ => some "str"
  | .tup _ => some "tuple"
  | .ctp _ => some "tuple"
  | .lst _ => some "list"
  | .dk _ => some "dict"
  | .dt _ => some "dict"
  | .ref n => (match h[n]? with | some (.lst _) => some "list" | some (.dk _) => some "dict" | some (.dt _) => some "dict" | _ => none)
  | _ => none
theorem tyN_ok (hr : HR G H ρ h) {x : A} {v : V} {n : String} (r : RA G H ρ x v) (e : tyN x h = some n) : TyX G.K H v (.type n) := by
  cases r with
  | non => cases e; exact .base .non
  | bl => cases e; exact .base (.bl _)
  | int => cases e; exact .base (.int _)
  | str => cases e; exact .base (.str _)
  | ty => cases e
  | cls => cases e
  | scr _ => cases e
  | wdk _ _ _ => cases e
  | tup h1 _ _ => cases e; exact .base (.tup h1)
  | ctp h1 _ _ =>
    cases e
    rcases h1 with (h1 | ⟨o, h1⟩) | ⟨o, its, n, h1, h2, _⟩
    · exact .base (.tup h1)
    · exact .fTuple h1
    · exact .kTuple h1 h2
  | lst h1 _ _ _ => cases e; exact .base (.lst h1)
  | dk h1 _ _ _ => cases e; exact .base (.dK h1)
  | dt h1 _ _ _ => cases e; exact .base (.dT h1)
  | ins _ _ _ _ _ => cases e
  | ref hn hb =>
    unfold tyN at e
    dsimp only at e
    split at e
    · cases e
      rename_i q
      obtain ⟨a, e1, _, vs, e3, _⟩ := hr.look (.ref hn hb) q (fun z => by cases z)
      cases e1; exact .base (.lst e3)
    · cases e
      rename_i q
      obtain ⟨a, e1, _, vs, e3, _⟩ := hr.look (.ref hn hb) q (fun z => by cases z)
      cases e1; exact .base (.dK e3)
    · cases e
      rename_i q
      obtain ⟨a, e1, _, vs, e3, _⟩ := hr.look (.ref hn hb) q (fun z => by cases z)
      cases e1; exact .base (.dT e3)
    · cases e
def isaB (I : Isa) (x y : A) (h : Hs) : Option Bool := match instOf x h with
  | some (c, _) => (match y with | .cls d => I.sub c d | .ty n => I.bt c n | _ => none)
  | none => (match tyN x h with
    | some t => (match y with | .cls d => I.tb t d | .ty n => kitB t n | _ => none)
    | none => none)
def isaA (I : Isa) (x y : A) (h : Hs) : Out A := need (isaB I x y h) fun b => .ok (.bl b) h
theorem ok_isa {I : Isa} (io : IsaOk G I) : OpK G L (.builtin "isinstance") (f2 (isaA I)) := by
  refine ⟨fun X xr σ H ρ h xs vs hr rs Q q => .of ?_⟩
  obtain ⟨x, y, v, u, rfl, rfl, ra, rb, q⟩ := ok_two rs q
  obtain ⟨b, e, q⟩ := need_ok q
  have fin := q H ρ .refl hr _ .bl
  clear q
  unfold isaB at e
  cases hi : instOf x h with
  | some pr =>
    obtain ⟨c, ys⟩ := pr
    rw [hi] at e
    obtain ⟨a, dx, ws, rfl, e3, _⟩ := inst_ok hr ra hi
    have tyx : InsT G c → TyX X.K H (.ref a) (.ref (G.cad c)) := fun it => by
      rw [xr.K]; exact .base (.ins e3 it.cl it.ha it.hn it.htk it.hm)
    cases rb <;> dsimp only at e <;> try (cases e; done)
    · obtain ⟨it, k⟩ := io.bt _ _ _ e
      exact .of call_isi ⟨_, _, _, _, b, rfl, .ty _, tyx it, by rw [xr.K]; exact k, fin⟩
    · obtain ⟨it, k⟩ := io.sub _ _ _ e
      exact .of call_isi ⟨_, _, _, _, b, rfl, .own _, tyx it, by rw [xr.K]; exact k, fin⟩
  | none =>
    rw [hi] at e
    dsimp only at e
    cases ht : tyN x h with
    | none => rw [ht] at e; cases e
    | some t =>
      rw [ht] at e
      have ty := tyN_ok hr ra ht
      cases rb <;> dsimp only at e <;> try (cases e; done)
      · exact .of call_isi ⟨_, _, _, _, b, rfl, .ty _, by rw [xr.K]; exact ty, kit_ty e, fin⟩
      · exact .of call_isi ⟨_, _, _, _, b, rfl, .own _, by rw [xr.K]; exact ty, by rw [xr.K]; exact io.tb _ _ _ e, fin⟩
/-! ### own operators -/
theorem run_mt {m : Str} {j c n : Nat} {f : F} {pins : List (Addr × Obj)} {s : Shared} {us : List Value} {xs : List A} {vs : List V} (xr : Xr G X L) (hc : L.cm = true) (hj : j ≤ L.k) (M : MtC G m j c n f) (I : Inv X pins σ H s) (hr : HR G H ρ h) (rs : RAs G H ρ xs vs) (r : Vals vs us) (q : Po G L.W σ H ρ (RQ G Q) (f xs h)) :
    ∃ fa : Addr, Meth X.K (G.cad c) m fa ∧ wpAny (model X.prog X.w) X.A (call (.ref fa) us) (EP X pins σ Q) X.xe s := by
  obtain ⟨fa, fd, ps, Fn, hm, b⟩ := M.ex
  exact ⟨fa, by rw [xr.K]; exact hm, run_fnS (E := WE L.W) (xr.fn Fn) ((xr.room hc).mono hj) xr.gd (by rw [xr.K]; exact b) (xr.pass σ) I r (sp_of M.ar hr rs q)⟩
/-- classes among which an operator goes by the left one's method -/
structure OwB (G : Gc) (op : Operator) (m : Str) (j : Nat) (mt : Mt) (cs : List Nat) : Prop where
  nm : PySem.dunder op.info.2 = m
  mt : MtOk G m j mt
  sf : ∀ c ∈ cs, PySem.W.selfFirst G.K (G.cad c) = true
  fr : ∀ c ∈ cs, ∃ rc, PySem.W.findIn G.K (.ref (G.cad c)) (PySem.dunderR op.info.2) = some rc ∧ (rc = none ∨ ∃ g : Addr, rc = some (.ref g))
  has : ∀ c ∈ cs, ∃ g : Addr, PySem.W.findIn G.K (.ref (G.cad c)) m = some (some (.ref g))
  ne : ∀ c ∈ cs, ∀ d ∈ cs, c ≠ d → G.cad c ≠ G.cad d ∧ PySem.W.subIn G.K (.ref (G.cad d)) (.ref (G.cad c)) = some false
def ownB (mt : Mt) (cs : List Nat) (g : A → A → Hs → Out A) (x y : A) (h : Hs) : Out A := match instOf x h with
  | some (c, _) => (match instOf y h with
    | some (d, _) => chk (cs.contains c && cs.contains d) (need (mt c) fun f => f [x, y] h)
    | none => .bad)
  | none => g x y h
theorem ob_own {op : Operator} {m : Str} {j : Nat} {mt : Mt} {cs : List Nat} {g : A → A → Hs → Out A} (O : OwB G op m j mt cs) (hg : OpB G L op g) (hj : j ≤ L.k) (hc : L.cm = true := by rfl) : OpB G L op (ownB mt cs g) := by
  refine ⟨fun X xr σ H ρ h x y v u hr rx ry Q q => ?_⟩
  unfold ownB at q
  cases hi : instOf x h with
  | none => rw [hi] at q; exact hg.run X xr σ H ρ h x y v u hr rx ry Q q
  | some pr =>
    obtain ⟨c, xs⟩ := pr
    rw [hi] at q
    dsimp only at q
    cases hk : instOf y h with
    | none => rw [hk] at q; exact q.elim
    | some pr2 =>
      obtain ⟨d, ys⟩ := pr2
      rw [hk] at q
      obtain ⟨k, q⟩ := chk_ok q
      obtain ⟨f, e, q⟩ := need_ok q
      rw [Bool.and_eq_true, List.contains_iff_mem, List.contains_iff_mem] at k
      obtain ⟨n, M⟩ := O.mt c f e
      obtain ⟨a, dx, vs, rfl, e1, _⟩ := inst_ok hr rx hi
      obtain ⟨b, dy, us, rfl, e2, _⟩ := inst_ok hr ry hk
      refine ⟨fun pins s v u I r1 r2 => ?_⟩
      cases r1
      cases r2
      obtain ⟨fa, hm, run⟩ := run_mt (us := [.ref a, .ref b]) xr hc hj M I hr (.cons rx (.cons ry .nil)) (.cons rfl (.cons rfl .nil)) q
      have run := wpAny_mono run (fun _ _ z => ep_cmp z) fun _ _ z => z
      obtain ⟨od, J⟩ := inst_at I e1
      obtain ⟨od', J'⟩ := inst_at I e2
      have eK := xr.K
      by_cases hcd : c = d
      · subst hcd
        obtain ⟨m', hF⟩ := I.fr
        exact PySem.W.binop_K hF I.ok.mod.kin J J'.type (by rw [eK]; exact O.sf c k.1) (by rw [O.nm]; exact hm.at_) hm.fn run
      · obtain ⟨hne, hsub⟩ := O.ne c k.1 d k.2 hcd
        obtain ⟨rc, hr1, hp1⟩ := O.fr c k.1
        obtain ⟨rd, hr2, hp2⟩ := O.fr d k.2
        obtain ⟨gg', hg2⟩ := O.has d k.2
        have hc1 := O.sf c k.1
        have hd1 := O.sf d k.2
        have nm := O.nm
        rw [← eK] at hsub hr1 hr2 hg2 hc1 hd1
        subst nm
        have one := PySem.W.ksp_try I.kIn J hm.at_ hm.fn run
        have X' := I.kIn
        have hs1 := hm.at_
        obtain ⟨cd, rest, hcc, hmr⟩ := PySem.W.ksp_first hc1
        obtain ⟨cd', rest', hcc', hmr'⟩ := PySem.W.ksp_first hd1
        rcases hi2 : op.info with ⟨sym, nm⟩
        rw [hi2] at one hg2 hr1 hr2 hs1
        dsimp only at one hg2 hr1 hr2 hs1
        obtain ⟨hh, gg, dd, tt, os⟩ := s
        have L1 : PySem.W.Looks (model X.prog X.w) hh (typeOf (.ref a)) (.ref (G.cad c)) := J.type
        have L2 : PySem.W.Looks (model X.prog X.w) hh (typeOf (.ref b)) (.ref (G.cad d)) := J'.type
        have L3 : PySem.W.Looks (model X.prog X.w) hh (fillsNumberSlot (.ref (G.cad c)) nm) true := PySem.W.fills_K X' hcc hmr hs1
        have L4 : PySem.W.Looks (model X.prog X.w) hh (fillsNumberSlot (.ref (G.cad d)) nm) true := PySem.W.fills_K X' hcc' hmr' hg2
        have L5 : PySem.W.Looks (model X.prog X.w) hh (isSubtype (.ref (G.cad d)) (.ref (G.cad c))) false := PySem.W.looks_subIn X' hsub
        have L6 : PySem.W.Looks (model X.prog X.w) hh (numberSlotInPython (.ref (G.cad c)) nm) true := PySem.W.ksp_inPy X' hs1 hr1 hp1
        have L7 : PySem.W.Looks (model X.prog X.w) hh (numberSlotInPython (.ref (G.cad d)) nm) true := PySem.W.ksp_inPy X' hg2 hr2 hp2
        have hne' : (Value.ref (G.cad c) == Value.ref (G.cad d)) = false := Bool.eq_false_iff.mpr fun q => hne (by have := beq_iff_eq.mp q; injection this)
        simp only [binaryOp, hi2]
        refine wpAny_holding (wpAny_bind ?_)
        unfold binaryOp1
        refine wpAny_bind (L1.at (wpAny_bind (L2.at (wpAny_bind (L3.at ?_)))))
        simp only [hne', Bool.false_eq_true, if_false]
        refine wpAny_bind (L4.at ?_)
        simp only [Bool.and_self, if_true]
        refine wpAny_bind (L5.at ?_)
        simp only [Bool.false_eq_true, if_false, Bool.not_false, Bool.and_self, if_true]
        refine wpAny_bind (L6.at ?_)
        simp only [if_true]
        refine wpAny_bind (L7.at ?_)
        simp only [Bool.not_true, Bool.false_eq_true, if_false]
        refine wpAny_bind (wpAny_mono one (fun r s' hr'' => ?_) fun _ _ e => e)
        obtain ⟨v, rfl, hq⟩ := hr''
        ksp_lk
        exact hq
/-- own * int, int * own -/
structure OwM (G : Gc) (j : Nat) (mt rmt : Mt) (c : Nat) : Prop where
  mt : MtOk G "__mul__" j mt
  rmt : MtOk G "__rmul__" j rmt
  sf : PySem.W.selfFirst G.K (G.cad c) = true
  fr : ∃ g : Addr, PySem.W.findIn G.K (.ref (G.cad c)) "__rmul__" = some (some (.ref g))
  hg : ∃ g : Addr, PySem.W.findIn G.K (.ref (G.cad c)) "__mul__" = some (some (.ref g))
  h1 : PySem.W.findIn G.K (.type "int") "__mul__" = some (some (.builtin "int.__mul__"))
  h2 : PySem.W.findIn G.K (.type "int") "__rmul__" = some (some (.builtin "int.__rmul__"))
  s1 : PySem.W.subIn G.K (.type "int") (.ref (G.cad c)) = some false
  s2 : PySem.W.subIn G.K (.ref (G.cad c)) (.type "int") = some false
def isI : A → Bool | .int _ => true | _ => false
def ownM (mt rmt : Mt) (c : Nat) (g : A → A → Hs → Out A) (x y : A) (h : Hs) : Out A := match instOf x h with
  | some (d, _) => chk (Nat.beq c d && isI y) (need (mt c) fun f => f [x, y] h)
  | none => (match instOf y h with
    | some (d, _) => chk (Nat.beq c d && isI x) (need (rmt c) fun f => f [y, x] h)
    | none => g x y h)
theorem ob_ownM {j : Nat} {mt rmt : Mt} {c : Nat} {g : A → A → Hs → Out A} (O : OwM G j mt rmt c) (hg : OpB G L .Mult g) (hj : j ≤ L.k) (hc : L.cm = true := by rfl) : OpB G L .Mult (ownM mt rmt c g) := by
  refine ⟨fun X xr σ H ρ h x y v u hr rx ry Q q => ?_⟩
  have eK := xr.K
  have d1 : PySem.dunder "mul" = ("__mul__" : Str) := by decide +kernel
  have d2 : PySem.dunderR "mul" = ("__rmul__" : Str) := by decide +kernel
  unfold ownM at q
  cases hi : instOf x h with
  | some pr =>
    obtain ⟨d, xs⟩ := pr
    rw [hi] at q
    obtain ⟨k, q2⟩ := chk_ok q
    obtain ⟨f, e, q3⟩ := need_ok q2
    clear q q2
    rw [Bool.and_eq_true] at k
    have hd := Nat.eq_of_beq_eq_true k.1
    subst hd
    obtain ⟨n, M⟩ := O.mt c f e
    obtain ⟨a, dx, vs, rfl, e1, _⟩ := inst_ok hr rx hi
    obtain ⟨i, rfl⟩ : ∃ i, y = .int i := by cases y <;> first | exact ⟨_, rfl⟩ | (have := k.2; cases this)
    have ry' := ry
    obtain rfl : u = .int i := by cases ry; rfl
    refine ⟨fun pins s v u I r1 r2 => ?_⟩
    cases r1
    obtain ⟨t, rfl⟩ := id r2
    obtain ⟨fa, hm, run⟩ := run_mt (us := [.ref a, .int i t]) xr hc hj M I hr (.cons rx (.cons ry' .nil)) (.cons rfl (.cons r2 .nil)) q3
    obtain ⟨m', hF⟩ := I.fr
    obtain ⟨od, J⟩ := inst_at I e1
    obtain ⟨rg, hrg⟩ := O.fr
    have z1 := O.sf; have z2 := O.h1; have z3 := O.h2; have z4 := O.s1
    rw [← eK] at z1 z2 z3 z4 hrg
    refine PySem.W.ksp_binT (T := "int") hF I.ok.mod.kin J rfl z1 (by show PySem.W.findIn X.K _ (PySem.dunder "mul") = _; rw [d1]; exact hm.at_) hm.fn (by show PySem.W.findIn X.K _ (PySem.dunderR "mul") = _; rw [d2]; exact hrg) (.inr ⟨rg, rfl⟩) (by show PySem.W.findIn X.K _ (PySem.dunder "mul") = _; rw [d1]; exact z2) (by show PySem.W.findIn X.K _ (PySem.dunderR "mul") = _; rw [d2]; exact z3) z4 ?_
    exact wpAny_mono run (fun _ _ z => ep_cmp z) fun _ _ z => z
  | none =>
    rw [hi] at q
    dsimp only at q
    cases hk : instOf y h with
    | none => rw [hk] at q; exact hg.run X xr σ H ρ h x y v u hr rx ry Q q
    | some pr =>
      obtain ⟨d, ys⟩ := pr
      rw [hk] at q
      obtain ⟨k, q2⟩ := chk_ok q
      obtain ⟨f, e, q3⟩ := need_ok q2
      clear q q2
      rw [Bool.and_eq_true] at k
      have hd := Nat.eq_of_beq_eq_true k.1
      subst hd
      obtain ⟨n, M⟩ := O.rmt c f e
      obtain ⟨a, dx, vs, rfl, e1, _⟩ := inst_ok hr ry hk
      obtain ⟨i, rfl⟩ : ∃ i, x = .int i := by cases x <;> first | exact ⟨_, rfl⟩ | (have := k.2; cases this)
      have rx' := rx
      obtain rfl : v = .int i := by cases rx; rfl
      refine ⟨fun pins s v u I r1 r2 => ?_⟩
      cases r2
      obtain ⟨t, rfl⟩ := id r1
      obtain ⟨fa, hm, run⟩ := run_mt (us := [.ref a, .int i t]) xr hc hj M I hr (.cons ry (.cons rx' .nil)) (.cons rfl (.cons r1 .nil)) q3
      have run := wpAny_mono run (fun _ _ z => ep_cmp z) fun _ _ z => z
      have hx := (ins_get I.hok e1).choose_spec.1.obj
      obtain ⟨od, J⟩ := inst_at I e1
      have one := PySem.W.ksp_try I.kIn J hm.at_ hm.fn run
      have X' := I.kIn
      obtain ⟨gm, hgm⟩ := O.hg
      have z1 := O.sf; have z2 := O.h1; have z3 := O.h2; have z4 := O.s2
      rw [← eK] at z1 z2 z3 z4 hgm
      obtain ⟨cd, rest, hcd, hmr⟩ := PySem.W.ksp_first z1
      obtain ⟨hh, gg, d, tt, os⟩ := s
      have L1 : PySem.W.Looks (model X.prog X.w) hh (typeOf (.int i t)) (.type "int") := PySem.W.Looks.of_pure rfl
      have L2 : PySem.W.Looks (model X.prog X.w) hh (typeOf (.ref a)) (.ref (G.cad c)) := J.type
      have L3 : PySem.W.Looks (model X.prog X.w) hh (fillsNumberSlot (.type "int") "mul") true := PySem.W.ksp_fillsT X' (by rw [d1]; exact z2) (by rw [d2]; exact z3)
      have L4 : PySem.W.Looks (model X.prog X.w) hh (fillsNumberSlot (.ref (G.cad c)) "mul") true := PySem.W.fills_K X' hcd hmr (by rw [d1]; exact hgm)
      have L5 : PySem.W.Looks (model X.prog X.w) hh (isSubtype (.ref (G.cad c)) (.type "int")) false := PySem.W.looks_subIn X' z4
      have L6 : PySem.W.Looks (model X.prog X.w) hh (numberSlotInPython (.type "int") "mul") false := PySem.W.Looks.of_pure rfl
      have hne : (Value.type "int" == Value.ref (G.cad c)) = false := Bool.eq_false_iff.mpr fun q => by cases beq_iff_eq.mp q
      unfold binaryOp
      refine wpAny_holding (wpAny_bind ?_)
      show wpAny _ _ (binaryOp1 "mul" _ _) _ _ _
      unfold binaryOp1
      refine wpAny_bind (L1.at (wpAny_bind (L2.at (wpAny_bind (L3.at ?_)))))
      simp only [hne, Bool.false_eq_true, if_false]
      refine wpAny_bind (L4.at ?_)
      ksp_lk
      have sl : Slot "int" (PySem.dunder "mul") "int.__mul__" := by rw [d1]; exact PySem.F.slot_int_mul
      have key : wpAny (model X.prog X.w) X.A (call (.builtin "int.__mul__") [.int i t, .ref a]) (fun v s' => v = .notImplemented ∧ s' = ⟨hh, gg, d, tt, os⟩) X.xe ⟨hh, gg, d, tt, os⟩ :=
        call_meets PySem.F.slot_int_mul (typeIs_int _ _ _) PySem.F.entry_int_mul (PySem.F.args_int_mul_2 _ _) (int_mul_inst i t a (G.cad c) dx) ⟨hx, rfl, rfl⟩
      have step : ∀ Q0 : Option Value → Shared → Prop, Q0 none ⟨hh, gg, d, tt, os⟩ → wpAny (model X.prog X.w) X.A (tryMethod (.int i t) (PySem.dunder "mul") (.ref a)) Q0 X.xe ⟨hh, gg, d, tt, os⟩ := fun Q0 h0 => by
        refine wpAny_tryMethod_declines (T := "int") (id := "int.__mul__") ?_ ?_ ?_
        · exact typeIs_int _ _ _
        · exact sl
        · exact wpAny_mono key (fun v s' hv => ⟨hv.1, by rw [hv.2]; exact h0⟩) fun _ _ e => e
      refine step _ ?_
      ksp_lk
      rw [d2]
      refine wpAny_mono one (fun r s' hr' => ?_) fun _ _ e => e
      obtain ⟨v, rfl, hq⟩ := hr'
      ksp_lk
      exact hq
/-- -x, abs(x) of own ones -/
def ownU (mt : Mt) (g : A → Hs → Out A) (x : A) (h : Hs) : Out A := match instOf x h with
  | some (c, _) => need (mt c) fun f => f [x] h
  | none => g x h
theorem ou_own {j : Nat} {mt : Mt} {g : A → Hs → Out A} (O : MtOk G "__neg__" j mt) (hg : OpU G L .USub g) (hj : j ≤ L.k) (hc : L.cm = true := by rfl) : OpU G L .USub (ownU mt g) := by
  refine ⟨fun X xr σ H ρ h x v hr rx Q q => ?_⟩
  unfold ownU at q
  cases hi : instOf x h with
  | none => rw [hi] at q; exact hg.run X xr σ H ρ h x v hr rx Q q
  | some pr =>
    obtain ⟨c, xs⟩ := pr
    rw [hi] at q
    obtain ⟨f, e, q⟩ := need_ok q
    obtain ⟨n, M⟩ := O c f e
    obtain ⟨a, dx, vs, rfl, e1, _⟩ := inst_ok hr rx hi
    refine ⟨fun pins s v I r1 => ?_⟩
    cases r1
    obtain ⟨fa, hm, run⟩ := run_mt (us := [.ref a]) xr hc hj M I hr (.cons rx .nil) (.cons rfl .nil) q
    obtain ⟨m', hF⟩ := I.fr
    obtain ⟨od, J⟩ := inst_at I e1
    exact PySem.W.ksp_neg hF I.ok.mod.kin J hm.at_ hm.fn run
theorem ok_ownAbs {j : Nat} {mt : Mt} (O : MtOk G "__abs__" j mt) (hj : j + 1 ≤ L.k) (hc : L.cm = true := by rfl) : OpK G L (.builtin "abs") (f1 (ownU mt absA)) := by
  refine ⟨fun X xr σ H ρ h xs vs hr rs Q q => ?_⟩
  obtain ⟨x, v, rfl, rfl, rx, q⟩ := ok_one rs q
  unfold ownU at q
  cases hi : instOf x h with
  | none => rw [hi] at q; exact ok_abs.run X xr σ H ρ h [x] [v] hr (.cons rx .nil) Q q
  | some pr =>
    obtain ⟨c, xs⟩ := pr
    rw [hi] at q
    obtain ⟨f, e, q⟩ := need_ok q
    obtain ⟨n, M⟩ := O c f e
    obtain ⟨a, dx, vs, rfl, e1, _⟩ := inst_ok hr rx hi
    refine ⟨fun pins s us I r => ?_⟩
    obtain ⟨u, rfl, r1⟩ := vals1 r
    cases r1
    obtain ⟨fa, fd, ps, Fn, hm, b⟩ := M.ex
    have hm : Meth X.K (G.cad c) "__abs__" fa := by rw [xr.K]; exact hm
    obtain ⟨od, J⟩ := inst_at I e1
    refine Calls.call_function_entry PyProof.Rows.kind_abs PyProof.Rows.plain_abs PyProof.Rows.entry_abs (PyProof.Rows.args_abs _) ?_
    unfold Builtin.«abs»
    refine wpAny_bind (m := oneArg "abs" _) (wpAny_pure ?_)
    have run : wpAny (model X.prog X.w) X.A.in1 (call (.ref fa) [.ref a]) (EP X pins σ Q) X.xe s := by
      have sp := sp_of M.ar hr (.cons rx .nil) q
      have hl : ([Value.ref a]).length = ps.length := ((xr.fn Fn).len _ _ _ _ sp : [V.ref a].length = ps.length)
      have e0 : Env0 X.prog X.w X.K X.mg X.base X.A.in1 X.stack s H := I.env0.in1
      have bb : Binds X.K fd ps [] := by rw [xr.K]; exact b
      refine wpAny_call (codeAny_mono ((xr.fn Fn).run X.A.in1 X.stack s H ⟨[.ref a], []⟩ [.ref a] [.ref a] Q (WE L.W σ) (((xr.room hc).mono hj).in1) xr.gd e0 (by
        have := bb s [.ref a] I.kIn (by simpa using hl)
        simpa using this) (.cons rfl .nil) sp) fun r s' hq => ?_)
      cases r with
      | error e => exact xr.pass σ pins H s e s' I hq
      | ok fl =>
        cases fl with
        | ret u => exact I.after hq
        | next => exact False.elim hq
        | brk => exact False.elim hq
        | cont => exact False.elim hq
    refine wpAny_bind (m := callSpecial? (.ref a) (Str.ofString "__abs__")) (PySem.W.special_fn I.kIn J hm.at_ (beq_iff_eq.mp hm.fn) (wpAny_mono run (fun v s' z => ?_) fun _ _ z => z))
    exact wpAny_pure ⟨_, rfl, z⟩
/-! ### += : an own one by its __add__ -/
structure NoI (G : Gc) (c : Nat) : Prop where
  mro : ∃ cd, PySem.W.clsIn G.K (G.cad c) = some cd ∧ cd.mro = [.ref (G.cad c), .type "object"]
  no : PySem.W.findIn G.K (.ref (G.cad c)) "__iadd__" = some none
  no2 : PySem.W.findIn G.K (.type "object") "__iadd__" = some none
theorem noI_fills {M : Model} {h : Heap} {c : Nat} (n : NoI G c) (X : G.K.In h) : PySem.W.Looks M h (fillsInplaceSlot (.ref (G.cad c)) "add" true) false := by
  intro A Q E s k q
  obtain ⟨cd, hcd, hm⟩ := n.mro
  have di : PySem.dunderI "add" = ("__iadd__" : Str) := by decide +kernel
  have Lm : PySem.W.Looks M h (mroOf (.ref (G.cad c))) cd.mro := (PySem.W.looks_clsIn X hcd).andThen (f := fun cd => pure cd.mro) .now
  have Lm' := Lm.keeps k
  have X' : G.K.In s.heap := X.keeps k
  have L1 : PySem.W.Looks M s.heap (typeLookup (.ref (G.cad c)) "__iadd__") none := PySem.W.looks_findIn X' n.no
  have L2 : PySem.W.Looks M s.heap (typeLookup (.type "object") "__iadd__") none := PySem.W.looks_findIn X' n.no2
  unfold fillsInplaceSlot
  rw [di]
  refine wpAny_bind (Lm'.at ?_)
  rw [hm, List.anyM_cons]
  refine wpAny_bind ?_
  refine wpAny_bind (L1.here ?_)
  refine wpAny_pure ?_
  rw [List.anyM_cons]
  refine wpAny_bind ?_
  refine wpAny_bind (L2.here ?_)
  refine wpAny_pure ?_
  exact wpAny_pure q
def addI (x y : A) (h : Hs) : Out A := match x with
  | .int i => (match y with | .int j => .ok (.int (i + j)) h | _ => .bad)
  | _ => .bad
theorem oi_add : OpI G L .Add addI := by
  refine ⟨fun X xr σ H ρ h x y v u hr rx ry Q q => ⟨fun pins s v' u' I r1 r2 => ?_⟩⟩
  cases rx <;> try exact q.elim
  cases ry <;> try exact q.elim
  exact ip_add pins s σ H _ _ _ _ Q I r1 r2 ⟨_, _, rfl, rfl, q H ρ .refl hr _ .int⟩
def ownI (mt : Mt) (c : Nat) (g : A → A → Hs → Out A) (x y : A) (h : Hs) : Out A := match instOf x h with
  | some (d, _) => (match instOf y h with
    | some (e, _) => chk (Nat.beq c d && Nat.beq c e) (need (mt c) fun f => f [x, y] h)
    | none => .bad)
  | none => g x y h
theorem oi_own {j : Nat} {mt : Mt} {c : Nat} {g : A → A → Hs → Out A} (mo : MtOk G "__add__" j mt) (sf : PySem.W.selfFirst G.K (G.cad c) = true) (ni : NoI G c) (hg : OpI G L .Add g) (hj : j ≤ L.k) (hc : L.cm = true := by rfl) : OpI G L .Add (ownI mt c g) := by
  refine ⟨fun X xr σ H ρ h x y v u hr rx ry Q q => ?_⟩
  have eK := xr.K
  have d1 : PySem.dunder "add" = ("__add__" : Str) := by decide +kernel
  unfold ownI at q
  cases hi : instOf x h with
  | none => rw [hi] at q; exact hg.run X xr σ H ρ h x y v u hr rx ry Q q
  | some pr =>
    obtain ⟨d, xs⟩ := pr
    rw [hi] at q
    dsimp only at q
    cases hk : instOf y h with
    | none => rw [hk] at q; exact q.elim
    | some pr2 =>
      obtain ⟨e', ys⟩ := pr2
      rw [hk] at q
      obtain ⟨k, q2⟩ := chk_ok q
      obtain ⟨f, e, q3⟩ := need_ok q2
      clear q q2
      rw [Bool.and_eq_true] at k
      obtain rfl := Nat.eq_of_beq_eq_true k.1
      obtain rfl := Nat.eq_of_beq_eq_true k.2
      obtain ⟨n, M⟩ := mo c f e
      obtain ⟨a, dx, vs, rfl, e1, _⟩ := inst_ok hr rx hi
      obtain ⟨b, dy, us, rfl, e2, _⟩ := inst_ok hr ry hk
      refine ⟨fun pins s v u I r1 r2 => ?_⟩
      cases r1
      cases r2
      obtain ⟨fa, hm, run⟩ := run_mt (us := [.ref a, .ref b]) xr hc hj M I hr (.cons rx (.cons ry .nil)) (.cons rfl (.cons rfl .nil)) q3
      have run := wpAny_mono run (fun _ _ z => ep_cmp z) fun _ _ z => z
      obtain ⟨od, J⟩ := inst_at I e1
      obtain ⟨od', J'⟩ := inst_at I e2
      have X' := I.kIn
      have Xg : G.K.In s.heap := by rw [← eK]; exact X'
      rw [← eK] at sf
      obtain ⟨cd, rest, hcd, hmr⟩ := PySem.W.ksp_first sf
      have one := PySem.W.ksp_try X' J hm.at_ hm.fn run
      unfold inplaceOp
      refine wpAny_holding ?_
      show wpAny _ _ (typeOf (.ref a) >>= _) _ _ _
      refine wpAny_bind (J.type.here ?_)
      show wpAny _ _ (fillsInplaceSlot (.ref (G.cad c)) "add" true >>= _) _ _ _
      refine wpAny_bind ((noI_fills ni Xg).here ?_)
      simp only [Bool.false_eq_true, if_false]
      refine wpAny_bind ?_
      show wpAny _ _ (binaryOp1 "add" (.ref a) (.ref b)) _ _ _
      unfold binaryOp1
      refine wpAny_bind (J.type.here (wpAny_bind (J'.type.here (wpAny_bind ((PySem.W.fills_K X' hcd hmr (by rw [d1]; exact hm.at_)).here ?_)))))
      simp only [beq_self_eq_true, if_true]
      refine wpAny_bind (wpAny_pure ?_)
      simp only [Bool.and_false, Bool.false_eq_true, if_false, Bool.false_and]
      refine wpAny_bind (wpAny_pure ?_)
      simp only [Bool.false_eq_true, if_false]
      rw [d1]
      refine wpAny_bind (m := tryMethod (.ref a) _ (.ref b)) (wpAny_mono one (fun r s' hr' => ?_) fun _ _ e => e)
      obtain ⟨v, rfl, hq⟩ := hr'
      exact wpAny_pure (wpAny_pure hq)
/-! ### zip of two lists that stand still, or that are numbered -/
def zipA : List A → List A → List A
  | x :: xs, y :: ys => .tup [x, y] :: zipA xs ys
  | _, _ => []
theorem zipA_get : ∀ {xs ys : List A} {i : Nat} {z : A}, (zipA xs ys)[i]? = some z → ∃ x y, xs[i]? = some x ∧ ys[i]? = some y ∧ z = .tup [x, y]
  | [], _, _, _, e => by unfold zipA at e; simp at e
  | _ :: _, [], _, _, e => by unfold zipA at e; simp at e
  | x :: xs, y :: ys, 0, z, e => by unfold zipA at e; simp at e; exact ⟨x, y, rfl, rfl, e.symm⟩
  | x :: xs, y :: ys, i + 1, z, e => by
    unfold zipA at e
    obtain ⟨a, b, h1, h2, h3⟩ := zipA_get (xs := xs) (ys := ys) (i := i) (z := z) (by simpa using e)
    exact ⟨a, b, by simpa using h1, by simpa using h2, h3⟩
theorem zipA_len : ∀ (xs ys : List A), (zipA xs ys).length = min xs.length ys.length
  | [], _ => by simp [zipA]
  | _ :: _, [] => by simp [zipA]
  | x :: xs, y :: ys => by simp [zipA, zipA_len xs ys]
def iZip (fa fb : FE) : FA := fun sl h => (fa sl h).bind fun x h1 => (fb sl h1).bind fun y h2 => match x with
  | .lst xs => (match y with | .lst ys => .ok (zipA xs ys) h2 | _ => .bad)
  | _ => .bad
theorem di_zip {a b : Expr} {fa fb : FE} {elts : List Expr} {kk : Nat} {tpos p pos : Pos} (hm : G.mg "zip" = none) (hg : ("zip" : Str) ∈ L.GL) (ha : DE G L a fa) (hb : DE G L b fb) (hn : NoSt a = true := by rfl) (hn2 : NoSt b = true := by rfl) :
    DI G L (.Tuple elts kk tpos) (.Call (.Name "zip" p) [a, b] [] pos) (iZip fa fb) := by
  refine ⟨fun X xr σ H ρ sl h sr hh R q => ?_⟩
  refine .of (pi_zip (xr.gl _ hg).1 (by rw [xr.mg]; exact hm) pa (star_cons hn) (by rw [star_cons hn2]; rfl)) ?_
  refine as_cons (DE.bind ha xr sr hh q fun x h1 v H1 ρ1 e1 r1 ra s1 q1 => as_cons (DE.bind hb xr s1 r1 q1 fun y h2 u H2 ρ2 e2 r2 rb s2 q2 => as_nil ?_) (star_cons hn2)) (star_cons hn)
  cases x <;> try exact q2.elim
  cases y <;> try exact q2.elim
  rename_i xs ys
  have ra := ra.mono e2
  cases ra with
  | @lst _ ad vs h3 nl l r =>
  cases rb with
  | @lst _ bd us h4 nl' l' r' =>
  refine ⟨ad, bd, vs, us, rfl, .inl (.inl h3), .inl (.inl h4), ?_⟩
  rw [xr.K]
  refine q2 H2 ρ2 .refl r2 _ fun H3 ρ3 h3' k hr i => ?_
  have k1 := (k.keep ad _ h3 nl).1
  have k2 := (k.keep bd _ h4 nl').1
  refine ⟨fun z hz => ?_, fun hi => ⟨vs, us, .inl (.inl k1), .inl (.inl k2), ?_⟩⟩
  · obtain ⟨x, y, hx, hy, rfl⟩ := zipA_get hz
    obtain ⟨v1, hv1, rv1⟩ := RAs.get (G := G) (H := H2) (ρ := ρ2) ⟨l, r⟩ hx
    obtain ⟨v2, hv2, rv2⟩ := RAs.get (G := G) (H := H2) (ρ := ρ2) ⟨l', r'⟩ hy
    refine ⟨⟨vs, us, v1, v2, .inl (.inl k1), .inl (.inl k2), hv1, hv2⟩, fun v H4 ⟨T, x', y', ev, nT, eH, g1, g2⟩ => ?_⟩
    have := g1 vs (.inl (.inl k1))
    rw [hv1] at this; cases this
    have := g2 us (.inl (.inl k2))
    rw [hv2] at this; cases this
    subst ev eH
    exact ⟨.inr ⟨T, _, nT, rfl⟩, new_tupA hr nT (.cons (rv1.mono' k) (.cons (rv2.mono' k) .nil))⟩
  · rw [zipA_len] at hi
    rw [← l, ← l']
    omega
end
end Rx
set_option Elab.async false
set_option linter.all false
set_option maxRecDepth 100000
set_option maxHeartbeats 4000000
/-! RxT: walks over lists as they stand at each turn. -/
namespace Rx
open PySem L2 Sx
section
variable {G : Gc} {L : Wh} {X : Cx} {σ : St} {H : Hp} {ρ : Rho} {sl : Sl} {h : Hs} {Q : VK} {e o tg iter a b : Expr} {fa fb : FE} {pos p : Pos} {st : Stmt} {sts bd : List Stmt} {nx bk ct : St → Hp → Prop} {rt : VK} {ws : List Nat} {g1 : FG}
/-- what a walk yields at a turn, by the heap: an item, the end, or nothing is known -/
abbrev Wk := Nat → Hs → Option (Option A)
def ItG (G : Gc) (J : It) (H : Hp) (ρ : Rho) (w : Wk) : Prop := ∀ H2 ρ2 h2, Kq H ρ H2 ρ2 → HR G H2 ρ2 h2 → ∀ i : Nat, (∀ x, w i h2 = some (some x) → J.go i H2 ∧ ∀ v H3, J.yld i H2 v H3 → YOk H2 H3 ∧ RA G H3 ρ2 x v) ∧ (w i h2 = some none → J.stop i H2)
structure DL (G : Gc) (L : Wh) (tg iter : Expr) (fi : Sl → Hs → Out Wk) : Prop where
  run : ∀ X, Xr G X L → ∀ σ H ρ sl h, SR G H ρ sl σ → HR G H ρ h → ∀ R : It → Hp → Prop, Po G L.W σ H ρ (fun w H1 ρ1 => ∀ J, ItG G J H1 ρ1 w → R J H1) (fi sl h) → PIr X tg iter σ H R
theorem DL.bindS {fi : Sl → Hs → Out Wk} {k : Wk → Hs → OutS} {R : It → Hp → Prop} (ha : DL G L tg iter fi) (xr : Xr G X L) (sr : SR G H ρ sl σ) (hr : HR G H ρ h) (q : PoS G L.W H ρ nx rt bk ct ((fi sl h).bindS sl k))
    (cc : ∀ w h1 J H1 ρ1, Ext H ρ H1 ρ1 → HR G H1 ρ1 h1 → ItG G J H1 ρ1 w → SR G H1 ρ1 sl σ → PoS G L.W H1 ρ1 nx rt bk ct (k w h1) → R J H1) : PIr X tg iter σ H R := by
  refine ha.run X xr σ H ρ sl h sr hr R ?_
  cases hm : fi sl h with
  | ok x h1 =>
    rw [hm] at q
    exact fun H1 ρ1 e1 r1 J it => cc x h1 J H1 ρ1 e1 r1 it (sr.mono e1) (PoS.at1 (m := k x h1) q e1)
  | ex x h1 => rw [hm] at q; exact fun cl d H' ρ' e' r' rx => q cl d σ H' ρ' e' r' (sr.mono e') rx
  | bad => rw [hm] at q; exact q
/-- the list at x, as it stands -/
def wL (x : A) : Wk := fun i h => (listOf x h).map fun xs => xs[i]?
def iL (fa : FE) : Sl → Hs → Out Wk := fun sl h => (fa sl h).bind fun x h1 => need (listOf x h1) fun _ => .ok (wL x) h1
theorem dl_list (ha : DE G L iter fa) : DL G L tg iter (iL fa) := by
  refine ⟨fun X xr σ H ρ sl h sr hh R q => ?_⟩
  refine .of (pi_list pe) (DE.bind ha xr sr hh q fun x h1 v H1 ρ1 e1 r1 ra s1 q1 => ?_)
  obtain ⟨xs, ex, q1⟩ := need_ok q1
  obtain ⟨ad, vs, rfl, e2, rl⟩ := list_ok r1 ra ex
  refine ⟨ad, rfl, ⟨vs, .inl (.inl e2)⟩, ?_⟩
  rw [xr.K]
  refine q1 H1 ρ1 .refl r1 _ fun H2 ρ2 h2 k hr i => ?_
  have key : ∀ o, wL x i h2 = some o → ∃ ys us, listOf x h2 = some ys ∧ ys[i]? = o ∧ H2 ad = some (.lst us) ∧ RAs G H2 ρ2 ys us := fun o e => by
    unfold wL at e
    cases hl : listOf x h2 with
    | none => rw [hl] at e; cases e
    | some ys =>
      rw [hl] at e
      cases e
      obtain ⟨ad', us, e3, e4, e5⟩ := list_ok hr (ra.mono' k) hl
      cases e3
      exact ⟨ys, us, rfl, rfl, e4, e5⟩
  refine ⟨fun z hz => ?_, fun hz => ?_⟩
  · obtain ⟨ys, us, _, ey, e4, e5⟩ := key _ hz
    obtain ⟨v, hv, rv⟩ := e5.get ey
    refine ⟨⟨us, v, .inl (.inl e4), hv⟩, fun v' H3 ⟨y1, y2⟩ => ⟨.inl y1, ?_⟩⟩
    have : us[i]? = some v' := y2 us (.inl (.inl e4))
    rw [hv] at this; cases this
    rw [y1]; exact rv
  · obtain ⟨ys, us, _, ey, e4, e5⟩ := key _ hz
    refine ⟨us, .inl (.inl e4), ?_⟩
    rw [← e5.1]
    exact List.getElem?_eq_none_iff.mp ey
/-- zip of two lists as they stand -/
def wZ (x y : A) : Wk := fun i h => (listOf x h).bind fun xs => (listOf y h).map fun ys => match xs[i]?, ys[i]? with | some a, some b => some (.tup [a, b]) | _, _ => none
def iZ (fa fb : FE) : Sl → Hs → Out Wk := fun sl h => (fa sl h).bind fun x h1 => (fb sl h1).bind fun y h2 => need (listOf x h2) fun _ => need (listOf y h2) fun _ => .ok (wZ x y) h2
theorem dl_zip {elts : List Expr} {kk : Nat} {tpos : Pos} (hm : G.mg "zip" = none) (hg : ("zip" : Str) ∈ L.GL) (ha : DE G L a fa) (hb : DE G L b fb) (hn : NoSt a = true := by rfl) (hn2 : NoSt b = true := by rfl) :
    DL G L (.Tuple elts kk tpos) (.Call (.Name "zip" p) [a, b] [] pos) (iZ fa fb) := by
  refine ⟨fun X xr σ H ρ sl h sr hh R q => ?_⟩
  refine .of (pi_zip (xr.gl _ hg).1 (by rw [xr.mg]; exact hm) pa (star_cons hn) (by rw [star_cons hn2]; rfl)) ?_
  refine as_cons (DE.bind ha xr sr hh q fun x h1 v H1 ρ1 e1 r1 ra s1 q1 => as_cons (DE.bind hb xr s1 r1 q1 fun y h2 u H2 ρ2 e2 r2 rb s2 q2 => as_nil ?_) (star_cons hn2)) (star_cons hn)
  obtain ⟨xs, ex, q2⟩ := need_ok q2
  obtain ⟨ys, ey, q2⟩ := need_ok q2
  have ra := ra.mono e2
  obtain ⟨ad, vs, rfl, h3, rl⟩ := list_ok r2 ra ex
  obtain ⟨bd, us, rfl, h4, rl'⟩ := list_ok r2 rb ey
  refine ⟨ad, bd, vs, us, rfl, .inl (.inl h3), .inl (.inl h4), ?_⟩
  rw [xr.K]
  refine q2 H2 ρ2 .refl r2 _ fun H3 ρ3 h3' k hr i => ?_
  have key : ∀ o, wZ x y i h3' = some o → ∃ as cs ws zs, H3 ad = some (.lst as) ∧ RAs G H3 ρ3 ws as ∧ H3 bd = some (.lst cs) ∧ RAs G H3 ρ3 zs cs ∧ o = (match ws[i]?, zs[i]? with | some a, some b => some (.tup [a, b]) | _, _ => none) := fun o e => by
    unfold wZ at e
    cases hl : listOf x h3' with
    | none => rw [hl] at e; cases e
    | some ws =>
      rw [hl] at e
      cases hl2 : listOf y h3' with
      | none => rw [hl2] at e; cases e
      | some zs =>
        rw [hl2] at e
        have e : some (match ws[i]?, zs[i]? with | some a, some b => some (A.tup [a, b]) | _, _ => none) = some o := e
        obtain ⟨ad', as, f1, f2, f3⟩ := list_ok hr (ra.mono' k) hl
        obtain ⟨bd', cs, g1, g2, g3⟩ := list_ok hr (rb.mono' k) hl2
        cases f1; cases g1
        exact ⟨as, cs, ws, zs, f2, f3, g2, g3, (Option.some.inj e).symm⟩
  refine ⟨fun z hz => ?_, fun hz => ?_⟩
  · obtain ⟨as, cs, ws, zs, k1, f3, k2, g3, eo⟩ := key _ hz
    cases hx : ws[i]? with
    | none => rw [hx] at eo; cases eo
    | some x' =>
      cases hy : zs[i]? with
      | none => rw [hx, hy] at eo; cases eo
      | some y' =>
        rw [hx, hy] at eo
        cases eo
        obtain ⟨v1, hv1, rv1⟩ := f3.get hx
        obtain ⟨v2, hv2, rv2⟩ := g3.get hy
        refine ⟨⟨as, cs, v1, v2, .inl (.inl k1), .inl (.inl k2), hv1, hv2⟩, fun v H4 ⟨T, x2, y2, ev, nT, eH, g1, g2⟩ => ?_⟩
        have := g1 as (.inl (.inl k1))
        rw [hv1] at this; cases this
        have := g2 cs (.inl (.inl k2))
        rw [hv2] at this; cases this
        subst ev eH
        exact ⟨.inr ⟨T, _, nT, rfl⟩, new_tupA hr nT (.cons rv1 (.cons rv2 .nil))⟩
  · obtain ⟨as, cs, ws, zs, k1, f3, k2, g3, eo⟩ := key _ hz
    refine ⟨as, cs, .inl (.inl k1), .inl (.inl k2), ?_⟩
    rw [← f3.1, ← g3.1]
    cases hx : ws[i]? with
    | none => exact .inl (List.getElem?_eq_none_iff.mp hx)
    | some x' =>
      cases hy : zs[i]? with
      | none => exact .inr (List.getElem?_eq_none_iff.mp hy)
      | some y' => rw [hx, hy] at eo; cases eo
/-! ### for, by such a walk -/
def forW (w : Wk) (g : FG) (b : FS) : Nat → Nat → FS
  | 0, _, _, _ => .bad
  | n + 1, i, sl, h => match w i h with
    | some (some x) => (match g x sl h with
      | .nx sl1 h1 => (match b sl1 h1 with
        | .nx sl2 h2 => forW w g b n (i + 1) sl2 h2
        | .ct sl2 h2 => forW w g b n (i + 1) sl2 h2
        | .bk sl2 h2 => .nx sl2 h2
        | .rt a h2 => .rt a h2
        | .ex x sl2 h2 => .ex x sl2 h2
        | .bad => .bad)
      | .ex x sl1 h1 => .ex x sl1 h1
      | _ => .bad)
    | some none => .nx sl h
    | none => .bad
def sForW (fi : Sl → Hs → Out Wk) (g : FG) (b : FS) : FS := fun sl h => (fi sl h).bindS sl fun w h1 => forW w g b FUEL 0 sl h1
theorem ds_forW {fi : Sl → Hs → Out Wk} {b : FS} (hi : DL G L tg iter fi) (hg : DGw G L ws tg g1) (hb : DSs G L bd b) (hs : ∀ env x, foldedSetIterable iter env x = pure x := by intro _ _; rfl) (hc : L.cm = true := by rfl) : DS G L (.For tg iter bd [] pos) (sForW fi g1 b) := by
  refine ⟨fun X xr σ H ρ sl h sr hh nx rt bk ct q => .of (ps_for xr.po (xr.calm hc) pir pg pss (hs _)) ?_⟩
  refine DL.bindS hi xr sr hh q fun w h1 J H1 ρ1 e1 r1 it s1 q1 => ?_
  refine ⟨fun i m σ' H' => ∃ sl' h' ρ', Ext H1 ρ1 H' ρ' ∧ HR G H' ρ' h' ∧ SR G H' ρ' sl' σ' ∧ PoS G L.W H' ρ' nx rt bk ct (forW w g1 b m i sl' h'), ⟨FUEL, sl, h1, ρ1, .refl, r1, s1, q1⟩, ?_⟩
  rintro i m σ' H' ⟨sl', h', ρ', e', r', s', q'⟩
  obtain ⟨ig, is⟩ := it H' ρ' h' e'.kq r' i
  cases m with
  | zero => exact q'.elim
  | succ m =>
    unfold forW at q'
    cases hw : w i h' with
    | none => rw [hw] at q'; exact q'.elim
    | some o =>
      rw [hw] at q'
      cases o with
      | none => exact .inl ⟨is hw, q' σ' H' ρ' .refl r' s'⟩
      | some x =>
        obtain ⟨go, yld⟩ := ig x hw
        refine .inr ⟨go, fun σ2 H2 => ∃ sl2 h2 ρ2, Ext H1 ρ1 H2 ρ2 ∧ HR G H2 ρ2 h2 ∧ SR G H2 ρ2 sl2 σ2 ∧ PoS G L.W H2 ρ2 nx rt bk ct (forW w g1 b m (i + 1) sl2 h2), fun σ2 H2 z => ⟨m, Nat.lt_succ_self m, z⟩, fun v H3 y => ?_⟩
        obtain ⟨yo, ra⟩ := yld v H3 y
        obtain ⟨e3, r3⟩ := yo.ext r'
        have q3 := PoS.at1 q' e3
        have s3 := s'.mono e3
        have e13 := e'.trans e3
        refine sxG_mono (hg.run X xr σ' H3 ρ' sl' h' x v s3 r3 ra (fun σ4 H4 => ∃ sl4 h4 ρ4, Ext H1 ρ1 H4 ρ4 ∧ HR G H4 ρ4 h4 ∧ SR G H4 ρ4 sl4 σ4 ∧ PoS G L.W H4 ρ4 nx rt bk ct (match b sl4 h4 with
          | .nx sl2 h2 => forW w g1 b m (i + 1) sl2 h2
          | .ct sl2 h2 => forW w g1 b m (i + 1) sl2 h2
          | .bk sl2 h2 => .nx sl2 h2
          | .rt a h2 => .rt a h2
          | .ex x sl2 h2 => .ex x sl2 h2
          | .bad => .bad)) ?_) fun σ4 H4 z => ?_
        · revert q3
          dsimp only
          cases g1 x sl' h' with
          | nx sl4 h4 => exact fun q3 σ4 H4 ρ4 e4 r4 s4 => ⟨sl4, h4, ρ4, e13.trans e4, r4, s4, PoS.at1 q3 e4⟩
          | ex x sl4 h4 => exact fun q3 => q3
          | rt _ _ => exact fun q3 => q3.elim
          | bk _ _ => exact fun q3 => q3.elim
          | ct _ _ => exact fun q3 => q3.elim
          | bad => exact fun q3 => q3.elim
        · obtain ⟨-, sl4, h4, ρ4, e4, r4, s4, q4⟩ := z
          refine hb.run X xr σ4 H4 ρ4 sl4 h4 s4 r4 _ _ _ _ ?_
          revert q4
          cases b sl4 h4 with
          | nx sl5 h5 => exact fun q4 σ5 H5 ρ5 e5 r5 s5 => ⟨sl5, h5, ρ5, e4.trans e5, r5, s5, PoS.at1 q4 e5⟩
          | ct sl5 h5 => exact fun q4 σ5 H5 ρ5 e5 r5 s5 => ⟨sl5, h5, ρ5, e4.trans e5, r5, s5, PoS.at1 q4 e5⟩
          | bk sl5 h5 => exact fun q4 => q4
          | rt a h5 => exact fun q4 => q4
          | ex x sl5 h5 => exact fun q4 => q4
          | bad => exact fun q4 => q4
variable {elt : Expr} {ft : FT}
theorem DL.bind {β : Type} {fi : Sl → Hs → Out Wk} {k : Wk → Hs → Out β} {R' : β → Hp → Rho → Prop} {R : It → Hp → Prop} (ha : DL G L tg iter fi) (xr : Xr G X L) (sr : SR G H ρ sl σ) (hr : HR G H ρ h) (q : Po G L.W σ H ρ R' ((fi sl h).bind k))
    (cc : ∀ xs h1 J H1 ρ1, Ext H ρ H1 ρ1 → HR G H1 ρ1 h1 → ItG G J H1 ρ1 xs → SR G H1 ρ1 sl σ → Po G L.W σ H1 ρ1 R' (k xs h1) → R J H1) : PIr X tg iter σ H R := by
  refine ha.run X xr σ H ρ sl h sr hr R ?_
  cases hm : fi sl h with
  | ok x h1 =>
    rw [hm] at q
    exact fun H1 ρ1 e1 r1 J it => cc x h1 J H1 ρ1 e1 r1 it (sr.mono e1) (Po.at1 (m := k x h1) q e1)
  | ex x h1 => rw [hm] at q; exact q
  | bad => rw [hm] at q; exact q
/-! ### list comprehensions, by such a walk -/
def lcW (w : Wk) (g : FG) (t : FT) (fe : FE) (sl : Sl) : Nat → Nat → List A → Hs → Out (List A)
  | 0, _, _, _ => .bad
  | n + 1, i, acc, h => match w i h with
    | some (some x) => (match g x sl h with
      | .nx sl1 h1 => (match t sl1 h1 with
        | .ok true h2 => (match fe sl1 h2 with
          | .ok y h3 => (match Nat.blt acc.length sizeLine with | true => lcW w g t fe sl n (i + 1) (acc ++ [y]) h3 | false => .bad)
          | _ => .bad)
        | .ok false h2 => lcW w g t fe sl n (i + 1) acc h2
        | _ => .bad)
      | _ => .bad)
    | some none => .ok acc h
    | none => .bad
def lcAllW (fi : Sl → Hs → Out Wk) (own : List Nat) (g : FG) (t : FT) (fe : FE) : FA := fun sl h => (fi sl h).bind fun w h1 => lcW w g t fe (wipeA sl own) FUEL 0 [] h1
def eLcW (fi : Sl → Hs → Out Wk) (own : List Nat) (g : FG) (t : FT) (fe : FE) : FE := fun sl h => (lcAllW fi own g t fe sl h).bind fun ys h1 => .ok (.lst ys) h1
def eLcWT (fi : Sl → Hs → Out Wk) (own : List Nat) (g : FG) (t : FT) (fe : FE) : FE := fun sl h => (lcAllW fi own g t fe sl h).bind fun ys h1 => .ok (.ref h1.length) (h1 ++ [.lst ys])
theorem lcW_ok {β : Type} {scope : Scope} {rd wr vs : List Nat} {GL : List Str} {ifs : List Expr} {fe : FE} {fi : Sl → Hs → Out Wk} {k : List A → Hs → Out β} {R : β → Hp → Rho → Prop} {Q : VK} (hc : L.cm = true) (hi : DL G L tg iter fi) (okb : okB L.N rd wr GL scope (relS scope L.sc) = true)
    (hg : DGw G (blkW L scope rd wr GL) ws tg g1) (ht : DTs G (blkW L scope rd wr GL) ifs ft) (he : DE G (blkW L scope rd wr GL) elt fe) (hw : ws.all (fun i => vs.contains i) = true)
    (xr : Xr G X L) (sr : SR G H ρ sl σ) (hh : HR G H ρ h) (q : Po G L.W σ H ρ R ((lcAllW fi vs g1 ft fe sl h).bind k))
    (cc : ∀ ys hF D HF H1 ρ1 h1, Ext H ρ H1 ρ1 → HR G H1 ρ1 h1 → LcEnd G ys hF D HF H1 ρ1 → Po G L.W σ H1 ρ1 R (k ys hF) → Q (.ref D) HF) :
    tLc (fun σ H R => PIr X tg iter σ H R) (gB X scope tg) (tB' X scope ifs) (eB X scope elt) vs σ H Q := by
  have q0 : Po G L.W σ H ρ R ((fi sl h).bind fun w h1 => (lcW w g1 ft fe (wipeA sl vs) FUEL 0 [] h1).bind k) := by
    unfold lcAllW at q
    revert q
    cases fi sl h <;> exact fun q => q
  refine DL.bind hi xr sr hh q0 fun w h1 J H1 ρ1 e1 r1 it s1 q1 D nD => ?_
  refine ⟨fun i m H' => ∃ acc us h' ρ', H' D = some (.lst us) ∧ ρ'.hd = D :: ρ1.hd ∧ RAs G H' ρ' acc us ∧ HR G H' ρ' h' ∧ Kq H1 ρ1 H' ρ' ∧ Ext H1 ρ1 H' ⟨ρ'.l, ρ1.hd⟩ ∧ SR G H' ρ' (wipeA sl vs) (wipe σ vs) ∧
    Po G L.W σ H1 ρ1 R ((lcW w g1 ft fe (wipeA sl vs) m i acc h').bind k), ⟨FUEL, [], [], h1, ρ1.hide D, upd_same, rfl, .nil, r1.hide nD, r1.kq_hide nD, r1.ext_new nD, (wipe_SR s1 (xr.cx hc) vs).mono' (r1.kq_hide nD), q1⟩, ?_⟩
  rintro i m H' ⟨acc, us, h', ρ', hD, hhd, ras, r', kq', ex', s', q'⟩
  obtain ⟨ig, is⟩ := it H' ρ' h' kq' r' i
  cases m with
  | zero => exact q'.elim
  | succ m =>
  unfold lcW at q'
  cases hwx : w i h' with
  | none => rw [hwx] at q'; exact q'.elim
  | some ox =>
  rw [hwx] at q'
  cases ox with
  | none => exact .inl ⟨is hwx, cc acc h' D H' H1 ρ1 h1 e1 r1 ⟨us, ρ', hD, hhd, ras, r', ex', nD⟩ q'⟩
  | some x0 =>
  · obtain ⟨go, yld⟩ := ig x0 hwx
    refine .inr ⟨go, fun H2 => ∃ acc us h' ρ', H2 D = some (.lst us) ∧ ρ'.hd = D :: ρ1.hd ∧ RAs G H2 ρ' acc us ∧ HR G H2 ρ' h' ∧ Kq H1 ρ1 H2 ρ' ∧ Ext H1 ρ1 H2 ⟨ρ'.l, ρ1.hd⟩ ∧ SR G H2 ρ' (wipeA sl vs) (wipe σ vs) ∧
      Po G L.W σ H1 ρ1 R ((lcW w g1 ft fe (wipeA sl vs) m (i + 1) acc h').bind k), fun H2 z => ⟨m, Nat.lt_succ_self m, z⟩, fun v H3 y s H0 C cl fp => ?_⟩
    obtain ⟨yo, ra⟩ := yld v H3 y
    obtain ⟨e3, r3⟩ := yo.ext r'
    have xb := fun s H0 C cl fp => xr.blk (scope := scope) hc okb s H0 C cl fp
    dsimp only at q'
    have s3 := s'.mono e3
    -- from any later place of the turn
    have fin : ∀ {H4 : Hp} {ρ4 : Rho}, Ext H3 ρ' H4 ρ4 → H4 D = some (.lst us) ∧ ρ4.hd = D :: ρ1.hd ∧ RAs G H4 ρ4 acc us ∧ Kq H1 ρ1 H4 ρ4 ∧ Ext H1 ρ1 H4 ⟨ρ4.l, ρ1.hd⟩ ∧ SR G H4 ρ4 (wipeA sl vs) (wipe σ vs) := fun {H4 ρ4} e4 => by
      have e34 := e3.trans e4
      exact ⟨by rw [e34.hidk D (by rw [hhd]; exact List.mem_cons_self)]; exact hD, by rw [e34.hds]; exact hhd, ras.mono e34, kq'.trans e34.kq, ext_lift r1 ex' hhd nD e34, s'.mono e34⟩
    cases hgx : g1 x0 (wipeA sl vs) h' with
    | nx sl4 h4 =>
      rw [hgx] at q'
      refine sxG_mono (hg.run _ (xb s H0 C cl fp) (wipe σ vs) H3 ρ' (wipeA sl vs) h' x0 v s3 r3 ra (fun σ4 H4 => ∃ ρ4, Ext H3 ρ' H4 ρ4 ∧ HR G H4 ρ4 h4 ∧ SR G H4 ρ4 sl4 σ4) (by rw [hgx]; exact fun σ4 H4 ρ4 e4 r4 s4 => ⟨ρ4, e4, r4, s4⟩)) fun σ4 H4 ⟨off, ρ4, e4, r4, s4⟩ => ?_
      refine ⟨wipe_off hw off, fun s H0 C cl fp => ?_⟩
      dsimp only at q'
      refine ht.run _ (xb s H0 C cl fp) σ4 H4 ρ4 sl4 h4 s4 r4 _ ?_
      cases htx : ft sl4 h4 with
      | ok b h5 =>
        rw [htx] at q'
        cases b with
        | false =>
          intro H5 ρ5 e5 r5
          obtain ⟨a1, a2, a3, a4, a5, a6⟩ := fin (e4.trans e5)
          exact ⟨acc, us, h5, ρ5, a1, a2, a3, r5, a4, a5, a6, q'⟩
        | true =>
          intro H5 ρ5 e5 r5
          unfold RB
          dsimp only
          rw [if_pos rfl]
          intro s H0 C cl fp
          dsimp only at q'
          refine he.run _ (xb s H0 C cl fp) σ4 H5 ρ5 sl4 h5 (s4.mono e5) r5 _ ?_
          cases hex : fe sl4 h5 with
          | ok y h6 =>
            rw [hex] at q'
            dsimp only at q'
            cases hsz : Nat.blt acc.length sizeLine with
            | false => rw [hsz] at q'; exact q'.elim
            | true =>
            rw [hsz] at q'
            have hsz := Nat.le_of_ble_eq_true hsz
            intro H6 ρ6 e6 r6 w rw'
            obtain ⟨a1, a2, a3, a4, a5, a6⟩ := fin ((e4.trans e5).trans e6)
            obtain ⟨u0, eu0, nt, nf⟩ := r6.hid D (by rw [a2]; exact List.mem_cons_self)
            have kq7 := kq_hid (ρ := ρ6) (o := .lst (us ++ [w])) (by rw [a2]; exact List.mem_cons_self) eu0 nt nf
            exact ⟨us, a1, by rw [← ras.1]; exact hsz, acc ++ [y], us ++ [w], h6, ρ6, upd_same, a2, (a3.append (.cons rw' .nil)).mono' kq7, r6.upd_hid (by rw [a2]; exact List.mem_cons_self), a4.trans kq7, ext_updD r1 a5 nD, a6.mono' kq7, q'⟩
          | ex y h6 => rw [hex] at q'; exact q'.elim
          | bad => rw [hex] at q'; exact q'.elim
      | ex b h5 => rw [htx] at q'; exact q'.elim
      | bad => rw [htx] at q'; exact q'.elim
    | rt _ _ => rw [hgx] at q'; exact q'.elim
    | bk _ _ => rw [hgx] at q'; exact q'.elim
    | ct _ _ => rw [hgx] at q'; exact q'.elim
    | ex _ _ _ => rw [hgx] at q'; exact q'.elim
    | bad => rw [hgx] at q'; exact q'.elim
theorem de_lcW {scope : Scope} {own : List (Str × Nat)} {rd wr : List Nat} {GL : List Str} {ifs : List Expr} {fe : FE} {fi : Sl → Hs → Out Wk} (own' : List Nat) (hi : DL G L tg iter fi) (ok : BlkOk L.N L.sc scope own) (okb : okB L.N rd wr GL scope (relS scope L.sc) = true)
    (hg : DGw G (blkW L scope rd wr GL) ws tg g1) (ht : DTs G (blkW L scope rd wr GL) ifs ft) (he : DE G (blkW L scope rd wr GL) elt fe) (ho : own.map (·.2) = own' := by rfl) (hw : ws.all (fun i => own'.contains i) = true := by rfl) (hs : ∀ env x, foldedSetIterable iter env x = pure x := by intro _ _; rfl) (hc : L.cm = true := by rfl) :
    DE G L (.ListComp elt [⟨tg, iter, ifs, 0⟩] scope pos) (eLcW fi own' g1 ft fe) := by
  subst ho
  refine ⟨fun X xr σ H ρ sl h sr hh Q q => .of (pe_lc (own := own) (xr.calm hc) (by rw [xr.n]; exact xr.nd) pir (by rw [xr.n, xr.scp]; exact ok) (fun s H0 C cl fp => ⟨fun pins s σ H x u Q I r q => (q _ _ _ _ _).run pins s u I r⟩) (fun s H0 C cl fp => ⟨fun pins s σ H Q I q => (q _ _ _ _ _).run pins s I⟩) (fun s H0 C cl fp => ⟨fun pins s σ H Q I q => (q _ _ _ _ _).run pins s I⟩) (hs _))
    (lcW_ok hc hi okb hg ht he hw xr sr hh q fun ys hF D HF H1 ρ1 h1 e1 r1 le q1 => ?_)⟩
  obtain ⟨ρ', ex, r', ra⟩ := lc_frozen r1 le
  exact q1 HF ρ' ex r' _ ra
theorem de_lcWT {scope : Scope} {own : List (Str × Nat)} {rd wr : List Nat} {GL : List Str} {ifs : List Expr} {fe : FE} {fi : Sl → Hs → Out Wk} (own' : List Nat) (hi : DL G L tg iter fi) (ok : BlkOk L.N L.sc scope own) (okb : okB L.N rd wr GL scope (relS scope L.sc) = true)
    (hg : DGw G (blkW L scope rd wr GL) ws tg g1) (ht : DTs G (blkW L scope rd wr GL) ifs ft) (he : DE G (blkW L scope rd wr GL) elt fe) (ho : own.map (·.2) = own' := by rfl) (hw : ws.all (fun i => own'.contains i) = true := by rfl) (hs : ∀ env x, foldedSetIterable iter env x = pure x := by intro _ _; rfl) (hc : L.cm = true := by rfl) :
    DE G L (.ListComp elt [⟨tg, iter, ifs, 0⟩] scope pos) (eLcWT fi own' g1 ft fe) := by
  subst ho
  refine ⟨fun X xr σ H ρ sl h sr hh Q q => .of (pe_lc (own := own) (xr.calm hc) (by rw [xr.n]; exact xr.nd) pir (by rw [xr.n, xr.scp]; exact ok) (fun s H0 C cl fp => ⟨fun pins s σ H x u Q I r q => (q _ _ _ _ _).run pins s u I r⟩) (fun s H0 C cl fp => ⟨fun pins s σ H Q I q => (q _ _ _ _ _).run pins s I⟩) (fun s H0 C cl fp => ⟨fun pins s σ H Q I q => (q _ _ _ _ _).run pins s I⟩) (hs _))
    (lcW_ok hc hi okb hg ht he hw xr sr hh q fun ys hF D HF H1 ρ1 h1 e1 r1 le q1 => ?_)⟩
  obtain ⟨ρ', ex, r', ra⟩ := lc_tracked r1 le
  exact q1 HF ρ' ex r' _ ra
theorem ds_setLcW (i : Nat) {y : Str} {py spos : Pos} {scope : Scope} {own : List (Str × Nat)} {rd wr : List Nat} {GL : List Str} {ifs : List Expr} {fe : FE} {fi : Sl → Hs → Out Wk} (own' : List Nat) (hsw : ∀ (q : Str) (Lo f : Addr) (cd : Value), swapsWith (.ListComp elt [⟨tg, iter, ifs, 0⟩] scope pos) (some (.Name y py)) spos.line (PyProof.Rows.envOfC q L.sc Lo f cd) = pure true)
    (hyl : L.sc.names.lookup y = some .local) (hi : DL G L tg iter fi) (ok : BlkOk L.N L.sc scope own) (okb : okB L.N rd wr GL scope (relS scope L.sc) = true) (hg : DGw G (blkW L scope rd wr GL) ws tg g1) (ht : DTs G (blkW L scope rd wr GL) ifs ft) (he : DE G (blkW L scope rd wr GL) elt fe) (tr : Bool)
    (ho : own.map (·.2) = own' := by rfl) (hy : L.N[i]? = some y := by rfl) (hw : ws.all (fun i => own'.contains i) = true := by rfl) (hs : ∀ env x, foldedSetIterable iter env x = pure x := by intro _ _; rfl) (hc : L.cm = true := by rfl) (hf : L.fb = true := by rfl) :
    DS G L (.Assign [.Name y py] (.ListComp elt [⟨tg, iter, ifs, 0⟩] scope pos) spos) (sSet i (match tr with | true => eLcWT fi own' g1 ft fe | false => eLcW fi own' g1 ft fe)) := by
  subst ho
  refine ⟨fun X xr σ H ρ sl h sr hh nx rt bk ct q => ?_⟩
  obtain ⟨qn, Lo, f, cd, ev⟩ := xr.ev hf
  refine .of (ps_setLc (i := i) (own := own) (g := gB X scope tg) (tt := tB' X scope ifs) (te := eB X scope elt) (xr.calm hc) (by rw [xr.n]; exact xr.nd) (by rw [xr.n]; exact hy) (by rw [xr.scp]; exact hyl) (by rw [ev]; exact hsw _ _ _ _) pir (by rw [xr.n, xr.scp]; exact ok) (fun s H0 C cl fp => ⟨fun pins s σ H x u Q I r q => (q _ _ _ _ _).run pins s u I r⟩) (fun s H0 C cl fp => ⟨fun pins s σ H Q I q => (q _ _ _ _ _).run pins s I⟩) (fun s H0 C cl fp => ⟨fun pins s σ H Q I q => (q _ _ _ _ _).run pins s I⟩) (hs _)) ?_
  have key : ∀ {fe' : FE} {kk : List A → Hs → Out A}, fe' = (fun sl h => (lcAllW fi (own.map (·.2)) g1 ft fe sl h).bind kk) → PoS G L.W H ρ nx rt bk ct (sSet i fe' sl h) → Po G L.W σ H ρ (RQ G fun v H' => nx (σ.set i (some v)) H') ((lcAllW fi (own.map (·.2)) g1 ft fe sl h).bind kk) := by
    intro fe' kk efe q
    rw [efe] at q
    unfold sSet at q
    revert q
    dsimp only
    cases (lcAllW fi (own.map (·.2)) g1 ft fe sl h).bind kk with
    | ok a h1 => exact fun q H1 ρ1 e1 r1 v rv => q _ H1 ρ1 e1 r1 ((sr.mono e1).set rv i)
    | ex x h1 => exact fun q c d H1 ρ1 e1 r1 rx => q c d σ H1 ρ1 e1 r1 (sr.mono e1) rx
    | bad => exact fun q => q
  cases tr with
  | true =>
    refine lcW_ok (k := fun ys h1 => .ok (.ref h1.length) (h1 ++ [.lst ys])) hc hi okb hg ht he hw xr sr hh (key (fe' := eLcWT fi (own.map (·.2)) g1 ft fe) rfl q) fun ys hF D HF H1 ρ1 h1 e1 r1 le q1 => ?_
    obtain ⟨ρ', ex, r', ra⟩ := lc_tracked r1 le
    exact q1 HF ρ' ex r' _ ra
  | false =>
    refine lcW_ok (k := fun ys h1 => .ok (.lst ys) h1) hc hi okb hg ht he hw xr sr hh (key (fe' := eLcW fi (own.map (·.2)) g1 ft fe) rfl q) fun ys hF D HF H1 ρ1 h1 e1 r1 le q1 => ?_
    obtain ⟨ρ', ex, r', ra⟩ := lc_frozen r1 le
    exact q1 HF ρ' ex r' _ ra
/-! ### * and // of great numbers of any sign -/
def CDivG (j : Int) : Prop := j ≠ 0 ∧ j.natAbs.log2 < 9000
theorem b_fdivG {X : Cx} {H : Hp} {Q : VK} {i j : Int} (hj : CDivG j) (h : Q (.int (i.fdiv j)) H) : Bo X .FloorDiv (.int i) (.int j) H Q := ⟨fun pins s σ v u I r1 r2 => by
  obtain ⟨t, rfl⟩ := r1
  obtain ⟨t', rfl⟩ := r2
  exact PyProof.Rows.floordiv_int hj.1 ⟨.int _, H, I.tok _, ⟨_, rfl⟩, h⟩ (.inl (PyProof.noPylong_of_log2 hj.2))⟩
def gMulW (i j : Int) : Option Int := match gMul i j with
  | some k => some k
  | none => match decide (i.natAbs.log2 + j.natAbs.log2 < 1000000) with | true => some (i * j) | false => none
theorem ob_mulW : OpB G L .Mult (aInt gMulW) := int_ok fun X H i j k Q e q => by
  unfold gMulW at e
  split at e
  · rename_i z
    cases e
    unfold gMul at z
    split at z
    · rename_i z'
      cases z
      have z := of_decide_eq_true z'
      exact b_mul (CMul.ok (z.elim (fun z => .inl ⟨by omega, by omega⟩) fun z => .inr ⟨by omega, by omega⟩)) q
    · cases z
  · split at e
    · rename_i z
      cases e
      have z := of_decide_eq_true z
      exact b_mul (CMulW.ok z) q
    · cases e
def gDivN (i j : Int) : Option Int := match decide (j ≠ 0 ∧ j.natAbs.log2 < 9000) with | true => some (i.fdiv j) | false => none
theorem ob_divN : OpB G L .FloorDiv (aInt gDivN) := int_ok fun X H i j k Q e q => by
  unfold gDivN at e
  split at e
  · rename_i z
    cases e
    have z := of_decide_eq_true z
    exact b_fdivG z q
  · cases e
/-! ### ends -/
def spLaw (K : PySem.W.Frag) : Sp := fun vs H Q _ => ∃ (a : Addr) (ns : List Int), vs = [.ref a] ∧ SqL K H a (ns.map V.int) ∧ ns.length ≤ 63 ∧ ∀ H', Q (.bl true) H'
theorem law_fn {f : F} {k : Nat} {fa : Addr} {fd : FuncData} {ps : List Str} (ok : ∀ ns : List Int, ns.length ≤ 63 → ∃ h', f [.scr ns] [] = .ok (.bl true) h') (Fn : FnOk G.P G.w G.K G.mg G.base (L2.CX G.P G.w) k fa fd ps (spF G 1 f)) (hxi : G.xi = none := by rfl) : FnOk G.P G.w G.K G.mg G.base (L2.CX G.P G.w) k fa fd ps (spLaw G.K) := by
  refine Fn.imp fun vs H Q E q => ?_
  obtain ⟨a, ns, rfl, hs, hl, q⟩ := q
  obtain ⟨h', e⟩ := ok ns hl
  have nl : ∀ b, ¬ Live ⟨[], []⟩ b := fun b z => by
    rcases z with ⟨i, z⟩ | z
    · simp at z
    · simp at z
  refine ⟨rfl, [.scr ns], ⟨[], []⟩, [], .cons (.scr ?_) .nil, ⟨rfl, fun i j a e => by simp at e, fun i o e => by simp at e, fun i a o e => by simp at e, fun i a e => by simp at e, fun a ha => by simp at ha, fun xi e => by rw [hxi] at e; cases e⟩, ?_⟩
  · rcases hs with (hs | ⟨o, hs⟩) | hs
    · exact .inl ⟨hs, nl a⟩
    · exact .inr (.inl ⟨o, hs⟩)
    · exact .inr (.inr hs)
  · rw [e]
    intro H' ρ' _ _ v rv
    cases rv
    exact q H'
theorem kit_same' {K : PySem.W.Frag} {t : Value} : PySem.W.kitOne K t t = some true := by
  unfold PySem.W.kitOne
  rw [if_pos (beq_self_eq_true t)]
theorem kit_sub {K : PySem.W.Frag} {t : Value} {C : Addr} {b : Bool} (hc : (PySem.W.clsIn K C).isSome = true) (ht : PySem.W.typeIn K (.ref C) = some (.type "type")) (hs : PySem.W.subIn K t (.ref C) = some b) (ne : t ≠ .ref C) : PySem.W.kitOne K t (.ref C) = some b := by
  unfold PySem.W.kitOne PySem.W.kitCls
  rw [if_neg (fun z => ne (beq_iff_eq.mp z))]
  dsimp only
  rw [hc, ht, if_pos (by decide)]
  exact hs
theorem kit_bt {K : PySem.W.Frag} {t : Value} {T : String} {b : Bool} (hm : PySem.W.kitMeta T = true) (hs : PySem.W.subIn K t (.type T) = some b) (ne : t ≠ .type T) : PySem.W.kitOne K t (.type T) = some b := by
  unfold PySem.W.kitOne PySem.W.kitCls
  rw [if_neg (fun z => ne (beq_iff_eq.mp z))]
  dsimp only
  rw [if_pos hm]
  exact hs
theorem MtC.mono {m : Str} {j j' c n : Nat} {f : F} (M : MtC G m j c n f) (h : j ≤ j') : MtC G m j' c n f :=
  ⟨M.cr, M.ar, M.no, let ⟨fa, fd, ps, Fn, hm, b⟩ := M.ex; ⟨fa, fd, ps, Fn.mono h, hm, b⟩⟩
end
end Rx
set_option Elab.async false
set_option linter.all false
set_option maxRecDepth 100000
set_option maxHeartbeats 4000000
/-! RxX: own errors of any base: their __init__ (super().__init__ of a text, then one or two fields), told without the walker. -/
namespace Rx
open PySem L2 Sx
namespace Er
open PySem.W PySem.Calls PyProof.Rows Builtin Builtin.ObjectAttr
section
variable {prog : Program} {w : World} {A : Around} {R : Result → Shared → Prop} {hp : Heap} {g : Array GenState} {d : Drawn} {t : Nat} {os : OsState} {K : Frag} {C x t0 : Addr} {B : String} {bmB : List Value} {name : Str} {tk : Tok} {v c2 : Value}
theorem put1 (SF : StoreFacts B bmB "object.__setattr__" "object") (XK : K.In hp) (hx : hp.get? x = some (excObj C t0 none c2)) (ov : excOver K C bmB = true) (tn : takerIn K C name = some none) (hd : hasDictIn K C = true)
    (hq : ∀ h' tk' dx, (∀ b o, b ≠ x → hp.get? b = some o → h'.get? b = some o) → hp.objs.size ≤ dx → dx ≠ x → h'.get? x = some (excObj C t0 (some dx) c2) → h'.Ns1 dx (fun y => if y = name then some v else none) → R (.ok (.ret .none)) ⟨h', g, d, tk', os⟩) :
    codeAny (model prog w) A (.call (.builtin "object.__setattr__") ⟨[.ref x, .str name tk, v], []⟩) R ⟨hp, g, d, t, os⟩ := by
  have In : InstAt hp x (excObj C t0 none c2) C none := ⟨hx, rfl, rfl, trivial⟩
  have nx : x ≠ hp.objs.size := Nat.ne_of_lt (Heap.lt_size hx)
  refine osa_openX SF XK In ov tn fun b => ?_
  obtain ⟨cd, hc, hh⟩ : ∃ cd, clsIn K C = some cd ∧ cd.hasDict = true := by
    unfold hasDictIn at hd
    cases z : clsIn K C with
    | none => rw [z] at hd; exact absurd hd (by decide)
    | some cd => rw [z] at hd; exact ⟨cd, rfl, by simpa using hd⟩
  have lc : Looks (model prog w) hp (classData C) cd := looks_clsIn XK hc
  obtain ⟨a1, a2, a3, a4, a5, a6, a7, a8, a9, a10, a11⟩ := cd
  dsimp only at hh
  subst hh
  show wpAny _ _ (storeInOwnDict (.ref x) (.ref C) (.str name tk) name v b) _ _ _
  unfold storeInOwnDict ownDictForStores
  repeat (first | with_reducible refine HandSPX.store_in_new ?_ ?_ | with_reducible refine wpAny_loadPart_at hx ?_ | with_reducible refine lc.at ?_ | wp_step)
  · exact ⟨_, #[], _, (Heap.get?_update_ne _ _ _ _ nx.symm).trans (Heap.get?_push_at rfl rfl), rfl, fun e he => absurd he (by simp), fun _ => rfl⟩
  · intro h' tk' hn hs
    have px : (hp.push { cls := .type "dict", data := .dict #[] }).get? x = some (excObj C t0 none c2) := Heap.get?_push_of_some _ hx
    refine hq h' tk' hp.objs.size (fun b o hb ho => ?_) (Nat.le_refl _) nx.symm ?_ hn
    · exact (hs.2 b (Nat.ne_of_lt (Heap.lt_size ho))).trans ((Heap.get?_update_ne _ _ _ _ hb).trans (Heap.get?_push_of_some _ ho))
    · exact (hs.2 x nx).trans (Heap.get?_update_self _ px rfl)
theorem put2 {dx : Addr} {m0 : Str → Option Value} {nl : List Str} (SF : StoreFacts B bmB "object.__setattr__" "object") (XK : K.In hp) (hx : hp.get? x = some (excObj C t0 (some dx) c2)) (hn : hp.Ns1 dx m0) (hw : Within m0 nl) (hz : nl.length ≤ 1000)
    (ov : excOver K C bmB = true) (tn : takerIn K C name = some none) (hd : hasDictIn K C = true)
    (hq : ∀ h' tk', (∀ b o, b ≠ dx → hp.get? b = some o → h'.get? b = some o) → h'.Ns1 dx (fun y => if y = name then some v else m0 y) → R (.ok (.ret .none)) ⟨h', g, d, tk', os⟩) :
    codeAny (model prog w) A (.call (.builtin "object.__setattr__") ⟨[.ref x, .str name tk, v], []⟩) R ⟨hp, g, d, t, os⟩ := by
  obtain ⟨oD, es, ep, hoD, hdD, _⟩ := hn.count hw
  have In : InstAt hp x (excObj C t0 (some dx) c2) C (some oD) := ⟨hx, rfl, rfl, hoD⟩
  refine osa_openX SF XK In ov tn fun b => ?_
  obtain ⟨cd, hc, hh⟩ : ∃ cd, clsIn K C = some cd ∧ cd.hasDict = true := by
    unfold hasDictIn at hd
    cases z : clsIn K C with
    | none => rw [z] at hd; exact absurd hd (by decide)
    | some cd => rw [z] at hd; exact ⟨cd, rfl, by simpa using hd⟩
  have lc : Looks (model prog w) hp (classData C) cd := looks_clsIn XK hc
  obtain ⟨a1, a2, a3, a4, a5, a6, a7, a8, a9, a10, a11⟩ := cd
  dsimp only at hh
  subst hh
  show wpAny _ _ (storeInOwnDict (.ref x) (.ref C) (.str name tk) name v b) _ _ _
  unfold storeInOwnDict ownDictForStores
  repeat (first | with_reducible refine OEX.store_in_old hn hw hz ?_ | with_reducible refine wpAny_loadPart_at hx ?_ | with_reducible refine lc.at ?_ | wp_step)
  intro h' tk' hn' hs
  exact hq h' tk' (fun b o hb ho => (hs.2 b hb).trans ho) hn'
end
/-- the facts of an error's class and of its __init__ -/
structure Ok (prog : Program) (K : Frag) (C f cda cc : Addr) (B i newId : String) (bmB : List Value) (nm q : Str) (params : Arguments) (body : List Stmt) (scope : Scope) : Prop where
  FB : ExcBaseFacts B newId i bmB
  KF : KxsFacts B i
  SF : StoreFacts B bmB "object.__setattr__" "object"
  fn : ∃ oc od kV doc pm an ct osl, K.lookup f = some ⟨oc, od, .func (ksFn nm q params body scope .none kV doc pm an (.ref cda) ct cc), osl⟩
  cd : codeIn K (.ref cda) q = true
  code : ∃ ccl cdd vs ccs file tf, K.lookup cda = some ⟨ccl, cdd, .fields vs, ccs⟩ ∧ vs[2]? = some (.str file tf) ∧ ((prog.main.file : Str) == file) = true
  cell : ∃ cl cld csl, K.lookup cc = some ⟨cl, cld, .cell (some (.ref C)), csl⟩
  cls : (clsIn K C).isSome = true
  top : (prog.main.scope.names.lookup ("super" : Str)).isSome = false
  self : mroIn K C (.ref C) = some true
  ini : excInitIn K C bmB newId = true
  sup : ks_superIn K C C "__init__" = some (some (.builtin i))
  sub : subIn K (.ref C) (.type B) = some true
  opq : nsIn K cStatics "thirdparty.any" = some none
  sa : findIn K (.ref C) "__setattr__" = some (some (.builtin "object.__setattr__"))
  ov : excOver K C bmB = true
  hd : hasDictIn K C = true
section
variable {prog : Program} {w : World} {A : Around} {K : Frag} {C f cda cc e t0 L : Addr} {B i newId : String} {bmB : List Value} {nm q : Str} {params : Arguments} {body : List Stmt} {scope : Scope} {E : Value → Shared → Prop} {mg mb : Str → Option Value}
/-- super().__init__('..') -/
theorem sup (T : Ok prog K C f cda cc B i newId bmB nm q params body scope) {h0 : Heap} {s : Shared} {m : Str → Option Value} {ar : Arg} {p0 p1 p2 p3 p4 : Pos} {z : Str} {j : Nat} {Q : Value → Shared → Prop} {pl : Sem Bool}
    (hev : eval (.Call (.Attribute (.Call (.Name "super" p0) [] [] p1) "__init__" p2) [.Constant (.str z) j p3] [] p4) (ksEnv q scope L f (.ref cda) cc) = (do
      let ov ← attributeBase (.Call (.Name "super" p0) [] [] p1) "__init__" (ksEnv q scope L f (.ref cda) cc) (eval (.Call (.Name "super" p0) [] [] p1) (ksEnv q scope L f (.ref cda) cc))
      standAt p2.atName
      let (fu, first) ← holding [ov] (getMethod ov "__init__" pl)
      callWith p4 fu first (backTo p4 (starEach [.Constant (.str z) j p3] (ksEnv q scope L f (.ref cda) cc))) []))
    (F : Fr h0 L s.heap m) (X0 : K.In h0) (he : s.heap.get? e = some (excObj C t0 none .none)) (eL : e ≠ L) (e0 : h0.get? e = none) (Ng : s.heap.Ns mainGlobals mg) (Nb : s.heap.Ns builtinsNs mb) (gs : mg "super" = none) (bs : mb "super" = some (.type "super"))
    (hp : (params.posonlyargs ++ params.args).head? = some ar) (hv : m ar.arg = some (.ref e)) (hk : scope.kind = .function) (hks : scope.names.lookup ("super" : Str) = some .globalImplicit) (hkc : scope.names.lookup ("__class__" : Str) = some .free) (hka : scope.names.lookup ar.arg = some .local)
    (h : ∀ h' t1 tk, Fr h0 L h' m → h'.get? e = some (excObj C t1 none .none) → Q .none { s with heap := h', toks := tk }) :
    PySem.wpAt (model prog w) A (.func body (ksEnv q scope L f (.ref cda) cc)) (eval (.Call (.Attribute (.Call (.Name "super" p0) [] [] p1) "__init__" p2) [.Constant (.str z) j p3] [] p4) (ksEnv q scope L f (.ref cda) cc)) Q E s := by
  obtain ⟨hh, g, d, tk, os⟩ := s
  have X : K.In hh := X0.keeps F.keep
  obtain ⟨oc, od, kV, doc, pm, an, ct, osl, ff⟩ := T.fn
  obtain ⟨ccl, cdd, vs, ccs, file, tf, fc, fv, hfile⟩ := T.code
  obtain ⟨cl, cld, csl, fcell⟩ := T.cell
  obtain ⟨cdD, hD⟩ := Option.isSome_iff_exists.mp T.cls
  obtain ⟨oD, hD1, hD2⟩ : ∃ oD, hh.get? C = some oD ∧ oD.data = .cls cdD := by
    unfold clsIn at hD
    split at hD
    · rename_i c d cd' sl ho
      cases hD
      exact ⟨_, X _ _ ho, rfl⟩
    · cases hD
  refine ks_wpAt_MethodCall (pl := pl) ?_ hev
  refine ks_wpAt_super_base (env := ksEnv q scope L f (.ref cda) cc) hks hkc (by decide) rfl (X _ _ ff) rfl hp rfl (X _ _ fc) rfl fv hfile T.top ?_
  refine ks_loadName_global hk hks (loadGlobal_builtin (env := ksEnv q scope L f (.ref cda) cc) Ng gs Nb bs ⟨rfl, ?_⟩)
  refine wpAny_loadName_free hk hkc rfl ⟨_, X _ _ fcell, rfl⟩ ?_
  refine wpAny_loadName_local hk hka F.ns hv ?_
  refine ks_wpAny_isType_cls hD1 hD2 ⟨rfl, ?_⟩
  refine ks_wpAny_call_super hD1 hD2 he rfl (fun c z => by cases z) (looks_mroIn X T.self) (fun h1 so k1 => ?_)
  have N1 : News h0 L hh [(e, excObj C t0 none .none)] := fun p hp => by
    rcases List.mem_cons.mp hp with rfl | hp
    · exact ⟨he, eL, e0⟩
    · cases hp
  obtain ⟨F2, N2, l2⟩ := ks_newsPush (s := ⟨hh, g, d, tk, os⟩) F N1 rfl so k1
  have I2 : InstAt h1 e (excObj C t0 none .none) C none := ⟨(N2 _ (List.mem_cons_of_mem _ (List.mem_cons_self ..))).1, rfl, rfl, trivial⟩
  refine kxs_method (s := ⟨h1, g, d, tk, os⟩) T.KF F2 X0 N2 (List.mem_cons_self ..) I2 T.opq T.sup T.sub (by decide) (fun u h2 F3 N3 l3 => ?_)
  refine kxs_callWith1 (s := ⟨h2, g, d, tk + 1, os⟩) N3 (List.mem_cons_self ..) (spliced_cons (Constant_str (k := j) (pos := p3) (spliced_nil ⟨kxs_at N3 (List.mem_cons_self ..), ?_⟩)))
  have ne : ∀ p ∈ [(e, excObj C t0 none .none)], p.1 < hh.objs.size := l2
  have e1 : e < hh.objs.size := Heap.lt_size he
  have e2 : hh.objs.size < u := l3 _ (List.mem_cons_self ..)
  refine kxs_call (s := ⟨h2, g, d, tk + 1 + 1, os⟩) (t := t0) (dv := none) (c2 := .none) F3 X0 N3 T.FB T.ini (List.mem_cons_self ..) (.tail (fun z => ?_) (.tail (fun z => ?_) (.head (fun p hp => nomatch hp)))) (by simp [sizeLine_eq]) (fun t' h3 F4 N4 _ => ?_)
  · exact absurd z (Nat.ne_of_gt (Nat.lt_trans e1 e2))
  · exact absurd z (Nat.ne_of_gt e1)
  · exact h h3 t' (tk + 1 + 1) F4 (N4 _ (List.mem_cons_of_mem _ (List.mem_cons_of_mem _ (List.mem_cons_of_mem _ (List.mem_cons_self ..))))).1
theorem ns_keep {h h' : Heap} {L e : Addr} {m : Str → Option Value} (n : h.Ns L m) (ne : L ≠ e) (k : ∀ b o, b ≠ e → h.get? b = some o → h'.get? b = some o) : h'.Ns L m := by
  obtain ⟨oL, es, ep, hL, r⟩ := n
  exact ⟨oL, es, ep, k _ _ ne hL, r⟩
/-- the __init__ of an error with one field -/
theorem init1 {st : Expr} {pS pA pN pV pW : Pos} {self a fld : Str} (T : Ok prog K C f cda cc B i newId bmB nm q params [.Expr st pS, .Assign [.Attribute (.Name self pN) fld pA] (.Name a pV) pW] scope) {s : Shared} {R : Result → Shared → Prop} {v : Value} {ar : Arg} {p0 p1 p2 p3 p4 : Pos} {z : Str} {j : Nat}
    (est : st = .Call (.Attribute (.Call (.Name "super" p0) [] [] p1) "__init__" p2) [.Constant (.str z) j p3] [] p4)
    (hev : ∀ L : Addr, ∃ pl : Sem Bool, eval (.Call (.Attribute (.Call (.Name "super" p0) [] [] p1) "__init__" p2) [.Constant (.str z) j p3] [] p4) (ksEnv q scope L f (.ref cda) cc) = (do
      let ov ← attributeBase (.Call (.Name "super" p0) [] [] p1) "__init__" (ksEnv q scope L f (.ref cda) cc) (eval (.Call (.Name "super" p0) [] [] p1) (ksEnv q scope L f (.ref cda) cc))
      standAt p2.atName
      let (fu, first) ← holding [ov] (getMethod ov "__init__" pl)
      callWith p4 fu first (backTo p4 (starEach [.Constant (.str z) j p3] (ksEnv q scope L f (.ref cda) cc))) []))
    (hi : ∀ L : Addr, interactive (ksEnv q scope L f (.ref cda) cc) = false) (hs1 : ∀ L : Addr, swapsWith st none pS.line (ksEnv q scope L f (.ref cda) cc) = pure false) (hs2 : ∀ L : Addr, swapsWith (.Name a pV) (some (.Attribute (.Name self pN) fld pA)) pW.line (ksEnv q scope L f (.ref cda) cc) = pure false)
    (hr : A.depth < recursionLimit) (lim : s.heap.NoLimit) (XK : K.In s.heap) (Ke : K.lookup e = none) (he : s.heap.get? e = some (excObj C t0 none .none)) (Ng : s.heap.Ns mainGlobals mg) (Nb : s.heap.Ns builtinsNs mb) (ge : e ≠ mainGlobals) (be : e ≠ builtinsNs) (gs : mg "super" = none) (bs : mb "super" = some (.type "super"))
    (hp : (params.posonlyargs ++ params.args).head? = some ar) (ha : ar.arg = self) (hne : self ≠ a) (hb : ∀ kV doc pm an ct, bindArgs (ksFn nm q params [.Expr st pS, .Assign [.Attribute (.Name self pN) fld pA] (.Name a pV) pW] scope .none kV doc pm an (.ref cda) ct cc) ⟨[.ref e, v], []⟩ = pure [(self, .ref e), (a, v)])
    (hk : scope.kind = .function) (hco : scope.isCoroutine = false) (hgen : scope.isGenerator = false) (hks : scope.names.lookup ("super" : Str) = some .globalImplicit) (hkc : scope.names.lookup ("__class__" : Str) = some .free) (hka : scope.names.lookup self = some .local) (hkv : scope.names.lookup a = some .local) (hcell : ∀ x ∈ scope.names, x.2 ≠ .cell)
    (d1 : (self == ("__debug__" : Str)) = false) (d2 : (a == ("__debug__" : Str)) = false) (tn : takerIn K C fld = some none)
    (h : ∀ h' t1 tk' dx, (∀ b o, b ≠ e → s.heap.get? b = some o → h'.get? b = some o) → s.heap.objs.size ≤ dx → dx ≠ e → h'.get? e = some (excObj C t1 (some dx) .none) → h'.Ns1 dx (fun y => if y = fld then some v else none) → R (.ok (.ret .none)) { s with heap := h', toks := tk' }) :
    codeAny (model prog w) A (.call (.ref f) ⟨[.ref e, v], []⟩) R s := by
  subst ha est
  obtain ⟨oc, od, kV, doc, pm, an, ct, osl, ff⟩ := T.fn
  obtain ⟨hh, g, d, tk, os⟩ := s
  refine ks_codeAny_call_defAt (binds := [(ar.arg, .ref e), (a, v)]) hr (XK _ _ ff) rfl lim (codeRec_of XK T.cd) rfl (.of_eq (hb _ _ _ _ _)) hcell (fun x hx => ?_) (fun h1 ns k1 => ?_) hco hgen hk
  · rcases List.mem_cons.mp hx with rfl | hx
    · exact hka
    rcases List.mem_cons.mp hx with rfl | hx
    · exact hkv
    · cases hx
  have e1 : e < hh.objs.size := Heap.lt_size he
  have F : Fr (hideAll hh [e]) hh.objs.size h1 _ := ⟨ns, fun b o y => k1 b o (of_hideAll _ y), by rw [hideAll_size]; exact Nat.le_refl _⟩
  have X0 : K.In (hideAll hh [e]) := fun b o y => hideAll_get [e] (XK b o y) fun m => by
    rw [List.mem_singleton.mp m, Ke] at y
    cases y
  have mv : (fun x => List.lookup x [(ar.arg, Value.ref e), (a, v)].reverse) ar.arg = some (.ref e) := by
    show List.lookup ar.arg [(a, v), (ar.arg, Value.ref e)] = _
    rw [List.lookup_cons, show (ar.arg == a) = false by simpa using hne, List.lookup_cons, beq_self_eq_true]
  have mw : (fun x => List.lookup x [(ar.arg, Value.ref e), (a, v)].reverse) a = some v := by
    show List.lookup a [(a, v), (ar.arg, Value.ref e)] = _
    rw [List.lookup_cons, beq_self_eq_true]
  obtain ⟨pl, hev⟩ := hev hh.objs.size
  refine ks_wpAt_execs_cons (ks_wpAt_Expr_any (sup T hev F X0 (k1 _ _ he) (Nat.ne_of_lt e1) (hideAll_none _ (List.mem_singleton.mpr rfl)) (Ng.keeps k1) (Nb.keeps k1) gs bs hp mv hk hks hkc hka (fun h2 t1 tk2 F2 he2 => ?_)) (hi _) (hs1 _))
  refine wpAt_of_wpAny (wpAny_execs_cons (plainObj_wpAny_Assign_Attribute (wpAny_Name (wpAny_loadName_local hk hkv F2.ns mw ?_) d2) (hs2 _)))
  refine wpAny_Name (wpAny_loadName_local hk hka F2.ns mv ?_) d1
  have X2 : K.In h2 := X0.keeps F2.keep
  refine set_plain (s := ⟨h2, g, d, tk2, os⟩) (od := none) X2 ⟨he2, rfl, rfl, trivial⟩ T.sa ?_
  refine put1 T.SF X2 he2 T.ov tn T.hd (fun h3 tk3 dx k3 ld nd he3 n3 => ?_)
  refine wpAny_execs_nil ?_
  refine h h3 t1 tk3 dx (fun b o nb y => k3 b o nb (F2.keep b o (hideAll_get [e] y fun m => nb (List.mem_singleton.mp m)))) ?_ nd he3 n3
  have := F2.ns.lt
  exact Nat.le_trans (Nat.le_of_lt this) ld
/-- the __init__ of an error with two fields -/
theorem init2 {st : Expr} {pS pA pN pV pW pA2 pN2 pV2 pW2 : Pos} {self a fld a2 fld2 : Str} (T : Ok prog K C f cda cc B i newId bmB nm q params [.Expr st pS, .Assign [.Attribute (.Name self pN) fld pA] (.Name a pV) pW, .Assign [.Attribute (.Name self pN2) fld2 pA2] (.Name a2 pV2) pW2] scope) {s : Shared} {R : Result → Shared → Prop} {v v2 : Value} {ar : Arg} {p0 p1 p2 p3 p4 : Pos} {z : Str} {j : Nat}
    (est : st = .Call (.Attribute (.Call (.Name "super" p0) [] [] p1) "__init__" p2) [.Constant (.str z) j p3] [] p4)
    (hev : ∀ L : Addr, ∃ pl : Sem Bool, eval (.Call (.Attribute (.Call (.Name "super" p0) [] [] p1) "__init__" p2) [.Constant (.str z) j p3] [] p4) (ksEnv q scope L f (.ref cda) cc) = (do
      let ov ← attributeBase (.Call (.Name "super" p0) [] [] p1) "__init__" (ksEnv q scope L f (.ref cda) cc) (eval (.Call (.Name "super" p0) [] [] p1) (ksEnv q scope L f (.ref cda) cc))
      standAt p2.atName
      let (fu, first) ← holding [ov] (getMethod ov "__init__" pl)
      callWith p4 fu first (backTo p4 (starEach [.Constant (.str z) j p3] (ksEnv q scope L f (.ref cda) cc))) []))
    (hi : ∀ L : Addr, interactive (ksEnv q scope L f (.ref cda) cc) = false) (hs1 : ∀ L : Addr, swapsWith st none pS.line (ksEnv q scope L f (.ref cda) cc) = pure false) (hs2 : ∀ L : Addr, swapsWith (.Name a pV) (some (.Attribute (.Name self pN) fld pA)) pW.line (ksEnv q scope L f (.ref cda) cc) = pure false)
    (hs3 : ∀ L : Addr, swapsWith (.Name a2 pV2) (some (.Attribute (.Name self pN2) fld2 pA2)) pW2.line (ksEnv q scope L f (.ref cda) cc) = pure false)
    (hr : A.depth < recursionLimit) (lim : s.heap.NoLimit) (XK : K.In s.heap) (Ke : K.lookup e = none) (he : s.heap.get? e = some (excObj C t0 none .none)) (Ng : s.heap.Ns mainGlobals mg) (Nb : s.heap.Ns builtinsNs mb) (ge : e ≠ mainGlobals) (be : e ≠ builtinsNs) (gs : mg "super" = none) (bs : mb "super" = some (.type "super"))
    (hp : (params.posonlyargs ++ params.args).head? = some ar) (ha : ar.arg = self) (hne : self ≠ a) (hne2 : self ≠ a2) (hne3 : a ≠ a2) (hb : ∀ kV doc pm an ct, bindArgs (ksFn nm q params [.Expr st pS, .Assign [.Attribute (.Name self pN) fld pA] (.Name a pV) pW, .Assign [.Attribute (.Name self pN2) fld2 pA2] (.Name a2 pV2) pW2] scope .none kV doc pm an (.ref cda) ct cc) ⟨[.ref e, v, v2], []⟩ = pure [(self, .ref e), (a, v), (a2, v2)])
    (hk : scope.kind = .function) (hco : scope.isCoroutine = false) (hgen : scope.isGenerator = false) (hks : scope.names.lookup ("super" : Str) = some .globalImplicit) (hkc : scope.names.lookup ("__class__" : Str) = some .free) (hka : scope.names.lookup self = some .local) (hkv : scope.names.lookup a = some .local) (hkv2 : scope.names.lookup a2 = some .local) (hcell : ∀ x ∈ scope.names, x.2 ≠ .cell)
    (d1 : (self == ("__debug__" : Str)) = false) (d2 : (a == ("__debug__" : Str)) = false) (d3 : (a2 == ("__debug__" : Str)) = false) (tn : takerIn K C fld = some none) (tn2 : takerIn K C fld2 = some none)
    (h : ∀ h' t1 tk' dx, (∀ b o, b ≠ e → s.heap.get? b = some o → h'.get? b = some o) → s.heap.objs.size ≤ dx → dx ≠ e → h'.get? e = some (excObj C t1 (some dx) .none) → h'.Ns1 dx (fun y => if y = fld2 then some v2 else if y = fld then some v else none) → R (.ok (.ret .none)) { s with heap := h', toks := tk' }) :
    codeAny (model prog w) A (.call (.ref f) ⟨[.ref e, v, v2], []⟩) R s := by
  subst ha est
  obtain ⟨oc, od, kV, doc, pm, an, ct, osl, ff⟩ := T.fn
  obtain ⟨hh, g, d, tk, os⟩ := s
  refine ks_codeAny_call_defAt (binds := [(ar.arg, .ref e), (a, v), (a2, v2)]) hr (XK _ _ ff) rfl lim (codeRec_of XK T.cd) rfl (.of_eq (hb _ _ _ _ _)) hcell (fun x hx => ?_) (fun h1 ns k1 => ?_) hco hgen hk
  · rcases List.mem_cons.mp hx with rfl | hx
    · exact hka
    rcases List.mem_cons.mp hx with rfl | hx
    · exact hkv
    rcases List.mem_cons.mp hx with rfl | hx
    · exact hkv2
    · cases hx
  have e1 : e < hh.objs.size := Heap.lt_size he
  have F : Fr (hideAll hh [e]) hh.objs.size h1 _ := ⟨ns, fun b o y => k1 b o (of_hideAll _ y), by rw [hideAll_size]; exact Nat.le_refl _⟩
  have X0 : K.In (hideAll hh [e]) := fun b o y => hideAll_get [e] (XK b o y) fun m => by
    rw [List.mem_singleton.mp m, Ke] at y
    cases y
  have mv : (fun x => List.lookup x [(ar.arg, Value.ref e), (a, v), (a2, v2)].reverse) ar.arg = some (.ref e) := by
    show List.lookup ar.arg [(a2, v2), (a, v), (ar.arg, Value.ref e)] = _
    rw [List.lookup_cons, show (ar.arg == a2) = false by simpa using hne2, List.lookup_cons, show (ar.arg == a) = false by simpa using hne, List.lookup_cons, beq_self_eq_true]
  have mw : (fun x => List.lookup x [(ar.arg, Value.ref e), (a, v), (a2, v2)].reverse) a = some v := by
    show List.lookup a [(a2, v2), (a, v), (ar.arg, Value.ref e)] = _
    rw [List.lookup_cons, show (a == a2) = false by simpa using hne3, List.lookup_cons, beq_self_eq_true]
  have mx : (fun x => List.lookup x [(ar.arg, Value.ref e), (a, v), (a2, v2)].reverse) a2 = some v2 := by
    show List.lookup a2 [(a2, v2), (a, v), (ar.arg, Value.ref e)] = _
    rw [List.lookup_cons, beq_self_eq_true]
  obtain ⟨pl, hev⟩ := hev hh.objs.size
  refine ks_wpAt_execs_cons (ks_wpAt_Expr_any (sup T hev F X0 (k1 _ _ he) (Nat.ne_of_lt e1) (hideAll_none _ (List.mem_singleton.mpr rfl)) (Ng.keeps k1) (Nb.keeps k1) gs bs hp mv hk hks hkc hka (fun h2 t1 tk2 F2 he2 => ?_)) (hi _) (hs1 _))
  refine wpAt_of_wpAny (wpAny_execs_cons (plainObj_wpAny_Assign_Attribute (wpAny_Name (wpAny_loadName_local hk hkv F2.ns mw ?_) d2) (hs2 _)))
  refine wpAny_Name (wpAny_loadName_local hk hka F2.ns mv ?_) d1
  have X2 : K.In h2 := X0.keeps F2.keep
  refine set_plain (s := ⟨h2, g, d, tk2, os⟩) (od := none) X2 ⟨he2, rfl, rfl, trivial⟩ T.sa ?_
  refine put1 T.SF X2 he2 T.ov tn T.hd (fun h3 tk3 dx k3 ld nd he3 n3 => ?_)
  have nL : hh.objs.size ≠ e := Nat.ne_of_gt e1
  have F3 : h3.Ns hh.objs.size (fun x => List.lookup x [(ar.arg, Value.ref e), (a, v), (a2, v2)].reverse) := ns_keep F2.ns nL k3
  refine wpAny_execs_cons (plainObj_wpAny_Assign_Attribute (wpAny_Name (wpAny_loadName_local hk hkv2 F3 mx ?_) d3) (hs3 _))
  refine wpAny_Name (wpAny_loadName_local hk hka F3 mv ?_) d1
  have X3 : K.In h3 := fun b o y => k3 b o (fun z => by rw [z, Ke] at y; cases y) (X2 b o y)
  obtain ⟨oD, es, ep, hoD, hdD, _⟩ := n3.count (Within.cons fld v Within.nil)
  refine set_plain (s := ⟨h3, g, d, tk3, os⟩) (od := some oD) X3 ⟨he3, rfl, rfl, hoD⟩ T.sa ?_
  refine put2 (nl := [fld]) T.SF X3 he3 n3 (Within.cons fld v Within.nil) (by simp) T.ov tn2 T.hd (fun h4 tk4 k4 n4 => ?_)
  refine wpAny_execs_nil ?_
  have hlt := F2.ns.lt
  have hdx : hh.objs.size ≤ dx := Nat.le_trans (Nat.le_of_lt hlt) ld
  refine h h4 t1 tk4 dx (fun b o nb y => k4 b o (Nat.ne_of_lt (Nat.lt_of_lt_of_le (Heap.lt_size y) hdx)) (k3 b o nb (F2.keep b o (hideAll_get [e] y fun m => nb (List.mem_singleton.mp m))))) hdx nd (k4 _ _ (Ne.symm nd) he3) n4
end
/-- what an error's __init__ does -/
structure InitC (P : Program) (w : World) (K : Frag) (C f : Addr) (fl : List Str) : Prop where
  run : ∀ (A : Around) (s : Shared) (e t0 : Addr) (us : List Value) (R : Result → Shared → Prop) (mg mb : Str → Option Value), A.depth < recursionLimit → s.heap.NoLimit → K.In s.heap → K.lookup e = none → s.heap.get? e = some (excObj C t0 none .none) →
    s.heap.Ns mainGlobals mg → s.heap.Ns builtinsNs mb → e ≠ mainGlobals → e ≠ builtinsNs → mg "super" = none → mb "super" = some (.type "super") → us.length = fl.length →
    (∀ h' t1 tk' dx mA, (∀ b o, b ≠ e → s.heap.get? b = some o → h'.get? b = some o) → s.heap.objs.size ≤ dx → dx ≠ e → h'.get? e = some (excObj C t1 (some dx) .none) → h'.Ns1 dx mA → (∀ y, mA y = (fl.reverse.zip us.reverse).lookup y) → R (.ok (.ret .none)) { s with heap := h', toks := tk' }) →
    codeAny (model P w) A (.call (.ref f) ⟨.ref e :: us, []⟩) R s
/-- an error's class -/
structure ErC (P : Program) (w : World) (K : Frag) (C f : Addr) (fl : List Str) : Prop where
  ini : InitC P w K C f fl
  base : ∃ B newId i bmB, ExcBaseFacts B newId i bmB ∧ excInitIn K C bmB newId = true
  iC : findIn K (.ref C) "__init__" = some (some (.ref f))
  tI : typeIn K (.ref f) = some (.type "function")
  exC : subIn K (.ref C) (.type "BaseException") = some true
  tyC : typeIn K (.ref C) = some (.type "type")
  kC : keepIn K (.ref C) = true
end Er
section
variable {X : Cx} {e : Expr} {es : List Expr} {ta : TA} {p pos : Pos} {x : Str} {C f : Addr} {fl : List Str}
theorem relo_zip : ∀ {ks : List Str} {vs : List V} {us : List Value}, Vals vs us → ∀ y, RelO ((ks.zip vs).lookup y) ((ks.zip us).lookup y)
  | [], _, _, _, _ => trivial
  | _ :: _, _, _, .nil, _ => trivial
  | k :: ks, _, _, .cons (a := v) (b := u) r rs, y => by
    show RelO (List.lookup y ((k, v) :: ks.zip _)) (List.lookup y ((k, u) :: ks.zip _))
    rw [List.lookup_cons, List.lookup_cons]
    cases y == k
    · exact relo_zip rs y
    · exact r
theorem pmk_err (T : Er.ErC X.prog X.w X.K C f fl) (hr : Room 2 X.A) (hg : Gl X x) (hm : X.mg x = some (.ref C)) (hsu : X.mg "super" = none) (ha : PA X (e :: es) ta)
    (hdb : (x == ("__debug__" : Str)) = false) (he : starEach (e :: es) X.env = (false, eval e X.env) :: starEach es X.env := by rfl) (hpl : (backTo pos (starEach es X.env)).any (·.1) = false := by rfl) :
    PMk X (.Call (.Name x p) (e :: es) [] pos) (fun σ H Q => ta σ H fun vs H1 => vs.length = fl.length ∧ fl.length ≤ 100 ∧ ∀ d, H1 d = none → Q (.ref C) (some d) (upd H1 d (.xd (fl.reverse.zip vs.reverse)))) := by
  intro pins s σ H Q I h
  refine wpAny_Call_Name_kw (ld_glob I hg hm ?_ hdb)
  refine PySem.W.callWith_K (h₀ := X.base) I.ok.mod.kin T.kC (thn (ha.run pos pins s σ H _ I h) fun us s1 ⟨vs, H1, I1, r1, hl, hz, q1⟩ => ⟨I1.kIn, ?_⟩) he hpl
  show wpAny _ _ (call (.ref C) us) _ _ _
  obtain ⟨B, newId, i, bmB, FB, ini⟩ := T.base
  obtain ⟨hp, g, dr, tk, os⟩ := s1
  obtain ⟨a1, a2, a3, a4, bm, a6, a7, a8, a9, a10, a11, a12, a13, a14, a15, a16, hC, hT⟩ := PySem.W.excInit_of I1.kIn ini
  have lu : us.length = fl.length := by rw [← Paired.length r1]; exact hl
  have hus : us.length ≤ sizeLine := by rw [lu, sizeLine_eq]; omega
  have sz : hp.objs.size ≤ hp.objs.size + 1 := Nat.le_succ _
  have kk : ∀ b o, hp.get? b = some o → ((hp.push (PySem.W.kdv_tup us)).push (PySem.HandSPX.excO C hp.objs.size)).get? b = some o := fun b o e => Heap.get?_push_of_some _ (Heap.get?_push_of_some _ e)
  have hget : ((hp.push (PySem.W.kdv_tup us)).push (PySem.HandSPX.excO C hp.objs.size)).get? (hp.objs.size + 1) = some (PySem.HandSPX.excO C hp.objs.size) := by heap_get
  have nK : List.lookup (hp.objs.size + 1) X.K = none := by
    cases z : List.lookup (hp.objs.size + 1) X.K with
    | none => rfl
    | some o => exact absurd (Heap.lt_size (I1.kIn _ _ z)) (by show ¬ hp.objs.size + 1 < hp.objs.size; omega)
  obtain ⟨mb, Nb, hmb⟩ := I1.ok.mod.blt
  have Ng1 := I1.ok.mod.glob.keeps I1.bk
  have Nb1 := Nb.keeps I1.bk
  have lg : mainGlobals < hp.objs.size := Ng1.lt
  have lb : builtinsNs < hp.objs.size := Nb1.lt
  refine wpAny_call (PySem.HandSPX.call_own FB hT hC (PySem.W.looks_findIn I1.kIn T.iC) (fun self => PySem.W.bind_fn I1.kIn self T.tI) hus ?_)
  refine T.ini.run _ _ (hp.objs.size + 1) hp.objs.size us _ X.mg mb (hr.make C us []).depth (I1.nolimit.keeps kk) (I1.kIn.keeps kk) nK hget (Ng1.keeps kk) (Nb1.keeps kk) (Nat.ne_of_gt (Nat.lt_trans lg (Nat.lt_succ_self _))) (Nat.ne_of_gt (Nat.lt_trans lb (Nat.lt_succ_self _))) hsu ?_ lu (fun h2 t1 tk2 d mA k2 ld nd he2 n2 em => ?_)
  · rw [hmb _ (by decide)]; decide +kernel
  have psz : ((hp.push (PySem.W.kdv_tup us)).push (PySem.HandSPX.excO C hp.objs.size)).objs.size = hp.objs.size + 1 + 1 := by simp [Heap.push]
  have ld' : hp.objs.size ≤ d := by
    have z : ((hp.push (PySem.W.kdv_tup us)).push (PySem.HandSPX.excO C hp.objs.size)).objs.size ≤ d := ld
    rw [psz] at z
    omega
  have hdd : H1 d = none := I1.hok.fresh ld'
  have na : H1 (hp.objs.size + 1) = none := I1.hok.fresh sz
  have rr : Vals vs.reverse us.reverse := r1.reverse
  have relm : ∀ y, RelO ((fl.reverse.zip vs.reverse).lookup y) (mA y) := fun y => by rw [em y]; exact relo_zip rr y
  obtain ⟨G, gk', ge'⟩ := restrict h2 fun b => decide (b ≠ hp.objs.size + 1)
  have gk : ∀ b, b ≠ hp.objs.size + 1 → G.get? b = h2.get? b := fun b hb => gk' b (decide_eq_true hb)
  have ge : G.get? (hp.objs.size + 1) = none := ge' _ (by simp)
  have kG : ∀ b o, hp.get? b = some o → G.get? b = some o := fun b o y => by
    have nb : b ≠ hp.objs.size + 1 := Nat.ne_of_lt (Nat.lt_succ_of_lt (Heap.lt_size y))
    rw [gk b nb]
    exact k2 b o nb (kk b o y)
  have ok : ObjOk X.prog X.w (upd H1 d (.xd (fl.reverse.zip vs.reverse))) G d (.xd (fl.reverse.zip vs.reverse)) := ⟨mA, n2.at fun o y => (gk d nd).trans y, relm⟩
  have J : Inv X pins σ (upd H1 d (.xd (fl.reverse.zip vs.reverse))) ⟨G, g, dr, tk2, os⟩ := I1.laid (t' := tk2) (a := d) (h' := G) kG ld' ok
  refine ⟨rfl, hp.objs.size + 1, _, _, ⟨G, g, dr, tk2, os⟩, _, .ref C, some d, rfl, J, fun b o y => ?_, ge, he2, ⟨rfl, rfl⟩, rfl, rfl, ?_, rfl, I1.bare, raises_own T.exC T.tyC, q1 d hdd⟩
  · by_cases hb : b = hp.objs.size + 1
    · rw [hb, ge] at y; cases y
    · exact (gk b hb).symm.trans y
  · rw [upd_ne (Ne.symm nd)]; exact na
end
end Rx
set_option Elab.async false
set_option linter.all false
set_option maxRecDepth 100000
set_option maxHeartbeats 4000000
/-! RxY: own errors raised; try .. except X as e; what a suite asks of the error: its fields, its class. -/
namespace Rx
open PySem L2 Sx
section
variable {G : Gc} {L : Wh} {X : Cx} {σ : St} {H : Hp} {ρ : Rho} {sl : Sl} {h : Hs} {Q : VK} {e o tg iter a b : Expr} {es : List Expr} {fa fb : FE} {fs : FA} {f g : FS} {pos p cpos pos' np : Pos} {st : Stmt} {sts bd body suite : List Stmt} {b₀ : Stmt} {nx bk ct : St → Hp → Prop} {rt : VK} {ws : List Nat} {x n : Str}
def chkS (c : Bool) (o : OutS) : OutS := match c with | true => o | false => .bad
theorem chkS_ok {k : Bool} {m : OutS} {W : WX} (q : PoS G W H ρ nx rt bk ct (chkS k m)) : k = true ∧ PoS G W H ρ nx rt bk ct m := by
  cases k with
  | true => exact ⟨rfl, q⟩
  | false => exact q.elim
theorem DA.bindS {k : List A → Hs → OutS} {Q : List V → Hp → Prop} (ha : DA G L es fs) (xr : Xr G X L) (sr : SR G H ρ sl σ) (hr : HR G H ρ h) (q : PoS G L.W H ρ nx rt bk ct ((fs sl h).bindS sl k))
    (c : ∀ x h1 v H1 ρ1, Ext H ρ H1 ρ1 → HR G H1 ρ1 h1 → RAs G H1 ρ1 x v → SR G H1 ρ1 sl σ → PoS G L.W H1 ρ1 nx rt bk ct (k x h1) → Q v H1) : As X es σ H Q := by
  refine ha.run X xr σ H ρ sl h sr hr Q ?_
  cases hm : fs sl h with
  | ok x h1 =>
    rw [hm] at q
    exact fun H1 ρ1 e1 r1 v ra => c x h1 v H1 ρ1 e1 r1 ra (sr.mono e1) (PoS.at1 (m := k x h1) q e1)
  | ex x h1 => rw [hm] at q; exact fun cl d H' ρ' e' r' rx => q cl d σ H' ρ' e' r' (sr.mono e') rx
  | bad => rw [hm] at q; exact q
/-! ### raise C(..) -/
structure ErR (G : Gc) (x : Str) (c n : Nat) : Prop where
  ex : ∃ (f : Addr) (fl : List Str), Er.ErC G.P G.w G.K (G.cad c) f fl ∧ fl.length = n ∧ n ≤ 100 ∧ G.mg x = some (.ref (G.cad c)) ∧ G.mg "super" = none ∧ G.cfs c = fl.reverse
def sRaise (c n : Nat) (fs : FA) : FS := fun sl h => (fs sl h).bindS sl fun xs h1 => chkS (Nat.beq xs.length n) (.ex ⟨c, xs.reverse⟩ sl h1)
theorem RAs.reverse {xs : List A} {vs : List V} (r : RAs G H ρ xs vs) : RAs G H ρ xs.reverse vs.reverse := by
  refine ⟨by simp [r.1], fun i y u e1 e2 => ?_⟩
  by_cases hi : i < xs.length
  · have hv : i < vs.length := by rw [← r.1]; exact hi
    rw [List.getElem?_reverse hi] at e1
    rw [List.getElem?_reverse hv, ← r.1] at e2
    exact r.2 _ _ _ e1 e2
  · rw [List.getElem?_eq_none (by simp; omega)] at e1; cases e1
theorem ds_raise {c n : Nat} (T : ErR G x c n) (hg : x ∈ L.GL) (ha : DA G L (e :: es) fs) (h2 : 2 ≤ L.k) (he : NoSt e = true := by rfl) (hpl : ∀ env, (backTo cpos (starEach es env)).any (·.1) = false := by intro _; rfl) (hc : L.cm = true := by rfl) :
    DS G L (.Raise (some (.Call (.Name x p) (e :: es) [] cpos)) none pos) (sRaise c n fs) := by
  refine ⟨fun X xr σ H ρ sl h sr hh nx rt bk ct q => ?_⟩
  obtain ⟨fi, fl, E, hl, hn, hm, hs, hcf⟩ := T.ex
  have E' : Er.ErC X.prog X.w X.K (G.cad c) fi fl := by rw [xr.prog, xr.w, xr.K]; exact E
  refine S.of (ps_raise (xr.calm hc) xr.tk (pmk_err E' ((xr.room hc).mono h2) (xr.gl x hg).1 (by rw [xr.mg]; exact hm) (by rw [xr.mg]; exact hs) pa (xr.gl x hg).2.1 (star_cons he) (hpl _))) ?_
  refine DA.bindS ha xr sr hh q fun xs h1 vs H1 ρ1 e1 r1 rs s1 q1 => ?_
  obtain ⟨k, q1⟩ := chkS_ok q1
  have k : xs.length = n := Nat.eq_of_beq_eq_true k
  have lv : vs.length = fl.length := by rw [← rs.1, k, hl]
  refine ⟨lv, by omega, fun d nd => q1 _ _ σ _ ρ1 (r1.ext_new nd) (r1.new nd) (s1.mono (r1.ext_new nd)) ?_⟩
  have rr := (rs.reverse).mono (r1.ext_new (o := .xd (fl.reverse.zip vs.reverse)) nd)
  have lz : fl.reverse.length = vs.reverse.length := by simp [lv]
  refine ⟨rfl, d, _, rfl, upd_same, r1.nlive nd, ?_, ?_, fun i y k' v g1 g2 => ?_⟩
  · rw [List.map_fst_zip (by omega), hcf, List.take_of_length_le (by simp; omega)]
  · simp; omega
  · rw [List.getElem?_zip_eq_some] at g2
    exact rr.2 i y v g1 g2.2
/-! ### another exception in hand: nothing else is asked of it -/
abbrev Gc.xw (G : Gc) (o : Option Xi) : Gc := { G with xi := o }
theorem RA.xw {y : Option Xi} {x : A} {v : V} (r : RA G H ρ x v) : RA (G.xw y) H ρ x v := by
  induction r with
  | non => exact .non
  | bl => exact .bl
  | int => exact .int
  | str => exact .str
  | ty => exact .ty
  | cls => exact .cls (G := G.xw y)
  | scr h => exact .scr h
  | tup h l _ ih => exact .tup h l ih
  | ctp h l _ ih => exact .ctp h l ih
  | lst h n l _ ih => exact .lst h n l ih
  | dk h n l _ ih => exact .dk h n l ih
  | dt h n l _ ih => exact .dt h n l ih
  | ins h n l l' _ ih => exact .ins (G := G.xw y) h n l l' ih
  | ref hn h => exact .ref hn h
  | wdk h l _ ih => exact .wdk h l ih
theorem RA.wx {y : Option Xi} {x : A} {v : V} (r : RA (G.xw y) H ρ x v) : RA G H ρ x v := RA.xw (G := G.xw y) (y := G.xi) r
theorem RAs.xw {y : Option Xi} {xs : List A} {vs : List V} (r : RAs G H ρ xs vs) : RAs (G.xw y) H ρ xs vs := ⟨r.1, fun i x v a b => (r.2 i x v a b).xw⟩
theorem RKs.xw {y : Option Xi} {κ : Type} {xs : List (κ × A)} {vs : List (κ × V)} (r : RKs G H ρ xs vs) : RKs (G.xw y) H ρ xs vs := ⟨r.1, fun i k x k' v a b => (r.2 i k x k' v a b).xw⟩
theorem RFs.xw {y : Option Xi} {c : Nat} {xs : List A} {vs : List (Str × V)} (r : RFs G H ρ c xs vs) : RFs (G.xw y) H ρ c xs vs := ⟨r.1, r.2.1, fun i x k v a b => (r.2.2 i x k v a b).xw⟩
theorem RO.xw {y : Option Xi} {a : Addr} {o : O} (r : RO G H ρ a o) : RO (G.xw y) H ρ a o := by
  cases o with
  | dead => exact r
  | lst xs => obtain ⟨vs, q, z⟩ := r; exact ⟨vs, q, z.xw⟩
  | dk xs => obtain ⟨vs, q, z⟩ := r; exact ⟨vs, q, z.xw⟩
  | dt xs => obtain ⟨vs, q, z⟩ := r; exact ⟨vs, q, z.xw⟩
  | ins c xs => obtain ⟨dx, vs, q, z⟩ := r; exact ⟨dx, vs, q, z.xw⟩
  | fdk xs => obtain ⟨o, vs, q, z⟩ := r; exact ⟨o, vs, q, z.xw⟩
  | fdt xs => obtain ⟨o, vs, q, z⟩ := r; exact ⟨o, vs, q, z.xw⟩
theorem HR.xw {y : Option Xi} (r : HR G H ρ h) (k : XiAt (G.xw y) H ρ) : HR (G.xw y) H ρ h := ⟨r.len, r.nd, r.live, fun i a o e1 e2 => (r.obj i a o e1 e2).xw, r.sep, r.hid, k⟩
theorem HR.wx {y : Option Xi} (r : HR (G.xw y) H ρ h) (k : G.xi = none) : HR G H ρ h := HR.xw (G := G.xw y) (y := G.xi) r fun xi e => by rw [k] at e; cases e
theorem SR.wx {y : Option Xi} {sl : Sl} {σ : St} (r : SR (G.xw y) H ρ sl σ) (k : G.xi = none) : SR G H ρ sl σ := ⟨r.len, fun i a e => let ⟨v, e1, e2⟩ := r.get i a e; ⟨v, e1, e2.wx⟩, fun xi e => by rw [k] at e; cases e⟩
theorem SR.unset' {sl : Sl} {σ : St} (r : SR G H ρ sl σ) (nx : G.xi = none) (i : Nat) : SR G H ρ (sl.set i none) (σ.set i none) := r.unset nx i
/-! ### try: body, except X as n: suite -/
abbrev WF : WX := fun _ _ _ _ => False
abbrev Wh.tr (L : Wh) (W : WX) : Wh := { L with W := W }
abbrev Wh.su (L : Wh) : Wh := { L with W := WF, cm := false }
theorem Xr.tr (xr : Xr G X L) (hc : L.cm = true) {pn : List (Addr × Obj)} {xe : Value → Shared → Prop} {W : WX} (tk : Takes (X.tr pn xe) W) (po : PassesOwn (model X.prog X.w) X.A X.env xe) : Xr G (X.tr pn xe) (L.tr W) :=
  ⟨xr.prog, xr.w, xr.K, xr.mg, xr.base, xr.n, xr.nd, xr.scp, xr.rdv, xr.wrv, xr.gl, xr.room, xr.calm, tk, po, xr.ev, xr.cx, fun xi e => (by rw [xr.cx hc] at e; cases e), xr.fr, xr.un, xr.gd⟩
theorem takes_F {X : Cx} : Takes X WF := fun u s' z => by
  obtain ⟨_, _, _, _, _, _, _, _, _, _, _, _, _, _, _, _, z⟩ := z
  exact z.elim
theorem Xr.su (xr : Xr G X L) {xi : Xi} {pn : List (Addr × Obj)} (hz : Zc (.ref (G.cad xi.c)) (some xi.d) xi.oe) (hf : ∃ vs, xi.oe.data = .fields vs) : Xr (G.xw (some xi)) (X.suite xi.a ((xi.a, xi.oe) :: pn)) L.su :=
  ⟨xr.prog, xr.w, xr.K, xr.mg, xr.base, xr.n, xr.nd, xr.scp, xr.rdv, xr.wrv, xr.gl, (fun z => by cases z), (fun z => by cases z), takes_F, PassesOwn.never, xr.ev, (fun z => by cases z), fun yi e => by cases e; exact ⟨⟨X, pn, rfl⟩, hz, hf⟩, xr.fr, xr.un, xr.gd⟩
def endT (i : Nat) (o : OutS) : OutS := match o with
  | .nx sl h => .nx (sl.set i none) h
  | .bk sl h => .bk (sl.set i none) h
  | .ct sl h => .ct (sl.set i none) h
  | .rt a h => .rt a h
  | _ => .bad
def hndT (i : Nat) (mt : Nat → Option Bool) (g : Nat → List A → FS) (o : OutS) : OutS := match o with
  | .ex x sl1 h1 => (match mt x.cls with
    | some true => endT i (g x.cls x.fs (sl1.set i none) h1)
    | some false => .ex x sl1 h1
    | none => .bad)
  | o => o
def sTry (i : Nat) (mt : Nat → Option Bool) (f : FS) (g : Nat → List A → FS) : FS := fun sl h => hndT i mt g (f sl h)
def ExmOk (G : Gc) (C : Value) (mt : Nat → Option Bool) : Prop := ∀ c b, mt c = some b → PySem.W.exmOne G.K (.ref (G.cad c)) C = some b
/-- the class that a clause names -/
def NmC (G : Gc) (x : Str) (C : Value) : Prop := G.mg x = some C ∨ (G.mg x = none ∧ bootBuiltins x = some C)
theorem Xr.names (xr : Xr G X L) (hg : x ∈ L.GL) {C : Value} (n : NmC G x C) : Names X x C :=
  ⟨(xr.gl x hg).1, (xr.gl x hg).2.1, n.elim (fun z => .inl (by rw [xr.mg]; exact z)) fun z => .inr ⟨by rw [xr.mg]; exact z.1, z.2, (xr.gl x hg).2.2⟩⟩
theorem suite_start {sl : Sl} {σ : St} {i : Nat} {xi : Xi} (sr : SR G H ρ sl σ) (nx : G.xi = none) (hi : xi.i = i) : SR (G.xw (some xi)) H ρ (sl.set i none) (σ.set i (some (.ref xi.a))) := by
  subst hi
  refine ⟨by simp [sr.len], fun j b e => ?_, fun yi hy e => ?_⟩
  · by_cases hj : xi.i = j
    · subst hj
      by_cases hl : xi.i < sl.length
      · rw [List.getElem?_set_self hl] at e; cases e
      · rw [List.getElem?_eq_none (by simp; omega)] at e; cases e
    · rw [List.getElem?_set_ne hj] at e ⊢
      obtain ⟨v, e1, e2⟩ := sr.get j b e
      exact ⟨v, e1, e2.xw⟩
  · cases hy
    by_cases hl : xi.i < sl.length
    · exact List.getElem?_set_self (by rw [← sr.len]; exact hl)
    · rw [List.getElem?_eq_none (by simp; omega)] at e; cases e
theorem ds_try (i : Nat) {C : Value} {mt : Nat → Option Bool} {g : Nat → List A → FS} (hb : ∀ W, DSs G (L.tr W) body f) (hsu : ∀ xi, xi.i = i → DSs (G.xw (some xi)) L.su (b₀ :: suite) (g xi.c xi.fs)) (hx : ExmOk G C mt) (hnm : NmC G x C) (hg : x ∈ L.GL)
    (hN : L.N[i]? = some n := by rfl) (hln : L.sc.names.lookup n = some .local := by with_unfolding_all rfl) (hfb : L.fb = true := by rfl) (hc : L.cm = true := by rfl) :
    DS G L (.Try body [.ExceptHandler (some (.Name x np)) (some n) (b₀ :: suite) pos'] [] [] pos) (sTry i mt f g) := by
  refine ⟨fun X xr σ H ρ sl h sr hh nx rt bk ct q => ?_⟩
  have nxi := xr.cx hc
  let tb : WX → TS := fun W D σ H => ∃ ρ sl h, SR G H ρ sl σ ∧ HR G H ρ h ∧ PoS G W H ρ D.nx D.rt D.bk D.ct (f sl h)
  let ts : Addr → Value → Option Addr → TS := fun a cls d D σ H => ∃ (c : Nat) (fs : List A) (dd : Addr) (vs : List (Str × V)) (ρ : Rho) (sl : Sl) (h : Hs), cls = .ref (G.cad c) ∧ d = some dd ∧
    ∀ oe, SR (G.xw (some ⟨i, a, dd, c, fs, vs, oe⟩)) H ρ sl σ ∧ HR (G.xw (some ⟨i, a, dd, c, fs, vs, oe⟩)) H ρ h ∧ PoS (G.xw (some ⟨i, a, dd, c, fs, vs, oe⟩)) WF H ρ D.nx D.rt D.bk D.ct (g c fs sl h)
  have kd : X.env.kindOf n = some .local := by
    show X.env.scope.names.lookup n = some .local
    rw [xr.scp]; exact hln
  refine S.of (ps_try_as (Wout := L.W) (tb := tb) (ts := ts) (c := C) (i := i) (xr.fr hfb).1 (xr.fr hfb).2 (by rw [xr.n]; exact xr.nd) (by rw [xr.n]; exact hN) kd (xr.names hg hnm) xr.tk
    (fun W pn xe tk po => ⟨fun pins s σ H D I ⟨ρ, sl, h, sr, hr, q⟩ => ((hb W).run _ (xr.tr hc tk po) σ H ρ sl h sr hr D.nx D.rt D.bk D.ct q).run pins s I⟩)
    (fun a oe cls d pn hz hf => ⟨fun pins s σ H D I ⟨c, fs, dd, vs, ρ, sl, h, e1, e2, k⟩ => by
      subst e1 e2
      obtain ⟨k1, k2, k3⟩ := k oe
      exact ((hsu ⟨i, a, dd, c, fs, vs, oe⟩ rfl).run _ (xr.su (xi := ⟨i, a, dd, c, fs, vs, oe⟩) hz hf) σ H ρ sl h k1 k2 D.nx D.rt D.bk D.ct k3).run pins s I⟩)) ?_
  refine ⟨ρ, sl, h, sr, hh, ?_⟩
  unfold sTry at q
  revert q
  cases hm : f sl h with
  | nx sl1 h1 => exact id
  | rt a h1 => exact id
  | bk sl1 h1 => exact id
  | ct sl1 h1 => exact id
  | bad => exact id
  | ex y sl1 h1 =>
    intro q c d σ1 H1 ρ1 x1 r1 s1 rx
    unfold hndT at q
    dsimp only at q
    have ec : c = .ref (G.cad y.cls) := rx.1
    have eK : X.K = G.K := xr.K
    cases hmt : mt y.cls with
    | none => rw [hmt] at q; exact q.elim
    | some bb =>
      rw [hmt] at q
      refine ⟨bb, by rw [eK, ec]; exact hx _ _ hmt, fun eb a na => ?_, fun eb => ?_⟩
      · subst eb
        dsimp only at q
        obtain ⟨_, dd, vs, ed, hd, nl, rf⟩ := rx
        refine ⟨y.cls, y.fs, dd, vs, ρ1, sl1.set i none, h1, ec, ed, fun oe => ⟨suite_start s1 nxi rfl, r1.xw (fun xi e => by cases e; exact ⟨hd, nl, rf.xw⟩), ?_⟩⟩
        have q := PoS.at1 q x1
        revert q
        cases g y.cls y.fs (sl1.set i none) h1 with
        | nx sl2 h2 => exact fun q σ2 H2 ρ2 x2 r2 s2 => q _ H2 ρ2 x2 (r2.wx nxi) ((s2.wx nxi).unset nxi i)
        | rt a h2 => exact fun q v H2 ρ2 x2 r2 ra => q v H2 ρ2 x2 (r2.wx nxi) ra.wx
        | bk sl2 h2 => exact fun q σ2 H2 ρ2 x2 r2 s2 => q _ H2 ρ2 x2 (r2.wx nxi) ((s2.wx nxi).unset nxi i)
        | ct sl2 h2 => exact fun q σ2 H2 ρ2 x2 r2 s2 => q _ H2 ρ2 x2 (r2.wx nxi) ((s2.wx nxi).unset nxi i)
        | ex z sl2 h2 => exact fun q => q.elim
        | bad => exact fun q => q.elim
      · subst eb
        exact q c d σ1 H1 ρ1 x1 r1 s1 rx
/-! ### try: body, except X: suite -/
def endO (o : OutS) : OutS := match o with
  | .ex _ _ _ => .bad
  | o => o
def hndO (mt : Nat → Option Bool) (g : FS) (o : OutS) : OutS := match o with
  | .ex x sl1 h1 => (match mt x.cls with
    | some true => endO (g sl1 h1)
    | some false => .ex x sl1 h1
    | none => .bad)
  | o => o
def sTryO (mt : Nat → Option Bool) (f g : FS) : FS := fun sl h => hndO mt g (f sl h)
theorem suite_startO {sl : Sl} {σ : St} {xi : Xi} (sr : SR G H ρ sl σ) (hi : sl.length ≤ xi.i) : SR (G.xw (some xi)) H ρ sl σ :=
  ⟨sr.len, fun j b e => let ⟨v, e1, e2⟩ := sr.get j b e; ⟨v, e1, e2.xw⟩, fun yi hy e => by cases hy; rw [List.getElem?_eq_none hi] at e; cases e⟩
theorem ds_tryO {C : Value} {mt : Nat → Option Bool} (hb : ∀ W, DSs G (L.tr W) body f) (hsu : ∀ xi, DSs (G.xw (some xi)) L.su (b₀ :: suite) g) (hx : ExmOk G C mt) (hnm : NmC G x C) (hg : x ∈ L.GL)
    (hfb : L.fb = true := by rfl) (hc : L.cm = true := by rfl) :
    DS G L (.Try body [.ExceptHandler (some (.Name x np)) none (b₀ :: suite) pos'] [] [] pos) (sTryO mt f g) := by
  refine ⟨fun X xr σ H ρ sl h sr hh nx rt bk ct q => ?_⟩
  have nxi := xr.cx hc
  let tb : WX → TS := fun W D σ H => ∃ ρ sl h, SR G H ρ sl σ ∧ HR G H ρ h ∧ PoS G W H ρ D.nx D.rt D.bk D.ct (f sl h)
  let ts : Addr → Value → Option Addr → TS := fun a cls d D σ H => ∃ (i c : Nat) (fs : List A) (dd : Addr) (vs : List (Str × V)) (ρ : Rho) (sl : Sl) (h : Hs), cls = .ref (G.cad c) ∧ d = some dd ∧
    ∀ oe, SR (G.xw (some ⟨i, a, dd, c, fs, vs, oe⟩)) H ρ sl σ ∧ HR (G.xw (some ⟨i, a, dd, c, fs, vs, oe⟩)) H ρ h ∧ PoS (G.xw (some ⟨i, a, dd, c, fs, vs, oe⟩)) WF H ρ D.nx D.rt D.bk D.ct (g sl h)
  refine S.of (ps_try_only (Wout := L.W) (tb := tb) (ts := ts) (c := C) (xr.fr hfb).1 (xr.fr hfb).2 (xr.names hg hnm) xr.tk
    (fun W pn xe tk po => ⟨fun pins s σ H D I ⟨ρ, sl, h, sr, hr, q⟩ => ((hb W).run _ (xr.tr hc tk po) σ H ρ sl h sr hr D.nx D.rt D.bk D.ct q).run pins s I⟩)
    (fun a oe cls d pn hz hf => ⟨fun pins s σ H D I ⟨i, c, fs, dd, vs, ρ, sl, h, e1, e2, k⟩ => by
      subst e1 e2
      obtain ⟨k1, k2, k3⟩ := k oe
      exact ((hsu ⟨i, a, dd, c, fs, vs, oe⟩).run _ (xr.su (xi := ⟨i, a, dd, c, fs, vs, oe⟩) hz hf) σ H ρ sl h k1 k2 D.nx D.rt D.bk D.ct k3).run pins s I⟩)) ?_
  refine ⟨ρ, sl, h, sr, hh, ?_⟩
  unfold sTryO at q
  revert q
  cases hm : f sl h with
  | nx sl1 h1 => exact id
  | rt a h1 => exact id
  | bk sl1 h1 => exact id
  | ct sl1 h1 => exact id
  | bad => exact id
  | ex y sl1 h1 =>
    intro q c d σ1 H1 ρ1 x1 r1 s1 rx
    unfold hndO at q
    dsimp only at q
    have ec : c = .ref (G.cad y.cls) := rx.1
    have eK : X.K = G.K := xr.K
    cases hmt : mt y.cls with
    | none => rw [hmt] at q; exact q.elim
    | some bb =>
      rw [hmt] at q
      refine ⟨bb, by rw [eK, ec]; exact hx _ _ hmt, fun eb a na => ?_, fun eb => ?_⟩
      · subst eb
        dsimp only at q
        obtain ⟨_, dd, vs, ed, hd, nl, rf⟩ := rx
        refine ⟨sl1.length, y.cls, y.fs, dd, vs, ρ1, sl1, h1, ec, ed, fun oe => ⟨suite_startO s1 (Nat.le_refl _), r1.xw (fun xi e => by cases e; exact ⟨hd, nl, rf.xw⟩), ?_⟩⟩
        have q := PoS.at1 q x1
        revert q
        cases g sl1 h1 with
        | nx sl2 h2 => exact fun q σ2 H2 ρ2 x2 r2 s2 => q _ H2 ρ2 x2 (r2.wx nxi) (s2.wx nxi)
        | rt a h2 => exact fun q v H2 ρ2 x2 r2 ra => q v H2 ρ2 x2 (r2.wx nxi) ra.wx
        | bk sl2 h2 => exact fun q σ2 H2 ρ2 x2 r2 s2 => q _ H2 ρ2 x2 (r2.wx nxi) (s2.wx nxi)
        | ct sl2 h2 => exact fun q σ2 H2 ρ2 x2 r2 s2 => q _ H2 ρ2 x2 (r2.wx nxi) (s2.wx nxi)
        | ex z sl2 h2 => exact fun q => q.elim
        | bad => exact fun q => q.elim
      · subst eb
        exact q c d σ1 H1 ρ1 x1 r1 s1 rx
/-! ### within a suite: the error's fields, its class -/
/-- what the classes of errors say of a name -/
def XatOk (G : Gc) (m : Str) (xat : Nat → Option Nat) : Prop := ∀ c j, xat c = some j → (G.cfs c)[j]? = some m ∧ (G.cfs c).Nodup ∧ XfC G.K (G.cad c) ∧ PySem.W.findIn G.K (.ref (G.cad c)) m = some none
def eXf (i : Nat) (xat : Nat → Option Nat) (c : Nat) (fs : List A) : FE := fun sl h => match sl[i]? with
  | some none => need (xat c) fun j => need fs[j]? fun y => .ok y h
  | _ => .bad
theorem hot_var {xi : Xi} {x : Str} {i : Nat} {p : Pos} {Q : VK} (xr : Xr G X L) (e : G.xi = some xi) (hi : xi.i = i) (sr : SR G H ρ sl σ) (hs : sl[i]? = some none) (hN : L.N[i]? = some x) (hr : L.rd.contains i = true) (q : Q (.ref xi.a) H) : E X (.Name x p) σ H Q := by
  subst hi
  have z := xr.rdv xi.i (by simpa using hr) x hN
  exact .of (pe_var (i := xi.i) (by rw [xr.n]; exact hN) z.1 z.2.1 z.2.2) ⟨_, sr.xs xi e hs, q⟩
theorem de_xf {xi : Xi} (i : Nat) {x m : Str} {xat : Nat → Option Nat} {np : Pos} (D : XatOk G m xat) (he : G.xi = some xi := by rfl) (hi : xi.i = i := by assumption) (hN : L.N[i]? = some x := by rfl) (hr : L.rd.contains i = true := by rfl)
    (hb : ∀ env, attributeBase (.Name x np) m env (eval (.Name x np) env) = eval (.Name x np) env := by intro _; rfl) : DE G L (.Attribute (.Name x np) m pos) (eXf i xat xi.c xi.fs) := by
  refine ⟨fun X xr σ H ρ sl h sr hh Q q => ?_⟩
  unfold eXf at q
  split at q
  · rename_i hs
    obtain ⟨j, hj, q⟩ := need_ok q
    obtain ⟨y, hy, q⟩ := need_ok q
    obtain ⟨h1, h2, h3, h4⟩ := D _ _ hj
    have hv := hot_var (p := np) xr he hi sr hs hN hr (Q := fun v H1 => v = .ref xi.a ∧ Value.ref (G.cad xi.c) = Value.ref (G.cad xi.c) ∧ ∃ (dd : Addr) (fs : List (Str × V)) (v : V), some xi.d = some dd ∧ H1 dd = some (.xd fs) ∧ fs.lookup m = some v ∧ Q v H1)
    obtain ⟨⟨X0, pn, rfl⟩, hz, hf⟩ := xr.xp xi he
    obtain ⟨k1, k2, k3⟩ := hh.xk xi he
    have eK : X0.K = G.K := xr.K
    refine .of (pe_xf (C := G.cad xi.c) (cls := .ref (G.cad xi.c)) (d := some xi.d) (te := fun σ H Q => E (X0.suite xi.a ((xi.a, xi.oe) :: pn)) (.Name x np) σ H Q) (by rw [eK]; exact h3) (by rw [eK]; exact h4) hz hf pe (hb _)) ?_
    refine hv ⟨rfl, rfl, xi.d, xi.vs, ?_⟩
    obtain ⟨v, l, ra⟩ := fld_get h2 k3 hy h1
    exact ⟨v, rfl, k1, l, q H ρ .refl hh v ra⟩
  · exact q.elim
/-- an error's class as isinstance wants it -/
structure InsX (G : Gc) (c : Nat) : Prop where
  cl : (PySem.W.clsIn G.K (G.cad c)).isSome = true
  ga : PySem.W.findIn G.K (.ref (G.cad c)) "__getattribute__" = some (some (.builtin "BaseException.__getattribute__"))
  gt : PySem.W.findIn G.K (.ref (G.cad c)) "__getattr__" = some none
  sb : PySem.W.subIn G.K (.ref (G.cad c)) (.type "BaseException") = some true
  ha : PySem.W.findIn G.K (.ref (G.cad c)) "__class__" = some (some (.builtin "object.__class__"))
  hn : PySem.W.specialIn G.K (.builtin "object.__class__") "__get__" = some (some (.builtin "getset_descriptor.__get__"))
  ht : PySem.W.takesIn G.K (.builtin "object.__class__") = some true
  hm : PySem.W.mroIn G.K (G.cad c) (.type "object") = some true
structure XisOk (G : Gc) (sub : Nat → Nat → Option Bool) (bt : Nat → String → Option Bool) : Prop where
  sub : ∀ c d b, sub c d = some b → InsX G c ∧ PySem.W.kitOne G.K (.ref (G.cad c)) (.ref (G.cad d)) = some b
  bt : ∀ c n b, bt c n = some b → InsX G c ∧ PySem.W.kitOne G.K (.ref (G.cad c)) (.type n) = some b
def xisB (sub : Nat → Nat → Option Bool) (bt : Nat → String → Option Bool) (c : Nat) (y : A) : Option Bool := match y with
  | .cls d => sub c d
  | .ty n => bt c n
  | _ => none
def eXis (i : Nat) (sub : Nat → Nat → Option Bool) (bt : Nat → String → Option Bool) (c : Nat) (fb : FE) : FE := fun sl h => match sl[i]? with
  | some none => (fb sl h).bind fun y h1 => need (xisB sub bt c y) fun b => .ok (.bl b) h1
  | _ => .bad
theorem inst_hot {oe : Obj} {a C d : Addr} {od : Obj} {hp : Heap} (h1 : hp.get? a = some oe) (hz : Zc (.ref C) (some d) oe) (hf : ∃ vs, oe.data = .fields vs) (ho : hp.get? d = some od) : PySem.W.InstAt hp a oe C (some od) := by
  obtain ⟨vs, hd⟩ := hf
  exact ⟨h1, hz.1, by unfold PySem.W.notCls; rw [hd] <;> rfl, by rw [hz.2]; exact ho⟩
theorem de_xis {xi : Xi} (i : Nat) {x : Str} {sub : Nat → Nat → Option Bool} {bt : Nat → String → Option Bool} {np : Pos} (D : XisOk G sub bt) (hm : Bi G.mg "isinstance" (.builtin "isinstance")) (hg : ("isinstance" : Str) ∈ L.GL) (hbb : DE G L b fb)
    (he : G.xi = some xi := by rfl) (hi : xi.i = i := by assumption) (hN : L.N[i]? = some x := by rfl) (hr : L.rd.contains i = true := by rfl) (hnb : NoSt b = true := by rfl) (hpl : ∀ env, (backTo pos (starEach [b] env)).any (·.1) = false := by intro _; rfl) :
    DE G L (.Call (.Name "isinstance" p) [.Name x np, b] [] pos) (eXis i sub bt xi.c fb) := by
  refine ⟨fun X xr σ H ρ sl h sr hh Q q => ?_⟩
  unfold eXis at q
  split at q
  · rename_i hs
    have z : As X [.Name x np, b] σ H fun vs H1 => Kv X σ (.builtin "isinstance") vs H1 Q := by
      refine as_cons (hot_var xr he hi sr hs hN hr ?_) (star_cons (by rfl))
      refine as_cons (DE.bind hbb xr sr hh q fun y h1 u H1 ρ1 e1 r1 ry s1 q1 => ?_) (star_cons hnb)
      obtain ⟨bb, hb, q1⟩ := need_ok q1
      refine as_nil ⟨fun pins s us I r => ?_⟩
      obtain ⟨⟨X0, pn, rfl⟩, hz, hf⟩ := xr.xp xi he
      obtain ⟨k1, k2, k3⟩ := r1.xk xi he
      have eK : X0.K = G.K := xr.K
      have fin : ∀ {cv : Value}, InsX G xi.c → (∀ w, RelV u w → w = cv) → PySem.W.kitOne G.K (.ref (G.cad xi.c)) cv = some bb → wpAny (model X0.prog X0.w) (X0.suite xi.a ((xi.a, xi.oe) :: pn)).A (call (.builtin "isinstance") us) (EP (X0.suite xi.a ((xi.a, xi.oe) :: pn)) pins σ Q) (X0.suite xi.a ((xi.a, xi.oe) :: pn)).xe s := fun {cv} T hcv hk => by
        cases r with
        | cons rx rr =>
          cases rr with
          | cons rt rr =>
            cases rr
            cases rx
            have ec := hcv _ rt
            subst ec
            obtain ⟨hget, _⟩ := I.pin (xi.a, xi.oe) (List.mem_append.mpr (.inl List.mem_cons_self))
            obtain ⟨mA, hns, _⟩ := (I.hok xi.d _ k1 : ObjOk X0.prog X0.w H1 s.heap xi.d (.xd xi.vs))
            obtain ⟨od, ho, _⟩ := lookIn_ns hns
            have J := inst_hot hget hz hf ho
            have T' : InsX { G with K := X0.K } xi.c := by rw [eK]; exact T
            exact PySem.W.kia_one (PySem.W.kitx_exc T'.cl T'.ga T'.gt T'.sb T'.ha T'.hn T'.ht T'.hm) I.kIn J (by rw [← eK] at hk; exact hk) (fun z => nomatch z) fun tk => ⟨.bl bb, H1, I.kept (t' := tk) fun _ _ z => z, rfl, q1 H1 ρ1 .refl r1 _ .bl⟩
      unfold xisB at hb
      cases ry <;> dsimp only at hb <;> try (cases hb; done)
      · obtain ⟨T, k⟩ := D.bt _ _ _ hb
        exact fin T (fun w rw_ => rw_) k
      · obtain ⟨T, k⟩ := D.sub _ _ _ hb
        exact fin T (fun w rw_ => rw_) k
    refine ⟨fun pins s I => ?_⟩
    refine wpAny_Call_Name_kw (ld_blt I (xr.gl _ hg).1 (by rw [xr.mg]; exact hm.1) hm.2 ?_ (xr.gl _ hg).2.2 (xr.gl _ hg).2.1)
    exact PyProof.Rows.callWith_builtin1 (thn (z.run pos pins s I) fun us s1 ⟨vs, H1, I1, r1, q1⟩ => q1.run pins s1 us I1 r1) (star_cons (by rfl)) (hpl _)
  · exact q.elim
end
end Rx
set_option Elab.async false
set_option linter.all false
set_option maxRecDepth 100000
set_option maxHeartbeats 4000000
/-! RxD: dicts; `in` of any kind; what is sorted. -/
namespace Rx
open PySem L2 Sx
open PyProof.Rows (subscriptTail)
section
variable {G : Gc} {L : Wh} {X : Cx} {σ : St} {H : Hp} {ρ : Rho} {sl : Sl} {h : Hs} {Q : VK} {e o tg iter a b : Expr} {es : List Expr} {fa fb fo : FE} {fs : FA} {f g : FS} {pos p apos cpos pos' tpos : Pos} {st : Stmt} {nx bk ct : St → Hp → Prop} {rt : VK}
/-! ### keys -/
def keyA : A → Option Key
  | .int i => some (.inl i)
  | .str x => some (.inr x)
  | _ => none
def keysA : List A → Option (List Key)
  | [] => some []
  | x :: xs => (keyA x).bind fun k => (keysA xs).map fun ks => k :: ks
def tkA : A → Option (List Key)
  | .tup xs => keysA xs
  | _ => none
/-- a key as a value -/
def keyV : Key → A
  | .inl i => .int i
  | .inr x => .str x
theorem keyA_ok {y : A} {u : V} {k : Key} (r : RA G H ρ y u) (e : keyA y = some k) : u = kV k := by
  cases r <;> first | (cases e; rfl) | cases e
theorem keysA_ok : ∀ {ys : List A} {us : List V} {ks : List Key}, RAs G H ρ ys us → keysA ys = some ks → us = ks.map kV
  | [], us, ks, r, e => by cases e; exact r.unnil
  | y :: ys, us, ks, r, e => by
    obtain ⟨u, vs, rfl, ra, rs⟩ := r.uncons
    unfold keysA at e
    cases hk : keyA y with
    | none => rw [hk] at e; cases e
    | some k =>
      rw [hk] at e
      cases hks : keysA ys with
      | none => rw [hks] at e; cases e
      | some ks' =>
        rw [hks] at e
        cases e
        rw [keyA_ok ra hk, keysA_ok rs hks]
        rfl
theorem tkA_ok {y : A} {u : V} {ks : List Key} (r : RA G H ρ y u) (e : tkA y = some ks) : ∃ b, u = .ref b ∧ H b = some (.tup (ks.map kV)) := by
  cases r <;> try cases e
  rename_i h1 l r
  exact ⟨_, rfl, by rw [h1, keysA_ok ⟨l, r⟩ e]⟩
theorem keyV_ok {k : Key} : RA G H ρ (keyV k) (kV k) := by
  cases k with
  | inl i => exact .int
  | inr x => exact .str
theorem keysV_ok : ∀ {ks : List Key}, RAs G H ρ (ks.map keyV) (ks.map kV)
  | [] => .nil
  | k :: ks => .cons keyV_ok keysV_ok
/-! ### what a dict holds -/
section
variable {κ : Type} [DecidableEq κ]
def valA (kvs : List (κ × A)) (k : κ) : Option A := (kvs.find? fun kv => decide (kv.1 = k)).map (·.2)
def putA (kvs : List (κ × A)) (k : κ) (v : A) : List (κ × A) :=
  if kvs.any (fun kv => decide (kv.1 = k)) then kvs.map fun kv => if kv.1 = k then (kv.1, v) else kv else kvs ++ [(k, v)]
def dropA (kvs : List (κ × A)) (k : κ) : List (κ × A) := kvs.filter fun kv => decide (kv.1 ≠ k)
/-- two optional values -/
def ROp (G : Gc) (H : Hp) (ρ : Rho) : Option A → Option V → Prop
  | some x, some v => RA G H ρ x v
  | none, none => True
  | _, _ => False
theorem RKs.val {kvs : List (κ × A)} {vs : List (κ × V)} (r : RKs G H ρ kvs vs) (k : κ) : ROp G H ρ (valA kvs k) (valV vs k) := by
  induction kvs generalizing vs with
  | nil => rw [r.unnil]; trivial
  | cons p kvs ih =>
    obtain ⟨j, x⟩ := p
    obtain ⟨v, us, rfl, ra, rs⟩ := r.uncons
    by_cases hj : j = k
    · have e1 : valA ((j, x) :: kvs) k = some x := by simp [valA, List.find?_cons, hj]
      have e2 : valV ((j, v) :: us) k = some v := by simp [valV, List.find?_cons, hj]
      rw [e1, e2]; exact ra
    · have e1 : valA ((j, x) :: kvs) k = valA kvs k := by simp [valA, List.find?_cons, hj]
      have e2 : valV ((j, v) :: us) k = valV us k := by simp [valV, List.find?_cons, hj]
      rw [e1, e2]; exact ih rs
theorem RKs.any {kvs : List (κ × A)} {vs : List (κ × V)} (r : RKs G H ρ kvs vs) (q : κ → Bool) : (kvs.any fun kv => q kv.1) = vs.any fun kv => q kv.1 := by
  have e := congrArg (fun l => l.any q) r.1
  simp only [List.any_map] at e
  exact e
theorem RKs.append {kvs kus : List (κ × A)} {vs us : List (κ × V)} (r : RKs G H ρ kvs vs) (q : RKs G H ρ kus us) : RKs G H ρ (kvs ++ kus) (vs ++ us) := by
  induction kvs generalizing vs with
  | nil => rw [r.unnil]; exact q
  | cons p kvs ih =>
    obtain ⟨j, x⟩ := p
    obtain ⟨v, ws, rfl, ra, rs⟩ := r.uncons
    exact .cons ra (ih rs)
theorem RKs.put {kvs : List (κ × A)} {vs : List (κ × V)} (r : RKs G H ρ kvs vs) (k : κ) {x : A} {v : V} (ra : RA G H ρ x v) : RKs G H ρ (putA kvs k x) (putK vs k v) := by
  unfold putA putK
  rw [r.any (fun j => decide (j = k))]
  split
  · have go : ∀ {kvs : List (κ × A)} {vs : List (κ × V)}, RKs G H ρ kvs vs → RKs G H ρ (kvs.map fun kv => if kv.1 = k then (kv.1, x) else kv) (vs.map fun kv => if kv.1 = k then (kv.1, v) else kv) := by
      intro kvs
      induction kvs with
      | nil => intro vs r; rw [r.unnil]; exact .nil
      | cons p kvs ih =>
        intro vs r
        obtain ⟨j, y⟩ := p
        obtain ⟨u, us, rfl, rb, rs⟩ := r.uncons
        simp only [List.map_cons]
        by_cases hj : j = k
        · simp only [hj, if_true]; exact .cons ra (ih rs)
        · simp only [hj, if_false]; exact .cons rb (ih rs)
    exact go r
  · exact r.append (.cons ra .nil)
theorem RKs.drop {kvs : List (κ × A)} {vs : List (κ × V)} (r : RKs G H ρ kvs vs) (k : κ) : RKs G H ρ (dropA kvs k) (dropK vs k) := by
  unfold dropA dropK
  induction kvs generalizing vs with
  | nil => rw [r.unnil]; exact .nil
  | cons p kvs ih =>
    obtain ⟨j, y⟩ := p
    obtain ⟨u, us, rfl, rb, rs⟩ := r.uncons
    by_cases hj : j = k
    · rw [List.filter_cons_of_neg (by simp [hj]), List.filter_cons_of_neg (by simp [hj])]; exact ih rs
    · rw [List.filter_cons_of_pos (by simp [hj]), List.filter_cons_of_pos (by simp [hj])]; exact .cons rb (ih rs)
end
/-- a dict of either kind -/
inductive Dd where
  | k (kvs : List (Key × A)) | t (kvs : List (List Key × A))
def ddOf (x : A) (h : Hs) : Option Dd := match x with
  | .dk kvs => some (.k kvs)
  | .dt kvs => some (.t kvs)
  | .ref n => (match h[n]? with | some (.dk kvs) => some (.k kvs) | some (.dt kvs) => some (.t kvs) | some (.fdk kvs) => some (.k kvs) | some (.fdt kvs) => some (.t kvs) | _ => none)
  | _ => none
def DdAt (G : Gc) (H : Hp) (ρ : Rho) (a : Addr) : Dd → Prop
  | .k kvs => ∃ vs, Rd H a (.dK vs) ∧ RKs G H ρ kvs vs
  | .t kvs => ∃ vs, Rd H a (.dT vs) ∧ RKs G H ρ kvs vs
theorem dd_ok (hr : HR G H ρ h) {x : A} {v : V} {d : Dd} (r : RA G H ρ x v) (e : ddOf x h = some d) : ∃ a, v = .ref a ∧ DdAt G H ρ a d := by
  unfold ddOf at e
  cases r with
  | dk h1 n l r => cases e; exact ⟨_, rfl, _, .inl h1, l, r⟩
  | dt h1 n l r => cases e; exact ⟨_, rfl, _, .inl h1, l, r⟩
  | ref hn hr' =>
    dsimp only at e
    split at e
    · cases e
      rename_i q
      obtain ⟨a, e1, e2, vs, e3, e4⟩ := hr.look (.ref hn hr') q (fun z => by cases z)
      exact ⟨a, e1, vs, .inl e3, e4⟩
    · cases e
      rename_i q
      obtain ⟨a, e1, e2, vs, e3, e4⟩ := hr.look (.ref hn hr') q (fun z => by cases z)
      exact ⟨a, e1, vs, .inl e3, e4⟩
    · cases e
      rename_i q
      obtain ⟨a, e1, e2, o, vs, e3, e4⟩ := hr.look (.ref hn hr') q (fun z => by cases z)
      exact ⟨a, e1, vs, .inr ⟨o, e3⟩, e4⟩
    · cases e
      rename_i q
      obtain ⟨a, e1, e2, o, vs, e3, e4⟩ := hr.look (.ref hn hr') q (fun z => by cases z)
      exact ⟨a, e1, vs, .inr ⟨o, e3⟩, e4⟩
    · cases e
  | _ => cases e
def ddGet (d : Dd) (y : A) : Option (Option A) := match d with
  | .k kvs => (keyA y).map (valA kvs)
  | .t kvs => (tkA y).map (valA kvs)
theorem ddGet_ok {a : Addr} {d : Dd} {y : A} {u : V} {r : Option A} (at_ : DdAt G H ρ a d) (ry : RA G H ρ y u) (e : ddGet d y = some r) : ∃ r', DGet H a u r' ∧ ROp G H ρ r r' := by
  cases d with
  | k kvs =>
    obtain ⟨vs, h1, rk⟩ := at_
    cases hk : keyA y with
    | none => unfold ddGet at e; rw [hk] at e; cases e
    | some k =>
      unfold ddGet at e; rw [hk] at e; cases e
      rw [keyA_ok ry hk]
      exact ⟨_, .inl ⟨vs, k, h1, rfl, rfl⟩, rk.val k⟩
  | t kvs =>
    obtain ⟨vs, h1, rk⟩ := at_
    cases hk : tkA y with
    | none => unfold ddGet at e; rw [hk] at e; cases e
    | some k =>
      unfold ddGet at e; rw [hk] at e; cases e
      obtain ⟨b, rfl, hb⟩ := tkA_ok ry hk
      exact ⟨_, .inr ⟨vs, k, b, h1, rfl, hb, rfl⟩, rk.val k⟩
theorem ROp.some_l {x : A} {r : Option V} (q : ROp G H ρ (some x) r) : ∃ v, r = some v ∧ RA G H ρ x v := by
  cases r with
  | none => exact q.elim
  | some v => exact ⟨v, rfl, q⟩
theorem ROp.isSome {x : Option A} {r : Option V} (q : ROp G H ρ x r) : x.isSome = r.isSome := by
  cases x <;> cases r <;> first | rfl | exact q.elim
/-! ### {} -/
def eDk : FE := fun _ h => .ok (.ref h.length) (h ++ [.dk []])
def eDt : FE := fun _ h => .ok (.ref h.length) (h ++ [.dt []])
theorem new_track (hr : HR G H ρ h) {p : Addr} {o : HO} {ob : O} (n : H p = none) (q : RO G (upd H p o) (ρ.add p) p ob) : RA G (upd H p o) (ρ.add p) (.ref h.length) (.ref p) ∧ HR G (upd H p o) (ρ.add p) (h ++ [ob]) := by
  refine ⟨.ref (by simp [hr.len]) fun b e => ?_, hr.track n q⟩
  rw [← hr.len] at e
  simp at e
  exact e
theorem de_dk : DE G L (.Dict [] [] pos) eDk := ⟨fun X xr σ H ρ sl h sr hh Q q => .of pe_dnewK fun p np => by
  obtain ⟨z1, z2⟩ := new_track (ob := .dk []) hh np ⟨[], upd_same, .nil⟩
  exact q _ _ (hh.ext_track np) z2 _ z1⟩
theorem de_dt : DE G L (.Dict [] [] pos) eDt := ⟨fun X xr σ H ρ sl h sr hh Q q => .of pe_dnewT fun p np => by
  obtain ⟨z1, z2⟩ := new_track (ob := .dt []) hh np ⟨[], upd_same, .nil⟩
  exact q _ _ (hh.ext_track np) z2 _ z1⟩
/-! ### d[k], of a dict, a written dict, or what ixA serves -/
def wdGet (kvs : List (Key × A)) (y : A) : Option (Option A) := match y with | .str z => some (valA kvs (.inr z)) | _ => none
def ixD (x y : A) (h : Hs) : Out A := match ddOf x h with
  | some d => need (ddGet d y) fun r => need r fun z => .ok z h
  | none => (match x with
    | .wdk kvs => need (wdGet kvs y) fun r => need r fun z => .ok z h
    | _ => ixA x y h)
theorem lookup_valA : ∀ {kvs : List (Key × A)} {vs : List (Str × V)} {z : Str}, kvs.map (·.1) = vs.map (fun p => Sum.inr p.1) → (∀ (i : Nat) k x k' v, kvs[i]? = some (k, x) → vs[i]? = some (k', v) → RA G H ρ x v) → ROp G H ρ (valA kvs (.inr z)) (vs.lookup z)
  | [], vs, z, l, r => by
    cases vs with
    | nil => trivial
    | cons p vs => simp at l
  | (k, x) :: kvs, vs, z, l, r => by
    cases vs with
    | nil => simp at l
    | cons p vs =>
      obtain ⟨j, v⟩ := p
      simp only [List.map_cons, List.cons.injEq] at l
      obtain ⟨rfl, l⟩ := l
      have ih := lookup_valA (kvs := kvs) (vs := vs) (z := z) l fun i k x k' v e1 e2 => r (i + 1) k x k' v (by simpa using e1) (by simpa using e2)
      by_cases hz : z = j
      · subst hz
        have e1 : valA ((Sum.inr z, x) :: kvs) (.inr z) = some x := by simp [valA, List.find?_cons]
        have e2 : ((z, v) :: vs).lookup z = some v := by simp [List.lookup_cons]
        rw [e1, e2]; exact r 0 _ x _ v rfl rfl
      · have e1 : valA ((Sum.inr j, x) :: kvs) (.inr z) = valA kvs (.inr z) := by
          have : ¬ j = z := fun q => hz q.symm
          simp [valA, List.find?_cons, this]
        have e2 : ((j, v) :: vs).lookup z = vs.lookup z := by
          have : (z == j) = false := by simpa using hz
          simp [List.lookup_cons, this]
        rw [e1, e2]; exact ih
theorem ox_ixD : OpX G L ixD := by
  refine ⟨fun X xr σ H ρ h x y v u a b hb hr rx ry Q q => ?_⟩
  unfold ixD at q
  cases hd : ddOf x h with
  | some d =>
    rw [hd] at q
    obtain ⟨r, er, q⟩ := need_ok q
    obtain ⟨z, rfl, q⟩ := need_ok q
    obtain ⟨ad, rfl, at_⟩ := dd_ok hr rx hd
    obtain ⟨r', g, ro⟩ := ddGet_ok at_ ry er
    obtain ⟨w, rfl, rw_⟩ := ro.some_l
    refine ⟨fun pins s v u I r1 r2 => ?_⟩
    cases r1
    exact PyProof.Rows.tail_any (dict_typeIs I g) PySem.F.slot_dict_getitem.lookup (d_getItem (by have := xr.un; omega) I g r2 fun w' s' I' rw' => ⟨w, H, I', rw', q H ρ .refl hr w rw_⟩) (hb _ _)
  | none =>
    rw [hd] at q
    cases rx with
    | @wdk kvs ad vs hw l r =>
      dsimp only at q
      obtain ⟨o, eo, q2⟩ := need_ok q
      obtain ⟨z, rfl, q3⟩ := need_ok q2
      clear q q2
      cases ry <;> try (cases eo; done)
      rename_i k
      unfold wdGet at eo
      have ro := lookup_valA (G := G) (H := H) (ρ := ρ) (z := k) l r
      rw [Option.some.inj eo] at ro
      obtain ⟨w, ew, rw_⟩ := ro.some_l
      obtain ⟨u0, e1, e2⟩ := hw.get k w ew
      obtain ⟨es, n, h1, h2, h3⟩ := hw.there
      refine .of ⟨fun pins s σ v u I r1 r2 => ?_⟩
      exact ix_kdict a b pins s σ H _ _ v u Q I r1 r2 ⟨ad, k, w, rfl, rfl, ⟨es, n, u0, by rw [xr.K]; exact h1, by rw [xr.w]; exact h2, by rw [xr.K]; exact e1, e2⟩, q3 H ρ .refl hr w rw_⟩ (hb _ _)
    | non => exact ox_ix.run X xr σ H ρ h _ y _ u a b hb hr .non ry Q q
    | bl => exact ox_ix.run X xr σ H ρ h _ y _ u a b hb hr .bl ry Q q
    | int => exact ox_ix.run X xr σ H ρ h _ y _ u a b hb hr .int ry Q q
    | str => exact ox_ix.run X xr σ H ρ h _ y _ u a b hb hr .str ry Q q
    | ty => exact ox_ix.run X xr σ H ρ h _ y _ u a b hb hr .ty ry Q q
    | cls => exact ox_ix.run X xr σ H ρ h _ y _ u a b hb hr .cls ry Q q
    | scr h1 => exact ox_ix.run X xr σ H ρ h _ y _ u a b hb hr (.scr h1) ry Q q
    | tup h1 l r => exact ox_ix.run X xr σ H ρ h _ y _ u a b hb hr (.tup h1 l r) ry Q q
    | ctp h1 l r => exact ox_ix.run X xr σ H ρ h _ y _ u a b hb hr (.ctp h1 l r) ry Q q
    | lst h1 n l r => exact ox_ix.run X xr σ H ρ h _ y _ u a b hb hr (.lst h1 n l r) ry Q q
    | dk h1 n l r => exact ox_ix.run X xr σ H ρ h _ y _ u a b hb hr (.dk h1 n l r) ry Q q
    | dt h1 n l r => exact ox_ix.run X xr σ H ρ h _ y _ u a b hb hr (.dt h1 n l r) ry Q q
    | ins h1 n l l' r => exact ox_ix.run X xr σ H ρ h _ y _ u a b hb hr (.ins h1 n l l' r) ry Q q
    | ref h1 h2 => exact ox_ix.run X xr σ H ρ h _ y _ u a b hb hr (.ref h1 h2) ry Q q
/-! ### d[k] = v; del d[k] -/
def setD (x y z : A) (h : Hs) : Out Unit := match x with
  | .ref n => (match h[n]? with
    | some (.dk kvs) => need (keyA y) fun k => chk (Nat.blt kvs.length sizeLine) (.ok () (h.set n (.dk (putA kvs k z))))
    | some (.dt kvs) => need (tkA y) fun k => chk (Nat.blt kvs.length sizeLine) (.ok () (h.set n (.dt (putA kvs k z))))
    | _ => setL x y z h)
  | _ => .bad
theorem os_dict : OpS G L setD := by
  refine ⟨fun X xr σ H ρ h x y z v u w hr rx ry rz Q q => ?_⟩
  unfold setD at q
  cases x <;> try exact q.elim
  rename_i n
  dsimp only at q
  split at q
  · rename_i kvs hn
    obtain ⟨k, hk, q⟩ := need_ok q
    obtain ⟨hl, q⟩ := chk_ok q
    obtain ⟨a, rfl, e2, vs, e3, rk⟩ := hr.look rx hn (fun z => by cases z)
    have hu := keyA_ok ry hk
    subst hu
    refine ⟨fun pins s ov iv r I r1 r2 r3 => ?_⟩
    cases r1
    have lk : vs.length = kvs.length := rk.length.symm
    have hl' : vs.length < sizeLine := by rw [lk]; exact Nat.le_of_ble_eq_true hl
    refine d_setItem (by have := xr.un; omega) I (.k e3 hl') r2 r3 fun s' I' => ⟨_, I', ?_⟩
    exact q _ ρ (hr.ext_set e2) (hr.set e2 ⟨_, upd_same, (rk.mono (hr.ext_set e2)).put k (rz.mono (hr.ext_set e2))⟩)
  · rename_i kvs hn
    obtain ⟨k, hk, q⟩ := need_ok q
    obtain ⟨hl, q⟩ := chk_ok q
    obtain ⟨a, rfl, e2, vs, e3, rk⟩ := hr.look rx hn (fun z => by cases z)
    obtain ⟨b, rfl, hb⟩ := tkA_ok ry hk
    refine ⟨fun pins s ov iv r I r1 r2 r3 => ?_⟩
    cases r1
    have lk : vs.length = kvs.length := rk.length.symm
    have hl' : vs.length < sizeLine := by rw [lk]; exact Nat.le_of_ble_eq_true hl
    refine d_setItem (by have := xr.un; omega) I (.t e3 hb hl') r2 r3 fun s' I' => ⟨_, I', ?_⟩
    exact q _ ρ (hr.ext_set e2) (hr.set e2 ⟨_, upd_same, (rk.mono (hr.ext_set e2)).put k (rz.mono (hr.ext_set e2))⟩)
  · exact os_list.run X xr σ H ρ h _ y z v u w hr rx ry rz Q q
def delD (x y : A) (h : Hs) : Out Unit := match x with
  | .ref n => (match h[n]? with
    | some (.dk kvs) => need (keyA y) fun k => chk (valA kvs k).isSome (.ok () (h.set n (.dk (dropA kvs k))))
    | some (.dt kvs) => need (tkA y) fun k => chk (valA kvs k).isSome (.ok () (h.set n (.dt (dropA kvs k))))
    | _ => .bad)
  | _ => .bad
def sDel (fo fi : FE) (g : A → A → Hs → Out Unit) : FS := fun sl h => (fo sl h).bindS sl fun x h1 => (fi sl h1).bindS sl fun y h2 => (g x y h2).bindS sl fun _ h3 => .nx sl h3
theorem d_delT {pins : List (Addr × Obj)} {s : Shared} {ad b : Addr} {kvs : List (List Key × V)} {k : List Key} {Ar : Around} {E : Value → Shared → Prop} {Q : Unit → Shared → Prop} (hu : Ar.units + 1 < cLine) (I : Inv X pins σ H s) (e : H ad = some (.dT kvs)) (eb : H b = some (.tup (k.map kV))) (l : (valV kvs k).isSome = true)
    (q : ∀ s', Inv X pins σ (upd H ad (.dT (dropK kvs k))) s' → Q () s') : wpAny (model X.prog X.w) Ar (delItem (.ref ad) (.ref b)) Q E s := by
  obtain ⟨z, hd, xs', rel, dd⟩ := dt_of I.hok e
  have hz : xs'.length ≤ sizeLine := by rw [← Paired.length rel]; exact z
  have r := rel.val k
  obtain ⟨v0, ev⟩ := Option.isSome_iff_exists.mp l
  rw [ev] at r
  obtain ⟨w0, hw, rw0⟩ := RelO.some_of (v := v0) (o := (atKey xs' k).map (·.2)) r
  obtain ⟨p0, hp, hp2⟩ := Option.map_eq_some_iff.mp hw
  refine wpAny_delItem_heap (hsz := hz) (tupleKind_room_in1 hu) (key_of I.hok eb) hd dd hp fun h' dd' hs => q _ ?_
  obtain ⟨o, es, ep, hq, h2, h3, h4, _, h5⟩ := dd'
  exact d_write I (by rw [e]; exact True.intro) hs ⟨o, hq⟩ ⟨Nat.le_trans (dropK_le kvs k) z, hd, _, (L2.DX.KT_drop k rel).keeps (fun c ys ec => (by rw [upd_ne (ne_of ec e (fun z => nomatch z))]; exact ec)), o, es, ep, hq, h2, h3, h4, h5⟩
/-- the step of delItem by values -/
structure Dv (X : Cx) (σ : St) (o i : V) (H : Hp) (Q : Hp → Prop) : Prop where
  run : ∀ (pins : List (Addr × Obj)) (s : Shared) (ov iv : Value), Inv X pins σ H s → RelV o ov → RelV i iv → wpAny (model X.prog X.w) X.A (delItem ov iv) (fun _ s' => ∃ H', Inv X pins σ H' s' ∧ Q H') X.xe s
structure OpD (G : Gc) (L : Wh) (g : A → A → Hs → Out Unit) : Prop where
  run : ∀ X, Xr G X L → ∀ σ H ρ h x y v u, HR G H ρ h → RA G H ρ x v → RA G H ρ y u → ∀ Q, Po G L.W σ H ρ (RU Q) (g x y h) → Dv X σ v u H Q
theorem od_dict : OpD G L delD := by
  refine ⟨fun X xr σ H ρ h x y v u hr rx ry Q q => ?_⟩
  unfold delD at q
  cases x <;> try exact q.elim
  rename_i n
  dsimp only at q
  split at q
  · rename_i kvs hn
    obtain ⟨k, hk, q⟩ := need_ok q
    obtain ⟨hl, q⟩ := chk_ok q
    obtain ⟨a, rfl, e2, vs, e3, rk⟩ := hr.look rx hn (fun z => by cases z)
    have hu := keyA_ok ry hk
    subst hu
    refine ⟨fun pins s ov iv I r1 r2 => ?_⟩
    cases r1
    refine d_delItem I e3 r2 (by rw [← (rk.val k).isSome]; exact hl) fun s' I' => ⟨_, I', ?_⟩
    exact q _ ρ (hr.ext_set e2) (hr.set e2 ⟨_, upd_same, (rk.mono (hr.ext_set e2)).drop k⟩)
  · rename_i kvs hn
    obtain ⟨k, hk, q⟩ := need_ok q
    obtain ⟨hl, q⟩ := chk_ok q
    obtain ⟨a, rfl, e2, vs, e3, rk⟩ := hr.look rx hn (fun z => by cases z)
    obtain ⟨b, rfl, hb⟩ := tkA_ok ry hk
    refine ⟨fun pins s ov iv I r1 r2 => ?_⟩
    cases r1
    cases r2
    refine d_delT (by have := xr.un; omega) I e3 hb (by rw [← (rk.val k).isSome]; exact hl) fun s' I' => ⟨_, I', ?_⟩
    exact q _ ρ (hr.ext_set e2) (hr.set e2 ⟨_, upd_same, (rk.mono (hr.ext_set e2)).drop k⟩)
  · exact q.elim
theorem ds_del {i : Expr} {fi : FE} {g : A → A → Hs → Out Unit} (hg : OpD G L g) (ho : DE G L o fo) (hi : DE G L i fi) : DS G L (.Delete [.Subscript o i tpos] pos) (sDel fo fi g) := by
  refine ⟨fun X xr σ H ρ sl h sr hh nx rt bk ct q => ⟨fun pins s I => ?_⟩⟩
  have z : E X o σ H fun v H1 => E X i σ H1 fun u H2 => Dv X σ v u H2 fun H3 => nx σ H3 :=
    DE.bindS ho xr sr hh q fun x h1 v H1 ρ1 e1 r1 ra s1 q1 => DE.bindS hi xr s1 r1 q1 fun y h2 u H2 ρ2 e2 r2 rb s2 q2 => by
      refine hg.run X xr σ H2 ρ2 h2 x y v u r2 (ra.mono e2) rb _ ?_
      revert q2
      cases g x y h2 with
      | ok _ h3 => exact fun q2 H' ρ' e' r' => q2 σ H' ρ' e' r' (s2.mono e')
      | ex z h3 => exact fun q2 c d H' ρ' e' r' rx => q2 c d σ H' ρ' e' r' (s2.mono e') rx
      | bad => exact id
  refine wpAny_Delete (wpAny_deleteEach_cons (wpAny_delete_Subscript (thn (z.run pins s I) fun u s1 ⟨x, H1, I1, rx, q1⟩ => thn (q1.run pins s1 I1) fun iv s2 ⟨y, H2, I2, ry, q2⟩ => ?_)))
  exact wpAny_mono (q2.run pins s2 u iv I2 rx ry) (fun _ s3 ⟨H3, I3, q3⟩ => wpAny_deleteEach_nil ⟨σ, _, I3, q3⟩) fun _ _ z => z
/-! ### x in y -/
def inA (x y : A) (h : Hs) : Out Bool := match ddOf y h with
  | some d => need (ddGet d x) fun r => .ok r.isSome h
  | none => (match y with
    | .wdk kvs => need (wdGet kvs x) fun r => .ok r.isSome h
    | .str z => (match x with | .str w => (match w.cps.toList with | [c] => .ok (decide (c ∈ z.cps.toList)) h | _ => .bad) | _ => .bad)
    | _ => need (itemsOf y h) fun ys => match flatA x && ys.all flatA with
      | true => .ok (inF x ys) h
      | false => need (listOf y h) fun ys => need (datH x h) fun d => need (datAll ys) fun ds => chk (SeqAt.shaped d && SeqAt.shaped (.list ds)) (.ok (ds.any fun z => PyData.eqv z d) h))
theorem one_sign {w : Str} {c : Nat} (e : w.cps.toList = [c]) : w = ⟨#[c]⟩ := by
  obtain ⟨⟨l⟩⟩ := w
  have e : l = [c] := e
  subst e
  rfl
theorem datAllL_ok {a : Addr} {ys : List A} {us : List V} {ds : List PyData} (e3 : H a = some (.lst us)) (rl : RAs G H ρ ys us) (e : datAll ys = some ds) : Dp G.K H (.ref a) (.list ds) := .lst (.inl (.inl e3)) (datAll_ok rl e)
/-- both ways of a test by membership -/
theorem inA_ok {x y : A} {v u : V} {m : Bool → A} {neg : Bool} (xr : Xr G X L) (hr : HR G H ρ h) (rx : RA G H ρ x v) (ry : RA G H ρ y u) (q : Po G L.W σ H ρ (RQ G Q) ((inA x y h).bind fun b h1 => .ok (.bl (if neg then !b else b)) h1)) :
    Cv X σ (if neg then .NotIn else .In) v u H Q := by
  have eK := xr.K
  have hu := xr.un
  unfold inA at q
  cases hd : ddOf y h with
  | some d =>
    rw [hd] at q
    dsimp only at q
    cases hg : ddGet d x with
    | none => rw [hg] at q; exact q.elim
    | some r =>
      rw [hg] at q
      obtain ⟨ad, rfl, at_⟩ := dd_ok hr ry hd
      obtain ⟨r', g, ro⟩ := ddGet_ok at_ rx hg
      have q := q H ρ .refl hr _ .bl
      rw [ro.isSome] at q
      refine ⟨fun pins s v u I r1 r2 => ?_⟩
      cases r2
      cases neg with
      | false => exact d_in (by omega) I g r1 fun s' I' => ⟨.bl r'.isSome, H, I', rfl, q⟩
      | true => exact d_notIn (by omega) I g r1 fun s' I' => ⟨.bl (!r'.isSome), H, I', rfl, q⟩
  | none =>
    rw [hd] at q
    dsimp only at q
    have gen : Po G L.W σ H ρ (RQ G Q) ((need (itemsOf y h) fun ys => match flatA x && ys.all flatA with
      | true => Out.ok (inF x ys) h
      | false => need (listOf y h) fun ys => need (datH x h) fun d => need (datAll ys) fun ds => chk (SeqAt.shaped d && SeqAt.shaped (.list ds)) (.ok (ds.any fun z => PyData.eqv z d) h)).bind fun b h1 => .ok (.bl (if neg then !b else b)) h1) → Cv X σ (if neg then .NotIn else .In) v u H Q := fun q => by
      cases hi : itemsOf y h with
      | none => rw [hi] at q; exact q.elim
      | some ys =>
        rw [hi] at q
        dsimp only [need] at q
        cases hf : flatA x && ys.all flatA with
        | true =>
          rw [hf] at q
          rw [Bool.and_eq_true] at hf
          obtain ⟨a, us, rfl, hq, rl⟩ := seq_ok hr ry hi
          obtain ⟨i1, i2⟩ := inF_ok rx hf.1 rl hf.2
          have q := q H ρ .refl hr _ .bl
          rw [i2] at q
          cases neg with
          | false => exact .of (.of op_in_seq ⟨a, us, rfl, by rw [eK]; exact hq, flat_ok rx hf.1, i1, q⟩)
          | true => exact .of (.of op_notIn_seq ⟨a, us, rfl, by rw [eK]; exact hq, flat_ok rx hf.1, i1, q⟩)
        | false =>
          rw [hf] at q
          dsimp only at q
          cases hl : listOf y h with
          | none => rw [hl] at q; exact q.elim
          | some zs =>
            rw [hl] at q
            dsimp only at q
            cases h1 : datH x h with
            | none => rw [h1] at q; exact q.elim
            | some d =>
              rw [h1] at q
              dsimp only at q
              cases h2 : datAll zs with
              | none => rw [h2] at q; exact q.elim
              | some ds =>
                rw [h2] at q
                dsimp only at q
                cases hs : SeqAt.shaped d && SeqAt.shaped (.list ds) with
                | false => rw [hs] at q; exact q.elim
                | true =>
                  rw [hs] at q
                  rw [Bool.and_eq_true] at hs
                  obtain ⟨a, us, rfl, e3, rl⟩ := list_ok hr ry hl
                  have q := q H ρ .refl hr _ .bl
                  cases neg with
                  | false => exact .of (.of (op_inD (by omega)) ⟨d, ds, by rw [eK]; exact datH_ok hr rx h1, by rw [eK]; exact datAllL_ok e3 rl h2, hs.1, hs.2, q⟩)
                  | true => exact .of (.of (op_notInD (by omega)) ⟨d, ds, by rw [eK]; exact datH_ok hr rx h1, by rw [eK]; exact datAllL_ok e3 rl h2, hs.1, hs.2, q⟩)
    cases y with
    | wdk kvs =>
      dsimp only at q
      cases ry with
      | @wdk _ ad vs hw l r =>
        cases hg : wdGet kvs x with
        | none => rw [hg] at q; exact q.elim
        | some o =>
          rw [hg] at q
          have q := q H ρ .refl hr _ .bl
          cases rx <;> try (cases hg; done)
          rename_i z
          unfold wdGet at hg
          have ro := lookup_valA (G := G) (H := H) (ρ := ρ) (z := z) l r
          rw [Option.some.inj hg] at ro
          obtain ⟨es, n, h1, h2, h3⟩ := hw.there
          have ex : ∃ o' : Option Value, PySem.W.nsIn G.K ad z = some o' ∧ o'.isSome = o.isSome := by
            cases hv : vs.lookup z with
            | none => rw [hv] at ro; exact ⟨none, hw.no z hv, (ro.isSome).symm⟩
            | some w =>
              rw [hv] at ro
              obtain ⟨u0, e1, _⟩ := hw.get z w hv
              exact ⟨some u0, e1, (ro.isSome).symm⟩
          obtain ⟨o', e1, e2⟩ := ex
          have D : KDict X.K X.w ad es n := ⟨by rw [eK]; exact h1, by rw [xr.w]; exact h2, h3⟩
          rw [← eK] at e1
          rw [← e2] at q
          cases neg with
          | false => exact .of (.of (op_in_kd D) ⟨z, o', rfl, rfl, e1, q⟩)
          | true => exact .of (.of (op_notIn_kd D) ⟨z, o', rfl, rfl, e1, q⟩)
    | str z =>
      dsimp only at q
      cases ry
      cases rx <;> try exact q.elim
      rename_i w
      dsimp only at q
      split at q
      · rename_i c hw
        rw [one_sign hw]
        have q := q H ρ .refl hr _ .bl
        cases neg with
        | false => exact .of (.of op_in_sign ⟨c, z, rfl, rfl, q⟩)
        | true => exact .of (.of op_notIn_sign ⟨c, z, rfl, rfl, q⟩)
      · exact q.elim
    | _ => exact gen q
def inD (x y : A) (h : Hs) : Out A := (inA x y h).bind fun b h1 => .ok (.bl b) h1
def notinD (x y : A) (h : Hs) : Out A := (inA x y h).bind fun b h1 => .ok (.bl (!b)) h1
theorem oc_inD : OpC G L .In inD := ⟨fun X xr σ H ρ h x y v u hr rx ry Q q => inA_ok (neg := false) (m := fun b => .bl b) xr hr rx ry q⟩
theorem oc_notinD : OpC G L .NotIn notinD := ⟨fun X xr σ H ρ h x y v u hr rx ry Q q => inA_ok (neg := true) (m := fun b => .bl b) xr hr rx ry q⟩
/-! ### len -/
def lenD (x : A) (h : Hs) : Out A := match ddOf x h with
  | some (.t kvs) => .ok (.int (Int.ofNat kvs.length)) h
  | _ => lenA x h
theorem call_len_rT {X : Cx} : CallR X (.builtin "len") (fun xs H Q => ∃ p kvs, xs = [V.ref p] ∧ Rd H p (.dT kvs) ∧ Q (.int ((kvs.length : Nat) : Int)) H) := by
  rintro pins s σ H xs us Q I r ⟨p, kvs, rfl, hp, q⟩
  obtain ⟨u, rfl, rx⟩ := vals1 r
  cases rx
  obtain ⟨z, hd, ys, rel, dd⟩ := dt_rd I.hok hp
  have hl : ys.length = kvs.length := (Paired.length rel).symm
  have z : kvs.length ≤ 16777216 := by rw [sizeLine_eq] at z; exact z
  refine call_len_dictH hd dd (by rw [hl]; omega) ?_
  rw [hl]
  exact ⟨.int ((kvs.length : Nat) : Int), H, I.tok _, ⟨_, rfl⟩, q⟩
theorem ok_lenD : OpK G L (.builtin "len") (f1 lenD) := by
  refine ⟨fun X xr σ H ρ h xs vs hr rs Q q => ?_⟩
  obtain ⟨x, v, rfl, rfl, ra, q⟩ := ok_one rs q
  unfold lenD at q
  split at q
  · rename_i kvs hd
    obtain ⟨a, rfl, us, e1, rk⟩ := dd_ok hr ra hd
    exact .of (.of call_len_rT ⟨a, us, rfl, e1, by rw [← rk.length]; exact q H ρ .refl hr _ .int⟩)
  · exact ok_len.run X xr σ H ρ h [x] [v] hr rs Q q
/-! ### list(x) of a dict -/
def listDA (x : A) (h : Hs) : Out A := match ddOf x h with
  | some (.k kvs) => .ok (.lst (kvs.map fun kv => keyV kv.1)) h
  | some (.t kvs) => .ok (.lst (kvs.map fun kv => .tup (kv.1.map keyV))) h
  | none => listA x h
theorem keysRA : ∀ {kvs : List (Key × A)} {vs : List (Key × V)}, kvs.map (·.1) = vs.map (·.1) → RAs G H ρ (kvs.map fun kv => keyV kv.1) (vs.map fun kv => kV kv.1)
  | [], vs, l => by
    cases vs with
    | nil => exact .nil
    | cons _ _ => simp at l
  | (k, x) :: kvs, vs, l => by
    cases vs with
    | nil => simp at l
    | cons p vs =>
      obtain ⟨j, v⟩ := p
      simp only [List.map_cons, List.cons.injEq] at l
      obtain ⟨rfl, l⟩ := l
      exact .cons keyV_ok (keysRA l)
theorem keysRT : ∀ {kvs : List (List Key × A)} {vs : List (List Key × V)} {bs : List Addr}, kvs.map (·.1) = vs.map (·.1) → IsKeys H vs bs → RAs G H ρ (kvs.map fun kv => .tup (kv.1.map keyV)) (bs.map V.ref)
  | [], vs, bs, l, k => by
    cases vs with
    | cons _ _ => simp at l
    | nil =>
      cases k
      exact .nil
  | (k, x) :: kvs, vs, bs, l, kk => by
    cases vs with
    | nil => simp at l
    | cons p vs =>
      obtain ⟨j, v⟩ := p
      simp only [List.map_cons, List.cons.injEq] at l
      obtain ⟨rfl, l⟩ := l
      cases kk with
      | cons h1 h2 =>
        have z : RAs G H ρ (k.map keyV) (k.map kV) := keysV_ok
        exact .cons (.tup h1 z.1 z.2) (keysRT l h2)
theorem ok_listD (hc : L.cm = true := by rfl) : OpK G L (.type "list") (f1 listDA) := by
  refine ⟨fun X xr σ H ρ h xs vs hr rs Q q => ?_⟩
  obtain ⟨x, v, rfl, rfl, ra, q⟩ := ok_one rs q
  unfold listDA at q
  split at q
  · rename_i kvs hd
    obtain ⟨a, rfl, us, e1, rk⟩ := dd_ok hr ra hd
    exact .of (.of (call_listD (xr.calm hc)) ⟨a, us, rfl, e1, fun p np => q _ ρ (hr.ext_new np) (hr.new np) _ (new_lstA hr np (keysRA rk.1))⟩)
  · rename_i kvs hd
    obtain ⟨a, rfl, us, e1, rk⟩ := dd_ok hr ra hd
    exact .of (.of (call_list_dT (xr.calm hc)) ⟨a, us, rfl, e1, fun p bs np ik => q _ ρ (hr.ext_new np) (hr.new np) _ (new_lstA hr np (keysRT rk.1 ik))⟩)
  · exact ok_list.run X xr σ H ρ h [x] [v] hr rs Q q
/-! ### sorted -/
def allAlikeB (ds : List PyData) : Bool := ds.all fun d => ds.all fun d' => PySem.W.alike d d'
def isTupD : PyData → Bool
  | .tuple (_ :: _) => true
  | _ => false
def plainD : PyData → Bool
  | .none => false
  | .tuple _ => false
  | _ => true
def sortableB (ds : List PyData) : Bool := ds.all isTupD || ds.all plainD
theorem allAlike_of {ds : List PyData} (e : allAlikeB ds = true) : PySem.W.AllAlike ds := fun d hd d' hd' => by
  unfold allAlikeB at e
  rw [List.all_eq_true] at e
  have z := e d hd
  rw [List.all_eq_true] at z
  exact z d' hd'
theorem sortable_of {ds : List PyData} (e : sortableB ds = true) : PySem.W.Sortable ds := by
  unfold sortableB at e
  rw [Bool.or_eq_true, List.all_eq_true, List.all_eq_true] at e
  refine e.imp (fun e d hd => ?_) fun e d hd => ?_
  · have z := e d hd
    unfold isTupD at z
    split at z
    · exact ⟨_, _, rfl⟩
    · cases z
  · have z := e d hd
    refine ⟨fun q => ?_, fun xs q => ?_⟩
    · subst q; cases z
    · subst q; cases z
def sortZ (zs : List (A × PyData)) : List A := (zs.mergeSort (PySem.W.dataLe false fun z => z.2)).map (·.1)
def sortedA (x : A) (h : Hs) : Out A := need (listOf x h) fun xs => need (datAll xs) fun ds =>
  chk (allAlikeB ds && sortableB ds && ds.all (fun d => Nat.ble d.depth 100) && Nat.ble xs.length sizeLine) (.ok (.lst (sortZ (xs.zip ds))) h)
theorem eachIs_at {α β : Type} {R : α → β → Prop} : ∀ {as : List α} {bs : List β}, as.length = bs.length → (∀ (i : Nat) a b, as[i]? = some a → bs[i]? = some b → R a b) → PySem.W.EachIs R as bs
  | [], [], _, _ => .nil
  | [], _ :: _, h, _ => by simp at h
  | _ :: _, [], h, _ => by simp at h
  | a :: as, b :: bs, h, r => .cons (r 0 a b rfl rfl) (eachIs_at (by simpa using h) fun i a b e1 e2 => r (i + 1) a b (by simpa using e1) (by simpa using e2))
theorem back_vals {s : Shared} : ∀ {out : List Value} {zs : List (A × PyData)}, PySem.W.EachIs (fun u z => ∃ v, RelV v u ∧ RA G H ρ z.1 v) out zs → ∃ vs, Vals vs out ∧ RAs G H ρ (zs.map (·.1)) vs
  | _, _, .nil => ⟨[], .nil, .nil⟩
  | _, _, .cons ⟨v, r, ra⟩ t => by
    obtain ⟨vs, h1, h2⟩ := back_vals (s := s) t
    exact ⟨v :: vs, .cons r h1, .cons ra h2⟩
theorem zip_snd_map {α β : Type} : ∀ (as : List α) (bs : List β), as.length = bs.length → (as.zip bs).map (·.2) = bs
  | [], [], _ => rfl
  | [], _ :: _, h => by simp at h
  | _ :: _, [], h => by simp at h
  | a :: as, b :: bs, h => by simp only [List.zip_cons_cons, List.map_cons]; rw [zip_snd_map as bs (by simpa using h)]
theorem ok_sorted : OpK G L (.builtin "sorted") (f1 sortedA) := by
  refine ⟨fun X xr σ H ρ h xs vs hr rs Q q => ?_⟩
  obtain ⟨x, v, rfl, rfl, ra, q⟩ := ok_one rs q
  obtain ⟨ys, hl, q⟩ := need_ok q
  obtain ⟨ds, hds, q⟩ := need_ok q
  obtain ⟨k, q⟩ := chk_ok q
  simp only [Bool.and_eq_true] at k
  obtain ⟨⟨⟨k1, k2⟩, k3⟩, k4⟩ := k
  obtain ⟨a, us, rfl, e3, rl⟩ := list_ok hr ra hl
  have dp := datAll_ok rl hds
  have ld : ys.length = ds.length := (datAll_get hds).1
  have eK := xr.K
  have hu := xr.un
  refine ⟨fun pins s ws I r => ?_⟩
  obtain ⟨u, rfl, ru⟩ := vals1 r
  cases ru
  obtain ⟨its, rv, pl, hz⟩ := I.list (.inl (.inl e3))
  have lv : its.length = us.length := rv.length.symm
  have lb : its.length = (ys.zip ds).length := by rw [List.length_zip, ← ld, lv, ← rl.1]; simp
  obtain ⟨as, rd⟩ := Dp.readsAll I ds us its (by rw [eK]; exact dp) rv
  have er2 : PySem.W.EachIs (fun v d => ∃ as, Reads s.heap v d as) its ds := PySem.W.readsAll_each (fun d => d) (by rw [List.map_id']; exact rd)
  have em : (ys.zip ds).map (fun z => z.2) = ds := zip_snd_map ys ds ld
  refine PySem.W.sorted_data (R := fun u (z : A × PyData) => ∃ v, RelV v u ∧ RA G H ρ z.1 v) (enc := fun z => z.2) (vs := its) (bs := ys.zip ds) pl.isList (eachIs_at lb fun i u z e1 e2 => ?_) (eachIs_at lb fun i u z e1 e2 => ?_)
    (by rw [em]; exact allAlike_of k1) (by rw [em]; exact sortable_of k2) (by rw [← lb, lv]; exact hz) (fun z hz => ?_) fun out lo eo => ?_
  · rw [List.getElem?_zip_eq_some] at e2
    obtain ⟨v, e4, e5⟩ := rl.get e2.1
    obtain ⟨u', e6, e7⟩ := rv.get e4
    rw [e1] at e6; cases e6
    exact ⟨v, e7, e5⟩
  · rw [List.getElem?_zip_eq_some] at e2
    have hz := er2.zip (u, z.2) (List.mem_of_getElem? (i := i) (by rw [List.getElem?_zip_eq_some]; exact ⟨e1, e2.2⟩))
    exact hz
  · rw [List.all_eq_true] at k3
    have z2 : z.2 ∈ ds := by rw [← em]; exact List.mem_map.mpr ⟨z, hz, rfl⟩
    have := Nat.le_of_ble_eq_true (k3 _ z2)
    omega
  · obtain ⟨ws, r1, r2⟩ := back_vals (s := s) eo
    obtain ⟨c, hc⟩ := PyProof.Rows.sortedAll_at s.heap its (List.toArray out)
    have lw : ws.length ≤ sizeLine := by
      rw [← r2.1, List.length_map, List.length_mergeSort, ← lb, lv]; exact hz
    have fr : H (s.heap.objs.size + 1) = none := I.hok.fresh (Nat.le_succ _)
    refine ⟨.ref (s.heap.objs.size + 1), upd H (s.heap.objs.size + 1) (.lst ws), I.laid (t' := s.toks) (fun b o e => PyProof.Rows.sortedAll_old e) (Nat.le_succ _) (show ObjOk X.prog X.w _ _ _ (.lst ws) from ⟨lw, out, c, r1, hc⟩), rfl, ?_⟩
    exact q _ ρ (hr.ext_new fr) (hr.new fr) _ (new_lstA hr fr r2)
end
end Rx
set_option Elab.async false
set_option linter.all false
set_option maxRecDepth 100000
set_option maxHeartbeats 4000000
/-! RxF: own special methods (o[k], o[k] = v, k in o, len(o)); methods of built-in types, also of dicts; stars in displays; o[k] op= v. -/
namespace Rx
open PySem L2 Sx
open PyProof.Rows (subscriptTail)
section
variable {G : Gc} {L : Wh} {X : Cx} {σ : St} {H : Hp} {ρ : Rho} {sl : Sl} {h : Hs} {Q : VK} {e o tg iter a b i : Expr} {es : List Expr} {fa fb fo fi : FE} {fs : FA} {f g : FS} {pos p apos cpos pos' tpos : Pos} {st : Stmt} {nx bk ct : St → Hp → Prop} {rt : VK}
/-! ### a method run one level deeper -/
theorem run_mt1 {m : Str} {j c n : Nat} {f : F} {pins : List (Addr × Obj)} {s : Shared} {us : List Value} {xs : List A} {vs : List V} (xr : Xr G X L) (hc : L.cm = true) (hj : j + 1 ≤ L.k) (M : MtC G m j c n f) (I : Inv X pins σ H s) (hr : HR G H ρ h) (rs : RAs G H ρ xs vs) (r : Vals vs us) (q : Po G L.W σ H ρ (RQ G Q) (f xs h)) :
    ∃ fa : Addr, Meth X.K (G.cad c) m fa ∧ wpAny (model X.prog X.w) X.A.in1 (call (.ref fa) us) (EP X pins σ Q) X.xe s := by
  obtain ⟨fa, fd, ps, Fn, hm, b⟩ := M.ex
  refine ⟨fa, by rw [xr.K]; exact hm, ?_⟩
  have sp := sp_of M.ar hr rs q
  have hl : us.length = ps.length := by rw [← r.length]; exact (xr.fn Fn).len _ _ _ _ sp
  have bb : Binds X.K fd ps [] := by rw [xr.K]; exact b
  refine wpAny_call (codeAny_mono ((xr.fn Fn).run X.A.in1 X.stack s H ⟨us, []⟩ us vs Q (WE L.W σ) (((xr.room hc).mono hj).in1) xr.gd I.env0.in1 (by
    have := bb s us I.kIn (by simpa using hl)
    simpa using this) r sp) fun r s' hq => ?_)
  cases r with
  | error e => exact xr.pass σ pins H s e s' I hq
  | ok fl =>
    cases fl with
    | ret u => exact I.after hq
    | next => exact False.elim hq
    | brk => exact False.elim hq
    | cont => exact False.elim hq
/-! ### o[k] -/
def GetFn (G : Gc) (mt : Mt) : Prop := ∀ c f, mt c = some f → ∃ g, PySem.W.findIn G.K (.ref (G.cad c)) "__getitem__" = some (some (.ref g)) ∧ PySem.W.fnIn G.K g = true
def ixG (mt : Mt) (x y : A) (h : Hs) : Out A := match instOf x h with
  | some (c, _) => need (mt c) fun f => f [x, y] h
  | none => ixD x y h
theorem de_subG {j : Nat} {mt : Mt} (O : MtOk G "__getitem__" j mt) (gf : GetFn G mt) (hj : j + 1 ≤ L.k) (ha : DE G L a fa) (hb : DE G L b fb) (hs : PlainIx b := by intro _ _; rfl)
    (hsl : ∀ ad u, subscripted b true (.ref ad) u = runValue (.builtin "lifetime.subscript" ⟨[.ref ad, u], []⟩) := by intro _ _; with_unfolding_all rfl) (hc : L.cm = true := by rfl) : DE G L (.Subscript a b pos) (e2 fa fb (ixG mt)) := by
  refine ⟨fun X xr σ H ρ sl h sr hh Q q => ?_⟩
  have z := two ha hb xr sr hh q (Q2 := fun v u H2 => Xv X σ a b v u H2 Q) fun x y h2 v u H2 ρ2 r2 s2 ra rb q2 => by
    clear q hh sr
    unfold ixG at q2
    cases hi : instOf x h2 with
    | none => rw [hi] at q2; exact ox_ixD.run X xr σ H2 ρ2 h2 x y v u a b hs r2 ra rb Q q2
    | some pr =>
      obtain ⟨c, xs⟩ := pr
      rw [hi] at q2
      obtain ⟨f, e, q2⟩ := need_ok q2
      obtain ⟨n, M⟩ := O c f e
      obtain ⟨g1, k1, k2⟩ := gf c f e
      obtain ⟨ad, dx, vs, rfl, e1, _⟩ := inst_ok r2 ra hi
      refine ⟨fun pins s v u I r1 r2' => ?_⟩
      cases r1
      obtain ⟨od, J⟩ := inst_at I e1
      obtain ⟨m', hF⟩ := I.fr
      obtain ⟨fa, hm, run⟩ := run_mt1 (us := [.ref ad, u]) xr hc hj M I r2 (.cons ra (.cons rb .nil)) (.cons rfl (.cons r2' .nil)) q2
      have eg : g1 = fa := by
        have z := hm.at_
        rw [xr.K, k1] at z
        injection z with z; injection z with z; injection z
      subst eg
      exact PySem.W.sub_K hF I.ok.mod.kin J hm.at_ (by rw [xr.K]; exact k2) hm.fn run (hsl _ _)
  exact ⟨fun pins s I => PyProof.Rows.Subscript_ (binT pe pe I z fun v u s2 x y H2 I2 rx ry q => q.run pins s2 v u I2 rx ry)⟩
/-! ### o[k] = v -/
def NoSeq (G : Gc) (mt : Mt) : Prop := ∀ c f, mt c = some f → PySem.W.noSeq G.K (G.cad c) = true
def setG (mt : Mt) (x y z : A) (h : Hs) : Out Unit := match instOf x h with
  | some (c, _) => need (mt c) fun f => (f [x, y, z] h).bind fun _ h1 => .ok () h1
  | none => setD x y z h
theorem os_setG {j : Nat} {mt : Mt} (O : MtOk G "__setitem__" j mt) (ns : NoSeq G mt) (hj : j ≤ L.k) (hc : L.cm = true := by rfl) : OpS G L (setG mt) := by
  refine ⟨fun X xr σ H ρ h x y z v u w hr rx ry rz Q q => ?_⟩
  unfold setG at q
  cases hi : instOf x h with
  | none => rw [hi] at q; exact os_dict.run X xr σ H ρ h x y z v u w hr rx ry rz Q q
  | some pr =>
    obtain ⟨c, xs⟩ := pr
    rw [hi] at q
    obtain ⟨f, e, q⟩ := need_ok q
    obtain ⟨n, M⟩ := O c f e
    obtain ⟨ad, dx, vs, rfl, e1, _⟩ := inst_ok hr rx hi
    refine ⟨fun pins s ov iv wv I r1 r2 r3 => ?_⟩
    cases r1
    obtain ⟨od, J⟩ := inst_at I e1
    obtain ⟨m', hF⟩ := I.fr
    have q' : Po G L.W σ H ρ (RQ G fun _ H' => Q H') (f [x, y, z] h) := by
      revert q
      cases f [x, y, z] h with
      | ok a h1 => exact fun q H' ρ' e r v ra => q H' ρ' e r
      | ex x h1 => exact id
      | bad => exact id
    obtain ⟨fa, hm, run⟩ := run_mt (us := [.ref ad, iv, wv]) xr hc hj M I hr (.cons rx (.cons ry (.cons rz .nil))) (.cons rfl (.cons r2 (.cons r3 .nil))) q'
    exact PySem.W.ksp_setItem hF I.ok.mod.kin J (by rw [xr.K]; exact ns c f e) hm.at_ hm.fn (wpAny_mono run (fun _ s' ⟨v, H', I', r, q⟩ => ⟨H', I', q⟩) fun _ _ z => z)
/-! ### k in o -/
def inG (mt : Mt) (x y : A) (h : Hs) : Out Bool := match instOf y h with
  | some (c, _) => need (mt c) fun f => (f [y, x] h).bind isB
  | none => inA x y h
def inGv (mt : Mt) (x y : A) (h : Hs) : Out A := (inG mt x y h).bind fun b h1 => .ok (.bl b) h1
def ninGv (mt : Mt) (x y : A) (h : Hs) : Out A := (inG mt x y h).bind fun b h1 => .ok (.bl (!b)) h1
theorem isB_bind {W : WX} {m : Out A} {k : Bool → Hs → Out A} (q : Po G W σ H ρ (RQ G Q) ((m.bind isB).bind k)) : ∃ ok : True, Po G W σ H ρ (fun a H1 ρ1 => ∃ b, a = .bl b ∧ ∀ h1, m = .ok (.bl b) h1 → Po G W σ H1 ρ1 (RQ G Q) (k b h1)) m := by
  refine ⟨trivial, ?_⟩
  cases m with
  | ok a h1 =>
    cases a <;> try exact q.elim
    rename_i b
    intro H' ρ' e r
    exact ⟨b, rfl, fun h2 e2 => by cases e2; exact Po.at1 q e⟩
  | ex x h1 => exact q
  | bad => exact q
theorem inG_ok {j : Nat} {mt : Mt} {x y : A} {v u : V} {neg : Bool} (O : MtOk G "__contains__" j mt) (hj : j ≤ L.k) (hc : L.cm = true) (xr : Xr G X L) (hr : HR G H ρ h) (rx : RA G H ρ x v) (ry : RA G H ρ y u) (q : Po G L.W σ H ρ (RQ G Q) ((inG mt x y h).bind fun b h1 => .ok (.bl (if neg then !b else b)) h1)) :
    Cv X σ (if neg then .NotIn else .In) v u H Q := by
  unfold inG at q
  cases hi : instOf y h with
  | none => rw [hi] at q; exact inA_ok (m := fun b => .bl b) xr hr rx ry q
  | some pr =>
    obtain ⟨c, xs⟩ := pr
    rw [hi] at q
    dsimp only at q
    cases hmt : mt c with
    | none => rw [hmt] at q; exact q.elim
    | some f =>
      rw [hmt] at q
      obtain ⟨n, M⟩ := O c f hmt
      obtain ⟨ad, dx, vs, rfl, e1, _⟩ := inst_ok hr ry hi
      have q' : Po G L.W σ H ρ (RQ G fun w H' => ∃ b, w = .bl b ∧ Q (.bl (if neg then !b else b)) H') (f [y, x] h) := by
        have q : Po G L.W σ H ρ (RQ G Q) (((f [y, x] h).bind isB).bind fun b h1 => .ok (.bl (if neg then !b else b)) h1) := q
        revert q
        cases f [y, x] h with
        | ok a h1 =>
          cases a <;> try exact fun q => q.elim
          rename_i b
          exact fun q H' ρ' e r v ra => by cases ra; exact ⟨b, rfl, q H' ρ' e r _ .bl⟩
        | ex x h1 => exact id
        | bad => exact id
      refine ⟨fun pins s vv uu I r1 r2 => ?_⟩
      cases r2
      obtain ⟨od, J⟩ := inst_at I e1
      obtain ⟨m', hF⟩ := I.fr
      obtain ⟨fa, hm, run⟩ := run_mt (us := [.ref ad, vv]) xr hc hj M I hr (.cons ry (.cons rx .nil)) (.cons rfl (.cons r1 .nil)) q'
      cases neg with
      | false =>
        exact PySem.W.in_K hF I.ok.mod.kin J hm.at_ hm.fn (wpAny_mono run (fun w s' ⟨v', H', I', r, b, ev, q⟩ => by subst ev; cases r; exact wpAny_truthy_bool ⟨.bl b, H', I', rfl, q⟩) fun _ _ z => z)
      | true =>
        exact PySem.W.notIn_K hF I.ok.mod.kin J hm.at_ hm.fn (wpAny_mono run (fun w s' ⟨v', H', I', r, b, ev, q⟩ => by subst ev; cases r; exact wpAny_truthy_bool ⟨.bl (!b), H', I', rfl, q⟩) fun _ _ z => z)
theorem oc_inG {j : Nat} {mt : Mt} (O : MtOk G "__contains__" j mt) (hj : j ≤ L.k) (hc : L.cm = true := by rfl) : OpC G L .In (inGv mt) := ⟨fun X xr σ H ρ h x y v u hr rx ry Q q => inG_ok (neg := false) O hj hc xr hr rx ry q⟩
theorem oc_ninG {j : Nat} {mt : Mt} (O : MtOk G "__contains__" j mt) (hj : j ≤ L.k) (hc : L.cm = true := by rfl) : OpC G L .NotIn (ninGv mt) := ⟨fun X xr σ H ρ h x y v u hr rx ry Q q => inG_ok (neg := true) O hj hc xr hr rx ry q⟩
/-! ### len(o) -/
def lenBk (r : A) (h : Hs) : Out A := match r with | .int n => chk (decide (0 ≤ n ∧ n < 9223372036854775808)) (.ok (.int n) h) | _ => .bad
def lenG (mt : Mt) (x : A) (h : Hs) : Out A := match instOf x h with
  | some (c, _) => need (mt c) fun f => (f [x] h).bind lenBk
  | none => lenD x h
theorem ok_lenG {j : Nat} {mt : Mt} (O : MtOk G "__len__" j mt) (hj : j + 1 ≤ L.k) (hc : L.cm = true := by rfl) : OpK G L (.builtin "len") (f1 (lenG mt)) := by
  refine ⟨fun X xr σ H ρ h xs vs hr rs Q q => ?_⟩
  obtain ⟨x, v, rfl, rfl, rx, q⟩ := ok_one rs q
  unfold lenG at q
  cases hi : instOf x h with
  | none => rw [hi] at q; exact ok_lenD.run X xr σ H ρ h [x] [v] hr rs Q q
  | some pr =>
    obtain ⟨c, xs⟩ := pr
    rw [hi] at q
    obtain ⟨f, e, q⟩ := need_ok q
    obtain ⟨n, M⟩ := O c f e
    obtain ⟨ad, dx, vs, rfl, e1, _⟩ := inst_ok hr rx hi
    have q' : Po G L.W σ H ρ (RQ G fun w H' => ∃ n, w = .int n ∧ (0 ≤ n ∧ n < 9223372036854775808) ∧ Q (.int n) H') (f [x] h) := by
      revert q
      cases f [x] h with
      | ok a h1 =>
        cases a <;> try exact fun q => q.elim
        rename_i n
        intro q H' ρ' e r v ra
        cases ra
        obtain ⟨k, q⟩ := chk_ok (q : Po G L.W σ H ρ (RQ G Q) (chk _ _))
        exact ⟨n, rfl, of_decide_eq_true k, q H' ρ' e r _ .int⟩
      | ex x h1 => exact id
      | bad => exact id
    refine ⟨fun pins s us I r => ?_⟩
    obtain ⟨u, rfl, r1⟩ := vals1 r
    cases r1
    obtain ⟨od, J⟩ := inst_at I e1
    obtain ⟨m', hF⟩ := I.fr
    obtain ⟨fa, hm, run⟩ := run_mt1 (us := [.ref ad]) xr hc hj M I hr (.cons rx .nil) (.cons rfl .nil) q'
    refine PySem.W.len_K hF I.ok.mod.kin J hm.at_ hm.fn (wpAny_mono run (fun w s' ⟨v', H', I', r, n, ev, kn, q⟩ => ?_) fun _ _ z => z)
    subst ev
    obtain ⟨t, rfl⟩ := r
    exact ⟨kn, ⟨.int n, H', I'.tok _, ⟨_, rfl⟩, q⟩⟩
/-! ### methods of built-in types, by the value -/
inductive Bk where
  | str | lst | dct
def Bk.nm : Bk → String
  | .str => "str" | .lst => "list" | .dct => "dict"
def kindB (x : A) (h : Hs) : Option Bk := match x with
  | .str _ => some .str
  | .lst _ => some .lst
  | .dk _ => some .dct
  | .dt _ => some .dct
  | .ref n => (match h[n]? with | some (.lst _) => some .lst | some (.dk _) => some .dct | some (.dt _) => some .dct | _ => none)
  | _ => none
abbrev Bt := Bk → Option (A → List A → Hs → Out A)
structure BtC (G : Gc) (L : Wh) (m : Str) (T : Bk) (g : A → List A → Hs → Out A) : Prop where
  ex : ∃ id, PlainAttrs T.nm ∧ Slot T.nm m id ∧ typeOf (.builtin id) = pure (.type "method_descriptor") ∧ OpM G L id g
def BtOk (G : Gc) (L : Wh) (m : Str) (bt : Bt) : Prop := ∀ T g, bt T = some g → BtC G L m T g
def eMb (bt : Bt) (fo : FE) (fs : FA) : FE := fun sl h => (fo sl h).bind fun x h1 => need (kindB x h1) fun T => need (bt T) fun g => (fs sl h1).bind fun xs h2 => g x xs h2
theorem kind_ok {pins : List (Addr × Obj)} {s : Shared} {x : A} {v : V} {u : Value} {T : Bk} (I : Inv X pins σ H s) (hr : HR G H ρ h) (r : RA G H ρ x v) (ru : RelV v u) (e : kindB x h = some T) :
    s.TypeIs u T.nm ∧ ∀ a, u = .ref a → ∃ ob, s.heap.get? a = some ob ∧ ob.dict = none := by
  have lst : ∀ {a : Addr} {vs : List V}, H a = some (.lst vs) → s.TypeIs (.ref a) "list" ∧ ∀ b, Value.ref a = .ref b → ∃ ob, s.heap.get? b = some ob ∧ ob.dict = none := fun {a vs} e => by
    exact tyV_is (T := "list") (x := .ref a) I rfl (.inl ⟨rfl, vs, .inl (.inl e)⟩)
  have dct : ∀ {a : Addr}, IsD H a → s.TypeIs (.ref a) "dict" ∧ ∀ b, Value.ref a = .ref b → ∃ ob, s.heap.get? b = some ob ∧ ob.dict = none := fun {a} e => by
    obtain ⟨t1, t2, _⟩ := isD_at I e
    exact ⟨t1, t2⟩
  unfold kindB at e
  cases r with
  | str => cases e; obtain ⟨t, rfl⟩ := ru; exact ⟨typeIs_str s _ t, fun _ e => nomatch e⟩
  | lst h1 _ _ _ => cases e; cases ru; exact lst h1
  | dk h1 _ _ _ => cases e; cases ru; exact dct (.inl ⟨_, .inl h1⟩)
  | dt h1 _ _ _ => cases e; cases ru; exact dct (.inr ⟨_, .inl h1⟩)
  | ref hn hb =>
    dsimp only at e
    cases ru
    split at e
    · cases e
      rename_i q
      obtain ⟨a, e1, e2, vs, e3, e4⟩ := hr.look (.ref hn hb) q (fun z => by cases z)
      cases e1
      exact lst e3
    · cases e
      rename_i q
      obtain ⟨a, e1, e2, vs, e3, e4⟩ := hr.look (.ref hn hb) q (fun z => by cases z)
      cases e1
      exact dct (.inl ⟨_, .inl e3⟩)
    · cases e
      rename_i q
      obtain ⟨a, e1, e2, vs, e3, e4⟩ := hr.look (.ref hn hb) q (fun z => by cases z)
      cases e1
      exact dct (.inr ⟨_, .inl e3⟩)
    · cases e
  | _ => cases e
theorem de_mb {m : Str} {bt : Bt} (O : BtOk G L m bt) (ho : DE G L o fo) (ha : DA G L (e :: es) fs)
    (hbase : ∀ env, attributeBase o m env (eval o env) = eval o env := by intro _; rfl)
    (hfew : ∀ env, ((backTo cpos (starEach (e :: es) env)).all (fun x => !x.1) && (backToKw cpos (keywordEach [] env)).all (fun x => x.1.isSome)
      && decide ((e :: es).length + ([] : List Keyword).length + (if ([] : List Keyword).isEmpty then 0 else 1) < 30)) = true := by intro _; rfl)
    (hline : (apos.endLine == cpos.line) = true := by rfl) (he : NoSt e = true := by rfl) (hpl : ∀ env, (backTo cpos (starEach es env)).any (·.1) = false := by intro _; rfl) : DE G L (.Call (.Attribute o m apos) (e :: es) [] cpos) (eMb bt fo fs) := by
  refine ⟨fun X xr σ H ρ sl h sr hh Q q => ⟨fun pins s I => ?_⟩⟩
  have z : E X o σ H fun v H1 => ∃ x h1 ρ1 T g, HR G H1 ρ1 h1 ∧ RA G H1 ρ1 x v ∧ kindB x h1 = some T ∧ bt T = some g ∧ As X (e :: es) σ H1 fun vs H2 => ∀ id, OpM G L id g → Sx.Mt X id v vs H2 Q :=
    DE.bind ho xr sr hh q fun x h1 v H1 ρ1 e1 r1 ra s1 q1 => by
      obtain ⟨T, hT, q1⟩ := need_ok q1
      obtain ⟨g, hg, q1⟩ := need_ok q1
      exact ⟨x, h1, ρ1, T, g, r1, ra, hT, hg, DA.bind ha xr s1 r1 q1 fun xs h2 vs H2 ρ2 e2 r2 rs s2 q2 id om => om.run X xr σ H2 ρ2 h2 x xs v vs r2 (ra.mono e2) rs Q q2⟩
  refine wpAny_Call_method_late (hbase _) (hfew _) hline rfl (thn (z.run pins s I) fun u s1 ⟨v, H1, I1, r1, x, h1, ρ1, T, g, hr1, ra, hT, hg, q1⟩ => ?_)
  obtain ⟨id, pa', slot, hty, om⟩ := (O T g hg).ex
  obtain ⟨k1, k2⟩ := kind_ok I1 hr1 ra r1 hT
  refine ⟨T.nm, id, pa', slot, hty, k1, k2, ?_⟩
  have hA := q1.run cpos pins s1 I1
  have hs := star_cons (es := es) he (env := X.env)
  rw [hs] at hA ⊢
  refine Calls.callWith_builtin (by show (false || (backTo cpos (starEach es X.env)).any (·.1)) = false; rw [hpl] <;> rfl) (Calls.evalArgs_plain ?_)
  exact thn hA fun us s2 ⟨vs, H2, I2, r2, q2⟩ => (q2 id om).run pins s2 σ u us I2 r1 r2
def eMb0 (bt : Bt) (fo : FE) : FE := fun sl h => (fo sl h).bind fun x h1 => need (kindB x h1) fun T => need (bt T) fun g => g x [] h1
theorem de_mb0 {m : Str} {bt : Bt} (O : BtOk G L m bt) (ho : DE G L o fo) (hbase : ∀ env, attributeBase o m env (eval o env) = eval o env := by intro _; rfl) (hline : (apos.endLine == cpos.line) = true := by rfl) :
    DE G L (.Call (.Attribute o m apos) [] [] cpos) (eMb0 bt fo) := by
  refine ⟨fun X xr σ H ρ sl h sr hh Q q => ⟨fun pins s I => ?_⟩⟩
  have z : E X o σ H fun v H1 => ∃ x h1 ρ1 T g, HR G H1 ρ1 h1 ∧ RA G H1 ρ1 x v ∧ kindB x h1 = some T ∧ bt T = some g ∧ ∀ id, OpM G L id g → Sx.Mt X id v [] H1 Q :=
    DE.bind ho xr sr hh q fun x h1 v H1 ρ1 e1 r1 ra s1 q1 => by
      obtain ⟨T, hT, q1⟩ := need_ok q1
      obtain ⟨g, hg, q1⟩ := need_ok q1
      exact ⟨x, h1, ρ1, T, g, r1, ra, hT, hg, fun id om => om.run X xr σ H1 ρ1 h1 x [] v [] r1 ra .nil Q q1⟩
  refine wpAny_Call_method0_late (hbase _) hline (thn (z.run pins s I) fun u s1 ⟨v, H1, I1, r1, x, h1, ρ1, T, g, hr1, ra, hT, hg, q1⟩ => ?_)
  obtain ⟨id, pa', slot, hty, om⟩ := (O T g hg).ex
  obtain ⟨k1, k2⟩ := kind_ok I1 hr1 ra r1 hT
  exact ⟨T.nm, id, pa', slot, hty, k1, k2, Calls.callWith_builtin rfl (PySem.evalArgs_none ((q1 id om).run pins s1 σ u [] I1 r1 .nil))⟩
/-! ### d.pop(k) -/
def popD (x : A) (xs : List A) (h : Hs) : Out A := match x with
  | .ref n => (match xs with
    | [y] => (match h[n]? with
      | some (.dk kvs) => need (keyA y) fun k => need (valA kvs k) fun v => .ok v (h.set n (.dk (dropA kvs k)))
      | some (.dt kvs) => need (tkA y) fun k => need (valA kvs k) fun v => .ok v (h.set n (.dt (dropA kvs k)))
      | _ => .bad)
    | _ => .bad)
  | _ => .bad
theorem d_popT {pins : List (Addr × Obj)} {s : Shared} {ad b : Addr} {kvs : List (List Key × V)} {k : List Key} {v : V} {Ar : Around} {E : Value → Shared → Prop} {Q : Value → Shared → Prop} (hu : Ar.units + 1 < cLine) (I : Inv X pins σ H s) (e : H ad = some (.dT kvs)) (eb : H b = some (.tup (k.map kV))) (l : valV kvs k = some v)
    (q : ∀ w' s', Inv X pins σ (upd H ad (.dT (dropK kvs k))) s' → RelV v w' → Q w' s') : wpAny (model X.prog X.w) Ar (call (.builtin "dict.pop") [.ref ad, .ref b]) Q E s := by
  obtain ⟨z, hd, xs', rel, dd⟩ := dt_of I.hok e
  have hz : xs'.length ≤ sizeLine := by rw [← Paired.length rel]; exact z
  have r := rel.val k
  rw [l] at r
  obtain ⟨w0, hw, rw0⟩ := RelO.some_of (v := v) (o := (atKey xs' k).map (·.2)) r
  obtain ⟨p0, hp, hp2⟩ := Option.map_eq_some_iff.mp hw
  refine call_meetsIn PySem.F.slot_dict_pop dd.typeIs PySem.F.entry_dict_pop (PySem.F.args_dict_pop_2 _ _) (meetsH_dict_pop (tupleKind (mixKind X.prog X.w)) ad b hd [] (.inl rfl))
    ⟨tupleKind_room_in1 hu, k, xs', key_of I.hok eb, dd, hz, fun p' hp' h' dd' hs => ?_, fun hn => by rw [hp] at hn; cases hn⟩
  rw [hp] at hp'
  cases hp'
  obtain ⟨o, es, ep, hq, h2, h3, h4, _, h5⟩ := dd'
  refine q _ _ (d_write I (by rw [e]; exact True.intro) hs ⟨o, hq⟩ ⟨Nat.le_trans (dropK_le kvs k) z, hd, _, (L2.DX.KT_drop k rel).keeps (fun c ys ec => (by rw [upd_ne (ne_of ec e (fun z => nomatch z))]; exact ec)), o, es, ep, hq, h2, h3, h4, h5⟩) ?_
  rw [hp2]; exact rw0
theorem om_popD : OpM G L "dict.pop" popD := by
  refine ⟨fun X xr σ H ρ h x xs v vs hr ra rs Q q => ?_⟩
  cases x <;> try exact q.elim
  rename_i n
  unfold popD at q
  cases xs with
  | nil => exact q.elim
  | cons y r =>
    cases r with
    | cons _ _ => exact q.elim
    | nil =>
      obtain ⟨u, us, rfl, ry, rs⟩ := rs.uncons
      rw [rs.unnil]
      dsimp only at q
      split at q
      · rename_i kvs hn
        obtain ⟨k, hk, q⟩ := need_ok q
        obtain ⟨z, hz, q⟩ := need_ok q
        obtain ⟨ad, rfl, e2, ws, e3, rk⟩ := hr.look ra hn (fun z => by cases z)
        have hu := keyA_ok ry hk
        subst hu
        have ro := rk.val k
        rw [hz] at ro
        obtain ⟨w, ew, rw_⟩ := ro.some_l
        refine ⟨fun pins s σ1 v us I r1 r2 => ?_⟩
        cases r1
        obtain ⟨u, rfl, r3⟩ := vals1 r2
        have ex := hr.ext_set (o := .dK (dropK ws k)) e2
        exact d_pop I e3 r3 ew (.inl rfl) fun w' s' I' rw' => ⟨w, _, I', rw', q _ ρ ex (hr.set e2 ⟨_, upd_same, (rk.mono ex).drop k⟩) w (rw_.mono ex)⟩
      · rename_i kvs hn
        obtain ⟨k, hk, q⟩ := need_ok q
        obtain ⟨z, hz, q⟩ := need_ok q
        obtain ⟨ad, rfl, e2, ws, e3, rk⟩ := hr.look ra hn (fun z => by cases z)
        obtain ⟨b, rfl, hb⟩ := tkA_ok ry hk
        have ro := rk.val k
        rw [hz] at ro
        obtain ⟨w, ew, rw_⟩ := ro.some_l
        refine ⟨fun pins s σ1 v us I r1 r2 => ?_⟩
        cases r1
        obtain ⟨u, rfl, r3⟩ := vals1 r2
        cases r3
        have ex := hr.ext_set (o := .dT (dropK ws k)) e2
        exact d_popT (by have := xr.un; omega) I e3 hb ew fun w' s' I' rw' => ⟨w, _, I', rw', q _ ρ ex (hr.set e2 ⟨_, upd_same, (rk.mono ex).drop k⟩) w (rw_.mono ex)⟩
      · exact q.elim
/-! ### stars in displays -/
theorem da_star {sp : Pos} (ha : DE G L e fa) (hs : DA G L es fs) : DA G L (.Starred e sp :: es) (aStar fa fs) := by
  refine ⟨fun X xr σ H ρ sl h sr hh Q q => ?_⟩
  have z : E X e σ H fun v H1 => ∃ a us, v = .ref a ∧ (SqT X.K H1 a us ∨ SqL X.K H1 a us) ∧ As X es σ H1 fun vs H2 => Q (us ++ vs) H2 :=
    DE.bind ha xr sr hh q fun x h1 v H1 ρ1 e1 r1 ra s1 q1 => by
      obtain ⟨xs, hi, q1⟩ := need_ok q1
      obtain ⟨a, us, rfl, hq, rl⟩ := seq_ok r1 ra hi
      exact ⟨a, us, rfl, by rw [xr.K]; exact hq.symm, DA.bind hs xr s1 r1 q1 fun ys h2 vs H2 ρ2 e2 r2 rs s2 q2 => q2 H2 ρ2 .refl r2 _ ((rl.mono e2).append rs)⟩
  exact ⟨fun pos pins s I => (StX.pa_star (p := sp) (te := fun σ H Q => E X e σ H Q) (t := fun σ H Q => As X es σ H Q) pe pa).run pos pins s σ H Q I (z.mono fun v H1 q => q)⟩
/-! ### o[k] op= e -/
def sAugS (fo fi fa : FE) (gx : A → A → Hs → Out A) (gi : A → A → Hs → Out A) (gs : A → A → A → Hs → Out Unit) : FS := fun sl h => (fo sl h).bindS sl fun x h1 => (fi sl h1).bindS sl fun y h2 => (gx x y h2).bindS sl fun c h3 => (fa sl h3).bindS sl fun z h4 => (gi c z h4).bindS sl fun w h5 => (gs x y w h5).bindS sl fun _ h6 => .nx sl h6
/-- getItem by values -/
structure Gv (X : Cx) (σ : St) (o i : V) (H : Hp) (Q : VK) : Prop where
  run : ∀ (pins : List (Addr × Obj)) (s : Shared) (ov iv : Value), Inv X pins σ H s → RelV o ov → RelV i iv → wpAny (model X.prog X.w) X.A (getItem ov iv) (EP X pins σ Q) X.xe s
structure OpGt (G : Gc) (L : Wh) (g : A → A → Hs → Out A) : Prop where
  run : ∀ X, Xr G X L → ∀ σ H ρ h x y v u, HR G H ρ h → RA G H ρ x v → RA G H ρ y u → ∀ Q, Po G L.W σ H ρ (RQ G Q) (g x y h) → Gv X σ v u H Q
def gtD (x y : A) (h : Hs) : Out A := need (ddOf x h) fun d => need (ddGet d y) fun r => need r fun z => .ok z h
theorem og_dict : OpGt G L gtD := by
  refine ⟨fun X xr σ H ρ h x y v u hr rx ry Q q => ?_⟩
  obtain ⟨d, hd, q⟩ := need_ok q
  obtain ⟨r, er, q⟩ := need_ok q
  obtain ⟨z, rfl, q⟩ := need_ok q
  obtain ⟨ad, rfl, at_⟩ := dd_ok hr rx hd
  obtain ⟨r', g, ro⟩ := ddGet_ok at_ ry er
  obtain ⟨w, rfl, rw_⟩ := ro.some_l
  refine ⟨fun pins s v u I r1 r2 => ?_⟩
  cases r1
  exact d_getItem (by have := xr.un; omega) I g r2 fun w' s' I' rw' => ⟨w, H, I', rw', q H ρ .refl hr w rw_⟩
theorem ds_augS {op : Operator} {gx gi : A → A → Hs → Out A} {gs : A → A → A → Hs → Out Unit} (hx : OpGt G L gx) (hi : OpI G L op gi) (hs : OpS G L gs) (ho : DE G L o fo) (hk : DE G L i fi) (ha : DE G L e fa)
    (has : ∀ ov iv new, augStore i ov iv new = (do holding [new, ov, iv] (setItem ov iv new); release [new, ov, iv] []; pure .next) := by intros; rfl) : DS G L (.AugAssign (.Subscript o i tpos) op e pos) (sAugS fo fi fa gx gi gs) := by
  refine ⟨fun X xr σ H ρ sl h sr hh nx rt bk ct q => ⟨fun pins s I => ?_⟩⟩
  have z : E X o σ H fun v H1 => E X i σ H1 fun u H2 => Gv X σ v u H2 fun c H3 => E X e σ H3 fun d H4 => Iv X σ op c d H4 fun w H5 => Sv X σ v u w H5 fun H6 => nx σ H6 :=
    DE.bindS ho xr sr hh q fun x h1 v H1 ρ1 e1 r1 rx s1 q1 => DE.bindS hk xr s1 r1 q1 fun y h2 u H2 ρ2 e2 r2 ry s2 q2 => by
      have rx2 := rx.mono e2
      have st : ∀ {α : Type} {m : Out α} {k : α → Hs → OutS} {H : Hp} {ρ : Rho} {sl : Sl} {R : α → Hp → Rho → Prop}, SR G H ρ sl σ → PoS G L.W H ρ nx rt bk ct (m.bindS sl k) → (∀ a h1 H1 ρ1, Ext H ρ H1 ρ1 → HR G H1 ρ1 h1 → SR G H1 ρ1 sl σ → PoS G L.W H1 ρ1 nx rt bk ct (k a h1) → R a H1 ρ1) → Po G L.W σ H ρ R m := fun {α m k H ρ sl R} sr q c => by
        cases m with
        | ok a h1 => exact fun H1 ρ1 e1 r1 => c a h1 H1 ρ1 e1 r1 (sr.mono e1) (PoS.at1 (m := k a h1) q e1)
        | ex z h1 => exact fun c d H' ρ' e' r' rx => q c d σ H' ρ' e' r' (sr.mono e') rx
        | bad => exact q
      refine hx.run X xr σ H2 ρ2 h2 x y v u r2 rx2 ry _ (st s2 q2 fun c h3 H3 ρ3 e3 r3 s3 q3 cv rc => ?_)
      refine DE.bindS ha xr s3 r3 q3 fun d h4 dv H4 ρ4 e4 r4 rd s4 q4 => ?_
      refine hi.run X xr σ H4 ρ4 h4 c d cv dv r4 (rc.mono e4) rd _ (st s4 q4 fun w h5 H5 ρ5 e5 r5 s5 q5 wv rw_ => ?_)
      refine hs.run X xr σ H5 ρ5 h5 x y w v u wv r5 (((rx2.mono e3).mono e4).mono e5) (((ry.mono e3).mono e4).mono e5) rw_ _ (st s5 q5 fun _ h6 H6 ρ6 e6 r6 s6 q6 => q6 σ H6 ρ6 .refl r6 s6)
  refine wpAny_AugAssign_SubscriptAny (thn (z.run pins s I) fun ov s1 ⟨x1, H1, I1, r1, q1⟩ => ?_) has
  refine thn (q1.run pins s1 I1) fun iv s2 ⟨x2, H2, I2, r2, q2⟩ => ?_
  refine thn (q2.run pins s2 ov iv I2 r1 r2) fun old s3 ⟨x3, H3, I3, r3, q3⟩ => ?_
  refine thn (q3.run pins s3 I3) fun v s4 ⟨x4, H4, I4, r4, q4⟩ => ?_
  refine thn (q4.run pins s4 old v I4 r3 r4) fun new s5 ⟨x5, H5, I5, r5, q5⟩ => ?_
  exact thn (q5.run pins s5 ov iv new I5 r1 r2 r5) fun _ s6 ⟨H6, I6, q6⟩ => ⟨σ, H6, I6, q6⟩
end
end Rx
set_option Elab.async false
set_option linter.all false
set_option maxRecDepth 100000
set_option maxHeartbeats 4000000
/-! RxI: what is walked, by its value: a list, a tuple, a text, an own instance whose __iter__ hands back the iterator of a field. -/
namespace Rx
open PySem L2 Sx
section
variable {G : Gc} {L : Wh} {X : Cx} {σ : St} {H : Hp} {ρ : Rho} {sl : Sl} {h : Hs} {Q : VK} {e o tg iter a b i : Expr} {fa : FE} {pos p : Pos}
/-! ### a def of whose caller the heap's size is told -/
structure FnN (P : Program) (w : World) (K : PySem.W.Frag) (mg : Str → Option Value) (base : Heap) (k : Nat) (f : Addr) (fd : FuncData) (ps : List Str) (sp : Nat → Sp) : Prop where
  len : ∀ n vs H Q E, sp n vs H Q E → vs.length = ps.length
  run : ∀ (A : Around) (outer : List Env) (s : Shared) (H : Hp) (args : Args) (us : List Value) (vs : List V) (Q : VK) (E : XK), Room k A → Env0 P w K mg base A outer s H → BindsTo s fd args (ps.zip us) → Vals vs us → sp s.heap.objs.size vs H Q E →
    codeAny (model P w) A (.call (.ref f) args) (CR (L2.CX P w) outer P w H s Q E) s
open PySem.Spec PyProof.Rows in
theorem fn_ofN {P : Program} {w : World} {K : PySem.W.Frag} {mg : Str → Option Value} {base : Heap} {k : Nat} {f : Addr} {name qual : Str} {params : Arguments} {body : List Stmt} {scope : Scope} {dV kV doc pm cdv ct oc : Value} {an od : Option Addr}
    {osl : Array (Option Value)} {N ps : List Str} {sp : Nat → Sp} (lk : K.lookup f = some ⟨oc, od, .func (PySem.W.fnOf name qual params body scope dV kV doc pm an cdv ct), osl⟩) (hcd : PySem.W.codeIn K cdv qual = true) (S : FnScope N ps scope)
    (len : ∀ n vs H Q E, sp n vs H Q E → vs.length = ps.length)
    (hbody : ∀ (A : Around) (outer : List Env) (s : Shared) (H : Hp) (vs : List V) (Q : VK) (E : XK), Room k (A.deeper (PyProof.Rows.envOfC qual scope s.heap.objs.size f cdv)) → sp s.heap.objs.size vs H Q E →
      ∃ t, PSs (cxOf (L2.CX P w) P w K mg base N qual scope f cdv A outer s H E) body t ∧ t { nx := fun _ H' => Q .non H', rt := Q } (start N vs) H) :
    FnN P w K mg base (k + 1) f (PySem.W.fnOf name qual params body scope dV kV doc pm an cdv ct) ps sp := by
  refine ⟨len, fun A outer s H args us vs Q E hr e0 hb r hsp => ?_⟩
  have hl := len _ _ _ _ _ hsp
  have KX : K.In s.heap := e0.mod.kin.keeps fun b o e => (e0.bs b o e).1
  have lim : s.heap.NoLimit := e0.mod.nolimit.keeps fun b o e => (e0.bs b o e).1
  have hkind : ∀ y ∈ ps.zip us, scope.names.lookup y.1 = some .local ∨ (scope.names.lookup y.1 = some .cell ∧ ((cellsFrom (s.heap.objs.size + 1) scope.names []).lookup y.1).isSome = true) := fun ⟨n, v⟩ hy => by
    rcases S.par n (List.of_mem_zip hy).1 with q | q
    · exact .inl q
    · exact .inr ⟨q, PySem.W.cellsFrom_some _ _ _ (.inl q)⟩
  refine codeAny_call_function hr.depth (KX _ _ lk) rfl S.co S.gen rfl (PySem.W.codeRec_of KX hcd) (hb _ _ _ _ ?_)
  refine wpAny_newFunctionEnv_cells S.kind hkind fun env he s1 x => ?_
  subst he
  refine ⟨lim.keeps x.toInCall.keep, codeAny_func ?_⟩
  obtain ⟨t, ht, hq⟩ := hbody A outer s H vs Q E (hr.deeper _) hsp
  have I : Inv (cxOf (L2.CX P w) P w K mg base N qual scope f cdv A outer s H E) [] (start N vs) H s1 := inv_start S hr.hd e0 hl r x
  refine wpAny_mono (ht.run [] s1 (start N vs) H _ I hq) (fun fl s' hs => ?_) fun e s' hs => hs
  have fin : ∀ {σ' : L2.St} {H' : Hp} {v : V} {u : Value}, Inv (cxOf (L2.CX P w) P w K mg base N qual scope f cdv A outer s H E) [] σ' H' s' → RelV v u → Q v H' → CE outer P w H s Q u s' :=
    fun {σ' H' v u} J rv q => ⟨v, H', J.os, J.bare, J.base, J.hok, rv, q⟩
  cases fl with
  | ret u =>
    obtain ⟨v, σ', H', J, rv, q⟩ := hs
    exact fin J rv q
  | next =>
    obtain ⟨σ', H', J, q⟩ := hs
    exact fin (v := V.non) (u := Value.none) J rfl q
  | brk =>
    obtain ⟨_, _, _, q⟩ := hs
    exact False.elim q
  | cont =>
    obtain ⟨_, _, _, q⟩ := hs
    exact False.elim q
/-! ### __iter__: return iter(self.f) -/
def ItrO (tp : Bool) (l it : Addr) : HO := .ext fun h => cond tp (h.IsTupleIter it l 0) (h.IsListIter it l 0)
theorem itrO_ok {P : Program} {w : World} {H : Hp} {h : Heap} {tp : Bool} {l it : Addr} (e : cond tp (h.IsTupleIter it l 0) (h.IsListIter it l 0)) : ObjOk P w H h it (ItrO tp l it) := by
  refine ⟨e, ?_, fun h1 h2 q k => ?_⟩
  · cases tp with
    | true => obtain ⟨o, e, _⟩ := e; exact ⟨o, e⟩
    | false => obtain ⟨o, e, _⟩ := e; exact ⟨o, e⟩
  · cases tp with
    | true => obtain ⟨o, e, z⟩ := q; exact ⟨o, k _ e, z⟩
    | false => obtain ⟨o, e, z⟩ := q; exact ⟨o, k _ e, z⟩
def SqAt (K : PySem.W.Frag) (H : Hp) (l : Addr) (zs : List V) : Bool → Prop
  | true => SqT K H l zs
  | false => SqL K H l zs
def rIterX (K : PySem.W.Frag) (n : Nat) : List V → Hp → VK → Prop := fun xs H Q => ∃ (l : Addr) (zs : List V) (tp : Bool), xs = [.ref l] ∧ SqAt K H l zs tp ∧ ∀ it, H it = none → n ≤ it → Q (.ref it) (upd H it (ItrO tp l it))
theorem call_iterT {prog : Program} {w : World} {A : Around} {E : Value → Shared → Prop} {s : Shared} {l : Addr} {items : Array Value} {Q : Value → Shared → Prop} (hl : s.heap.IsTuple l items)
    (h : Q (.ref s.heap.objs.size) { s with heap := s.heap.push { cls := .type "tuple_iterator", data := .fields #[.ref l, .int 0 0] } }) : wpAny (model prog w) A (call (.builtin "iter") [.ref l]) Q E s := by
  refine Calls.call_function_entry (by decide +kernel) (by decide +kernel) PySem.W.kdk_entry_iter (PySem.W.kdk_args_iter _) ?_
  unfold Builtin.«iter»
  refine wpAny_bind (m := someArgs "iter" 1 2 _) (wpAny_of_eq (a := [Value.ref l]) (by first | rfl | kernel_rfl!) ?_)
  show wpAny _ _ (pyIter (.ref l) >>= _) _ _ _
  refine wpAny_bind (wpAny_pyIter_tuple hl ?_)
  exact wpAny_pure ⟨_, rfl, h⟩
theorem call_iterX : CallR X (.builtin "iter") (rIterX X.K X.s_0.heap.objs.size) := by
  intro pins s σ H xs us Q I r h
  obtain ⟨l, zs, tp, rfl, hq, q⟩ := h
  obtain ⟨u, rfl, ru⟩ := vals1 r
  cases ru
  cases tp with
  | false =>
    obtain ⟨its, rv, pl, hz⟩ := I.list hq
    refine GNX.call_iter pl.isList ?_
    exact ⟨.ref s.heap.objs.size, _, I.laid (t' := s.toks) (fun b u e => Heap.get?_push_of_some _ e) (Nat.le_refl _) (itrO_ok (tp := false) ⟨_, Heap.get?_push_size _ rfl, rfl, rfl⟩), rfl, q _ (I.hok.fresh (Nat.le_refl _)) I.sz⟩
  | true =>
    obtain ⟨its, rv, pl, hz⟩ := I.tuple hq
    refine call_iterT (show s.heap.IsTuple l its.toArray from pl) ?_
    exact ⟨.ref s.heap.objs.size, _, I.laid (t' := s.toks) (fun b u e => Heap.get?_push_of_some _ e) (Nat.le_refl _) (itrO_ok (tp := true) ⟨_, Heap.get?_push_size _ rfl, rfl, rfl⟩), rfl, q _ (I.hok.fresh (Nat.le_refl _)) I.sz⟩
def spIt (K : PySem.W.Frag) (C : Addr) (f : Str) (n : Nat) : Sp := fun vs H Q _ => ∃ (x dx : Addr) (flds : List (Str × V)) (l : Addr) (zs : List V) (tp : Bool), vs = [.ref x] ∧ H x = some (.ins C dx flds) ∧ flds.lookup f = some (.ref l) ∧ SqAt K H l zs tp ∧
  ∀ it, H it = none → n ≤ it → Q (.ref it) (upd H it (ItrO tp l it))
theorem fn_iter {x qual : Str} {st : Stmt} {fa C : Addr} {fd : FuncData} {self fld : Str} {p1 p2 p3 p4 p5 : Pos} (Fn : Fun G.K x qual st fa fd) (S : FnScope [self] [self] (defScope st)) (c : Cls G.K C) (na : NoAttr G.K C fld)
    (hb : defBody st = [.Return (some (.Call (.Name "iter" p1) [.Attribute (.Name self p2) fld p3] [] p4)) p5]) (hsl : (defScope st).names.lookup self = some .local) (hsd : (self == ("__debug__" : Str)) = false) (hsc : (self == ("__classdict__" : Str)) = false)
    (hit : (defScope st).names.lookup ("iter" : Str) = some .globalImplicit) (hm : G.mg "iter" = none) : FnN G.P G.w G.K G.mg G.base 1 fa fd [self] (spIt G.K C fld) := by
  obtain ⟨oc, od, kV, doc, pm, an, cdv, ct, osl, rfl, lk, hcd⟩ := Fn.ex
  refine fn_ofN lk hcd S (fun n vs H Q E ⟨_, _, _, _, _, _, e, _⟩ => by rw [e]; rfl) fun A outer s H vs Q E hr hsp => ?_
  obtain ⟨x, dx, flds, l, zs, tp, rfl, e1, e2, e3, q⟩ := hsp
  rw [hb]
  let X := cxOf (L2.CX G.P G.w) G.P G.w G.K G.mg G.base [self] qual (defScope st) fa cdv A outer s H E
  have vs : Vis X.env.scope self := .inl hsl
  refine ⟨_, pss_one (ps_ret (pe_callB (X := X) call_iterX (show Gl X "iter" from hit) hm (by first | rfl | decide +kernel) (pa_cons (pe_fld (pe_var (i := 0) rfl vs hsd hsc) (by rfl)) pa_nil))), ?_⟩
  exact ⟨_, rfl, x, C, dx, flds, .ref l, rfl, e1, c, na, e2, l, zs, tp, rfl, e3, q⟩
/-- a class's __iter__: the field whose iterator it hands back -/
structure ItC (G : Gc) (c j : Nat) : Prop where
  nd : (G.cfs c).Nodup
  ex : ∃ (fa : Addr) (fd : FuncData) (self fld : Str), FnN G.P G.w G.K G.mg G.base 1 fa fd [self] (spIt G.K (G.cad c) fld) ∧ Meth G.K (G.cad c) "__iter__" fa ∧ Binds G.K fd [self] [] ∧ (G.cfs c)[j]? = some fld
def ItOk (G : Gc) (itf : Nat → Option Nat) : Prop := ∀ c j, itf c = some j → ItC G c j
/-- what is walked of a value -/
def walkA (itf : Nat → Option Nat) (x : A) (h : Hs) : Option (List A) := match x with
  | .lst xs => some xs
  | .tup xs => some xs
  | .ctp xs => some xs
  | .str z => some (signs z)
  | _ => (instOf x h).bind fun p => (itf p.1).bind fun j => p.2[j]?.bind fun y => match y with
    | .lst xs => some xs
    | .tup xs => some xs
    | .ctp xs => some xs
    | _ => none
def iAny (itf : Nat → Option Nat) (fa : FE) : FA := fun sl h => (fa sl h).bind fun x h1 => need (walkA itf x h1) fun xs => .ok xs h1
theorem pie_list {pins : List (Addr × Obj)} {s : Shared} {R : It → Hp → Prop} {l : Addr} {vs : List V} {Ar : Around} {E : Value → Shared → Prop} (I : Inv X pins σ H s) (hq : SqL X.K H l vs) (q : R (Itl X.K l) H) : wpAny (model X.prog X.w) Ar (pyIter (.ref l)) (PIE X pins σ tg R) E s := by
  obtain ⟨its, rv, p, hz⟩ := I.list hq
  refine wpAny_pyIter_list p.isList ?_
  refine ⟨s.heap.objs.size, [s.heap.objs.size], _, _, H, rfl, I.kept (t' := s.toks) fun b o e => Heap.get?_push_of_some _ e, turn_list l _, ⟨_, Heap.get?_push_size _ rfl, rfl, rfl⟩, fun b hb => ?_, q⟩
  have e : b = s.heap.objs.size := by simpa using hb
  subst e
  exact I.fpOk (Nat.le_refl _) (I.hok.fresh (Nat.le_refl _))
theorem pie_tup {pins : List (Addr × Obj)} {s : Shared} {R : It → Hp → Prop} {l : Addr} {vs : List V} {Ar : Around} {E : Value → Shared → Prop} (I : Inv X pins σ H s) (hq : SqT X.K H l vs) (q : R (Itt X.K l) H) : wpAny (model X.prog X.w) Ar (pyIter (.ref l)) (PIE X pins σ tg R) E s := by
  obtain ⟨its, rv, p, hz⟩ := I.tuple hq
  refine wpAny_pyIter_tuple (show s.heap.IsTuple l its.toArray from p) ?_
  refine ⟨s.heap.objs.size, [s.heap.objs.size], _, _, H, rfl, I.kept (t' := s.toks) fun b o e => Heap.get?_push_of_some _ e, turn_tuple l _, ⟨_, Heap.get?_push_size _ rfl, rfl, rfl⟩, fun b hb => ?_, q⟩
  have e : b = s.heap.objs.size := by simpa using hb
  subst e
  exact I.fpOk (Nat.le_refl _) (I.hok.fresh (Nat.le_refl _))
theorem pie_own {pins : List (Addr × Obj)} {s : Shared} {R : It → Hp → Prop} {ad C dx fa l : Addr} {fd : FuncData} {self fld : Str} {flds : List (Str × V)} {zs : List V} {tp : Bool} (I : Inv X pins σ H s) (tk : Takes X L.W) (hr : Room 1 X.A) (Fn : FnN X.prog X.w X.K X.mg X.base 1 fa fd [self] (spIt X.K C fld)) (hm : Meth X.K C "__iter__" fa) (b : Binds X.K fd [self] [])
    (e1 : H ad = some (.ins C dx flds)) (e2 : flds.lookup fld = some (.ref l)) (e3 : SqAt X.K H l zs tp) (q : R (cond tp (Itt X.K l) (Itl X.K l)) H) : wpAny (model X.prog X.w) X.A (pyIter (.ref ad)) (PIE X pins σ tg R) X.xe s := by
  obtain ⟨od, J⟩ := inst_at I e1
  obtain ⟨m', hF⟩ := I.fr
  refine PySem.W.owit_iter hF I.ok.mod.kin J hm.at_ hm.fn ?_
  have sp : spIt X.K C fld s.heap.objs.size [.ref ad] H (fun v H' => ∃ it, v = .ref it ∧ H it = none ∧ s.heap.objs.size ≤ it ∧ H' = upd H it (ItrO tp l it)) (WE L.W σ) :=
    ⟨ad, dx, flds, l, zs, tp, rfl, e1, e2, e3, fun it n1 n2 => ⟨it, rfl, n1, n2, rfl⟩⟩
  refine wpAny_call (codeAny_mono (Fn.run X.A X.stack s H ⟨[.ref ad], []⟩ [.ref ad] [.ref ad] _ (WE L.W σ) hr I.env0 (by
    have := b s [.ref ad] I.kIn (by simp)
    simpa using this) (.cons rfl .nil) sp) fun r s' hq => ?_)
  cases r with
  | error e => exact passAt tk σ pins H s e s' I hq
  | ok fl =>
    cases fl with
    | next => exact False.elim hq
    | brk => exact False.elim hq
    | cont => exact False.elim hq
    | ret u =>
      obtain ⟨v, H', I', rv, it, rfl, n1, n2, rfl⟩ := I.after hq
      cases rv
      have st : cond tp (s'.heap.IsTupleIter it l 0) (s'.heap.IsListIter it l 0) := (I'.hok it _ upd_same : ObjOk _ _ _ _ _ (ItrO tp l it)).1
      have un := ItX.inv_drop I' (φ := fun h => cond tp (h.IsTupleIter it l 0) (h.IsListIter it l 0)) upd_same
      have fp := ItX.inv_fp I' (u := ItrO tp l it) upd_same (Nat.le_trans I.sz n2)
      rw [ItX.dropH_upd n1] at un fp
      show wpAny _ _ (specialOf (.ref it) "__next__") _ _ _
      cases tp with
      | false =>
        obtain ⟨o, h1, h2, h3⟩ := st
        refine wpAny_specialOf (name := Str.ofString "__next__") (show s'.TypeIs (.ref it) "list_iterator" from ⟨o, h1, h2⟩) slot_listiter_next.lookup ?_
        exact ⟨it, [it], _, _, H, rfl, un, turn_list l it, ⟨o, h1, h2, h3⟩, fun b hb => by rw [List.mem_singleton.mp hb]; exact fp, q⟩
      | true =>
        obtain ⟨o, h1, h2, h3⟩ := st
        refine wpAny_specialOf (name := Str.ofString "__next__") (show s'.TypeIs (.ref it) "tuple_iterator" from ⟨o, h1, h2⟩) PyProof.Rows.slot_tupleiter_next.lookup ?_
        exact ⟨it, [it], _, _, H, rfl, un, turn_tuple l it, ⟨o, h1, h2, h3⟩, fun b hb => by rw [List.mem_singleton.mp hb]; exact fp, q⟩
theorem its_str {z : Str} : ItS G (Its z) H ρ (signs z) := fun H2 ρ2 h2 k hr i => by
  refine ⟨fun x hx => ?_, fun hi => ?_⟩
  · unfold signs at hx
    rw [List.getElem?_map, Array.getElem?_toList] at hx
    cases hc : z.cps[i]? with
    | none => rw [hc] at hx; cases hx
    | some c =>
      rw [hc] at hx
      cases hx
      have hi : i < z.cps.size := by
        by_cases hi : i < z.cps.size
        · exact hi
        · rw [Array.getElem?_eq_none (by omega)] at hc; cases hc
      refine ⟨hi, fun v H3 ⟨y1, c', y2, y3⟩ => ⟨.inl y1, ?_⟩⟩
      rw [hc] at y2
      cases y2
      rw [y3]
      exact .str
  · show z.cps.size ≤ i
    unfold signs at hi
    simpa using hi
theorem di_any {itf : Nat → Option Nat} (O : ItOk G itf) (ha : DE G L iter fa) (hk1 : 1 ≤ L.k := by decide) (hc : L.cm = true := by rfl) : DI G L tg iter (iAny itf fa) := by
  refine ⟨fun X xr σ H ρ sl h sr hh R q => ⟨fun pins s I => ?_⟩⟩
  have eK := xr.K
  have z : E X iter σ H fun v H1 => ∀ pins s u, Inv X pins σ H1 s → RelV v u → wpAny (model X.prog X.w) X.A (pyIter u) (PIE X pins σ tg R) X.xe s := by
    refine DE.bind ha xr sr hh q fun x h1 v H1 ρ1 e1 r1 ra s1 q1 => ?_
    obtain ⟨xs, hw, q1⟩ := need_ok q1
    have q9 : ∀ J, ItS G J H1 ρ1 xs → R J H1 := q1 H1 ρ1 .refl r1
    clear q1 q
    intro pins s u I ru
    have own : (instOf x h1).bind (fun p => (itf p.1).bind fun j => p.2[j]?.bind fun y => match y with
      | A.lst xs => some xs
      | A.tup xs => some xs
      | A.ctp xs => some xs
      | _ => none) = some xs → wpAny (model X.prog X.w) X.A (pyIter u) (PIE X pins σ tg R) X.xe s := fun hw => by
      cases hi : instOf x h1 with
      | none => rw [hi] at hw; cases hw
      | some pr =>
        obtain ⟨c, ys⟩ := pr
        rw [hi] at hw
        dsimp only [Option.bind_some] at hw
        cases hj : itf c with
        | none => rw [hj] at hw; cases hw
        | some j =>
          rw [hj] at hw
          dsimp only [Option.bind_some] at hw
          cases hy : ys[j]? with
          | none => rw [hy] at hw; cases hw
          | some y =>
            rw [hy] at hw
            dsimp only [Option.bind_some] at hw
            obtain ⟨nd, fa', fd, self, fld, Fn, hm, bb, hf⟩ := O c j hj
            obtain ⟨ad, dx, vs, rfl, e3, rf⟩ := inst_ok r1 ra hi
            obtain ⟨w, hl, rw_⟩ := fld_get nd rf hy hf
            cases ru
            have Fn' : FnN X.prog X.w X.K X.mg X.base 1 fa' fd [self] (spIt X.K (G.cad c) fld) := by rw [xr.prog, xr.w, xr.K, xr.mg, xr.base]; exact Fn
            have hm' : Meth X.K (G.cad c) "__iter__" fa' := by rw [eK]; exact hm
            have bb' : Binds X.K fd [self] [] := by rw [eK]; exact bb
            have rm := (xr.room hc).mono hk1
            cases rw_ <;> dsimp only at hw <;> try (cases hw; done)
            · rename_i xs' a' vs' hq l' r'
              cases hw
              exact pie_own I xr.tk rm Fn' hm' bb' e3 hl (tp := true) (zs := vs') (by rw [eK]; exact hq) (by rw [eK]; exact q9 _ (its_tup hq ⟨l', r'⟩))
            · rename_i xs' a' vs' hq l' r'
              cases hw
              exact pie_own I xr.tk rm Fn' hm' bb' e3 hl (tp := true) (zs := vs') (.inl (.inl hq)) (by rw [eK]; exact q9 _ (its_tup (.inl (.inl hq)) ⟨l', r'⟩))
            · rename_i xs' a' vs' hq nl l' r'
              cases hw
              exact pie_own I xr.tk rm Fn' hm' bb' e3 hl (tp := false) (zs := vs') (.inl (.inl hq)) (by rw [eK]; exact q9 _ (its_list hq nl ⟨l', r'⟩))
    unfold walkA at hw
    cases x with
    | lst ys =>
      cases hw
      cases ra with
      | lst hq nl l r => cases ru; exact pie_list I (.inl (.inl hq)) (by rw [eK]; exact q9 _ (its_list hq nl ⟨l, r⟩))
    | tup ys =>
      cases hw
      cases ra with
      | tup hq l r => cases ru; exact pie_tup I (.inl (.inl hq)) (by rw [eK]; exact q9 _ (its_tup (.inl (.inl hq)) ⟨l, r⟩))
    | ctp ys =>
      cases hw
      cases ra with
      | ctp hq l r => cases ru; exact pie_tup I (by rw [eK]; exact hq) (by rw [eK]; exact q9 _ (its_tup hq ⟨l, r⟩))
    | str z =>
      cases hw
      cases ra
      obtain ⟨t, rfl⟩ := ru
      have q8 := q9 _ its_str
      cases ha : z.cps.all (· < 128)
      · exact wpAny_pyIter_wide ha (pi_one (tk := s.toks) I _ (turn_str _ z t "str_iterator" (.inr rfl)) ⟨_, Heap.get?_push_size _ rfl, rfl, rfl⟩ q8)
      · exact wpAny_pyIter_ascii ha (pi_one (tk := s.toks) I _ (turn_str _ z t "str_ascii_iterator" (.inl rfl)) ⟨_, Heap.get?_push_size _ rfl, rfl, rfl⟩ q8)
    | _ => exact own hw
  exact thn (z.run pins s I) fun u s1 ⟨v, H1, I1, r1, q1⟩ => q1 pins s1 u I1 r1
end
end Rx
set_option Elab.async false
set_option linter.all false
set_option maxRecDepth 100000
set_option maxHeartbeats 4000000
/-! RxG: list(o) of an own instance: its own __iter__ (the iterator of a field) and its own __len__. -/
namespace Rx
open PySem L2 Sx
section
variable {G : Gc} {L : Wh} {X : Cx} {σ : St} {H : Hp} {ρ : Rho} {sl : Sl} {h : Hs} {Q : VK} {pins : List (Addr × Obj)}
def seqOf : A → Option (Bool × List A)
  | .lst xs => some (false, xs)
  | .tup xs => some (true, xs)
  | .ctp xs => some (true, xs)
  | _ => none
theorem seqOf_ok {x : A} {v : V} {tp : Bool} {xs : List A} (r : RA G H ρ x v) (e : seqOf x = some (tp, xs)) : ∃ l vs, v = .ref l ∧ SqAt G.K H l vs tp ∧ RAs G H ρ xs vs ∧ (tp = false → H l = some (.lst vs) ∧ ¬ Live ρ l) := by
  cases r <;> try (cases e; done)
  · rename_i h l r; cases e; exact ⟨_, _, rfl, h, ⟨l, r⟩, fun z => nomatch z⟩
  · rename_i h l r; cases e; exact ⟨_, _, rfl, (.inl (.inl h) : SqT _ _ _ _), ⟨l, r⟩, fun z => nomatch z⟩
  · rename_i h nl l r; cases e; exact ⟨_, _, rfl, (.inl (.inl h) : SqL _ _ _ _), ⟨l, r⟩, fun _ => ⟨h, nl⟩⟩
theorem sq_tr {H' : Hp} {ρ' : Rho} {tp : Bool} {l : Addr} {vs : List V} {K : PySem.W.Frag} (x : Ext H ρ H' ρ') (nl : tp = false → H l = some (.lst vs) ∧ ¬ Live ρ l) (q : SqAt K H l vs tp) : SqAt K H' l vs tp := by
  cases tp with
  | false => exact .inl (.inl (x.keep _ _ (nl rfl).1 (nl rfl).2))
  | true =>
    rcases q with (q | ⟨o, q⟩) | q
    · exact .inl (.inl (x.tup _ _ q))
    · exact .inl (.inr ⟨o, x.frz _ _ _ q⟩)
    · exact .inr q
def ownW (itf : Nat → Option Nat) (x : A) (h : Hs) : Option (Bool × List A) := (instOf x h).bind fun p => (itf p.1).bind fun j => p.2[j]?.bind seqOf
def IterAt (tp : Bool) (h : Heap) (it l : Addr) (i : Nat) : Prop := cond tp (h.IsTupleIter it l i) (h.IsListIter it l i)
theorem IterAt.at {tp : Bool} {h h' : Heap} {it l : Addr} {i : Nat} (e : IterAt tp h it l i) (k : ∀ o, h.get? it = some o → h'.get? it = some o) : IterAt tp h' it l i := by
  cases tp with
  | true => obtain ⟨o, e, z⟩ := e; exact ⟨o, k _ e, z⟩
  | false => obtain ⟨o, e, z⟩ := e; exact ⟨o, k _ e, z⟩
theorem next_item {A : Around} {E : Value → Shared → Prop} {s : Shared} {tp : Bool} {it l : Addr} {i : Nat} {zs : List V} {x : V} {R : Option Value → Shared → Prop} (I : Inv X pins σ H s) (hq : SqAt X.K H l zs tp) (st : IterAt tp s.heap it l i) (f : FpOk X pins H it) (hx : zs[i]? = some x)
    (q : ∀ u s', RelV x u → Inv X pins σ H s' → IterAt tp s'.heap it l (i + 1) → R (some u) s') : wpAny (model X.prog X.w) A (pyNext (.ref it)) R E s := by
  obtain ⟨f0, f1, f2, f3, f4, f5⟩ := f
  cases tp with
  | false =>
    obtain ⟨its, rv, p, hz⟩ := I.list hq
    obtain ⟨u, hu, ru⟩ := rv.get hx
    refine wpAny_pyNext_list_item st p.isList (x := u) (by simpa using hu) fun h' st' sb => ?_
    exact q u _ ru (I.turned (t' := s.toks) (fun b o hb e => (sb.2 b hb).trans e) f0 f1 f3 f4 f5) st'
  | true =>
    obtain ⟨its, rv, p, hz⟩ := I.tuple hq
    obtain ⟨u, hu, ru⟩ := rv.get hx
    refine wpAny_pyNext_tuple_item st (show s.heap.IsTuple l its.toArray from p) (x := u) (by simpa using hu) fun h' st' sb => ?_
    exact q u _ ru (I.turned (t' := s.toks) (fun b o hb e => (sb.2 b hb).trans e) f0 f1 f3 f4 f5) st'
theorem next_end {A : Around} {E : Value → Shared → Prop} {s : Shared} {tp : Bool} {it l : Addr} {i : Nat} {zs : List V} {R : Option Value → Shared → Prop} (hh : A.handled = none) (I : Inv X pins σ H s) (hq : SqAt X.K H l zs tp) (st : IterAt tp s.heap it l i) (f : FpOk X pins H it) (hx : zs.length ≤ i)
    (q : ∀ s', Inv X pins σ H s' → R none s') : wpAny (model X.prog X.w) A (pyNext (.ref it)) R E s := by
  obtain ⟨f0, f1, f2, f3, f4, f5⟩ := f
  cases tp with
  | false =>
    obtain ⟨its, rv, p, hz⟩ := I.list hq
    have hl := rv.length
    exact wpAny_pyNext_list_end hh st p.isList (by simp; omega) fun h' eb => q _ (I.turned (t' := s.toks) (fun b o hb e => eb b o hb e) f0 f1 f3 f4 f5)
  | true =>
    obtain ⟨its, rv, p, hz⟩ := I.tuple hq
    have hl := rv.length
    exact wpAny_pyNext_tuple_end hh st (show s.heap.IsTuple l its.toArray from p) (by simp; omega) fun h' eb => q _ (I.turned (t' := s.toks) (fun b o hb e => eb b o hb e) f0 f1 f3 f4 f5)
theorem sq_size {s : Shared} {tp : Bool} {l : Addr} {zs : List V} (I : Inv X pins σ H s) (hq : SqAt X.K H l zs tp) : zs.length ≤ sizeLine := by
  cases tp with
  | false => obtain ⟨its, rv, p, hz⟩ := I.list hq; exact hz
  | true => obtain ⟨its, rv, p, hz⟩ := I.tuple hq; exact hz
theorem ext_loop {A1 : Around} {Rs : Result → Shared → Prop} {H0 : Hp} {tp : Bool} {it l q : Addr} {zs : List V} (hh : A1.handled = none) (hne : it ≠ q) (f : FpOk X pins H0 it) (hsq : ∀ ys, SqAt X.K (upd H0 q (.lst ys)) l zs tp)
    (hR : ∀ s, Inv X pins σ (upd H0 q (.lst zs)) s → Rs (.ok (.ret .none)) s) : ∀ (k i : Nat) (s : Shared), zs.length - i = k → i ≤ zs.length → Inv X pins σ (upd H0 q (.lst (zs.take i))) s → IterAt tp s.heap it l i →
    codeAny (model X.prog X.w) A1 (.builtin "list.extend.loop" ⟨[.ref q, .ref it, .none], []⟩) Rs s := by
  intro k
  induction k with
  | zero =>
    intro i s hk hi I st
    have hin : i = zs.length := by omega
    refine codeAny_builtin PySem.F.entry_extend_loop ?_
    rw [Around.under_plainId PySem.F.plain_extend_loop _]
    show wpAny _ A1.in1 (pyNext (.ref it) >>= _) _ _ s
    refine wpAny_bind (next_end hh I (hsq _) st ⟨by rw [upd_ne hne]; exact f.1, f.2⟩ (by omega) fun s' I' => ?_)
    refine wpAny_pure (hR s' ?_)
    rw [hin, List.take_length] at I'
    exact I'
  | succ k ih =>
    intro i s hk hi I st
    have hlt : i < zs.length := by omega
    refine codeAny_builtin PySem.F.entry_extend_loop ?_
    rw [Around.under_plainId PySem.F.plain_extend_loop _]
    show wpAny _ A1.in1 (pyNext (.ref it) >>= _) _ _ s
    refine wpAny_bind (next_item I (hsq _) st ⟨by rw [upd_ne hne]; exact f.1, f.2⟩ (List.getElem?_eq_getElem hlt) fun u s' ru I' st' => ?_)
    show wpAny _ A1.in1 (updateSeq q (·.push u) >>= _) _ _ _
    obtain ⟨z, its, k', r2, hl, e⟩ := I'.lstM upd_same
    have hz := sq_size I' (hsq _)
    have hl2 : its.length = i := by rw [← r2.length, List.length_take]; omega
    refine wpAny_bind (wpAny_updateSeq e rfl (wpAny_pure ⟨plainId_quiet PySem.F.plain_extend_loop _, ?_⟩) (by rw [List.size_toArray]; omega) (by show (its.toArray.push u).size ≤ sizeLine + 1; rw [Array.size_push, List.size_toArray]; omega))
    have I2 := I'.lset (f := (·.push u)) (its' := its ++ [u]) (ys := zs.take (i + 1)) (t' := s'.toks) upd_same e (by simp) (by rw [List.take_add_one, List.getElem?_eq_getElem hlt]; exact r2.append (.cons ru .nil)) (by rw [List.length_take]; omega)
    rw [upd_upd] at I2
    exact ih (i + 1) _ (by omega) (by omega) I2 (st'.at fun o eo => (Heap.get?_update_other _ _ (Ne.symm hne)).trans eo)
/-- the own __len__, asked by list(o) -/
theorem hint_len {Ar : Around} {E : Value → Shared → Prop} {s : Shared} {j c n : Nat} {f : F} {x : A} {ad dx : Addr} {vs : List (Str × V)} {k : Int} {h1 : Hs} {Q : Bool → Shared → Prop} (xr : Xr G X L) (hr0 : Room (j + 1) Ar) (hg0 : Ar.guards = X.A.guards) (hfr : Ar.frames = X.A.frames) (M : MtC G "__len__" j c n f) (I : Inv X pins σ H s)
    (hr : HR G H ρ h) (rx : RA G H ρ x (.ref ad)) (e1 : H ad = some (.ins (G.cad c) dx vs)) (hf : f [x] h = .ok (.int k) h1) (h0 : 0 ≤ k) (hk : k.toNat ≤ sizeLine)
    (q : ∀ H' ρ' s', Ext H ρ H' ρ' → HR G H' ρ' h1 → Inv X pins σ H' s' → Q (k != 0) s') : wpAny (model X.prog X.w) Ar (Builtin.List.listLengthHint (.ref ad)) Q E s := by
  obtain ⟨fa, fd, ps, Fn, hm0, b⟩ := M.ex
  have hm : Meth X.K (G.cad c) "__len__" fa := by rw [xr.K]; exact hm0
  obtain ⟨od, J⟩ := inst_at I e1
  obtain ⟨m', hF⟩ := I.fr
  have hK : X.K.In s.heap := I.kIn
  have kb : k < 9223372036854775808 := by rw [sizeLine_eq] at hk; omega
  have q' : Po G (fun _ _ _ _ => False) ([] : St) H ρ (RQ G fun w H' => w = .int k ∧ ∃ ρ', Ext H ρ H' ρ' ∧ HR G H' ρ' h1) (f [x] h) := by
    rw [hf]
    intro H' ρ' e r v ra
    cases ra
    exact ⟨rfl, ρ', e, r⟩
  have run : wpAny (model X.prog X.w) Ar.in1 (call (.ref fa) [.ref ad]) (PySem.W.LenBack fun v s' => (∃ t, v = .int k t) ∧ ∃ H' ρ', Ext H ρ H' ρ' ∧ HR G H' ρ' h1 ∧ Inv X pins σ H' s') (fun _ _ => False) s := by
    have e0 : Env0 X.prog X.w X.K X.mg X.base Ar.in1 X.stack s H := by
      have e := I.env0
      exact ⟨by show Ar.frames = _; rw [hfr]; exact e.frames, e.mod, e.bs, e.bsz, e.funs, e.frf, e.hok, e.bare⟩
    have sp := sp_of (vs := [.ref ad]) M.ar hr (.cons rx .nil) q'
    have Fn' := xr.fn Fn
    have hl : ([Value.ref ad] : List Value).length = ps.length := Fn'.len _ _ _ _ sp
    have bb : Binds X.K fd ps [] := by rw [xr.K]; exact b
    refine wpAny_call (codeAny_mono (Fn'.run Ar.in1 X.stack s H ⟨[.ref ad], []⟩ [.ref ad] [.ref ad] _ (WE (fun _ _ _ _ => False) []) hr0.in1 (hg0.trans xr.gd) e0 (by
      have := bb s [.ref ad] I.kIn (by simpa using hl)
      simpa using this) (.cons rfl .nil) sp) fun r s' hq => ?_)
    cases r with
    | error e =>
      obtain ⟨_, _, _, _, _, _, _, _, _, _, _, _, z⟩ := hq
      exact z.elim
    | ok fl =>
      cases fl with
      | next => exact False.elim hq
      | brk => exact False.elim hq
      | cont => exact False.elim hq
      | ret u =>
        obtain ⟨v, H', I', rv, ev, ρ', e, r⟩ := I.after hq
        subst ev
        obtain ⟨t, rfl⟩ := rv
        exact ⟨⟨h0, kb⟩, ⟨_, rfl⟩, H', ρ', e, r, I'.tok _⟩
  unfold Builtin.List.listLengthHint
  refine wpAny_bind (wpAny_bind (J.type.here ((PySem.W.looks_findIn hK hm.at_).here ?_)))
  refine PySem.W.KFB.if_not rfl ?_
  refine wpAny_ite_split (fun _ => ?_) (fun z => absurd rfl z)
  refine wpAny_bind (wpAny_rule ?_)
  refine wpAny_bind (wpAny_attempt (PySem.W.len_K hF I.ok.mod.kin J hm.at_ hm.fn (wpAny_mono run (fun w s' z => ?_) fun _ _ z => z.elim)))
  cases w <;> first | exact z.elim | skip
  rename_i n u
  obtain ⟨_, ⟨t', e⟩, H', ρ', e2, r2, I2⟩ := z
  cases e
  refine ⟨⟨h0, kb⟩, ?_⟩
  have tl : Builtin.List.listTooLong k.toNat = false := by
    unfold Builtin.List.listTooLong
    exact decide_eq_false (by omega)
  refine wpAny_bind (m := asInt? _) (wpAny_pure ?_)
  refine PySem.W.KFB.if_not tl ?_
  exact wpAny_pure (q H' ρ' _ e2 r2 I2)
/-- __iter__, asked for an iterator -/
theorem iter_own {Ar : Around} {E : Value → Shared → Prop} {s : Shared} {ad C dx fa l : Addr} {fd : FuncData} {self fld : Str} {flds : List (Str × V)} {zs : List V} {tp : Bool} {R : Value → Shared → Prop} (I : Inv X pins σ H s) (hr : Room 1 Ar) (hfr : Ar.frames = X.A.frames) (Fn : FnN X.prog X.w X.K X.mg X.base 1 fa fd [self] (spIt X.K C fld)) (hm : Meth X.K C "__iter__" fa) (b : Binds X.K fd [self] [])
    (e1 : H ad = some (.ins C dx flds)) (e2 : flds.lookup fld = some (.ref l)) (e3 : SqAt X.K H l zs tp) (q : ∀ it s', Inv X pins σ H s' → IterAt tp s'.heap it l 0 → FpOk X pins H it → s.heap.objs.size ≤ it → R (.ref it) s') : wpAny (model X.prog X.w) Ar (pyIter (.ref ad)) R E s := by
  obtain ⟨od, J⟩ := inst_at I e1
  obtain ⟨m', hF⟩ := I.fr
  refine PySem.W.owit_iter hF I.ok.mod.kin J hm.at_ hm.fn ?_
  have sp : spIt X.K C fld s.heap.objs.size [.ref ad] H (fun v H' => ∃ it, v = .ref it ∧ H it = none ∧ s.heap.objs.size ≤ it ∧ H' = upd H it (ItrO tp l it)) (fun _ _ _ => False) :=
    ⟨ad, dx, flds, l, zs, tp, rfl, e1, e2, e3, fun it n1 n2 => ⟨it, rfl, n1, n2, rfl⟩⟩
  have e0 : Env0 X.prog X.w X.K X.mg X.base Ar X.stack s H := by
    have e := I.env0
    exact ⟨by rw [hfr]; exact e.frames, e.mod, e.bs, e.bsz, e.funs, e.frf, e.hok, e.bare⟩
  refine wpAny_call (codeAny_mono (Fn.run Ar X.stack s H ⟨[.ref ad], []⟩ [.ref ad] [.ref ad] _ (fun _ _ _ => False) hr e0 (by
    have := b s [.ref ad] I.kIn (by simp)
    simpa using this) (.cons rfl .nil) sp) fun r s' hq => ?_)
  cases r with
  | error e =>
    obtain ⟨_, _, _, _, _, _, _, _, _, _, _, _, z⟩ := hq
    exact z.elim
  | ok fl =>
    cases fl with
    | next => exact False.elim hq
    | brk => exact False.elim hq
    | cont => exact False.elim hq
    | ret u =>
      obtain ⟨v, H', I', rv, it, rfl, n1, n2, rfl⟩ := I.after hq
      cases rv
      have st : cond tp (s'.heap.IsTupleIter it l 0) (s'.heap.IsListIter it l 0) := (I'.hok it _ upd_same : ObjOk _ _ _ _ _ (ItrO tp l it)).1
      have un := ItX.inv_drop I' (φ := fun h => cond tp (h.IsTupleIter it l 0) (h.IsListIter it l 0)) upd_same
      have fp := ItX.inv_fp I' (u := ItrO tp l it) upd_same (Nat.le_trans I.sz n2)
      rw [ItX.dropH_upd n1] at un fp
      show wpAny _ _ (specialOf (.ref it) "__next__") _ _ _
      cases tp with
      | false =>
        obtain ⟨o, h1, h2, h3⟩ := st
        exact wpAny_specialOf (name := Str.ofString "__next__") (show s'.TypeIs (.ref it) "list_iterator" from ⟨o, h1, h2⟩) slot_listiter_next.lookup (q it s' un ⟨o, h1, h2, h3⟩ fp n2)
      | true =>
        obtain ⟨o, h1, h2, h3⟩ := st
        exact wpAny_specialOf (name := Str.ofString "__next__") (show s'.TypeIs (.ref it) "tuple_iterator" from ⟨o, h1, h2⟩) PyProof.Rows.slot_tupleiter_next.lookup (q it s' un ⟨o, h1, h2, h3⟩ fp n2)
def listOA (mt : Mt) (itf : Nat → Option Nat) (x : A) (h : Hs) : Out A := match instOf x h with
  | some (c, _) => need (ownW itf x h) fun p => need (mt c) fun f => (match f [x] h with
    | .ok (.int k) h1 => chk (decide (0 ≤ k ∧ k.toNat ≤ sizeLine)) (.ok (.lst p.2) h1)
    | _ => .bad)
  | none => listDA x h
theorem ok_listO {j : Nat} {mt : Mt} {itf : Nat → Option Nat} (O : MtOk G "__len__" j mt) (IT : ItOk G itf) (hj : j + 4 ≤ L.k) (hc : L.cm = true := by rfl) : OpK G L (.type "list") (f1 (listOA mt itf)) := by
  refine ⟨fun X xr σ H ρ h xs vs hr rs Q q => ?_⟩
  obtain ⟨x, v, rfl, rfl, ra, q⟩ := ok_one rs q
  unfold listOA at q
  cases hi : instOf x h with
  | none => rw [hi] at q; exact (ok_listD hc).run X xr σ H ρ h [x] [v] hr rs Q q
  | some pr =>
    obtain ⟨c, xs⟩ := pr
    rw [hi] at q
    obtain ⟨⟨tp, ys⟩, hw, q⟩ := need_ok q
    obtain ⟨f, hf, q⟩ := need_ok q
    obtain ⟨n, M⟩ := O c f hf
    unfold ownW at hw
    rw [hi] at hw
    dsimp only [Option.bind_some] at hw
    cases hjj : itf c with
    | none => rw [hjj] at hw; cases hw
    | some jf =>
    rw [hjj] at hw
    dsimp only [Option.bind_some] at hw
    cases hy : xs[jf]? with
    | none => rw [hy] at hw; cases hw
    | some y =>
    rw [hy] at hw
    dsimp only [Option.bind_some] at hw
    obtain ⟨nd, fa', fd, self, fld, Fn, hm, bb, hfld⟩ := IT c jf hjj
    obtain ⟨ad, dx, vs, rfl, e1, rf⟩ := inst_ok hr ra hi
    obtain ⟨w, hl, rw_⟩ := fld_get nd rf hy hfld
    obtain ⟨k, h1, hfx, q⟩ : ∃ k h1, f [x] h = .ok (.int k) h1 ∧ Po G L.W σ H ρ (RQ G Q) (chk (decide (0 ≤ k ∧ k.toNat ≤ sizeLine)) (.ok (.lst ys) h1)) := by
      revert q
      cases f [x] h with
      | ok a h1 =>
        cases a <;> try exact fun q => q.elim
        exact fun q => ⟨_, _, rfl, q⟩
      | ex x h1 => exact fun q => q.elim
      | bad => exact fun q => q.elim
    obtain ⟨kk, q⟩ := chk_ok q
    obtain ⟨k0, k1⟩ := of_decide_eq_true kk
    have eK := xr.K
    have Fn' : FnN X.prog X.w X.K X.mg X.base 1 fa' fd [self] (spIt X.K (G.cad c) fld) := by rw [xr.prog, xr.w, xr.K, xr.mg, xr.base]; exact Fn
    have hm' : Meth X.K (G.cad c) "__iter__" fa' := by rw [eK]; exact hm
    have bb' : Binds X.K fd [self] [] := by rw [eK]; exact bb
    have rm := (xr.room hc).mono hj
    refine ⟨fun pins s us I r => ?_⟩
    obtain ⟨u, rfl, r1⟩ := vals1 r
    cases r1
    refine callType_codes (Q₁ := fun obj s₁ => obj = .ref s.heap.objs.size ∧ s₁ = { s with heap := s.heap.push { cls := .type "list", data := .seq #[] } }) PySem.F.called_list (PySem.F.typeCall_list_1 _) PySem.F.entry_list_init
      (code_list_new _ ⟨rfl, rfl⟩) fun obj s₁ h₁ => ?_
    obtain ⟨rfl, rfl⟩ := h₁
    have hS : (s.heap.push { cls := .type "list", data := .seq #[] }).get? s.heap.objs.size = some { cls := .type "list", data := .seq #[] } := Heap.get?_push_size _ rfl
    refine ⟨⟨_, hS, rfl⟩, PySem.F.args_list_init_2 _ _, ?_⟩
    have fr : H s.heap.objs.size = none := I.hok.fresh (Nat.le_refl _)
    have I1 : Inv X pins σ (upd H s.heap.objs.size (.lst [])) { s with heap := s.heap.push { cls := .type "list", data := .seq #[] } } := I.lnew (its := []) (t' := s.toks) .nil (Nat.zero_le _)
    show wpAny _ _ (do let old ← Builtin.List.listItems (.ref s.heap.objs.size); Builtin.List.listUpdate (.ref s.heap.objs.size) (fun _ => #[]); letGo old.toList.reverse; Builtin.List.listExtendWith (.ref s.heap.objs.size) (.ref ad) .none) _ _ _
    refine wpAny_bind ?_
    unfold Builtin.List.listItems
    refine wpAny_bind (wpAny_seqItems hS rfl (wpAny_pure ?_))
    show wpAny _ _ (updateSeq s.heap.objs.size (fun _ => #[]) >>= fun _ => letGo (#[] : Array Value).toList.reverse >>= fun _ => Builtin.List.listExtendWith (.ref s.heap.objs.size) (.ref ad) .none) _ _ _
    refine wpAny_bind (wpAny_updateSeq hS rfl ?_)
    have I2 := I1.lset (f := fun _ => #[]) (its := []) (its' := []) (ys := []) (t' := s.toks) upd_same hS rfl .nil (Nat.zero_le _)
    rw [upd_upd] at I2
    refine wpAny_bind (wpAny_letGo ?_)
    generalize hq0 : s.heap.objs.size = q0 at *
    have sz2 : q0 < ((s.heap.push { cls := .type "list", data := .seq #[] }).update q0 (Obj.mapSeq fun _ => #[])).objs.size := Heap.lt_size (Heap.get?_update_self (Obj.mapSeq (fun _ => (#[] : Array Value))) hS rfl)
    generalize hs2 : ({ s with heap := (s.heap.push { cls := .type "list", data := .seq #[] }).update q0 (Obj.mapSeq fun _ => #[]) } : Shared) = s2 at I2 ⊢
    have sz3 : q0 < s2.heap.objs.size := by rw [← hs2]; exact sz2
    have ea2 : upd H q0 (.lst []) ad = some (.ins (G.cad c) dx vs) := by rw [upd_ne (ne_of_none e1 fr)]; exact e1
    have hr2 : HR G (upd H q0 (.lst [])) (ρ.hide q0) h := hr.hide fr
    have x2 : Ext H ρ (upd H q0 (.lst [])) ρ := hr.ext_new fr
    obtain ⟨l, zs, rfl, hsqH, rys, hlst⟩ := seqOf_ok rw_ hw
    have hsq := sq_tr x2 hlst hsqH
    have hneA : q0 ≠ ad := ne_of upd_same ea2 (fun z => nomatch z)
    obtain ⟨od2, J2⟩ := inst_at I2 ea2
    unfold Builtin.List.listExtendWith
    refine wpAny_bind (J2.type.here ?_)
    have g1 : Builtin.List.listSameRef (.ref q0) (.ref ad) = false := by simp [Builtin.List.listSameRef, hneA]
    have g2 : (Value.ref (G.cad c) == Value.type "list") = false := rfl
    have g3 : (Value.ref (G.cad c) == Value.type "tuple") = false := rfl
    simp only [g1, g2, g3, Bool.or_false, Bool.false_eq_true, if_false]
    refine wpAny_bind (iter_own I2 ((rm.in1.in1).mono (by omega)) rfl Fn' hm' bb' ea2 hl (by rw [eK]; exact hsq) fun it s3 I3 st3 fp3 hit => ?_)
    have hne : it ≠ q0 := fun z => Nat.ne_of_gt (Nat.lt_of_lt_of_le sz3 hit) z
    have Ip := I3.pinned (fp := [it]) (fun b hb => by rw [List.mem_singleton.mp hb]; exact fp3) fun b hb => by
      rw [List.mem_singleton.mp hb]
      cases tp with
      | true => obtain ⟨o, e, c, d⟩ := st3; exact ⟨o, e, fun v z => by rw [d] at z; cases z⟩
      | false => obtain ⟨o, e, c, d⟩ := st3; exact ⟨o, e, fun v z => by rw [d] at z; cases z⟩
    refine wpAny_bind (wpAny_holding (hint_len xr ((rm.in1.in1).mono (by omega)) rfl rfl M Ip hr2 (ra.mono' (hr.kq_hide fr)) ea2 (hfx) k0 k1 fun H' ρ' s4 x4 hr4 I4 => ?_))
    have hhd : ρ'.hd = q0 :: ρ.hd := x4.hds
    have eq0 : H' q0 = some (.lst []) := (x4.hidk q0 List.mem_cons_self).trans upd_same
    have xl : Ext H ρ H' ⟨ρ'.l, ρ.hd⟩ := ext_lift hr (ρ' := ρ.hide q0) (hr.ext_new fr) rfl fr x4
    have xF : ∀ ws, Ext H ρ (upd H' q0 (.lst ws)) ⟨ρ'.l, ρ.hd⟩ := fun ws => ext_updD hr xl fr
    obtain ⟨oit, eit⟩ : ∃ o, s3.heap.get? it = some o := by
      cases tp with
      | true => obtain ⟨o, e, _⟩ := st3; exact ⟨o, e⟩
      | false => obtain ⟨o, e, _⟩ := st3; exact ⟨o, e⟩
    have hpin := I4.pin (it, oit) (List.mem_append_right _ (List.mem_append_right _ (mem_pinsAt (List.mem_singleton.mpr rfl) eit)))
    have st4 : IterAt tp s4.heap it l 0 := st3.at fun o e => by rw [eit] at e; cases e; exact hpin.1
    have fp4 : FpOk X pins H' it := ⟨hpin.2.1, fp3.2⟩
    have hhn : X.A.in1.handled = none := rm.hd
    have last : ∀ s5, Inv X pins σ (upd H' q0 (.lst zs)) s5 → wants (fun r s₂ => r = .none ∧ EP X pins σ Q (.ref q0) s₂) X.xe (.ok (.ret .none)) s5 := fun s5 I5 => by
      have hin : q0 ∈ ρ'.hd := by rw [hhd]; exact List.mem_cons_self
      have kq1 : Kq H ρ (upd H' q0 (.lst zs)) ρ' := ((hr.kq_hide fr).trans x4.kq).trans (kq_hid hin eq0 (fun _ z => by cases z) fun _ _ z => by cases z)
      obtain ⟨ρF, eF, rF, raF⟩ := lc_frozen hr (⟨zs, ρ', upd_same, hhd, rys.mono' kq1, hr4.upd_hid hin, xF zs, fr⟩ : LcEnd G ys h1 q0 (upd H' q0 (.lst zs)) H ρ)
      exact ⟨rfl, .ref q0, _, I5, rfl, q _ ρF eF rF _ raF⟩
    have loop : ∀ s5, Inv X pins σ H' s5 → IterAt tp s5.heap it l 0 → codeAny (model X.prog X.w) X.A.in1 (.builtin "list.extend.loop" ⟨[.ref q0, .ref it, .none], []⟩) (wants (fun r s₂ => r = .none ∧ EP X pins σ Q (.ref q0) s₂) X.xe) s5 := fun s5 I5 st5 => by
      refine ext_loop (zs := zs) (H0 := H') hhn hne fp4 (fun ws => by rw [eK]; exact sq_tr (xF ws) hlst hsqH) last zs.length 0 s5 rfl (Nat.zero_le _) ?_ st5
      have hH : upd H' q0 (.lst []) = H' := by
        funext b
        by_cases hb : b = q0
        · rw [hb, upd_same, eq0]
        · rw [upd_ne hb]
      rw [List.take_zero, hH]
      exact I5
    have I4' := I4.unpinned
    refine wpAny_ite_split (fun _ => ?_) (fun _ => wpAny_pure ⟨plainId_quiet PySem.F.plain_extend_loop _, loop _ I4' st4⟩)
    refine wpAny_bind (wpAny_rule ?_)
    refine wpAny_bind ?_
    show wpAny _ _ (updateSeq q0 (·.push .none) >>= fun _ => updateSeq q0 (·.pop)) _ _ _
    obtain ⟨z, its, k', r3, hl3, e3⟩ := I4'.lstM eq0
    cases r3
    refine wpAny_bind (wpAny_updateSeq e3 rfl ?_)
    have I6 := I4'.lset (f := (·.push Value.none)) (its' := [Value.none]) (ys := [.non]) (t' := s4.toks) eq0 e3 (by simp) (.cons rfl .nil) (by rw [List.length_singleton, sizeLine_eq]; decide)
    obtain ⟨z4, its4, k4, r4, hl4, e4⟩ := I6.lstM upd_same
    obtain ⟨u4, rfl, ru4⟩ := r4.one
    refine wpAny_updateSeq e4 rfl ?_ (by show 1 ≤ sizeLine; rw [sizeLine_eq]; decide) (by show 0 ≤ sizeLine + 1; exact Nat.zero_le _)
    have I7 := I6.lset (f := (·.pop)) (its := [u4]) (its' := []) (ys := []) (t' := s4.toks) upd_same e4 (by rfl) .nil (Nat.zero_le _)
    rw [upd_upd] at I7
    have hH : upd H' q0 (.lst []) = H' := by
      funext b
      by_cases hb : b = q0
      · rw [hb, upd_same, eq0]
      · rw [upd_ne hb]
    rw [hH] at I7
    refine wpAny_pure ⟨plainId_quiet PySem.F.plain_extend_loop _, loop _ I7 (st4.at fun o e => ?_)⟩
    exact (Heap.get?_update_other _ _ (Ne.symm hne)).trans ((Heap.get?_update_other _ _ (Ne.symm hne)).trans e)
end
end Rx
set_option Elab.async false
set_option linter.all false
set_option maxRecDepth 100000
set_option maxHeartbeats 4000000
/-! RxH: what the printed texts lean on: errors' __init__ by their text; classes made without arguments; tables of methods; facts carried into a suite. -/
namespace Rx
open PySem L2 Sx
namespace Er
open PySem.W PySem.Calls PyProof.Rows Builtin Builtin.ObjectAttr
section
variable {P : Program} {w : World} {K : Frag} {C f cda cc : Addr} {B i newId : String} {bmB : List Value} {nm q : Str} {params : Arguments} {body : List Stmt} {scope : Scope}
theorem init1C {pS pA pN pV pW p0 p1 p2 p3 p4 : Pos} {self a fld z : Str} {j : Nat} {ar : Arg} (T : Ok P K C f cda cc B i newId bmB nm q params body scope)
    (hbody : body = [.Expr (.Call (.Attribute (.Call (.Name "super" p0) [] [] p1) "__init__" p2) [.Constant (.str z) j p3] [] p4) pS, .Assign [.Attribute (.Name self pN) fld pA] (.Name a pV) pW])
    (hev : ∀ L : Addr, ∃ pl : Sem Bool, eval (.Call (.Attribute (.Call (.Name "super" p0) [] [] p1) "__init__" p2) [.Constant (.str z) j p3] [] p4) (ksEnv q scope L f (.ref cda) cc) = (do
      let ov ← attributeBase (.Call (.Name "super" p0) [] [] p1) "__init__" (ksEnv q scope L f (.ref cda) cc) (eval (.Call (.Name "super" p0) [] [] p1) (ksEnv q scope L f (.ref cda) cc))
      standAt p2.atName
      let (fu, first) ← holding [ov] (getMethod ov "__init__" pl)
      callWith p4 fu first (backTo p4 (starEach [.Constant (.str z) j p3] (ksEnv q scope L f (.ref cda) cc))) []))
    (hi : ∀ L : Addr, interactive (ksEnv q scope L f (.ref cda) cc) = false) (hs1 : ∀ L : Addr, swapsWith (.Call (.Attribute (.Call (.Name "super" p0) [] [] p1) "__init__" p2) [.Constant (.str z) j p3] [] p4) none pS.line (ksEnv q scope L f (.ref cda) cc) = pure false)
    (hs2 : ∀ L : Addr, swapsWith (.Name a pV) (some (.Attribute (.Name self pN) fld pA)) pW.line (ksEnv q scope L f (.ref cda) cc) = pure false)
    (hp : (params.posonlyargs ++ params.args).head? = some ar) (ha : ar.arg = self) (hne : self ≠ a) (hb : ∀ e v kV doc pm an ct, bindArgs (ksFn nm q params body scope .none kV doc pm an (.ref cda) ct cc) ⟨[.ref e, v], []⟩ = pure [(self, .ref e), (a, v)])
    (hk : scope.kind = .function) (hco : scope.isCoroutine = false) (hgen : scope.isGenerator = false) (hks : scope.names.lookup ("super" : Str) = some .globalImplicit) (hkc : scope.names.lookup ("__class__" : Str) = some .free) (hka : scope.names.lookup self = some .local) (hkv : scope.names.lookup a = some .local) (hcell : ∀ x ∈ scope.names, x.2 ≠ .cell)
    (d1 : (self == ("__debug__" : Str)) = false) (d2 : (a == ("__debug__" : Str)) = false) (tn : takerIn K C fld = some none) : InitC P w K C f [fld] := by
  subst hbody
  refine ⟨fun A s e t0 us R mg mb hr lim XK Ke he Ng Nb ge be gs bs hl h => ?_⟩
  match us, hl with
  | [v], _ =>
    refine init1 T rfl hev hi hs1 hs2 hr lim XK Ke he Ng Nb ge be gs bs hp ha hne (fun kV doc pm an ct => hb e v kV doc pm an ct) hk hco hgen hks hkc hka hkv hcell d1 d2 tn fun h' t1 tk' dx k1 k2 k3 k4 k5 => h h' t1 tk' dx _ k1 k2 k3 k4 k5 fun y => ?_
    show (if y = fld then some v else none) = ([(fld, v)] : List (Str × Value)).lookup y
    by_cases hy : y = fld
    · subst hy; simp [List.lookup_cons]
    · have : (y == fld) = false := by simpa using hy
      simp [List.lookup_cons, this, hy]
theorem init2C {pS pA pN pV pW pA2 pN2 pV2 pW2 p0 p1 p2 p3 p4 : Pos} {self a fld a2 fld2 z : Str} {j : Nat} {ar : Arg} (T : Ok P K C f cda cc B i newId bmB nm q params body scope)
    (hbody : body = [.Expr (.Call (.Attribute (.Call (.Name "super" p0) [] [] p1) "__init__" p2) [.Constant (.str z) j p3] [] p4) pS, .Assign [.Attribute (.Name self pN) fld pA] (.Name a pV) pW, .Assign [.Attribute (.Name self pN2) fld2 pA2] (.Name a2 pV2) pW2])
    (hev : ∀ L : Addr, ∃ pl : Sem Bool, eval (.Call (.Attribute (.Call (.Name "super" p0) [] [] p1) "__init__" p2) [.Constant (.str z) j p3] [] p4) (ksEnv q scope L f (.ref cda) cc) = (do
      let ov ← attributeBase (.Call (.Name "super" p0) [] [] p1) "__init__" (ksEnv q scope L f (.ref cda) cc) (eval (.Call (.Name "super" p0) [] [] p1) (ksEnv q scope L f (.ref cda) cc))
      standAt p2.atName
      let (fu, first) ← holding [ov] (getMethod ov "__init__" pl)
      callWith p4 fu first (backTo p4 (starEach [.Constant (.str z) j p3] (ksEnv q scope L f (.ref cda) cc))) []))
    (hi : ∀ L : Addr, interactive (ksEnv q scope L f (.ref cda) cc) = false) (hs1 : ∀ L : Addr, swapsWith (.Call (.Attribute (.Call (.Name "super" p0) [] [] p1) "__init__" p2) [.Constant (.str z) j p3] [] p4) none pS.line (ksEnv q scope L f (.ref cda) cc) = pure false)
    (hs2 : ∀ L : Addr, swapsWith (.Name a pV) (some (.Attribute (.Name self pN) fld pA)) pW.line (ksEnv q scope L f (.ref cda) cc) = pure false)
    (hs3 : ∀ L : Addr, swapsWith (.Name a2 pV2) (some (.Attribute (.Name self pN2) fld2 pA2)) pW2.line (ksEnv q scope L f (.ref cda) cc) = pure false)
    (hp : (params.posonlyargs ++ params.args).head? = some ar) (ha : ar.arg = self) (hne : self ≠ a) (hne2 : self ≠ a2) (hne3 : a ≠ a2) (hnf : fld ≠ fld2) (hb : ∀ e v v2 kV doc pm an ct, bindArgs (ksFn nm q params body scope .none kV doc pm an (.ref cda) ct cc) ⟨[.ref e, v, v2], []⟩ = pure [(self, .ref e), (a, v), (a2, v2)])
    (hk : scope.kind = .function) (hco : scope.isCoroutine = false) (hgen : scope.isGenerator = false) (hks : scope.names.lookup ("super" : Str) = some .globalImplicit) (hkc : scope.names.lookup ("__class__" : Str) = some .free) (hka : scope.names.lookup self = some .local) (hkv : scope.names.lookup a = some .local) (hkv2 : scope.names.lookup a2 = some .local) (hcell : ∀ x ∈ scope.names, x.2 ≠ .cell)
    (d1 : (self == ("__debug__" : Str)) = false) (d2 : (a == ("__debug__" : Str)) = false) (d3 : (a2 == ("__debug__" : Str)) = false) (tn : takerIn K C fld = some none) (tn2 : takerIn K C fld2 = some none) : InitC P w K C f [fld, fld2] := by
  subst hbody
  refine ⟨fun A s e t0 us R mg mb hr lim XK Ke he Ng Nb ge be gs bs hl h => ?_⟩
  match us, hl with
  | [v, v2], _ =>
    refine init2 T rfl hev hi hs1 hs2 hs3 hr lim XK Ke he Ng Nb ge be gs bs hp ha hne hne2 hne3 (fun kV doc pm an ct => hb e v v2 kV doc pm an ct) hk hco hgen hks hkc hka hkv hkv2 hcell d1 d2 d3 tn tn2 fun h' t1 tk' dx k1 k2 k3 k4 k5 => h h' t1 tk' dx _ k1 k2 k3 k4 k5 fun y => ?_
    show (if y = fld2 then some v2 else if y = fld then some v else none) = ([(fld2, v2), (fld, v)] : List (Str × Value)).lookup y
    by_cases hy : y = fld2
    · subst hy; simp [List.lookup_cons]
    · have h1 : (y == fld2) = false := by simpa using hy
      by_cases hz : y = fld
      · subst hz; simp [List.lookup_cons, h1, hy]
      · have h2 : (y == fld) = false := by simpa using hz
        simp [List.lookup_cons, h1, h2, hy, hz]
end
end Er
section
variable {G : Gc} {L : Wh} {X : Cx} {σ : St} {H : Hp} {ρ : Rho} {sl : Sl} {h : Hs} {Q : VK} {pos p : Pos} {x : Str}
/-! ### C() -/
theorem mk_E0 {cl j : Nat} {f k : F} (D : DcR G x cl j 0 f) (hg : x ∈ L.GL) (hj : j + 1 ≤ L.k) (hc : L.cm = true)
    (hk : ∀ (σ : St) (H : Hp) (ρ : Rho) (h : Hs) (xs : List A) (R : VK) H2 ρ2 (ad : Addr), Ext H ρ H2 ρ2 → RA G H2 ρ2 (.ref h.length) (.ref ad) → Po G L.W σ H ρ (RQ G R) (k xs h) → Po G L.W σ H2 ρ2 (RQ G fun v H3 => v = .non ∧ R (.ref ad) H3) (f (.ref h.length :: xs) (h ++ [.ins cl []]))) :
    DE G L (.Call (.Name x p) [] [] pos) (fun _ h => k [] h) := by
  refine ⟨fun X xr σ H ρ sl h sr hh Q q => ⟨fun pins s I => ?_⟩⟩
  obtain ⟨fa', fd, ps, Fn, hm, M, b⟩ := D.ex
  have z := make_ok (k := k) (σ := σ) D.ar hh .nil q (hk σ H ρ h [])
  have M' : Mk X.K (G.cad cl) fa' := by rw [xr.K]; exact M
  refine wpAny_Call_Name_kw (ld_glob I (xr.gl x hg).1 (by rw [xr.mg]; exact hm) ?_ (xr.gl x hg).2.1)
  exact PySem.W.callWith_K0 I.kIn M'.kp (run_makeS (Es := WE L.W) M' (xr.fn Fn) ((xr.room hc).mono hj) xr.gd (by rw [xr.K]; exact b) (xr.pass σ) I .nil z)
theorem de_mkT0 {cl j : Nat} {f : F} (D : DcR G x cl j 0 f) (hg : x ∈ L.GL) (hj : j + 1 ≤ L.k) (hc : L.cm = true := by rfl) : DE G L (.Call (.Name x p) [] [] pos) (fun _ h => mkT cl f [] h) := mk_E0 D hg hj hc fun σ H ρ h xs => mkT_hk
theorem de_mkF0 {cl j : Nat} {f : F} (D : DcR G x cl j 0 f) (hg : x ∈ L.GL) (hj : j + 1 ≤ L.k) (hc : L.cm = true := by rfl) : DE G L (.Call (.Name x p) [] [] pos) (fun _ h => mkF cl f [] h) := mk_E0 D hg hj hc fun σ H ρ h xs => mkF_hk
theorem exm_sub {K : PySem.W.Frag} {t : Value} {C : Addr} {b : Bool} (hb : PySem.W.subIn K (.ref C) (.type "BaseException") = some true) (hc : (PySem.W.clsIn K C).isSome = true) (ht : PySem.W.typeIn K (.ref C) = some (.type "type")) (hs : PySem.W.subIn K t (.ref C) = some b) : PySem.W.exmOne K t (.ref C) = some b := by
  unfold PySem.W.exmOne
  rw [hb, if_pos (by decide)]
  unfold PySem.W.kitCls
  dsimp only
  rw [hc, ht, if_pos (by decide)]
  exact hs
/-! ### facts within a suite -/
theorem GlobC.xw {a : A} {y : Option Xi} (g : GlobC G x a) : GlobC (G.xw y) x a := let ⟨v, u, e, r, k⟩ := g.ex; ⟨v, u, e, r, fun H ρ => (k H ρ).xw⟩
theorem XisOk.xw {sub : Nat → Nat → Option Bool} {bt : Nat → String → Option Bool} {y : Option Xi} (g : XisOk G sub bt) : XisOk (G.xw y) sub bt := by
  refine ⟨fun c d b e => ?_, fun c n b e => ?_⟩
  · obtain ⟨z, k⟩ := g.sub c d b e; exact ⟨⟨z.cl, z.ga, z.gt, z.sb, z.ha, z.hn, z.ht, z.hm⟩, k⟩
  · obtain ⟨z, k⟩ := g.bt c n b e; exact ⟨⟨z.cl, z.ga, z.gt, z.sb, z.ha, z.hn, z.ht, z.hm⟩, k⟩
/-! ### tables of built-in methods -/
def bt_pop : Bt | .dct => some popD | _ => none
theorem bt_pop_ok : BtOk G L "pop" bt_pop := fun T g e => match T, e with
  | .dct, e => by cases e; exact ⟨_, PySem.F.plainAttrs_dict, PySem.F.slot_dict_pop, PySem.F.type_dict_pop, om_popD⟩
def bt_append : Bt | .lst => some appendA | _ => none
theorem bt_append_ok : BtOk G L "append" bt_append := fun T g e => match T, e with
  | .lst, e => by cases e; exact ⟨_, PySem.F.plainAttrs_list, PySem.F.slot_list_append, PySem.F.type_list_append, om_append⟩
def noIt : Nat → Option Nat := fun _ => none
theorem noIt_ok : ItOk G noIt := fun c j e => nomatch e
end
end Rx
set_option Elab.async false
set_option linter.all false
set_option maxRecDepth 100000
set_option maxHeartbeats 4000000
/-! RxV: evaluation: the combinators applied, by simp from the outside. -/
namespace Rx
open PySem L2 Sx
section
variable {α β : Type} {sl : Sl} {h h1 : Hs} {fa fb fc fo fe : FE} {ft fu : FT} {fs : FA} {f g : FS} {gg : FG} {x y z : A} {xs : List A}
theorem bind_nx {k : FS} : (OutS.nx sl h).bind k = k sl h := (rfl)
theorem bind_rt {k : FS} : (OutS.rt x h).bind k = .rt x h := (rfl)
theorem bind_bk {k : FS} : (OutS.bk sl h).bind k = .bk sl h := (rfl)
theorem bind_ct {k : FS} : (OutS.ct sl h).bind k = .ct sl h := (rfl)
theorem need_some {a : α} {k : α → Out β} : need (some a) k = k a := (rfl)
theorem chk_true {k : Out β} : chk true k = k := (rfl)
theorem fin_rt : (OutS.rt x h).fin = .ok x h := (rfl)
theorem fin_nx : (OutS.nx sl h).fin = .ok .non h := (rfl)
theorem sSeq_ap : sSeq f g sl h = (f sl h).bind g := (rfl)
theorem sNx_ap : sNx sl h = .nx sl h := (rfl)
theorem sBk_ap : sBk sl h = .bk sl h := (rfl)
theorem sCt_ap : sCt sl h = .ct sl h := (rfl)
theorem sRetN_ap : sRetN sl h = .rt .non h := (rfl)
def kExpr (m : Out A) (sl : Sl) : OutS := m.bindS sl fun _ h1 => .nx sl h1
theorem kExpr_ok : kExpr (.ok x h) sl = .nx sl h := (rfl)
theorem sExpr_ap : sExpr fa sl h = kExpr (fa sl h) sl := (rfl)
def kRet (m : Out A) (sl : Sl) : OutS := m.bindS sl fun a h1 => .rt a h1
theorem kRet_ok : kRet (.ok x h) sl = .rt x h := (rfl)
theorem sRet_ap : sRet fa sl h = kRet (fa sl h) sl := (rfl)
def kIf (m : Out Bool) (f g : FS) (sl : Sl) : OutS := m.bindS sl fun b h1 => match b with | true => f sl h1 | false => g sl h1
theorem kIf_t : kIf (.ok true h) f g sl = f sl h := (rfl)
theorem kIf_f : kIf (.ok false h) f g sl = g sl h := (rfl)
theorem sIf_ap : sIf ft f g sl h = kIf (ft sl h) f g sl := (rfl)
def kSet (m : Out A) (i : Nat) (sl : Sl) : OutS := m.bindS sl fun a h1 => .nx (sl.set i (some a)) h1
theorem kSet_ok {i : Nat} : kSet (.ok x h) i sl = .nx (sl.set i (some x)) h := (rfl)
theorem sSet_ap {i : Nat} : sSet i fa sl h = kSet (fa sl h) i sl := (rfl)
def kPar (m : Out A) (i j : Nat) (fb : FE) (sl : Sl) : OutS := m.bindS sl fun x h1 => (fb sl h1).bindS sl fun y h2 => .nx ((sl.set i (some x)).set j (some y)) h2
def kParb (m : Out A) (i j : Nat) (x : A) (sl : Sl) : OutS := m.bindS sl fun y h2 => .nx ((sl.set i (some x)).set j (some y)) h2
theorem kPar_ok {i j : Nat} : kPar (.ok x h) i j fb sl = kParb (fb sl h) i j x sl := (rfl)
theorem kParb_ok {i j : Nat} : kParb (.ok y h) i j x sl = .nx ((sl.set i (some x)).set j (some y)) h := (rfl)
theorem sPar_ap {i j : Nat} : sPar i j fa fb sl h = kPar (fa sl h) i j fb sl := (rfl)
def kP3 (m : Out A) (i j l : Nat) (fb fc : FE) (sl : Sl) : OutS := m.bindS sl fun x h1 => (fb sl h1).bindS sl fun y h2 => (fc sl h2).bindS sl fun z h3 => .nx (((sl.set i (some x)).set j (some y)).set l (some z)) h3
def kP3b (m : Out A) (i j l : Nat) (fc : FE) (x : A) (sl : Sl) : OutS := m.bindS sl fun y h2 => (fc sl h2).bindS sl fun z h3 => .nx (((sl.set i (some x)).set j (some y)).set l (some z)) h3
def kP3c (m : Out A) (i j l : Nat) (x y : A) (sl : Sl) : OutS := m.bindS sl fun z h3 => .nx (((sl.set i (some x)).set j (some y)).set l (some z)) h3
theorem kP3_ok {i j l : Nat} : kP3 (.ok x h) i j l fb fc sl = kP3b (fb sl h) i j l fc x sl := (rfl)
theorem kP3b_ok {i j l : Nat} : kP3b (.ok y h) i j l fc x sl = kP3c (fc sl h) i j l x y sl := (rfl)
theorem kP3c_ok {i j l : Nat} : kP3c (.ok z h) i j l x y sl = .nx (((sl.set i (some x)).set j (some y)).set l (some z)) h := (rfl)
theorem sPar3_ap {i j l : Nat} : sPar3 i j l fa fb fc sl h = kP3 (fa sl h) i j l fb fc sl := (rfl)
def onlyX (o : OutS) : OutS := match o with | .nx sl2 h2 => .nx sl2 h2 | .ex x sl2 h2 => .ex x sl2 h2 | _ => .bad
theorem onlyX_nx : onlyX (.nx sl h) = .nx sl h := (rfl)
def kAsg (m : Out A) (gg : FG) (sl : Sl) : OutS := m.bindS sl fun a h1 => onlyX (gg a sl h1)
theorem kAsg_ok : kAsg (.ok x h) gg sl = onlyX (gg x sl h) := (rfl)
theorem sAsg_ap : sAsg fa gg sl h = kAsg (fa sl h) gg sl := (rfl)
theorem gName_ap {i : Nat} : gName i x sl h = .nx (sl.set i (some x)) h := (rfl)
variable {st : A → A → A → Hs → Out Unit}
def kGs (m : Out A) (fi : FE) (st : A → A → A → Hs → Out Unit) (a : A) (sl : Sl) : OutS := m.bindS sl fun o h1 => (fi sl h1).bindS sl fun i h2 => (st o i a h2).bindS sl fun _ h3 => .nx sl h3
def kGs2 (m : Out A) (st : A → A → A → Hs → Out Unit) (a o : A) (sl : Sl) : OutS := m.bindS sl fun i h2 => (st o i a h2).bindS sl fun _ h3 => .nx sl h3
def kGs3 (m : Out Unit) (sl : Sl) : OutS := m.bindS sl fun _ h3 => .nx sl h3
theorem kGs_ok : kGs (.ok x h) fa st z sl = kGs2 (fa sl h) st z x sl := (rfl)
theorem kGs2_ok : kGs2 (.ok y h) st z x sl = kGs3 (st x y z h) sl := (rfl)
theorem kGs3_ok : kGs3 (.ok () h) sl = .nx sl h := (rfl)
theorem gSub_ap : gSub fo fa st x sl h = kGs (fo sl h) fa st x sl := (rfl)
def kGt (b : Bool) (gs : List A → Sl → Hs → OutS) (xs : List A) (sl : Sl) (h : Hs) : OutS := match b with | true => gs xs sl h | false => .bad
theorem kGt_t {gs : List A → Sl → Hs → OutS} : kGt true gs xs sl h = gs xs sl h := (rfl)
theorem gTup_ap {n : Nat} {gs : List A → Sl → Hs → OutS} : gTup n gs (.tup xs) sl h = kGt (Nat.beq xs.length n) gs xs sl h := (rfl)
theorem gsNil_ap : gsNil [] sl h = .nx sl h := (rfl)
theorem gsCons_ap {gs : List A → Sl → Hs → OutS} : gsCons gg gs (x :: xs) sl h = (gg x sl h).bind (gs xs) := (rfl)
def getV (o : Option (Option A)) (h : Hs) : Out A := match o with | some (some a) => .ok a h | _ => .bad
theorem getV_some : getV (some (some x)) h = .ok x h := (rfl)
theorem eVar_ap {i : Nat} : eVar i sl h = getV sl[i]? h := (rfl)
theorem eC_ap : eC x sl h = .ok x h := (rfl)
def kE1 (m : Out A) (k : A → Hs → Out A) : Out A := m.bind k
theorem kE1_ok {k : A → Hs → Out A} : kE1 (.ok x h) k = k x h := (rfl)
def kE2 (m : Out A) (fb : FE) (k : A → A → Hs → Out A) (sl : Sl) : Out A := m.bind fun x h1 => (fb sl h1).bind fun y h2 => k x y h2
def kE2b (m : Out A) (k : A → A → Hs → Out A) (x : A) : Out A := m.bind fun y h2 => k x y h2
theorem kE2_ok {k : A → A → Hs → Out A} : kE2 (.ok x h) fb k sl = kE2b (fb sl h) k x := (rfl)
theorem kE2b_ok {k : A → A → Hs → Out A} : kE2b (.ok y h) k x = k x y h := (rfl)
theorem e2_ap {k : A → A → Hs → Out A} : e2 fa fb k sl h = kE2 (fa sl h) fb k sl := (rfl)
theorem e1_ap {k : A → Hs → Out A} : e1 fa k sl h = kE1 (fa sl h) k := (rfl)
def kB (m : Out A) : Out Bool := m.bind isB
theorem kB_ok {b : Bool} : kB (.ok (.bl b) h) = .ok b h := (rfl)
def kT2 (m : Out A) (fb : FE) (k : A → A → Hs → Out A) (sl : Sl) : Out Bool := m.bind fun x h1 => (fb sl h1).bind fun y h2 => (k x y h2).bind isB
def kT2b (m : Out A) (k : A → A → Hs → Out A) (x : A) : Out Bool := m.bind fun y h2 => (k x y h2).bind isB
theorem kT2_ok {k : A → A → Hs → Out A} : kT2 (.ok x h) fb k sl = kT2b (fb sl h) k x := (rfl)
theorem kT2b_ok {k : A → A → Hs → Out A} : kT2b (.ok y h) k x = kB (k x y h) := (rfl)
theorem e2t_ap {k : A → A → Hs → Out A} : e2t fa fb k sl h = kT2 (fa sl h) fb k sl := (rfl)
def kT1 (m : Out A) (k : A → Hs → Out Bool) : Out Bool := m.bind k
theorem kT1_ok {k : A → Hs → Out Bool} : kT1 (.ok x h) k = k x h := (rfl)
theorem t1_ap {k : A → Hs → Out Bool} : t1 fa k sl h = kT1 (fa sl h) k := (rfl)
theorem truA_bl {b : Bool} : truA (.bl b) h = .ok b h := (rfl)
theorem isB_bl {b : Bool} : isB (.bl b) h = .ok b h := (rfl)
def kNot (m : Out Bool) : Out Bool := m.bind fun b h1 => .ok (!b) h1
theorem kNot_ok {b : Bool} : kNot (.ok b h) = .ok (!b) h := (rfl)
theorem tNot_ap : tNot ft sl h = kNot (ft sl h) := (rfl)
def kAnd (m : Out Bool) (fu : FT) (sl : Sl) : Out Bool := m.bind fun b h1 => match b with | true => fu sl h1 | false => .ok false h1
theorem kAnd_t : kAnd (.ok true h) fu sl = fu sl h := (rfl)
theorem kAnd_f : kAnd (.ok false h) fu sl = .ok false h := (rfl)
theorem tAnd_ap : tAnd ft fu sl h = kAnd (ft sl h) fu sl := (rfl)
def kOr (m : Out Bool) (fu : FT) (sl : Sl) : Out Bool := m.bind fun b h1 => match b with | true => .ok true h1 | false => fu sl h1
theorem kOr_t : kOr (.ok true h) fu sl = .ok true h := (rfl)
theorem kOr_f : kOr (.ok false h) fu sl = fu sl h := (rfl)
theorem tOr_ap : tOr ft fu sl h = kOr (ft sl h) fu sl := (rfl)
def kIfE (m : Out Bool) (fa fb : FE) (sl : Sl) : Out A := m.bind fun b h1 => match b with | true => fa sl h1 | false => fb sl h1
theorem kIfE_t : kIfE (.ok true h) fa fb sl = fa sl h := (rfl)
theorem kIfE_f : kIfE (.ok false h) fa fb sl = fb sl h := (rfl)
theorem eIf_ap : eIf ft fa fb sl h = kIfE (ft sl h) fa fb sl := (rfl)
def kAndE (m : Out A) (fb : FE) (sl : Sl) : Out A := m.bind fun x h1 => match x with | .bl true => fb sl h1 | .bl false => .ok (.bl false) h1 | _ => .bad
theorem kAndE_t : kAndE (.ok (.bl true) h) fb sl = fb sl h := (rfl)
theorem kAndE_f : kAndE (.ok (.bl false) h) fb sl = .ok (.bl false) h := (rfl)
theorem eAnd_ap : eAnd fa fb sl h = kAndE (fa sl h) fb sl := (rfl)
def kOrE (m : Out A) (fb : FE) (sl : Sl) : Out A := m.bind fun x h1 => match x with | .bl true => .ok (.bl true) h1 | .bl false => fb sl h1 | _ => .bad
theorem kOrE_t : kOrE (.ok (.bl true) h) fb sl = .ok (.bl true) h := (rfl)
theorem kOrE_f : kOrE (.ok (.bl false) h) fb sl = fb sl h := (rfl)
theorem eOr_ap : eOr fa fb sl h = kOrE (fa sl h) fb sl := (rfl)
def kNotE (m : Out A) : Out A := m.bind fun x h1 => match x with | .bl b => .ok (.bl (!b)) h1 | _ => .bad
theorem kNotE_ok {b : Bool} : kNotE (.ok (.bl b) h) = .ok (.bl (!b)) h := (rfl)
theorem eNot_ap : eNot fa sl h = kNotE (fa sl h) := (rfl)
theorem aNil_ap : aNil sl h = .ok [] h := (rfl)
def kA (m : Out A) (fs : FA) (sl : Sl) : Out (List A) := m.bind fun x h1 => (fs sl h1).bind fun xs h2 => .ok (x :: xs) h2
def kAb (m : Out (List A)) (x : A) : Out (List A) := m.bind fun xs h2 => .ok (x :: xs) h2
theorem kA_ok : kA (.ok x h) fs sl = kAb (fs sl h) x := (rfl)
theorem kAb_ok : kAb (.ok xs h) x = .ok (x :: xs) h := (rfl)
theorem aCons_ap : aCons fa fs sl h = kA (fa sl h) fs sl := (rfl)
def kTup (m : Out (List A)) : Out A := m.bind fun xs h1 => chk (Nat.ble xs.length sizeLine) (.ok (.tup xs) h1)
def kLst (m : Out (List A)) : Out A := m.bind fun xs h1 => chk (Nat.ble xs.length sizeLine) (.ok (.lst xs) h1)
def kLstT (m : Out (List A)) : Out A := m.bind fun xs h1 => chk (Nat.ble xs.length sizeLine) (.ok (.ref h1.length) (h1 ++ [.lst xs]))
theorem kTup_ok : kTup (.ok xs h) = chk (Nat.ble xs.length sizeLine) (.ok (.tup xs) h) := (rfl)
theorem kLst_ok : kLst (.ok xs h) = chk (Nat.ble xs.length sizeLine) (.ok (.lst xs) h) := (rfl)
theorem kLstT_ok : kLstT (.ok xs h) = chk (Nat.ble xs.length sizeLine) (.ok (.ref h.length) (h ++ [.lst xs])) := (rfl)
theorem eTup_ap : eTup fs sl h = kTup (fs sl h) := (rfl)
theorem eLst_ap : eLst fs sl h = kLst (fs sl h) := (rfl)
theorem eLstT_ap : eLstT fs sl h = kLstT (fs sl h) := (rfl)
def kK (m : Out (List A)) (k : F) : Out A := m.bind k
theorem kK_ok {k : F} : kK (.ok xs h) k = k xs h := (rfl)
theorem eK_ap {k : F} : eK fs k sl h = kK (fs sl h) k := (rfl)
theorem eAt_ap {att : Nat → At} : eAt att fa sl h = kE1 (fa sl h) (getAt att) := (rfl)
theorem f1_ap {k : A → Hs → Out A} : f1 k [x] h = k x h := (rfl)
theorem f2_ap {k : A → A → Hs → Out A} : f2 k [x, y] h = k x y h := (rfl)
theorem aCmp_ap {p : Int → Int → Bool} {i j : Int} : aCmp p (.int i) (.int j) h = .ok (.bl (p i j)) h := (rfl)
theorem aAdd_int {i j : Int} : aAdd (.int i) (.int j) h = .ok (.int (i + j)) h := (rfl)
theorem aInt_ap {p : Int → Int → Option Int} {i j : Int} : aInt p (.int i) (.int j) h = need (p i j) fun k => .ok (.int k) h := (rfl)
theorem gSub_int {i j : Int} : gSub' i j = some (i - j) := (rfl)
theorem gMod_int {i j : Int} (hj : 0 < j) : gMod i j = some (i % j) := by unfold gMod; rw [decide_eq_true hj]
theorem gMul_l {i j : Int} (hj : -18446744073709551616 < i ∧ i < 18446744073709551616) : gMul i j = some (i * j) := by unfold gMul; rw [decide_eq_true (.inl hj)]
theorem gMul_r {i j : Int} (hj : -18446744073709551616 < j ∧ j < 18446744073709551616) : gMul i j = some (i * j) := by unfold gMul; rw [decide_eq_true (.inr hj)]
theorem gDiv_int {i j : Int} (hj : 0 < j ∧ j ≤ 10000000000000000000000000000000) : gDiv i j = some (i / j) := by unfold gDiv; rw [decide_eq_true hj]
theorem intA_int {i : Int} : intA (.int i) h = .ok (.int i) h := (rfl)
theorem intA_bl {b : Bool} : intA (.bl b) h = .ok (.int (if b then 1 else 0)) h := (rfl)
theorem absA_int {i : Int} : absA (.int i) h = .ok (.int (if i < 0 then -i else i)) h := (rfl)
theorem maxA_int {i j : Int} : maxA (.int i) (.int j) h = .ok (.int (if j > i then j else i)) h := (rfl)
theorem minA_int {i j : Int} : minA (.int i) (.int j) h = .ok (.int (if j < i then j else i)) h := (rfl)
theorem aNeg_int {i : Int} : aNeg (.int i) h = .ok (.int (-i)) h := (rfl)
theorem lenA_scr {ns : List Int} : lenA (.scr ns) h = .ok (.int (Int.ofNat ns.length)) h := (rfl)
theorem lenA_lst : lenA (.lst xs) h = .ok (.int (Int.ofNat xs.length)) h := (rfl)
theorem lenA_tup : lenA (.tup xs) h = .ok (.int (Int.ofNat xs.length)) h := (rfl)
theorem ixA_scr {ns : List Int} {i : Int} : ixA (.scr ns) (.int i) h = need (atI ns i) fun n => .ok (.int n) h := (rfl)
theorem ixA_lst {i : Int} : ixA (.lst xs) (.int i) h = need (atI xs i) fun z => .ok z h := (rfl)
theorem ixA_tup {i : Int} : ixA (.tup xs) (.int i) h = need (atI xs i) fun z => .ok z h := (rfl)
theorem ixA_ref {n : Nat} {i : Int} (hn : h[n]? = some (.lst xs)) : ixA (.ref n) (.int i) h = need (atI xs i) fun z => .ok z h := by
  have e : itemsOf (.ref n) h = some xs := by
    show (match h[n]? with | some (.lst xs) => some xs | _ => none) = _
    rw [hn]
  show need (itemsOf (.ref n) h) _ = _
  rw [e]; rfl
theorem setL_ref {n : Nat} {i : Int} (hn : h[n]? = some (.lst xs)) : setL (.ref n) (.int i) z h = need (ixN xs.length i) fun j => .ok () (h.set n (.lst (xs.set j z))) := by
  show (match h[n]? with | some (.lst xs) => need (ixN xs.length i) fun j => .ok () (h.set n (.lst (xs.set j z))) | _ => .bad) = _
  rw [hn]
theorem get_set {n : Nat} {o o' : O} (hn : h[n]? = some o) : (h.set n o')[n]? = some o' := by
  have hl : n < h.length := by
    by_cases hl : n < h.length
    · exact hl
    · rw [List.getElem?_eq_none (by omega)] at hn; cases hn
  rw [List.getElem?_set_self hl]
theorem set_set {n : Nat} {o o' : O} : (h.set n o').set n o = h.set n o := List.set_set ..
theorem runF_ap {n nl : Nat} {fb : FS} (hx : xs.length = n) : runF n nl fb xs h = (fb (xs.map some ++ List.replicate (nl - n) none) h).fin := by
  unfold runF
  rw [show Nat.beq xs.length n = true by rw [hx]; exact Nat.beq_refl n]
end
end Rx
set_option Elab.async false
set_option linter.all false
set_option maxRecDepth 100000
set_option maxHeartbeats 4000000
/-! RxW: what is wished of a pure outcome: frames, and the equations by which simp walks a text of combinators from its root. -/
namespace Rx
open PySem L2 Sx
structure KE (α : Type) where
  q : α → Hs → Prop
  e : Xc → Hs → Prop
structure KS where
  n : Sl → Hs → Prop
  r : A → Hs → Prop
  b : Sl → Hs → Prop
  c : Sl → Hs → Prop
  e : Xc → Sl → Hs → Prop
def Out.sat {α : Type} (m : Out α) (k : KE α) : Prop := match m with
  | .ok a h => k.q a h
  | .ex x h => k.e x h
  | .bad => False
def OutS.sat (m : OutS) (k : KS) : Prop := match m with
  | .nx sl h => k.n sl h
  | .rt a h => k.r a h
  | .bk sl h => k.b sl h
  | .ct sl h => k.c sl h
  | .ex x sl h => k.e x sl h
  | .bad => False
/-- both ways of a test -/
structure Cond (b : Bool) (P Q : Prop) : Prop where
  t : b = true → P
  f : b = false → Q
theorem cond_true {P Q : Prop} : Cond true P Q = P := propext ⟨fun c => c.t rfl, fun p => ⟨fun _ => p, fun z => nomatch z⟩⟩
theorem cond_false {P Q : Prop} : Cond false P Q = Q := propext ⟨fun c => c.f rfl, fun p => ⟨fun z => (nomatch z), fun _ => p⟩⟩
theorem cond_t {P Q : Prop} {b : Bool} (e : b = true) (p : P) : Cond b P Q := by rw [e, cond_true]; exact p
theorem cond_f {P Q : Prop} {b : Bool} (e : b = false) (p : Q) : Cond b P Q := by rw [e, cond_false]; exact p
theorem cond_dt {c P Q : Prop} [Decidable c] (hc : c) (p : P) : Cond (decide c) P Q := cond_t (decide_eq_true hc) p
theorem cond_df {c P Q : Prop} [Decidable c] (hc : ¬ c) (p : Q) : Cond (decide c) P Q := cond_f (decide_eq_false hc) p
theorem cond_d {c P Q : Prop} [Decidable c] (p : c → P) (q : ¬ c → Q) : Cond (decide c) P Q := ⟨fun z => p (of_decide_eq_true z), fun z => q (of_decide_eq_false z)⟩
theorem cond_not {b : Bool} {P Q : Prop} : Cond (!b) P Q = Cond b Q P := by cases b <;> simp [cond_true, cond_false]
/-- both ways, not yet gone -/
def CdS (b : Bool) (f g : FS) (sl : Sl) (h : Hs) (k : KS) : Prop := Cond b ((f sl h).sat k) ((g sl h).sat k)
def CdE {α : Type} (b : Bool) (f g : Sl → Hs → Out α) (sl : Sl) (h : Hs) (k : KE α) : Prop := Cond b ((f sl h).sat k) ((g sl h).sat k)
section
variable {α β : Type} {sl : Sl} {h h1 : Hs} {fa fb fc fo fi fe : FE} {ft fu : FT} {fs : FA} {f g : FS} {gg : FG} {x y z : A} {xs ys : List A} {k : KS} {ke : KE A} {kt : KE Bool} {kl : KE (List A)} {i j l n : Nat} {xc : Xc} {b : Bool}
theorem cds_t : CdS true f g sl h k = (f sl h).sat k := cond_true
theorem cds_f : CdS false f g sl h k = (g sl h).sat k := cond_false
theorem cde_t {f g : Sl → Hs → Out α} {k : KE α} : CdE true f g sl h k = (f sl h).sat k := cond_true
theorem cde_f {f g : Sl → Hs → Out α} {k : KE α} : CdE false f g sl h k = (g sl h).sat k := cond_false
theorem cds_by (p : b = true → (f sl h).sat k) (q : b = false → (g sl h).sat k) : CdS b f g sl h k := ⟨p, q⟩
theorem cde_by {f g : Sl → Hs → Out α} {k : KE α} (p : b = true → (f sl h).sat k) (q : b = false → (g sl h).sat k) : CdE b f g sl h k := ⟨p, q⟩
theorem cds_d {c : Prop} [Decidable c] (p : c → (f sl h).sat k) (q : ¬ c → (g sl h).sat k) : CdS (decide c) f g sl h k := cond_d p q
theorem cde_d {c : Prop} [Decidable c] {f g : Sl → Hs → Out α} {k : KE α} (p : c → (f sl h).sat k) (q : ¬ c → (g sl h).sat k) : CdE (decide c) f g sl h k := cond_d p q
theorem cds_not : CdS (!b) f g sl h k = CdS b g f sl h k := cond_not
theorem cde_not {f g : Sl → Hs → Out α} {k : KE α} : CdE (!b) f g sl h k = CdE b g f sl h k := cond_not
theorem s_ok {a : α} {k : KE α} : (Out.ok a h).sat k = k.q a h := (rfl)
theorem s_ex {k : KE α} : (Out.ex xc h : Out α).sat k = k.e xc h := (rfl)
theorem s_bad {k : KE α} : (Out.bad : Out α).sat k = False := (rfl)
theorem s_Nx : (OutS.nx sl h).sat k = k.n sl h := (rfl)
theorem s_Rt : (OutS.rt x h).sat k = k.r x h := (rfl)
theorem Out.sat_mono {m : Out α} {k k' : KE α} (s : m.sat k) (q : ∀ a h, k.q a h → k'.q a h) (e : ∀ a h, k.e a h → k'.e a h) : m.sat k' := by
  cases m with
  | ok a h => exact q a h s
  | ex x h => exact e x h s
  | bad => exact s
theorem OutS.sat_mono {m : OutS} {k k' : KS} (s : m.sat k) (n : ∀ a h, k.n a h → k'.n a h) (r : ∀ a h, k.r a h → k'.r a h) (b : ∀ a h, k.b a h → k'.b a h) (c : ∀ a h, k.c a h → k'.c a h) (e : ∀ x a h, k.e x a h → k'.e x a h) : m.sat k' := by
  cases m with
  | nx a h => exact n a h s
  | rt a h => exact r a h s
  | bk a h => exact b a h s
  | ct a h => exact c a h s
  | ex x a h => exact e x a h s
  | bad => exact s
/-- what a call comes to, used ahead of what is wished behind it -/
theorem sat_thn {m : Out α} {k : KE α} (P : α → Hs → Prop) (s : m.sat ⟨P, fun _ _ => False⟩) (c : ∀ a h, P a h → k.q a h) : m.sat k := Out.sat_mono s c fun _ _ z => z.elim
theorem sat_of {m : Out α} {k : KE α} {a : α} (e : m = .ok a h) (q : k.q a h) : m.sat k := by rw [e]; exact q

/-! ### statements -/
/-- a cut behind a statement -/
theorem cut_seq {f g : FS} (P : Sl → Hs → Prop) (s : (f sl h).sat ⟨P, fun _ _ => False, fun _ _ => False, fun _ _ => False, fun _ _ _ => False⟩) (c : ∀ sl h, P sl h → (g sl h).sat k) : (sSeq f g sl h).sat k := by
  unfold sSeq
  cases hf : f sl h with
  | nx sl1 h1 => rw [hf] at s; exact c sl1 h1 s
  | rt a h1 => rw [hf] at s; exact s.elim
  | bk a h1 => rw [hf] at s; exact s.elim
  | ct a h1 => rw [hf] at s; exact s.elim
  | ex x a h1 => rw [hf] at s; exact s.elim
  | bad => rw [hf] at s; exact s.elim
def kSeq (g : FS) (k : KS) : KS := ⟨fun sl h => (g sl h).sat k, k.r, k.b, k.c, k.e⟩
theorem n_seq : (kSeq g k).n sl h = (g sl h).sat k := (rfl)
theorem r_seq : (kSeq g k).r x h = k.r x h := (rfl)
theorem b_seq : (kSeq g k).b sl h = k.b sl h := (rfl)
theorem c_seq : (kSeq g k).c sl h = k.c sl h := (rfl)
theorem e_seq : (kSeq g k).e xc sl h = k.e xc sl h := (rfl)
theorem s_sbind {m : OutS} {g : FS} : (m.bind g).sat k = m.sat (kSeq g k) := by cases m <;> rfl
theorem s_seq : (sSeq f g sl h).sat k = (f sl h).sat (kSeq g k) := s_sbind
theorem s_nx : (sNx sl h).sat k = k.n sl h := (rfl)
theorem s_bk : (sBk sl h).sat k = k.b sl h := (rfl)
theorem s_ct : (sCt sl h).sat k = k.c sl h := (rfl)
theorem s_retN : (sRetN sl h).sat k = k.r .non h := (rfl)
/-- a value within a statement -/
def kV (sl : Sl) (c : α → Hs → OutS) (k : KS) : KE α := ⟨fun a h => (c a h).sat k, fun x h => k.e x sl h⟩
theorem s_bindS {m : Out α} {c : α → Hs → OutS} : (m.bindS sl c).sat k = m.sat (kV sl c k) := by cases m <;> rfl

def kExp (sl : Sl) (k : KS) : KE A := ⟨fun a h => k.n sl h, fun xc h => k.e xc sl h⟩
theorem q_expr {a : A} : (kExp sl k).q a h = k.n sl h := (rfl)
theorem e_expr : (kExp sl k).e xc h = k.e xc sl h := (rfl)
theorem s_expr : (sExpr fa sl h).sat k = (fa sl h).sat (kExp sl k) := s_bindS
def kRe (sl : Sl) (k : KS) : KE A := ⟨fun a h => k.r a h, fun xc h => k.e xc sl h⟩
theorem q_ret {a : A} : (kRe sl k).q a h = k.r a h := (rfl)
theorem e_ret : (kRe sl k).e xc h = k.e xc sl h := (rfl)
theorem s_ret : (sRet fa sl h).sat k = (fa sl h).sat (kRe sl k) := s_bindS
def kSe (i : Nat) (sl : Sl) (k : KS) : KE A := ⟨fun a h => k.n (sl.set i (some a)) h, fun xc h => k.e xc sl h⟩
theorem q_set {a : A} : (kSe i sl k).q a h = k.n (sl.set i (some a)) h := (rfl)
theorem e_set : (kSe i sl k).e xc h = k.e xc sl h := (rfl)
theorem s_set : (sSet i fa sl h).sat k = (fa sl h).sat (kSe i sl k) := s_bindS
def kIff (f g : FS) (sl : Sl) (k : KS) : KE Bool := ⟨fun b h => Cond b ((f sl h).sat k) ((g sl h).sat k), fun xc h => k.e xc sl h⟩
theorem q_if {b : Bool} : (kIff f g sl k).q b h = CdS b f g sl h k := (rfl)
theorem e_if : (kIff f g sl k).e xc h = k.e xc sl h := (rfl)
theorem s_if : (sIf ft f g sl h).sat k = (ft sl h).sat (kIff f g sl k) := by
  refine s_bindS.trans ?_
  cases ft sl h with
  | ok b h => cases b <;> simp [Out.sat, kV, kIff, cond_true, cond_false]
  | ex x h => rfl
  | bad => rfl
def kPa2 (i j : Nat) (x : A) (sl : Sl) (k : KS) : KE A := ⟨fun a h => k.n ((sl.set i (some x)).set j (some a)) h, fun xc h => k.e xc sl h⟩
theorem q_parb {a : A} : (kPa2 i j x sl k).q a h = k.n ((sl.set i (some x)).set j (some a)) h := (rfl)
theorem e_parb : (kPa2 i j x sl k).e xc h = k.e xc sl h := (rfl)
def kPa1 (i j : Nat) (fb : FE) (sl : Sl) (k : KS) : KE A := ⟨fun a h => (fb sl h).sat (kPa2 i j a sl k), fun xc h => k.e xc sl h⟩
theorem q_par {a : A} : (kPa1 i j fb sl k).q a h = (fb sl h).sat (kPa2 i j a sl k) := (rfl)
theorem e_par : (kPa1 i j fb sl k).e xc h = k.e xc sl h := (rfl)
theorem s_par : (sPar i j fa fb sl h).sat k = (fa sl h).sat (kPa1 i j fb sl k) := by
  refine s_bindS.trans ?_
  cases fa sl h with
  | ok a h => exact s_bindS
  | ex x h => rfl
  | bad => rfl
def kPb3 (i j l : Nat) (x y : A) (sl : Sl) (k : KS) : KE A := ⟨fun a h => k.n (((sl.set i (some x)).set j (some y)).set l (some a)) h, fun xc h => k.e xc sl h⟩
theorem q_par3c {a : A} : (kPb3 i j l x y sl k).q a h = k.n (((sl.set i (some x)).set j (some y)).set l (some a)) h := (rfl)
theorem e_par3c : (kPb3 i j l x y sl k).e xc h = k.e xc sl h := (rfl)
def kPb2 (i j l : Nat) (x : A) (fc : FE) (sl : Sl) (k : KS) : KE A := ⟨fun a h => (fc sl h).sat (kPb3 i j l x a sl k), fun xc h => k.e xc sl h⟩
theorem q_par3b {a : A} : (kPb2 i j l x fc sl k).q a h = (fc sl h).sat (kPb3 i j l x a sl k) := (rfl)
theorem e_par3b : (kPb2 i j l x fc sl k).e xc h = k.e xc sl h := (rfl)
def kPb1 (i j l : Nat) (fb fc : FE) (sl : Sl) (k : KS) : KE A := ⟨fun a h => (fb sl h).sat (kPb2 i j l a fc sl k), fun xc h => k.e xc sl h⟩
theorem q_par3 {a : A} : (kPb1 i j l fb fc sl k).q a h = (fb sl h).sat (kPb2 i j l a fc sl k) := (rfl)
theorem e_par3 : (kPb1 i j l fb fc sl k).e xc h = k.e xc sl h := (rfl)
theorem s_par3 : (sPar3 i j l fa fb fc sl h).sat k = (fa sl h).sat (kPb1 i j l fb fc sl k) := by
  refine s_bindS.trans ?_
  cases fa sl h with
  | ok a h =>
    refine s_bindS.trans ?_
    show (fb sl h).sat _ = (fb sl h).sat _
    cases fb sl h with
    | ok a h => exact s_bindS
    | ex x h => rfl
    | bad => rfl
  | ex x h => rfl
  | bad => rfl
def kNo (k : KS) : KS := ⟨k.n, fun _ _ => False, fun _ _ => False, fun _ _ => False, k.e⟩
theorem n_no : (kNo k).n sl h = k.n sl h := (rfl)
theorem e_no : (kNo k).e xc sl h = k.e xc sl h := (rfl)
def kAs (gg : FG) (sl : Sl) (k : KS) : KE A := ⟨fun a h => (gg a sl h).sat (kNo k), fun xc h => k.e xc sl h⟩
theorem q_as {a : A} : (kAs gg sl k).q a h = (gg a sl h).sat (kNo k) := (rfl)
theorem e_as : (kAs gg sl k).e xc h = k.e xc sl h := (rfl)
theorem s_asg : (sAsg fa gg sl h).sat k = (fa sl h).sat (kAs gg sl k) := by
  refine s_bindS.trans ?_
  cases fa sl h with
  | ok a h =>
    show OutS.sat (match gg a sl h with | .nx sl2 h2 => .nx sl2 h2 | .ex x sl2 h2 => .ex x sl2 h2 | _ => .bad) k = (gg a sl h).sat (kNo k)
    cases gg a sl h <;> rfl
  | ex x h => rfl
  | bad => rfl
theorem s_gname : (gName i x sl h).sat k = k.n (sl.set i (some x)) h := (rfl)
variable {st : A → A → A → Hs → Out Unit}
def kGu (sl : Sl) (k : KS) : KE Unit := ⟨fun _ h => k.n sl h, fun xc h => k.e xc sl h⟩
theorem q_gu {u : Unit} : (kGu sl k).q u h = k.n sl h := (rfl)
theorem e_gu : (kGu sl k).e xc h = k.e xc sl h := (rfl)
def kGi (st : A → A → A → Hs → Out Unit) (v o : A) (sl : Sl) (k : KS) : KE A := ⟨fun a h => (st o a v h).sat (kGu sl k), fun xc h => k.e xc sl h⟩
theorem q_gi {a : A} : (kGi st x y sl k).q a h = (st y a x h).sat (kGu sl k) := (rfl)
theorem e_gi : (kGi st x y sl k).e xc h = k.e xc sl h := (rfl)
def kGo (fi : FE) (st : A → A → A → Hs → Out Unit) (v : A) (sl : Sl) (k : KS) : KE A := ⟨fun a h => (fi sl h).sat (kGi st v a sl k), fun xc h => k.e xc sl h⟩
theorem q_go {a : A} : (kGo fi st x sl k).q a h = (fi sl h).sat (kGi st x a sl k) := (rfl)
theorem e_go : (kGo fi st x sl k).e xc h = k.e xc sl h := (rfl)
theorem s_gsub : (gSub fo fi st x sl h).sat k = (fo sl h).sat (kGo fi st x sl k) := by
  refine s_bindS.trans ?_
  cases fo sl h with
  | ok a h =>
    refine s_bindS.trans ?_
    show (fi sl h).sat _ = (fi sl h).sat _
    cases fi sl h with
    | ok a h => exact s_bindS
    | ex x h => rfl
    | bad => rfl
  | ex x h => rfl
  | bad => rfl
theorem s_gtup2 {gs : List A → Sl → Hs → OutS} : (gTup 2 gs (.tup [x, y]) sl h).sat k = (gs [x, y] sl h).sat k := (rfl)
theorem s_gtup3 {gs : List A → Sl → Hs → OutS} : (gTup 3 gs (.tup [x, y, z]) sl h).sat k = (gs [x, y, z] sl h).sat k := (rfl)
theorem s_gtup1 {gs : List A → Sl → Hs → OutS} : (gTup 1 gs (.tup [x]) sl h).sat k = (gs [x] sl h).sat k := (rfl)
theorem s_gtup4 {gs : List A → Sl → Hs → OutS} {w : A} : (gTup 4 gs (.tup [x, y, z, w]) sl h).sat k = (gs [x, y, z, w] sl h).sat k := (rfl)
theorem s_gsnil : (gsNil [] sl h).sat k = k.n sl h := (rfl)
def kGs' (gs : List A → Sl → Hs → OutS) (xs : List A) (k : KS) : KS := ⟨fun sl h => (gs xs sl h).sat k, k.r, k.b, k.c, k.e⟩
theorem n_gs {gs : List A → Sl → Hs → OutS} : (kGs' gs xs k).n sl h = (gs xs sl h).sat k := (rfl)
theorem e_gs {gs : List A → Sl → Hs → OutS} : (kGs' gs xs k).e xc sl h = k.e xc sl h := (rfl)
theorem s_gscons {gs : List A → Sl → Hs → OutS} : (gsCons gg gs (x :: xs) sl h).sat k = (gg x sl h).sat (kGs' gs xs k) := s_sbind
variable {op : A → A → Hs → Out A} {op1 : A → Hs → Out A}
def kAu (op : A → A → Hs → Out A) (i : Nat) (x : A) (sl : Sl) (k : KS) : KE A := ⟨fun a h => (op x a h).sat (kSe i sl k), fun xc h => k.e xc sl h⟩
theorem q_au {a : A} : (kAu op i x sl k).q a h = (op x a h).sat (kSe i sl k) := (rfl)
theorem e_au : (kAu op i x sl k).e xc h = k.e xc sl h := (rfl)
def augV (o : Option (Option A)) (i : Nat) (fa : FE) (op : A → A → Hs → Out A) (sl : Sl) (h : Hs) (k : KS) : Prop := match o with | some (some x) => (fa sl h).sat (kAu op i x sl k) | _ => False
theorem augV_some : augV (some (some x)) i fa op sl h k = (fa sl h).sat (kAu op i x sl k) := (rfl)
theorem s_aug : (sAug i fa op sl h).sat k = augV sl[i]? i fa op sl h k := by
  unfold sAug
  cases sl[i]? with
  | none => rfl
  | some o =>
    cases o with
    | none => rfl
    | some a =>
      refine s_bindS.trans ?_
      show (fa sl h).sat _ = (fa sl h).sat _
      cases fa sl h with
      | ok a h => exact s_bindS
      | ex x h => rfl
      | bad => rfl
variable {att : Nat → At}
def kFo (att : Nat → At) (y : A) (sl : Sl) (k : KS) : KE A := ⟨fun a h => (setAt att a y h).sat (kGu sl k), fun xc h => k.e xc sl h⟩
theorem q_fo {a : A} : (kFo att y sl k).q a h = (setAt att a y h).sat (kGu sl k) := (rfl)
theorem e_fo : (kFo att y sl k).e xc h = k.e xc sl h := (rfl)
def kFv (att : Nat → At) (fo : FE) (sl : Sl) (k : KS) : KE A := ⟨fun a h => (fo sl h).sat (kFo att a sl k), fun xc h => k.e xc sl h⟩
theorem q_fv {a : A} : (kFv att fo sl k).q a h = (fo sl h).sat (kFo att a sl k) := (rfl)
theorem e_fv : (kFv att fo sl k).e xc h = k.e xc sl h := (rfl)
theorem s_fld : (sFld att fo fa sl h).sat k = (fa sl h).sat (kFv att fo sl k) := by
  refine s_bindS.trans ?_
  cases fa sl h with
  | ok a h =>
    refine s_bindS.trans ?_
    show (fo sl h).sat _ = (fo sl h).sat _
    cases fo sl h with
    | ok a h => exact s_bindS
    | ex x h => rfl
    | bad => rfl
  | ex x h => rfl
  | bad => rfl
/-! ### expressions -/
def tNo : FT := fun _ h => .ok false h
theorem s_yes : (tYes sl h).sat kt = kt.q true h := (rfl)
theorem s_no : (tNo sl h).sat kt = kt.q false h := (rfl)
/-- a value within an expression -/
def kW (c : α → Hs → Out β) (k : KE β) : KE α := ⟨fun a h => (c a h).sat k, k.e⟩
theorem q_w {c : α → Hs → Out β} {k : KE β} {a : α} : (kW c k).q a h = (c a h).sat k := (rfl)
theorem e_w {c : α → Hs → Out β} {k : KE β} : (kW c k).e xc h = k.e xc h := (rfl)
theorem s_bind {m : Out α} {c : α → Hs → Out β} {k : KE β} : (m.bind c).sat k = m.sat (kW c k) := by cases m <;> rfl
theorem s_var : (eVar i sl h).sat ke = (getV sl[i]? h).sat ke := (rfl)
theorem s_getV : (getV (some (some x)) h).sat ke = ke.q x h := (rfl)
theorem s_c : (eC x sl h).sat ke = ke.q x h := (rfl)
theorem s_e1 : (e1 fa op1 sl h).sat ke = (fa sl h).sat (kW op1 ke) := s_bind
def kO1 (fb : FE) (op : A → A → Hs → Out A) (sl : Sl) (k : KE A) : KE A := ⟨fun x h => (fb sl h).sat (kW (op x) k), k.e⟩
theorem q_o1 {a : A} : (kO1 fb op sl ke).q a h = (fb sl h).sat (kW (op a) ke) := (rfl)
theorem e_o1 : (kO1 fb op sl ke).e xc h = ke.e xc h := (rfl)
theorem s_e2 : (e2 fa fb op sl h).sat ke = (fa sl h).sat (kO1 fb op sl ke) := by
  refine s_bind.trans ?_
  cases fa sl h with
  | ok a h => exact s_bind
  | ex x h => rfl
  | bad => rfl
def kBl (k : KE Bool) : KE A := ⟨fun x h => (isB x h).sat k, k.e⟩
theorem q_bl : (kBl kt).q x h = (isB x h).sat kt := (rfl)
theorem e_bl : (kBl kt).e xc h = kt.e xc h := (rfl)
theorem s_isB : (isB (.bl b) h).sat kt = kt.q b h := (rfl)
theorem s_e2t : (e2t fa fb op sl h).sat kt = (fa sl h).sat (kO1 fb op sl (kBl kt)) := by
  refine s_bind.trans ?_
  cases fa sl h with
  | ok a h =>
    refine s_bind.trans ?_
    show (fb sl h).sat _ = (fb sl h).sat _
    cases fb sl h with
    | ok a h => exact s_bind
    | ex x h => rfl
    | bad => rfl
  | ex x h => rfl
  | bad => rfl
theorem s_t1 {o1 : A → Hs → Out Bool} : (t1 fa o1 sl h).sat kt = (fa sl h).sat (kW o1 kt) := s_bind
def kNt (k : KE Bool) : KE Bool := ⟨fun b h => k.q (!b) h, k.e⟩
theorem q_nt {b : Bool} : (kNt kt).q b h = kt.q (!b) h := (rfl)
theorem e_nt : (kNt kt).e xc h = kt.e xc h := (rfl)
theorem s_tnot : (tNot ft sl h).sat kt = (ft sl h).sat (kNt kt) := s_bind
def kAn (fu : FT) (sl : Sl) (k : KE Bool) : KE Bool := ⟨fun b h => Cond b ((fu sl h).sat k) (k.q false h), k.e⟩
theorem q_an {b : Bool} : (kAn fu sl kt).q b h = CdE b fu tNo sl h kt := (rfl)
theorem e_an : (kAn fu sl kt).e xc h = kt.e xc h := (rfl)
theorem s_tand : (tAnd ft fu sl h).sat kt = (ft sl h).sat (kAn fu sl kt) := by
  refine s_bind.trans ?_
  cases ft sl h with
  | ok b h => cases b <;> simp [Out.sat, kW, kAn, cond_true, cond_false]
  | ex x h => rfl
  | bad => rfl
def kOo (fu : FT) (sl : Sl) (k : KE Bool) : KE Bool := ⟨fun b h => Cond b (k.q true h) ((fu sl h).sat k), k.e⟩
theorem q_oo {b : Bool} : (kOo fu sl kt).q b h = CdE b tYes fu sl h kt := (rfl)
theorem e_oo : (kOo fu sl kt).e xc h = kt.e xc h := (rfl)
theorem s_tor : (tOr ft fu sl h).sat kt = (ft sl h).sat (kOo fu sl kt) := by
  refine s_bind.trans ?_
  cases ft sl h with
  | ok b h => cases b <;> simp [Out.sat, kW, kOo, cond_true, cond_false]
  | ex x h => rfl
  | bad => rfl
def kIe (fa fb : FE) (sl : Sl) (k : KE A) : KE Bool := ⟨fun b h => Cond b ((fa sl h).sat k) ((fb sl h).sat k), k.e⟩
theorem q_ie {b : Bool} : (kIe fa fb sl ke).q b h = CdE b fa fb sl h ke := (rfl)
theorem e_ie : (kIe fa fb sl ke).e xc h = ke.e xc h := (rfl)
theorem s_eif : (eIf ft fa fb sl h).sat ke = (ft sl h).sat (kIe fa fb sl ke) := by
  refine s_bind.trans ?_
  cases ft sl h with
  | ok b h => cases b <;> simp [Out.sat, kW, kIe, cond_true, cond_false]
  | ex x h => rfl
  | bad => rfl
def kEa (fb : FE) (sl : Sl) (k : KE A) : KE A := ⟨fun x h => match x with | .bl b => Cond b ((fb sl h).sat k) (k.q (.bl false) h) | _ => False, k.e⟩
theorem q_ea {b : Bool} : (kEa fb sl ke).q (.bl b) h = CdE b fb (eC (.bl false)) sl h ke := (rfl)
theorem e_ea : (kEa fb sl ke).e xc h = ke.e xc h := (rfl)
theorem s_eand : (eAnd fa fb sl h).sat ke = (fa sl h).sat (kEa fb sl ke) := by
  refine s_bind.trans ?_
  cases fa sl h with
  | ok x h => cases x <;> first | rfl | (rename_i b; cases b <;> simp [Out.sat, kW, kEa, cond_true, cond_false])
  | ex x h => rfl
  | bad => rfl
def kEo (fb : FE) (sl : Sl) (k : KE A) : KE A := ⟨fun x h => match x with | .bl b => Cond b (k.q (.bl true) h) ((fb sl h).sat k) | _ => False, k.e⟩
theorem q_eo {b : Bool} : (kEo fb sl ke).q (.bl b) h = CdE b (eC (.bl true)) fb sl h ke := (rfl)
theorem e_eo : (kEo fb sl ke).e xc h = ke.e xc h := (rfl)
theorem s_eor : (eOr fa fb sl h).sat ke = (fa sl h).sat (kEo fb sl ke) := by
  refine s_bind.trans ?_
  cases fa sl h with
  | ok x h => cases x <;> first | rfl | (rename_i b; cases b <;> simp [Out.sat, kW, kEo, cond_true, cond_false])
  | ex x h => rfl
  | bad => rfl
def kEn (k : KE A) : KE A := ⟨fun x h => match x with | .bl b => k.q (.bl (!b)) h | _ => False, k.e⟩
theorem q_en {b : Bool} : (kEn ke).q (.bl b) h = ke.q (.bl (!b)) h := (rfl)
theorem e_en : (kEn ke).e xc h = ke.e xc h := (rfl)
theorem s_enot : (eNot fa sl h).sat ke = (fa sl h).sat (kEn ke) := by
  refine s_bind.trans ?_
  cases fa sl h with
  | ok x h => cases x <;> rfl
  | ex x h => rfl
  | bad => rfl
theorem s_anil : (aNil sl h).sat kl = kl.q [] h := (rfl)
def kAc2 (x : A) (k : KE (List A)) : KE (List A) := ⟨fun xs h => k.q (x :: xs) h, k.e⟩
theorem q_ac2 : (kAc2 x kl).q xs h = kl.q (x :: xs) h := (rfl)
theorem e_ac2 : (kAc2 x kl).e xc h = kl.e xc h := (rfl)
def kAc (fs : FA) (sl : Sl) (k : KE (List A)) : KE A := ⟨fun x h => (fs sl h).sat (kAc2 x k), k.e⟩
theorem q_ac {a : A} : (kAc fs sl kl).q a h = (fs sl h).sat (kAc2 a kl) := (rfl)
theorem e_ac : (kAc fs sl kl).e xc h = kl.e xc h := (rfl)
theorem s_acons : (aCons fa fs sl h).sat kl = (fa sl h).sat (kAc fs sl kl) := by
  refine s_bind.trans ?_
  cases fa sl h with
  | ok a h => exact s_bind
  | ex x h => rfl
  | bad => rfl
def kTp (k : KE A) : KE (List A) := ⟨fun xs h => Nat.ble xs.length sizeLine = true ∧ k.q (.tup xs) h, k.e⟩
def kLs (k : KE A) : KE (List A) := ⟨fun xs h => Nat.ble xs.length sizeLine = true ∧ k.q (.lst xs) h, k.e⟩
def kLt (k : KE A) : KE (List A) := ⟨fun xs h => Nat.ble xs.length sizeLine = true ∧ k.q (.ref h.length) (h ++ [.lst xs]), k.e⟩
theorem q_tp : (kTp ke).q xs h = (Nat.ble xs.length sizeLine = true ∧ ke.q (.tup xs) h) := (rfl)
theorem q_ls : (kLs ke).q xs h = (Nat.ble xs.length sizeLine = true ∧ ke.q (.lst xs) h) := (rfl)
theorem q_lt : (kLt ke).q xs h = (Nat.ble xs.length sizeLine = true ∧ ke.q (.ref h.length) (h ++ [.lst xs])) := (rfl)
theorem e_tp : (kTp ke).e xc h = ke.e xc h := (rfl)
theorem e_ls : (kLs ke).e xc h = ke.e xc h := (rfl)
theorem e_lt : (kLt ke).e xc h = ke.e xc h := (rfl)
theorem s_chk {m : Out α} {k : KE α} : (chk b m).sat k = (b = true ∧ m.sat k) := by cases b <;> simp [chk, Out.sat]
theorem s_tup : (eTup fs sl h).sat ke = (fs sl h).sat (kTp ke) := by
  refine s_bind.trans ?_
  cases fs sl h with
  | ok a h => exact s_chk
  | ex x h => rfl
  | bad => rfl
theorem s_lst : (eLst fs sl h).sat ke = (fs sl h).sat (kLs ke) := by
  refine s_bind.trans ?_
  cases fs sl h with
  | ok a h => exact s_chk
  | ex x h => rfl
  | bad => rfl
theorem s_lstT : (eLstT fs sl h).sat ke = (fs sl h).sat (kLt ke) := by
  refine s_bind.trans ?_
  cases fs sl h with
  | ok a h => exact s_chk
  | ex x h => rfl
  | bad => rfl
theorem s_k {p : F} : (eK fs p sl h).sat ke = (fs sl h).sat (kW p ke) := s_bind
theorem s_at : (eAt att fa sl h).sat ke = (fa sl h).sat (kW (getAt att) ke) := s_bind
theorem s_f1 : (f1 op1 [x] h).sat ke = (op1 x h).sat ke := (rfl)
theorem s_f2 : (f2 op [x, y] h).sat ke = (op x y h).sat ke := (rfl)
def kMl (fs : FA) (p : A → List A → Hs → Out A) (sl : Sl) (k : KE A) : KE A := ⟨fun x h => (listOf x h).isSome = true ∧ (fs sl h).sat (kW (p x) k), k.e⟩
theorem q_ml {p : A → List A → Hs → Out A} {a : A} : (kMl fs p sl ke).q a h = ((listOf a h).isSome = true ∧ (fs sl h).sat (kW (p a) ke)) := (rfl)
theorem e_ml {p : A → List A → Hs → Out A} : (kMl fs p sl ke).e xc h = ke.e xc h := (rfl)
theorem s_ml {p : A → List A → Hs → Out A} : (eMl fo fs p sl h).sat ke = (fo sl h).sat (kMl fs p sl ke) := by
  refine s_bind.trans ?_
  cases fo sl h with
  | ok a h =>
    show Out.sat (need (listOf a h) fun _ => (fs sl h).bind fun xs h2 => p a xs h2) ke = ((listOf a h).isSome = true ∧ (fs sl h).sat (kW (p a) ke))
    cases hx : listOf a h with
    | none => simp [need, Out.sat]
    | some ys => simp only [need, Option.isSome_some, true_and]; exact s_bind
  | ex x h => rfl
  | bad => rfl
def kMs (fs : FA) (p : A → List A → Hs → Out A) (sl : Sl) (k : KE A) : KE A := ⟨fun x h => match x with | .str z => (fs sl h).sat (kW (p (.str z)) k) | _ => False, k.e⟩
theorem q_ms {p : A → List A → Hs → Out A} {z : Str} : (kMs fs p sl ke).q (.str z) h = (fs sl h).sat (kW (p (.str z)) ke) := (rfl)
theorem e_ms {p : A → List A → Hs → Out A} : (kMs fs p sl ke).e xc h = ke.e xc h := (rfl)
theorem s_ms {p : A → List A → Hs → Out A} : (eMs fo fs p sl h).sat ke = (fo sl h).sat (kMs fs p sl ke) := by
  refine s_bind.trans ?_
  cases fo sl h with
  | ok a h => cases a <;> first | rfl | exact s_bind
  | ex x h => rfl
  | bad => rfl
/-! ### operators by values -/
def nd (o : Option α) (c : α → Prop) : Prop := match o with | some a => c a | none => False
theorem nd_some {a : α} {c : α → Prop} : nd (some a) c = c a := (rfl)
theorem s_need {o : Option α} {c : α → Out β} {k : KE β} : (need o c).sat k = nd o fun a => (c a).sat k := by cases o <;> rfl
def nQ (o : Option Int) (k : KE A) (h : Hs) : Prop := match o with | some i => k.q (.int i) h | none => False
theorem nQ_some {i : Int} : nQ (some i) ke h = ke.q (.int i) h := (rfl)
def qO (o : Option A) (k : KE A) (h : Hs) : Prop := match o with | some z => k.q z h | none => False
theorem qO_some : qO (some x) ke h = ke.q x h := (rfl)
theorem s_needO {o : Option A} : (need o fun z => .ok z h).sat ke = qO o ke h := by cases o <;> rfl
def qB (o : Option Bool) (k : KE A) (h : Hs) : Prop := match o with | some b => k.q (.bl b) h | none => False
theorem qB_some : qB (some b) ke h = ke.q (.bl b) h := (rfl)
def qF (o : Option F) (xs : List A) (k : KE A) (h : Hs) : Prop := match o with | some f => (f xs h).sat k | none => False
theorem qF_some {p : F} : qF (some p) xs ke h = (p xs h).sat ke := (rfl)
theorem s_needF {o : Option F} : (need o fun f => f xs h).sat ke = qF o xs ke h := by cases o <;> rfl
theorem s_int {p : Int → Int → Option Int} {i j : Int} : (aInt p (.int i) (.int j) h).sat ke = nQ (p i j) ke h := by
  show (need (p i j) _).sat ke = _
  cases p i j <;> rfl
theorem s_cmp {p : Int → Int → Bool} {i j : Int} : (aCmp p (.int i) (.int j) h).sat ke = ke.q (.bl (p i j)) h := (rfl)
theorem s_addI {i j : Int} : (aAdd (.int i) (.int j) h).sat ke = ke.q (.int (i + j)) h := (rfl)
theorem s_addS {i j : Str} : (aAdd (.str i) (.str j) h).sat ke = (Nat.ble (i.length + j.length) sizeLine = true ∧ ke.q (.str (i ++ j)) h) := s_chk
theorem s_addT : (aAdd (.tup xs) (.tup ys) h).sat ke = (Nat.ble (xs.length + ys.length) sizeLine = true ∧ ke.q (.tup (xs ++ ys)) h) := s_chk
theorem s_addL : (aAdd (.lst xs) (.lst ys) h).sat ke = (Nat.ble (xs.length + ys.length) sizeLine = true ∧ ke.q (.lst (xs ++ ys)) h) := s_chk
theorem g_sub {i j : Int} : gSub' i j = some (i - j) := (rfl)
theorem g_mulW_l {i j : Int} (hj : -18446744073709551616 < i ∧ i < 18446744073709551616) : gMulW i j = some (i * j) := by unfold gMulW; rw [gMul_l hj]
theorem g_mulW_r {i j : Int} (hj : -18446744073709551616 < j ∧ j < 18446744073709551616) : gMulW i j = some (i * j) := by unfold gMulW; rw [gMul_r hj]
theorem g_mulW {i j : Int} (hj : i.natAbs.log2 + j.natAbs.log2 < 1000000) : gMulW i j = some (i * j) := by
  unfold gMulW gMul
  split
  · rename_i z
    split at z
    · cases z; rfl
    · cases z
  · rw [decide_eq_true hj]
theorem g_divN {i j : Int} (h0 : j ≠ 0) (hj : j.natAbs.log2 < 9000) : gDivN i j = some (i.fdiv j) := by unfold gDivN; rw [decide_eq_true ⟨h0, hj⟩]
theorem log2_lt {j : Int} (h0 : j ≠ 0) {n : Nat} (h : j.natAbs < 2 ^ n) : j.natAbs.log2 < n := (Nat.log2_lt (by omega)).mpr h
theorem s_neg {i : Int} : (aNeg (.int i) h).sat ke = ke.q (.int (-i)) h := (rfl)
theorem s_intI {i : Int} : (intA (.int i) h).sat ke = ke.q (.int i) h := (rfl)
theorem s_intB {b : Bool} : (intA (.bl b) h).sat ke = ke.q (.int (if b then 1 else 0)) h := (rfl)
theorem s_abs {i : Int} : (absA (.int i) h).sat ke = ke.q (.int (if i < 0 then -i else i)) h := (rfl)
theorem s_max {i j : Int} : (maxA (.int i) (.int j) h).sat ke = ke.q (.int (if j > i then j else i)) h := (rfl)
theorem s_min {i j : Int} : (minA (.int i) (.int j) h).sat ke = ke.q (.int (if j < i then j else i)) h := (rfl)
theorem s_truB {b : Bool} : (truA (.bl b) h).sat kt = kt.q b h := (rfl)
theorem s_truI {i : Int} : (truA (.int i) h).sat kt = kt.q (i != 0) h := (rfl)
theorem s_truN : (truA .non h).sat kt = kt.q false h := (rfl)
theorem s_truL : (truA (.lst xs) h).sat kt = kt.q (!xs.isEmpty) h := (rfl)
theorem s_truT : (truA (.tup xs) h).sat kt = kt.q (!xs.isEmpty) h := (rfl)
theorem s_lenL : (lenA (.lst xs) h).sat ke = ke.q (.int (Int.ofNat xs.length)) h := (rfl)
theorem s_lenT : (lenA (.tup xs) h).sat ke = ke.q (.int (Int.ofNat xs.length)) h := (rfl)
theorem s_lenC {ns : List Int} : (lenA (.scr ns) h).sat ke = ke.q (.int (Int.ofNat ns.length)) h := (rfl)
theorem s_lenS {z : Str} : (lenA (.str z) h).sat ke = (Nat.ble z.length sizeLine = true ∧ ke.q (.int (Int.ofNat z.length)) h) := s_chk
theorem s_isNn : (isN .non .non h).sat ke = ke.q (.bl true) h := (rfl)
theorem s_notNn : (notN .non .non h).sat ke = ke.q (.bl false) h := (rfl)
theorem s_isNi {i : Int} : (isN (.int i) .non h).sat ke = ke.q (.bl false) h := (rfl)
theorem s_notNi {i : Int} : (notN (.int i) .non h).sat ke = ke.q (.bl true) h := (rfl)
theorem s_isNs {i : Str} : (isN (.str i) .non h).sat ke = ke.q (.bl false) h := (rfl)
theorem s_notNs {i : Str} : (notN (.str i) .non h).sat ke = ke.q (.bl true) h := (rfl)
theorem s_eqI {i j : Int} : (aEq (.int i) (.int j) h).sat ke = ke.q (.bl (i == j)) h := (rfl)
theorem s_neI {i j : Int} : (aNe (.int i) (.int j) h).sat ke = ke.q (.bl (!(i == j))) h := (rfl)
theorem s_aEq {d e : PyData} (hx : datH x h = some d) (hy : datH y h = some e) : (aEq x y h).sat ke = ((SeqAt.shaped d && SeqAt.shaped e) = true ∧ ke.q (.bl (PyData.eqv d e)) h) := by
  unfold aEq eqD
  rw [hx, hy]
  exact s_bind.trans s_chk
theorem s_aNe {d e : PyData} (hx : datH x h = some d) (hy : datH y h = some e) : (aNe x y h).sat ke = ((SeqAt.shaped d && SeqAt.shaped e) = true ∧ ke.q (.bl (!PyData.eqv d e)) h) := by
  unfold aNe eqD
  rw [hx, hy]
  exact s_bind.trans s_chk
/-! ### the heap -/
def ixO (o : Option O) (i : Int) (k : KE A) (h : Hs) : Prop := match o with | some (.lst xs) => qO (atI xs i) k h | _ => False
theorem ixO_lst {i : Int} : ixO (some (.lst xs)) i ke h = qO (atI xs i) ke h := (rfl)
theorem s_ixR {i : Int} : (ixA (.ref n) (.int i) h).sat ke = ixO h[n]? i ke h := by
  show (need (itemsOf (.ref n) h) _).sat ke = _
  show (need (match h[n]? with | some (.lst xs) => some xs | _ => none) fun xs => need (atI xs i) fun z => .ok z h).sat ke = _
  cases h[n]? with
  | none => rfl
  | some o =>
    cases o with
    | lst xs => exact s_needO
    | _ => rfl
theorem s_ixL {i : Int} : (ixA (.lst xs) (.int i) h).sat ke = qO (atI xs i) ke h := s_needO
theorem s_ixT {i : Int} : (ixA (.tup xs) (.int i) h).sat ke = qO (atI xs i) ke h := s_needO
theorem s_ixC {ns : List Int} {i : Int} : (ixA (.scr ns) (.int i) h).sat ke = nQ (atI ns i) ke h := by
  show (need (atI ns i) _).sat ke = _
  cases atI ns i <;> rfl
theorem at_0 {α : Type} {x : α} {xs : List α} : atI (x :: xs) 0 = some x := by simp [atI, ixN]
theorem at_nn {α : Type} {xs : List α} {i : Int} (h0 : 0 ≤ i) (h1 : i < xs.length) : atI xs i = xs[i.toNat]? := by simp [atI, ixN, h0, h1]
theorem ix_nn {m : Nat} {i : Int} (h0 : 0 ≤ i) (h1 : i < m) : ixN m i = some i.toNat := by simp [ixN, h0, h1]
theorem at_1 {α : Type} {x y : α} {xs : List α} : atI (x :: y :: xs) 1 = some y := by rw [at_nn (by decide) (by simp; omega)]; rfl
theorem at_2 {α : Type} {x y z : α} {xs : List α} : atI (x :: y :: z :: xs) 2 = some z := by rw [at_nn (by decide) (by simp; omega)]; rfl
theorem at_3 {α : Type} {x y z w : α} {xs : List α} : atI (x :: y :: z :: w :: xs) 3 = some w := by rw [at_nn (by decide) (by simp; omega)]; rfl
theorem ix_0 {m : Nat} : ixN (m + 1) 0 = some 0 := ix_nn (by decide) (by omega)
def setJ (o : Option Nat) (xs : List A) (n : Nat) (z : A) (k : KE Unit) (h : Hs) : Prop := match o with | some j => k.q () (h.set n (.lst (xs.set j z))) | none => False
theorem setJ_some {ku : KE Unit} : setJ (some j) xs n z ku h = ku.q () (h.set n (.lst (xs.set j z))) := (rfl)
theorem ixl_0 : ixN (x :: xs).length 0 = some 0 := by simp [ixN]
theorem ixl_1 : ixN (x :: y :: xs).length 1 = some 1 := by rw [ix_nn (by decide) (by simp; omega)]; rfl
theorem ixl_2 : ixN (x :: y :: z :: xs).length 2 = some 2 := by rw [ix_nn (by decide) (by simp; omega)]; rfl
def setO (o : Option O) (n : Nat) (i : Int) (z : A) (k : KE Unit) (h : Hs) : Prop := match o with | some (.lst xs) => setJ (ixN xs.length i) xs n z k h | _ => False
theorem setO_lst {i : Int} {ku : KE Unit} : setO (some (.lst xs)) n i z ku h = setJ (ixN xs.length i) xs n z ku h := (rfl)
theorem s_setR {i : Int} {ku : KE Unit} : (setL (.ref n) (.int i) z h).sat ku = setO h[n]? n i z ku h := by
  show (match h[n]? with | some (.lst xs) => need (ixN xs.length i) fun j => .ok () (h.set n (.lst (xs.set j z))) | _ => .bad : Out Unit).sat ku = _
  cases h[n]? with
  | none => rfl
  | some o =>
    cases o with
    | lst xs =>
      show (need (ixN xs.length i) _).sat ku = setJ (ixN xs.length i) xs n z ku h
      cases ixN xs.length i <;> rfl
    | _ => rfl
def apO (o : Option O) (n : Nat) (z : A) (k : KE A) (h : Hs) : Prop := match o with | some (.lst xs) => Nat.blt xs.length sizeLine = true ∧ k.q .non (h.set n (.lst (xs ++ [z]))) | _ => False
theorem apO_lst : apO (some (.lst xs)) n z ke h = (Nat.blt xs.length sizeLine = true ∧ ke.q .non (h.set n (.lst (xs ++ [z])))) := (rfl)
theorem s_append : (appendA (.ref n) [z] h).sat ke = apO h[n]? n z ke h := by
  show (match h[n]? with | some (.lst ys) => (match [z] with | [y] => chk (Nat.blt ys.length sizeLine) (.ok .non (h.set n (.lst (ys ++ [y])))) | _ => .bad) | _ => .bad : Out A).sat ke = _
  cases h[n]? with
  | none => rfl
  | some o => cases o <;> first | rfl | exact s_chk
def liO (o : Option O) : Option (List A) := match o with | some (.lst xs) => some xs | _ => none
theorem liO_lst : liO (some (.lst xs)) = some xs := (rfl)
theorem listOf_ref : listOf (.ref n) h = liO h[n]? := (rfl)
theorem itemsOf_ref : itemsOf (.ref n) h = liO h[n]? := (rfl)
theorem listOf_lst : listOf (.lst xs) h = some xs := (rfl)
def inO (o : Option O) : Option (Nat × List A) := match o with | some (.ins c xs) => some (c, xs) | _ => none
theorem inO_ins {c : Nat} : inO (some (.ins c xs)) = some (c, xs) := (rfl)
theorem instOf_ref : instOf (.ref n) h = inO h[n]? := (rfl)
theorem instOf_ins {c : Nat} : instOf (.ins c xs) h = some (c, xs) := (rfl)
def qEm (o : Option (List A)) (k : KE Bool) (h : Hs) : Prop := match o with | some xs => k.q (!xs.isEmpty) h | none => False
theorem qEm_some : qEm (some xs) kt h = kt.q (!xs.isEmpty) h := (rfl)
theorem s_truR : (truA (.ref n) h).sat kt = qEm (liO h[n]?) kt h := by
  show (need (liO h[n]?) _).sat kt = _
  cases liO h[n]? <;> rfl
def lenO (o : Option O) (k : KE A) (h : Hs) : Prop := match o with | some (.lst xs) => k.q (.int (Int.ofNat xs.length)) h | some (.dk xs) => k.q (.int (Int.ofNat xs.length)) h | _ => False
theorem lenO_lst : lenO (some (.lst xs)) ke h = ke.q (.int (Int.ofNat xs.length)) h := (rfl)
theorem lenO_dk {kvs : List (Key × A)} : lenO (some (.dk kvs)) ke h = ke.q (.int (Int.ofNat kvs.length)) h := (rfl)
theorem s_lenR : (lenA (.ref n) h).sat ke = lenO h[n]? ke h := by
  show (match h[n]? with | some (.lst xs) => .ok (.int (Int.ofNat xs.length)) h | some (.dk kvs) => .ok (.int (Int.ofNat kvs.length)) h | _ => .bad : Out A).sat ke = _
  cases h[n]? with
  | none => rfl
  | some o => cases o <;> rfl
/-- a field that is there -/
def atF (a : At) (xs : List A) (x : A) (k : KE A) (h : Hs) : Prop := match a with
  | .fld i => qO xs[i]? k h
  | .con a => k.q a h
  | .prp f => (match f [x] h with | .ok y h1 => k.q y h1 | _ => False)
  | .no => False
theorem atF_fld : atF (.fld i) xs x ke h = qO xs[i]? ke h := (rfl)
theorem atF_con {a : A} : atF (.con a) xs x ke h = ke.q a h := (rfl)
def atP (o : Option (Nat × List A)) (att : Nat → At) (x : A) (k : KE A) (h : Hs) : Prop := match o with | some p => atF (att p.1) p.2 x k h | none => False
theorem atP_some {c : Nat} : atP (some (c, xs)) att x ke h = atF (att c) xs x ke h := (rfl)
theorem s_getAt : (getAt att x h).sat ke = atP (instOf x h) att x ke h := by
  unfold getAt
  cases instOf x h with
  | none => rfl
  | some p =>
  show Out.sat (match att p.1 with
  | .fld i => need p.2[i]? fun y => .ok y h
  | .con a => .ok a h
  | .prp f => (match f [x] h with | .ok y h1 => .ok y h1 | _ => .bad)
  | .no => .bad) ke = atF (att p.1) p.2 x ke h
  cases att p.1 with
  | fld i => exact s_needO
  | con a => rfl
  | prp f =>
    show Out.sat (match f [x] h with | .ok y h1 => .ok y h1 | _ => .bad) ke = _
    cases hf : f [x] h <;> simp [atF, hf, Out.sat]
  | no => rfl
def stQ (o : Option (List A)) (c n : Nat) (k : KE Unit) (h : Hs) : Prop := match o with | some ys => k.q () (h.set n (.ins c ys)) | none => False
theorem stQ_some {c : Nat} {ku : KE Unit} : stQ (some xs) c n ku h = ku.q () (h.set n (.ins c xs)) := (rfl)
def stF (a : At) (xs : List A) (y : A) (c n : Nat) (k : KE Unit) (h : Hs) : Prop := match a with
  | .fld i => Nat.blt xs.length 1000 = true ∧ stQ (putI i y xs) c n k h
  | _ => False
theorem stF_fld {c : Nat} {ku : KE Unit} : stF (.fld i) xs y c n ku h = (Nat.blt xs.length 1000 = true ∧ stQ (putI i y xs) c n ku h) := (rfl)
def stP (o : Option (Nat × List A)) (att : Nat → At) (y : A) (n : Nat) (k : KE Unit) (h : Hs) : Prop := match o with | some p => stF (att p.1) p.2 y p.1 n k h | none => False
theorem stP_some {c : Nat} {ku : KE Unit} : stP (some (c, xs)) att y n ku h = stF (att c) xs y c n ku h := (rfl)
theorem s_setAt {ku : KE Unit} : (setAt att (.ref n) y h).sat ku = stP (inO h[n]?) att y n ku h := by
  show (match h[n]? with
    | some (.ins c xs) => (match att c with
      | .fld i => chk (Nat.blt xs.length 1000) (need (putI i y xs) fun xs' => .ok () (h.set n (.ins c xs')))
      | _ => .bad)
    | _ => .bad : Out Unit).sat ku = _
  cases h[n]? with
  | none => rfl
  | some o =>
    cases o with
    | ins c xs =>
      show (match att c with
      | .fld i => chk (Nat.blt xs.length 1000) (need (putI i y xs) fun xs' => .ok () (h.set n (.ins c xs')))
      | _ => .bad : Out Unit).sat ku = stF (att c) xs y c n ku h
      cases att c with
      | fld i =>
        refine s_chk.trans (congrArg _ ?_)
        show (need (putI i y xs) _).sat ku = stQ (putI i y xs) c n ku h
        cases putI i y xs <;> rfl
      | con a => rfl
      | prp f => rfl
      | no => rfl
    | _ => rfl
theorem put_new (e : xs.length = i) : putI i y xs = some (xs ++ [y]) := by
  subst e
  unfold putI
  rw [show Nat.blt xs.length xs.length = false from Bool.eq_false_iff.mpr fun z => Nat.lt_irrefl _ (Nat.le_of_ble_eq_true z)]
  simp
theorem hp_set {o o' : O} (e : h[n]? = some o) : (h.set n o')[n]? = some o' := get_set e
theorem hp_ne {o : O} {m : Nat} {r : Option O} (ne : m ≠ n) (e : h[n]? = r) : (h.set m o)[n]? = r := by rw [List.getElem?_set_ne ne]; exact e
theorem hp_app {o : O} {hs : Hs} (e : h[n]? = some o) : (h ++ hs)[n]? = some o := by
  have hl : n < h.length := by
    by_cases hl : n < h.length
    · exact hl
    · rw [List.getElem?_eq_none (by omega)] at e; cases e
  rw [List.getElem?_append_left hl]; exact e
theorem hp_new {o : O} {hs : Hs} : (h ++ o :: hs)[h.length]? = some o := by simp
theorem hp_lt {o : O} (e : h[n]? = some o) : n < h.length := by
  by_cases hl : n < h.length
  · exact hl
  · rw [List.getElem?_eq_none (by omega)] at e; cases e
/-! ### defs, construction -/
def kFn (k : KE A) : KS := ⟨fun _ h => k.q .non h, k.q, fun _ _ => False, fun _ _ => False, fun x _ h => k.e x h⟩
theorem n_fn : (kFn ke).n sl h = ke.q .non h := (rfl)
theorem r_fn : (kFn ke).r x h = ke.q x h := (rfl)
theorem e_fn : (kFn ke).e xc sl h = ke.e xc h := (rfl)
theorem s_fin {m : OutS} : m.fin.sat ke = m.sat (kFn ke) := by cases m <;> rfl
theorem s_run {nl : Nat} (hx : Nat.beq xs.length n = true) : (runF n nl f xs h).sat ke = (f (xs.map some ++ List.replicate (nl - n) none) h).sat (kFn ke) := by
  unfold runF
  rw [hx]
  exact s_fin
def finO (o : Option O) (n : Nat) (k : KE A) (h : Hs) : Prop := match o with | some (.ins c ys) => k.q (.ins c ys) (h.set n .dead) | _ => False
theorem finO_ins {c : Nat} : finO (some (.ins c xs)) n ke h = ke.q (.ins c xs) (h.set n .dead) := (rfl)
def kMk (n : Nat) (k : KE A) : KE A := ⟨fun x h => match x with | .non => finO h[n]? n k h | _ => False, k.e⟩
theorem q_mk : (kMk n ke).q .non h = finO h[n]? n ke h := (rfl)
theorem e_mk : (kMk n ke).e xc h = ke.e xc h := (rfl)
theorem s_mkF {c : Nat} {p : F} : (mkF c p xs h).sat ke = (p (.ref h.length :: xs) (h ++ [.ins c []])).sat (kMk h.length ke) := by
  refine s_bind.trans ?_
  cases p (.ref h.length :: xs) (h ++ [.ins c []]) with
  | ok r h2 =>
    cases r with
    | non =>
      show Out.sat (match h2[h.length]? with | some (.ins c' ys) => .ok (.ins c' ys) (h2.set h.length .dead) | _ => .bad) ke = finO h2[h.length]? h.length ke h2
      cases h2[h.length]? with
      | none => rfl
      | some o => cases o <;> rfl
    | _ => rfl
  | ex x h => rfl
  | bad => rfl
def kMkT (n : Nat) (k : KE A) : KE A := ⟨fun x h => match x with | .non => k.q (.ref n) h | _ => False, k.e⟩
theorem q_mkT : (kMkT n ke).q .non h = ke.q (.ref n) h := (rfl)
theorem e_mkT : (kMkT n ke).e xc h = ke.e xc h := (rfl)
theorem s_mkT {c : Nat} {p : F} : (mkT c p xs h).sat ke = (p (.ref h.length :: xs) (h ++ [.ins c []])).sat (kMkT h.length ke) := by
  refine s_bind.trans ?_
  cases p (.ref h.length :: xs) (h ++ [.ins c []]) with
  | ok r h2 => cases r <;> rfl
  | ex x h => rfl
  | bad => rfl
def frO (o : Option O) (i n : Nat) (sl : Sl) (k : KS) (h : Hs) : Prop := match o with
  | some (.lst xs) => k.n (sl.set i (some (.lst xs))) (h.set n .dead)
  | some (.dk xs) => k.n (sl.set i (some (.dk xs))) (h.set n .dead)
  | some (.dt xs) => k.n (sl.set i (some (.dt xs))) (h.set n .dead)
  | some (.ins c xs) => k.n (sl.set i (some (.ins c xs))) (h.set n .dead)
  | _ => False
theorem frO_lst : frO (some (.lst xs)) i n sl k h = k.n (sl.set i (some (.lst xs))) (h.set n .dead) := (rfl)
def frV (o : Option (Option A)) (i : Nat) (sl : Sl) (k : KS) (h : Hs) : Prop := match o with | some (some (.ref n)) => frO h[n]? i n sl k h | _ => False
theorem frV_ref : frV (some (some (.ref n))) i sl k h = frO h[n]? i n sl k h := (rfl)
theorem s_frz : (frz i sl h).sat k = frV sl[i]? i sl k h := by
  unfold frz
  cases sl[i]? with
  | none => rfl
  | some o =>
    cases o with
    | none => rfl
    | some a =>
      cases a with
      | ref n =>
        show OutS.sat (match h[n]? with
          | some (.lst xs) => .nx (sl.set i (some (.lst xs))) (h.set n .dead)
          | some (.dk xs) => .nx (sl.set i (some (.dk xs))) (h.set n .dead)
          | some (.dt xs) => .nx (sl.set i (some (.dt xs))) (h.set n .dead)
          | some (.ins c xs) => .nx (sl.set i (some (.ins c xs))) (h.set n .dead)
          | _ => .bad) k = frO h[n]? i n sl k h
        cases h[n]? with
        | none => rfl
        | some o => cases o <;> rfl
      | _ => rfl
/-! ### isinstance, own operators -/
variable {I : Isa}
theorem s_isa : (isaA I x y h).sat ke = qB (isaB I x y h) ke h := by
  show (need (isaB I x y h) _).sat ke = _
  cases isaB I x y h <;> rfl
variable {mt rmt : Mt} {cs : List Nat} {c : Nat}
theorem s_ownB2 {xs ys : List A} {d : Nat} : (ownB mt cs op (.ins c xs) (.ins d ys) h).sat ke = ((cs.contains c && cs.contains d) = true ∧ qF (mt c) [.ins c xs, .ins d ys] ke h) := s_chk.trans (congrArg _ s_needF)
theorem s_ownBi {i : Int} : (ownB mt cs op (.int i) y h).sat ke = (op (.int i) y h).sat ke := (rfl)
theorem s_ownMl {d : Nat} : (ownM mt rmt c op (.ins d xs) y h).sat ke = ((Nat.beq c d && isI y) = true ∧ qF (mt c) [.ins d xs, y] ke h) := s_chk.trans (congrArg _ s_needF)
theorem s_ownMr {i : Int} {d : Nat} : (ownM mt rmt c op (.int i) (.ins d ys) h).sat ke = ((Nat.beq c d && isI (.int i)) = true ∧ qF (rmt c) [.ins d ys, .int i] ke h) := s_chk.trans (congrArg _ s_needF)
theorem s_ownMi {i j : Int} : (ownM mt rmt c op (.int i) (.int j) h).sat ke = (op (.int i) (.int j) h).sat ke := (rfl)
theorem s_ownU : (ownU mt op1 (.ins c xs) h).sat ke = qF (mt c) [.ins c xs] ke h := s_needF
theorem s_ownUi {i : Int} : (ownU mt op1 (.int i) h).sat ke = (op1 (.int i) h).sat ke := (rfl)
theorem s_ownI {d e : Nat} : (ownI mt c op (.ins d xs) (.ins e ys) h).sat ke = ((Nat.beq c d && Nat.beq c e) = true ∧ qF (mt c) [.ins d xs, .ins e ys] ke h) := s_chk.trans (congrArg _ s_needF)

/-! ### loops -/
def kB1 (I : Sl → Hs → Prop) (k : KS) : KS := ⟨I, k.r, k.n, I, k.e⟩
theorem n_b1 {I : Sl → Hs → Prop} : (kB1 I k).n sl h = I sl h := (rfl)
theorem c_b1 {I : Sl → Hs → Prop} : (kB1 I k).c sl h = I sl h := (rfl)
theorem b_b1 {I : Sl → Hs → Prop} : (kB1 I k).b sl h = k.n sl h := (rfl)
theorem r_b1 {I : Sl → Hs → Prop} : (kB1 I k).r x h = k.r x h := (rfl)
theorem e_b1 {I : Sl → Hs → Prop} : (kB1 I k).e xc sl h = k.e xc sl h := (rfl)
/-- a turn: the target, then the body -/
def turnB (go : FS) (m : OutS) : OutS := match m with
        | .nx sl2 h2 => go sl2 h2
        | .ct sl2 h2 => go sl2 h2
        | .bk sl2 h2 => .nx sl2 h2
        | .rt a h2 => .rt a h2
        | .ex x sl2 h2 => .ex x sl2 h2
        | .bad => .bad
theorem turn_body {m : OutS} {I : Sl → Hs → Prop} {go : FS} (hI : ∀ sl h, I sl h → (go sl h).sat k) (s : m.sat (kB1 I k)) : (turnB go m).sat k := by
  cases m with
  | nx sl2 h2 => exact hI sl2 h2 s
  | ct sl2 h2 => exact hI sl2 h2 s
  | bk sl2 h2 => exact s
  | rt a h2 => exact s
  | ex x sl2 h2 => exact s
  | bad => exact s
theorem w_forV {b : FS} {I : Nat → Sl → Hs → Prop} {g : FG} {xs0 : List A} (step : ∀ i x sl h, xs0[i]? = some x → I i sl h → (g x sl h).sat (kNo (kSeq b (kB1 (I (i + 1)) k)))) (fin : ∀ sl h, I xs0.length sl h → k.n sl h) :
    ∀ (xs : List A) (i : Nat), xs0.drop i = xs → i ≤ xs0.length → ∀ sl h, I i sl h → (forV g b xs sl h).sat k
  | [], i, e, hi, sl, h, q => by
    have : i = xs0.length := by
      have := congrArg List.length e
      simp at this
      omega
    exact fin sl h (this ▸ q)
  | x :: xs, i, e, hi, sl, h, q => by
    have hl : i < xs0.length := by
      have := congrArg List.length e
      simp at this
      omega
    have ex : xs0[i]? = some x := by
      have := congrArg (fun l => l[0]?) e
      simpa [List.getElem?_drop] using this
    have et : xs0.drop (i + 1) = xs := by
      have := congrArg (List.drop 1) e
      rw [List.drop_drop] at this
      simpa using this
    have s := step i x sl h ex q
    show (match g x sl h with
      | .nx sl1 h1 => (match b sl1 h1 with
        | .nx sl2 h2 => forV g b xs sl2 h2
        | .ct sl2 h2 => forV g b xs sl2 h2
        | .bk sl2 h2 => .nx sl2 h2
        | .rt a h2 => .rt a h2
        | .ex x sl2 h2 => .ex x sl2 h2
        | .bad => .bad)
      | .ex x sl1 h1 => .ex x sl1 h1
      | _ => .bad : OutS).sat k
    cases hg : g x sl h with
    | nx sl1 h1 =>
      rw [hg] at s
      exact turn_body (go := forV g b xs) (fun sl2 h2 q2 => w_forV step fin xs (i + 1) et (by omega) sl2 h2 q2) s
    | ex x sl1 h1 => rw [hg] at s; exact s
    | rt a h1 => rw [hg] at s; exact s.elim
    | bk a h1 => rw [hg] at s; exact s.elim
    | ct a h1 => rw [hg] at s; exact s.elim
    | bad => rw [hg] at s; exact s.elim
/-- for, by what holds ahead of the i-th turn -/
theorem w_for {b : FS} {fi : FA} {g : FG} (I : List A → Nat → Sl → Hs → Prop) (s : (fi sl h).sat ⟨fun xs h => I xs 0 sl h ∧ (∀ i x sl h, xs[i]? = some x → I xs i sl h → (g x sl h).sat (kNo (kSeq b (kB1 (I xs (i + 1)) k)))) ∧ (∀ sl h, I xs xs.length sl h → k.n sl h), fun x h => k.e x sl h⟩) : (sFor fi g b sl h).sat k := by
  refine Eq.mpr s_bindS (Out.sat_mono s (fun xs h q => ?_) fun _ _ z => z)
  exact w_forV q.2.1 q.2.2 xs 0 rfl (Nat.zero_le _) sl h q.1
theorem w_forW' {b : FS} {I : Nat → Sl → Hs → Prop} {g : FG} {w : Wk} (step : ∀ i sl h, I i sl h → (∃ x, w i h = some (some x) ∧ (g x sl h).sat (kNo (kSeq b (kB1 (I (i + 1)) k)))) ∨ (w i h = some none ∧ k.n sl h)) (m : Nat) (top : ∀ i sl h, I i sl h → i ≤ m) :
    ∀ (n i : Nat) (sl : Sl) (h : Hs), m < n + i → I i sl h → (forW w g b n i sl h).sat k
  | 0, i, sl, h, hm, q => absurd (top i sl h q) (by omega)
  | n + 1, i, sl, h, hm, q => by
    show (match w i h with
    | some (some x) => (match g x sl h with
      | .nx sl1 h1 => (match b sl1 h1 with
        | .nx sl2 h2 => forW w g b n (i + 1) sl2 h2
        | .ct sl2 h2 => forW w g b n (i + 1) sl2 h2
        | .bk sl2 h2 => .nx sl2 h2
        | .rt a h2 => .rt a h2
        | .ex x sl2 h2 => .ex x sl2 h2
        | .bad => .bad)
      | .ex x sl1 h1 => .ex x sl1 h1
      | _ => .bad)
    | some none => .nx sl h
    | none => .bad : OutS).sat k
    rcases step i sl h q with ⟨x, e, s⟩ | ⟨e, s⟩
    · rw [e]
      show (match g x sl h with
      | .nx sl1 h1 => (match b sl1 h1 with
        | .nx sl2 h2 => forW w g b n (i + 1) sl2 h2
        | .ct sl2 h2 => forW w g b n (i + 1) sl2 h2
        | .bk sl2 h2 => .nx sl2 h2
        | .rt a h2 => .rt a h2
        | .ex x sl2 h2 => .ex x sl2 h2
        | .bad => .bad)
      | .ex x sl1 h1 => .ex x sl1 h1
      | _ => .bad : OutS).sat k
      cases hg : g x sl h with
      | nx sl1 h1 =>
        rw [hg] at s
        exact turn_body (go := forW w g b n (i + 1)) (fun sl2 h2 q2 => w_forW' step m top n (i + 1) sl2 h2 (by omega) q2) s
      | ex x sl1 h1 => rw [hg] at s; exact s
      | rt a h1 => rw [hg] at s; exact s.elim
      | bk a h1 => rw [hg] at s; exact s.elim
      | ct a h1 => rw [hg] at s; exact s.elim
      | bad => rw [hg] at s; exact s.elim
    · rw [e]; exact s
theorem w_forW {b : FS} {fi : Sl → Hs → Out Wk} {g : FG} (m : Nat) (hm : m < FUEL) (I : Nat → Sl → Hs → Prop) (top : ∀ i sl h, I i sl h → i ≤ m) (s : (fi sl h).sat ⟨fun w h => I 0 sl h ∧ ∀ i sl h, I i sl h → (∃ x, w i h = some (some x) ∧ (g x sl h).sat (kNo (kSeq b (kB1 (I (i + 1)) k)))) ∨ (w i h = some none ∧ k.n sl h), fun x h => k.e x sl h⟩) : (sForW fi g b sl h).sat k := by
  refine Eq.mpr s_bindS (Out.sat_mono s (fun w h q => ?_) fun _ _ z => z)
  exact w_forW' q.2 m top FUEL 0 sl h (by omega) q.1
/-- a comprehension's turn: the target, the test, the value -/
def kLf (J : List A → Hs → Prop) (acc : List A) : KE A := ⟨fun y h => J (acc ++ [y]) h, fun _ _ => False⟩
theorem q_lf {J : List A → Hs → Prop} : (kLf J xs).q y h = J (xs ++ [y]) h := (rfl)
def kLg (fe : FE) (J : List A → Hs → Prop) (acc : List A) (sl : Sl) : KE Bool := ⟨fun b h => Cond b ((fe sl h).sat (kLf J acc)) (J acc h), fun _ _ => False⟩
theorem q_lg {J : List A → Hs → Prop} : (kLg fe J xs sl).q b h = Cond b ((fe sl h).sat (kLf J xs)) (J xs h) := (rfl)
def kLh (t : FT) (fe : FE) (J : List A → Hs → Prop) (acc : List A) : KS := ⟨fun sl h => (t sl h).sat (kLg fe J acc sl), fun _ _ => False, fun _ _ => False, fun _ _ => False, fun _ _ _ => False⟩
theorem n_lh {t : FT} {J : List A → Hs → Prop} : (kLh t fe J xs).n sl h = (t sl h).sat (kLg fe J xs sl) := (rfl)
def turnL (t : FT) (fe : FE) (acc : List A) (go : List A → Hs → Out (List A)) (m : OutS) : Out (List A) := match m with
    | .nx sl1 h1 => (match t sl1 h1 with
      | .ok true h2 => (match fe sl1 h2 with
        | .ok y h3 => go (acc ++ [y]) h3
        | _ => .bad)
      | .ok false h2 => go acc h2
      | _ => .bad)
    | _ => .bad
theorem lturn {t : FT} {fe : FE} {J : List A → Hs → Prop} {acc : List A} {m : OutS} {go : List A → Hs → Out (List A)} (hJ : ∀ acc h, J acc h → (go acc h).sat kl) (s : m.sat (kLh t fe J acc)) : (turnL t fe acc go m).sat kl := by
  cases m with
  | nx sl1 h1 =>
    have s : (t sl1 h1).sat (kLg fe J acc sl1) := s
    show (match t sl1 h1 with
      | .ok true h2 => (match fe sl1 h2 with
        | .ok y h3 => go (acc ++ [y]) h3
        | _ => .bad)
      | .ok false h2 => go acc h2
      | _ => .bad : Out (List A)).sat kl
    cases ht : t sl1 h1 with
    | ok b h2 =>
      rw [ht] at s
      cases b with
      | true =>
        have s : (fe sl1 h2).sat (kLf J acc) := Cond.t s rfl
        show (match fe sl1 h2 with
          | .ok y h3 => go (acc ++ [y]) h3
          | _ => .bad : Out (List A)).sat kl
        cases hf : fe sl1 h2 with
        | ok y h3 => rw [hf] at s; exact hJ _ _ s
        | ex x h3 => rw [hf] at s; exact s.elim
        | bad => rw [hf] at s; exact s.elim
      | false => exact hJ _ _ (Cond.f s rfl)
    | ex x h3 => rw [ht] at s; exact s.elim
    | bad => rw [ht] at s; exact s.elim
  | ex x sl1 h1 => exact s.elim
  | rt a h1 => exact s.elim
  | bk a h1 => exact s.elim
  | ct a h1 => exact s.elim
  | bad => exact s.elim
theorem w_lcV {J : Nat → List A → Hs → Prop} {g : FG} {t : FT} {fe : FE} {sl : Sl} {xs0 : List A} (step : ∀ i x acc h, xs0[i]? = some x → J i acc h → (g x sl h).sat (kLh t fe (J (i + 1)) acc)) (fin : ∀ acc h, J xs0.length acc h → kl.q acc h) :
    ∀ (xs : List A) (i : Nat), xs0.drop i = xs → i ≤ xs0.length → ∀ acc h, J i acc h → (lcV g t fe sl xs acc h).sat kl
  | [], i, e, hi, acc, h, q => by
    have : i = xs0.length := by
      have := congrArg List.length e
      simp at this
      omega
    exact fin acc h (this ▸ q)
  | x :: xs, i, e, hi, acc, h, q => by
    have hl : i < xs0.length := by
      have := congrArg List.length e
      simp at this
      omega
    have ex : xs0[i]? = some x := by
      have := congrArg (fun l => l[0]?) e
      simpa [List.getElem?_drop] using this
    have et : xs0.drop (i + 1) = xs := by
      have := congrArg (List.drop 1) e
      rw [List.drop_drop] at this
      simpa using this
    exact lturn (go := fun acc h => lcV g t fe sl xs acc h) (fun acc h q => w_lcV step fin xs (i + 1) et (by omega) acc h q) (step i x acc h ex q)
def kLc (k : KE A) : KE (List A) := ⟨fun ys h => k.q (.lst ys) h, k.e⟩
def kLcT (k : KE A) : KE (List A) := ⟨fun ys h => k.q (.ref h.length) (h ++ [.lst ys]), k.e⟩
theorem q_lc : (kLc ke).q xs h = ke.q (.lst xs) h := (rfl)
theorem e_lc : (kLc ke).e xc h = ke.e xc h := (rfl)
theorem q_lcT : (kLcT ke).q xs h = ke.q (.ref h.length) (h ++ [.lst xs]) := (rfl)
theorem e_lcT : (kLcT ke).e xc h = ke.e xc h := (rfl)
theorem s_lc {fi : FA} {own : List Nat} {g : FG} {t : FT} : (eLc fi own g t fe sl h).sat ke = (lcAll fi own g t fe sl h).sat (kLc ke) := s_bind
theorem s_lcT {fi : FA} {own : List Nat} {g : FG} {t : FT} : (eLcT fi own g t fe sl h).sat ke = (lcAll fi own g t fe sl h).sat (kLcT ke) := s_bind
theorem s_lcW {fi : Sl → Hs → Out Wk} {own : List Nat} {g : FG} {t : FT} : (eLcW fi own g t fe sl h).sat ke = (lcAllW fi own g t fe sl h).sat (kLc ke) := s_bind
theorem s_lcWT {fi : Sl → Hs → Out Wk} {own : List Nat} {g : FG} {t : FT} : (eLcWT fi own g t fe sl h).sat ke = (lcAllW fi own g t fe sl h).sat (kLcT ke) := s_bind
theorem w_lc {fi : FA} {own : List Nat} {g : FG} {t : FT} (J : List A → Nat → List A → Hs → Prop) (s : (fi sl h).sat ⟨fun xs h => xs.length ≤ sizeLine ∧ J xs 0 [] h ∧ (∀ i x acc h, xs[i]? = some x → J xs i acc h → (g x (wipeA sl own) h).sat (kLh t fe (J xs (i + 1)) acc)) ∧ (∀ acc h, J xs xs.length acc h → kl.q acc h), kl.e⟩) : (lcAll fi own g t fe sl h).sat kl := by
  refine Eq.mpr s_bind (Out.sat_mono s (fun xs h q => ?_) fun _ _ z => z)
  exact Eq.mpr s_chk ⟨Nat.ble_eq_true_of_le q.1, w_lcV q.2.2.1 q.2.2.2 xs 0 rfl (Nat.zero_le _) [] h q.2.1⟩
theorem w_lcW' {J : Nat → List A → Hs → Prop} {g : FG} {t : FT} {fe : FE} {sl : Sl} {w : Wk} (step : ∀ i acc h, J i acc h → (∃ x, w i h = some (some x) ∧ acc.length < sizeLine ∧ (g x sl h).sat (kLh t fe (J (i + 1)) acc)) ∨ (w i h = some none ∧ kl.q acc h)) (m : Nat) (top : ∀ i acc h, J i acc h → i ≤ m) :
    ∀ (n i : Nat) (acc : List A) (h : Hs), m < n + i → J i acc h → (lcW w g t fe sl n i acc h).sat kl
  | 0, i, acc, h, hm, q => absurd (top i acc h q) (by omega)
  | n + 1, i, acc, h, hm, q => by
    rcases step i acc h q with ⟨x, e, hl, s⟩ | ⟨e, s⟩
    · have z := lturn (go := fun acc h => lcW w g t fe sl n (i + 1) acc h) (fun acc h q => w_lcW' step m top n (i + 1) acc h (by omega) q) s
      unfold lcW
      rw [e]
      have hb : Nat.blt acc.length sizeLine = true := Nat.ble_eq_true_of_le hl
      rw [hb]
      exact z
    · unfold lcW
      rw [e]; exact s
theorem w_lcW {fi : Sl → Hs → Out Wk} {own : List Nat} {g : FG} {t : FT} (m : Nat) (hm : m < FUEL) (J : Nat → List A → Hs → Prop) (top : ∀ i acc h, J i acc h → i ≤ m) (s : (fi sl h).sat ⟨fun w h => J 0 [] h ∧ ∀ i acc h, J i acc h → (∃ x, w i h = some (some x) ∧ acc.length < sizeLine ∧ (g x (wipeA sl own) h).sat (kLh t fe (J (i + 1)) acc)) ∨ (w i h = some none ∧ kl.q acc h), kl.e⟩) : (lcAllW fi own g t fe sl h).sat kl := by
  refine Eq.mpr s_bind (Out.sat_mono s (fun w h q => ?_) fun _ _ z => z)
  exact w_lcW' q.2 m top FUEL 0 [] h (by omega) q.1
def kIr (k : KE (List A)) : KE A := ⟨fun x h => match x with | .int i => (-4611686018427387904 ≤ i ∧ i < 4611686018427387904) ∧ k.q (rangeA i.toNat) h | _ => False, k.e⟩
theorem q_ir {i : Int} : (kIr kl).q (.int i) h = ((-4611686018427387904 ≤ i ∧ i < 4611686018427387904) ∧ kl.q (rangeA i.toNat) h) := (rfl)
theorem e_ir : (kIr kl).e xc h = kl.e xc h := (rfl)
theorem s_iRange : (iRange fa sl h).sat kl = (fa sl h).sat (kIr kl) := by
  refine s_bind.trans ?_
  cases fa sl h with
  | ok a h =>
    cases a with
    | int i => exact s_chk.trans (by simp [kIr, Out.sat])
    | _ => rfl
  | ex x h => rfl
  | bad => rfl
def kIl (k : KE (List A)) : KE A := ⟨fun x h => match x with | .lst xs => k.q xs h | _ => False, k.e⟩
theorem q_il : (kIl kl).q (.lst xs) h = kl.q xs h := (rfl)
theorem e_il : (kIl kl).e xc h = kl.e xc h := (rfl)
theorem s_iLst : (iLst fa sl h).sat kl = (fa sl h).sat (kIl kl) := by
  refine s_bind.trans ?_
  cases fa sl h with
  | ok a h => cases a <;> rfl
  | ex x h => rfl
  | bad => rfl
def kIt (k : KE (List A)) : KE A := ⟨fun x h => match x with | .tup xs => k.q xs h | .ctp xs => k.q xs h | _ => False, k.e⟩
theorem q_it : (kIt kl).q (.tup xs) h = kl.q xs h := (rfl)
theorem e_it : (kIt kl).e xc h = kl.e xc h := (rfl)
theorem s_iTup : (iTup fa sl h).sat kl = (fa sl h).sat (kIt kl) := by
  refine s_bind.trans ?_
  cases fa sl h with
  | ok a h => cases a <;> rfl
  | ex x h => rfl
  | bad => rfl
variable {kw : KE Wk}
def kIL (k : KE Wk) : KE A := ⟨fun x h => (listOf x h).isSome = true ∧ k.q (wL x) h, k.e⟩
theorem q_iL : (kIL kw).q x h = ((listOf x h).isSome = true ∧ kw.q (wL x) h) := (rfl)
theorem e_iL : (kIL kw).e xc h = kw.e xc h := (rfl)
theorem s_iL : (iL fa sl h).sat kw = (fa sl h).sat (kIL kw) := by
  refine s_bind.trans ?_
  cases fa sl h with
  | ok a h =>
    refine s_need.trans ?_
    show nd (listOf a h) _ = ((listOf a h).isSome = true ∧ kw.q (wL a) h)
    cases listOf a h <;> simp [nd, Out.sat]
  | ex x h => rfl
  | bad => rfl
def kIZ2 (x : A) (k : KE Wk) : KE A := ⟨fun y h => (listOf x h).isSome = true ∧ (listOf y h).isSome = true ∧ k.q (wZ x y) h, k.e⟩
theorem q_iZ2 : (kIZ2 x kw).q y h = ((listOf x h).isSome = true ∧ (listOf y h).isSome = true ∧ kw.q (wZ x y) h) := (rfl)
theorem e_iZ2 : (kIZ2 x kw).e xc h = kw.e xc h := (rfl)
def kIZ (fb : FE) (sl : Sl) (k : KE Wk) : KE A := ⟨fun x h => (fb sl h).sat (kIZ2 x k), k.e⟩
theorem q_iZ : (kIZ fb sl kw).q x h = (fb sl h).sat (kIZ2 x kw) := (rfl)
theorem e_iZ : (kIZ fb sl kw).e xc h = kw.e xc h := (rfl)
theorem s_iZ : (iZ fa fb sl h).sat kw = (fa sl h).sat (kIZ fb sl kw) := by
  refine s_bind.trans ?_
  cases fa sl h with
  | ok a h =>
    refine s_bind.trans ?_
    show (fb sl h).sat _ = (fb sl h).sat _
    cases fb sl h with
    | ok b h =>
      refine s_need.trans ?_
      show nd (listOf a h) _ = ((listOf a h).isSome = true ∧ (listOf b h).isSome = true ∧ kw.q (wZ a b) h)
      cases listOf a h with
      | none => simp [nd]
      | some xs =>
        refine s_need.trans ?_
        cases listOf b h <;> simp [nd, Out.sat]
    | ex x h => rfl
    | bad => rfl
  | ex x h => rfl
  | bad => rfl
end
end Rx
set_option Elab.async false
set_option linter.all false
set_option maxRecDepth 100000
set_option maxHeartbeats 4000000
/-! RxZ: the pure walk over errors, dicts, own special methods, walks by value. -/
namespace Rx
open PySem L2 Sx
section
variable {α β : Type} {sl : Sl} {h h1 : Hs} {k : KS} {ke : KE A} {kt : KE Bool} {kl : KE (List A)} {ku : KE Unit} {fa fb fc fo fe fi : FE} {ft fu : FT} {fs : FA} {f g : FS} {x y z : A} {xs ys : List A} {xc : Xc} {n i j : Nat} {b : Bool} {m : OutS} {mt : Mt} {kvs : List (Key × A)} {kws : List (List Key × A)} {c : Nat}
theorem q_V {c : α → Hs → OutS} {a : α} : (kV sl c k).q a h = (c a h).sat k := (rfl)
theorem e_V {c : α → Hs → OutS} : (kV sl c k).e xc h = k.e xc sl h := (rfl)
theorem s_chkS : (chkS b m).sat k = (b = true ∧ m.sat k) := by cases b <;> simp [chkS, OutS.sat]
theorem s_exS : (OutS.ex xc sl h).sat k = k.e xc sl h := (rfl)
theorem s_raise : (sRaise c n fs sl h).sat k = (fs sl h).sat (kV sl (fun xs h1 => chkS (Nat.beq xs.length n) (.ex ⟨c, xs.reverse⟩ sl h1)) k) := s_bindS
theorem rv1 : [x].reverse = [x] := (rfl)
theorem rv2 : [x, y].reverse = [y, x] := (rfl)
theorem lb1 : Nat.beq [x].length 1 = true := (rfl)
theorem lb2 : Nat.beq [x, y].length 2 = true := (rfl)
def kEnd (i : Nat) (k : KS) : KS := ⟨fun sl h => k.n (sl.set i none) h, k.r, fun sl h => k.b (sl.set i none) h, fun sl h => k.c (sl.set i none) h, fun _ _ _ => False⟩
theorem n_end : (kEnd i k).n sl h = k.n (sl.set i none) h := (rfl)
theorem r_end : (kEnd i k).r x h = k.r x h := (rfl)
theorem b_end : (kEnd i k).b sl h = k.b (sl.set i none) h := (rfl)
theorem c_end : (kEnd i k).c sl h = k.c (sl.set i none) h := (rfl)
def tryQ (o : Option Bool) (i : Nat) (g : Nat → List A → FS) (x : Xc) (sl : Sl) (h : Hs) (k : KS) : Prop := match o with
  | some true => (g x.cls x.fs (sl.set i none) h).sat (kEnd i k)
  | some false => k.e x sl h
  | none => False
def kTry (i : Nat) (mt : Nat → Option Bool) (g : Nat → List A → FS) (k : KS) : KS := ⟨k.n, k.r, k.b, k.c, fun x sl h => tryQ (mt x.cls) i g x sl h k⟩
variable {em : Nat → Option Bool} {gg : Nat → List A → FS}
theorem n_try : (kTry i em gg k).n sl h = k.n sl h := (rfl)
theorem r_try : (kTry i em gg k).r x h = k.r x h := (rfl)
theorem b_try : (kTry i em gg k).b sl h = k.b sl h := (rfl)
theorem c_try : (kTry i em gg k).c sl h = k.c sl h := (rfl)
theorem e_try : (kTry i em gg k).e ⟨c, xs⟩ sl h = tryQ (em c) i gg ⟨c, xs⟩ sl h k := (rfl)
theorem tryQ_t : tryQ (some true) i gg ⟨c, xs⟩ sl h k = (gg c xs (sl.set i none) h).sat (kEnd i k) := (rfl)
theorem tryQ_f : tryQ (some false) i gg xc sl h k = k.e xc sl h := (rfl)
theorem s_endT : (endT i m).sat k = m.sat (kEnd i k) := by cases m <;> rfl
theorem s_try : (sTry i em f gg sl h).sat k = (f sl h).sat (kTry i em gg k) := by
  unfold sTry
  cases f sl h with
  | ex x sl1 h1 =>
    show (match em x.cls with
      | some true => endT i (gg x.cls x.fs (sl1.set i none) h1)
      | some false => OutS.ex x sl1 h1
      | none => .bad).sat k = tryQ (em x.cls) i gg x sl1 h1 k
    cases em x.cls with
    | none => rfl
    | some b =>
      cases b with
      | true => exact s_endT
      | false => rfl
  | _ => rfl
def kEndO (k : KS) : KS := ⟨k.n, k.r, k.b, k.c, fun _ _ _ => False⟩
theorem n_endO : (kEndO k).n sl h = k.n sl h := (rfl)
theorem r_endO : (kEndO k).r x h = k.r x h := (rfl)
theorem b_endO : (kEndO k).b sl h = k.b sl h := (rfl)
theorem c_endO : (kEndO k).c sl h = k.c sl h := (rfl)
def tryO (o : Option Bool) (g : FS) (x : Xc) (sl : Sl) (h : Hs) (k : KS) : Prop := match o with
  | some true => (g sl h).sat (kEndO k)
  | some false => k.e x sl h
  | none => False
def kTryO (mt : Nat → Option Bool) (g : FS) (k : KS) : KS := ⟨k.n, k.r, k.b, k.c, fun x sl h => tryO (mt x.cls) g x sl h k⟩
theorem n_tryO : (kTryO em g k).n sl h = k.n sl h := (rfl)
theorem r_tryO : (kTryO em g k).r x h = k.r x h := (rfl)
theorem b_tryO : (kTryO em g k).b sl h = k.b sl h := (rfl)
theorem c_tryO : (kTryO em g k).c sl h = k.c sl h := (rfl)
theorem e_tryO : (kTryO em g k).e ⟨c, xs⟩ sl h = tryO (em c) g ⟨c, xs⟩ sl h k := (rfl)
theorem tryO_t : tryO (some true) g xc sl h k = (g sl h).sat (kEndO k) := (rfl)
theorem tryO_f : tryO (some false) g xc sl h k = k.e xc sl h := (rfl)
theorem s_endO : (endO m).sat k = m.sat (kEndO k) := by cases m <;> rfl
theorem s_tryO : (sTryO em f g sl h).sat k = (f sl h).sat (kTryO em g k) := by
  unfold sTryO
  cases f sl h with
  | ex x sl1 h1 =>
    show (match em x.cls with
      | some true => endO (g sl1 h1)
      | some false => OutS.ex x sl1 h1
      | none => .bad).sat k = tryO (em x.cls) g x sl1 h1 k
    cases em x.cls with
    | none => rfl
    | some b =>
      cases b with
      | true => exact s_endO
      | false => rfl
  | _ => rfl
def xfQ (o : Option (Option A)) (j : Option Nat) (fs : List A) (ke : KE A) (h : Hs) : Prop := match o with
  | some none => nd j fun j => qO fs[j]? ke h
  | _ => False
theorem xfQ_n {j : Option Nat} : xfQ (some none) j xs ke h = nd j fun j => qO xs[j]? ke h := (rfl)
theorem s_xf {xat : Nat → Option Nat} : (eXf i xat c xs sl h).sat ke = xfQ sl[i]? (xat c) xs ke h := by
  unfold eXf xfQ
  cases sl[i]? with
  | none => rfl
  | some o =>
    cases o with
    | some _ => rfl
    | none =>
      dsimp only
      cases xat c with
      | none => rfl
      | some j => exact s_needO
def kXs (sub : Nat → Nat → Option Bool) (bt : Nat → String → Option Bool) (c : Nat) (ke : KE A) : KE A := ⟨fun y h => qB (xisB sub bt c y) ke h, ke.e⟩
variable {sub : Nat → Nat → Option Bool} {bt : Nat → String → Option Bool}
theorem q_xs : (kXs sub bt c ke).q y h = qB (xisB sub bt c y) ke h := (rfl)
theorem e_xs : (kXs sub bt c ke).e xc h = ke.e xc h := (rfl)
theorem xis_c {d : Nat} : xisB sub bt c (.cls d) = sub c d := (rfl)
theorem xis_t {t : String} : xisB sub bt c (.ty t) = bt c t := (rfl)
def xsQ (o : Option (Option A)) (sub : Nat → Nat → Option Bool) (bt : Nat → String → Option Bool) (c : Nat) (fb : FE) (sl : Sl) (h : Hs) (ke : KE A) : Prop := match o with
  | some none => (fb sl h).sat (kXs sub bt c ke)
  | _ => False
theorem xsQ_n : xsQ (some none) sub bt c fb sl h ke = (fb sl h).sat (kXs sub bt c ke) := (rfl)
theorem s_xis : (eXis i sub bt c fb sl h).sat ke = xsQ sl[i]? sub bt c fb sl h ke := by
  unfold eXis xsQ
  cases sl[i]? with
  | none => rfl
  | some o =>
    cases o with
    | some _ => rfl
    | none =>
      show ((fb sl h).bind fun y h1 => need (xisB sub bt c y) fun b => .ok (.bl b) h1).sat ke = (fb sl h).sat (kXs sub bt c ke)
      cases fb sl h with
      | ok y h1 => show (need (xisB sub bt c y) fun b => Out.ok (A.bl b) h1).sat ke = qB (xisB sub bt c y) ke h1; cases xisB sub bt c y <;> rfl
      | ex x h1 => rfl
      | bad => rfl
/-! ### dicts -/
theorem s_dk : (eDk sl h).sat ke = ke.q (.ref h.length) (h ++ [.dk []]) := (rfl)
theorem s_dt : (eDt sl h).sat ke = ke.q (.ref h.length) (h ++ [.dt []]) := (rfl)
def ddO (o : Option O) : Option Dd := match o with | some (.dk kvs) => some (.k kvs) | some (.dt kvs) => some (.t kvs) | some (.fdk kvs) => some (.k kvs) | some (.fdt kvs) => some (.t kvs) | _ => none
theorem ddO_dk : ddO (some (.dk kvs)) = some (.k kvs) := (rfl)
theorem ddO_dt : ddO (some (.dt kws)) = some (.t kws) := (rfl)
theorem ddO_lst : ddO (some (.lst xs)) = none := (rfl)
theorem ddO_ins : ddO (some (.ins c xs)) = none := (rfl)
theorem ddOf_ref : ddOf (.ref n) h = ddO h[n]? := (rfl)
theorem ddOf_lst : ddOf (.lst xs) h = none := (rfl)
theorem ddOf_tup : ddOf (.tup xs) h = none := (rfl)
theorem ddOf_ctp : ddOf (.ctp xs) h = none := (rfl)
theorem ddOf_str {z : Str} : ddOf (.str z) h = none := (rfl)
theorem ddOf_int {z : Int} : ddOf (.int z) h = none := (rfl)
theorem ddOf_scr {z : List Int} : ddOf (.scr z) h = none := (rfl)
theorem ddOf_dk : ddOf (.dk kvs) h = some (.k kvs) := (rfl)
theorem ddOf_dt : ddOf (.dt kws) h = some (.t kws) := (rfl)
theorem ddOf_wdk : ddOf (.wdk kvs) h = none := (rfl)
theorem ddOf_ins : ddOf (.ins c xs) h = none := (rfl)
def ddQ (d : Dd) (y : A) (h : Hs) (ke : KE A) : Prop := nd (ddGet d y) fun r => qO r ke h
theorem ddQ_ks {w : Str} : ddQ (.k kvs) (.str w) h ke = qO (valA kvs (.inr w)) ke h := (rfl)
theorem ddQ_ki {w : Int} : ddQ (.k kvs) (.int w) h ke = qO (valA kvs (.inl w)) ke h := (rfl)
theorem ddQ_t : ddQ (.t kws) (.tup ys) h ke = nd (keysA ys) fun k => qO (valA kws k) ke h := by
  show nd ((keysA ys).map (valA kws)) _ = _
  cases keysA ys <;> rfl
theorem kA_si {a : Str} {b : Int} : keysA [.str a, .int b] = some [.inr a, .inl b] := (rfl)
theorem kA_ss {a b : Str} : keysA [.str a, .str b] = some [.inr a, .inr b] := (rfl)
def ixQ (o : Option Dd) (x y : A) (h : Hs) (ke : KE A) : Prop := match o with
  | some d => ddQ d y h ke
  | none => (ixD x y h).sat ke
theorem s_ixD {x y : A} : (ixD x y h).sat ke = ixQ (ddOf x h) x y h ke := by
  unfold ixQ
  cases hd : ddOf x h with
  | none => rfl
  | some d =>
    unfold ixD ddQ
    rw [hd]
    dsimp only
    cases ddGet d y with
    | none => rfl
    | some r => exact s_needO
theorem ixQ_some {d : Dd} : ixQ (some d) x y h ke = ddQ d y h ke := (rfl)
theorem ixQ_lst : ixQ none (.lst xs) y h ke = (ixA (.lst xs) y h).sat ke := (rfl)
theorem ixQ_tup : ixQ none (.tup xs) y h ke = (ixA (.tup xs) y h).sat ke := (rfl)
theorem ixQ_ctp : ixQ none (.ctp xs) y h ke = (ixA (.ctp xs) y h).sat ke := (rfl)
theorem ixQ_str {z : Str} : ixQ none (.str z) y h ke = (ixA (.str z) y h).sat ke := (rfl)
theorem ixQ_scr {z : List Int} : ixQ none (.scr z) y h ke = (ixA (.scr z) y h).sat ke := (rfl)
theorem ixD_ref (e : ddO h[n]? = none) : ixD (.ref n) y h = ixA (.ref n) y h := by unfold ixD; rw [ddOf_ref, e]
theorem ixQ_ref {o : Option O} (e : h[n]? = o) (e2 : ddO o = none) : ixQ none (.ref n) y h ke = (ixA (.ref n) y h).sat ke := by show (ixD (.ref n) y h).sat ke = _; rw [ixD_ref (by rw [e, e2])]
theorem ixQ_refL (e : h[n]? = some (.lst xs)) : ixQ none (.ref n) y h ke = (ixA (.ref n) y h).sat ke := ixQ_ref e rfl
theorem ixQ_wdk {w : Str} : ixQ none (.wdk kvs) (.str w) h ke = qO (valA kvs (.inr w)) ke h := s_needO
theorem s_ixCt {i : Int} : (ixA (.ctp xs) (.int i) h).sat ke = qO (atI xs i) ke h := s_needO
def sdQ (o : Option O) (n : Nat) (y z : A) (ku : KE Unit) (h : Hs) : Prop := match o with
  | some (.dk kvs) => nd (keyA y) fun k => Nat.blt kvs.length sizeLine = true ∧ ku.q () (h.set n (.dk (putA kvs k z)))
  | some (.dt kvs) => nd (tkA y) fun k => Nat.blt kvs.length sizeLine = true ∧ ku.q () (h.set n (.dt (putA kvs k z)))
  | _ => (setL (.ref n) y z h).sat ku
theorem sdQ_ks {w : Str} : sdQ (some (.dk kvs)) n (.str w) z ku h = (Nat.blt kvs.length sizeLine = true ∧ ku.q () (h.set n (.dk (putA kvs (.inr w) z)))) := (rfl)
theorem sdQ_ki {w : Int} : sdQ (some (.dk kvs)) n (.int w) z ku h = (Nat.blt kvs.length sizeLine = true ∧ ku.q () (h.set n (.dk (putA kvs (.inl w) z)))) := (rfl)
theorem sdQ_t : sdQ (some (.dt kws)) n (.tup ys) z ku h = nd (keysA ys) fun k => Nat.blt kws.length sizeLine = true ∧ ku.q () (h.set n (.dt (putA kws k z))) := (rfl)
theorem sdQ_l {i : Int} (e : h[n]? = some (.lst xs)) : sdQ (some (.lst xs)) n (.int i) z ku h = setO (some (.lst xs)) n i z ku h := by
  show (setL (.ref n) (.int i) z h).sat ku = _
  rw [s_setR, e]
theorem s_setD : (setD (.ref n) y z h).sat ku = sdQ h[n]? n y z ku h := by
  have key : ∀ o, h[n]? = o → (setD (.ref n) y z h).sat ku = sdQ o n y z ku h := by
    intro o e
    unfold setD sdQ
    dsimp only
    rw [e]
    cases o with
    | none => rfl
    | some o =>
      cases o <;> try rfl
      · dsimp only
        cases keyA y with
        | none => rfl
        | some k => exact s_chk
      · dsimp only
        cases tkA y with
        | none => rfl
        | some k => exact s_chk
  exact key _ rfl
def dlQ (o : Option O) (n : Nat) (y : A) (ku : KE Unit) (h : Hs) : Prop := match o with
  | some (.dk kvs) => nd (keyA y) fun k => (valA kvs k).isSome = true ∧ ku.q () (h.set n (.dk (dropA kvs k)))
  | some (.dt kvs) => nd (tkA y) fun k => (valA kvs k).isSome = true ∧ ku.q () (h.set n (.dt (dropA kvs k)))
  | _ => False
theorem dlQ_ks {w : Str} : dlQ (some (.dk kvs)) n (.str w) ku h = ((valA kvs (.inr w)).isSome = true ∧ ku.q () (h.set n (.dk (dropA kvs (.inr w))))) := (rfl)
theorem dlQ_t : dlQ (some (.dt kws)) n (.tup ys) ku h = nd (keysA ys) fun k => (valA kws k).isSome = true ∧ ku.q () (h.set n (.dt (dropA kws k))) := (rfl)
theorem s_delD : (delD (.ref n) y h).sat ku = dlQ h[n]? n y ku h := by
  have key : ∀ o, h[n]? = o → (delD (.ref n) y h).sat ku = dlQ o n y ku h := by
    intro o e
    unfold delD dlQ
    dsimp only
    rw [e]
    cases o with
    | none => rfl
    | some o =>
      cases o <;> try rfl
      · dsimp only
        cases keyA y with
        | none => rfl
        | some k => exact s_chk
      · dsimp only
        cases tkA y with
        | none => rfl
        | some k => exact s_chk
  exact key _ rfl
theorem s_del {op : A → A → Hs → Out Unit} : (sDel fo fi op sl h).sat k = (fo sl h).sat (kV sl (fun x h1 => (fi sl h1).bindS sl fun y h2 => (op x y h2).bindS sl fun _ h3 => .nx sl h3) k) := s_bindS
theorem s_bS {α : Type} {mm : Out α} {c : α → Hs → OutS} : (mm.bindS sl c).sat k = mm.sat (kV sl c k) := s_bindS
/-! ### in -/
def inQ (o : Option Dd) (x y : A) (h : Hs) (kt : KE Bool) : Prop := match o with
  | some d => nd (ddGet d x) fun r => kt.q r.isSome h
  | none => (inA x y h).sat kt
theorem s_inA : (inA x y h).sat kt = inQ (ddOf y h) x y h kt := by
  unfold inQ
  cases hd : ddOf y h with
  | none => rfl
  | some d =>
    unfold inA
    rw [hd]
    dsimp only
    cases ddGet d x with
    | none => rfl
    | some r => rfl
theorem inQ_ks {w : Str} : inQ (some (.k kvs)) (.str w) y h kt = kt.q (valA kvs (.inr w)).isSome h := (rfl)
theorem inQ_ki {w : Int} : inQ (some (.k kvs)) (.int w) y h kt = kt.q (valA kvs (.inl w)).isSome h := (rfl)
theorem inQ_t : inQ (some (.t kws)) (.tup ys) y h kt = nd (keysA ys) fun k => kt.q (valA kws k).isSome h := by
  show nd ((keysA ys).map (valA kws)) _ = _
  cases keysA ys <;> rfl
theorem inQ_wdk {w : Str} : inQ none (.str w) (.wdk kvs) h kt = kt.q (valA kvs (.inr w)).isSome h := (rfl)
theorem flat_strL : ∀ {ss : List Str}, (strL ss).all flatA = true
  | [] => rfl
  | _ :: ss => flat_strL (ss := ss)
theorem inF_strL {w : Str} : ∀ {ss : List Str}, inF (.str w) (strL ss) = ss.contains w
  | [] => rfl
  | s :: ss => by
    show (s == w || inF (.str w) (strL ss)) = (w == s || ss.contains w)
    rw [inF_strL (ss := ss), Bool.beq_comm]
theorem inA_strL {w : Str} {ss : List Str} : inA (.str w) (.lst (strL ss)) h = .ok (ss.contains w) h := by
  show (match flatA (.str w) && (strL ss).all flatA with
    | true => Out.ok (inF (.str w) (strL ss)) h
    | false => _) = _
  rw [flat_strL, inF_strL]
  rfl
theorem inA_strLT {w : Str} {ss : List Str} : inA (.str w) (.tup (strL ss)) h = .ok (ss.contains w) h := by
  show (match flatA (.str w) && (strL ss).all flatA with
    | true => Out.ok (inF (.str w) (strL ss)) h
    | false => _) = _
  rw [flat_strL, inF_strL]
  rfl
theorem inA_strLC {w : Str} {ss : List Str} : inA (.str w) (.ctp (strL ss)) h = .ok (ss.contains w) h := by
  show (match flatA (.str w) && (strL ss).all flatA with
    | true => Out.ok (inF (.str w) (strL ss)) h
    | false => _) = _
  rw [flat_strL, inF_strL]
  rfl
theorem inA_strLR {w : Str} {ss : List Str} (e : h[n]? = some (.lst (strL ss))) : inA (.str w) (.ref n) h = .ok (ss.contains w) h := by
  unfold inA
  rw [ddOf_ref, e, ddO_lst]
  dsimp only
  rw [itemsOf_ref, e]
  show (match flatA (.str w) && (strL ss).all flatA with
    | true => Out.ok (inF (.str w) (strL ss)) h
    | false => _) = _
  rw [flat_strL, inF_strL]
  rfl
def kBv (neg : Bool) (ke : KE A) : KE Bool := ⟨fun b h => ke.q (.bl (if neg then !b else b)) h, ke.e⟩
theorem q_bv {neg : Bool} : (kBv neg ke).q b h = ke.q (.bl (if neg then !b else b)) h := (rfl)
theorem q_bvF : (kBv false ke).q b h = ke.q (.bl b) h := (rfl)
theorem q_bvT : (kBv true ke).q b h = ke.q (.bl (!b)) h := (rfl)
theorem e_bv {neg : Bool} : (kBv neg ke).e xc h = ke.e xc h := (rfl)
theorem s_inD : (inD x y h).sat ke = (inA x y h).sat (kBv false ke) := s_bind
theorem s_notinD : (notinD x y h).sat ke = (inA x y h).sat (kBv true ke) := s_bind
def inGQ (o : Option (Nat × List A)) (mt : Mt) (x y : A) (h : Hs) (kt : KE Bool) : Prop := match o with
  | some p => nd (mt p.1) fun f => (f [y, x] h).sat (kBl kt)
  | none => (inA x y h).sat kt
theorem inGQ_s : inGQ (some (c, xs)) mt x y h kt = nd (mt c) fun f => (f [y, x] h).sat (kBl kt) := (rfl)
theorem inGQ_n : inGQ none mt x y h kt = (inA x y h).sat kt := (rfl)
theorem s_inG : (inG mt x y h).sat kt = inGQ (instOf y h) mt x y h kt := by
  unfold inG inGQ
  cases instOf y h with
  | none => rfl
  | some p =>
    dsimp only
    cases mt p.1 with
    | none => rfl
    | some f => exact s_bind
theorem s_inGv : (inGv mt x y h).sat ke = (inG mt x y h).sat (kBv false ke) := s_bind
theorem s_ninGv : (ninGv mt x y h).sat ke = (inG mt x y h).sat (kBv true ke) := s_bind
/-! ### len, list, subscripts of own ones -/
def ldQ (o : Option Dd) (x : A) (h : Hs) (ke : KE A) : Prop := match o with
  | some (.t kvs) => ke.q (.int (Int.ofNat kvs.length)) h
  | _ => (lenA x h).sat ke
theorem ldQ_t : ldQ (some (.t kws)) x h ke = ke.q (.int (Int.ofNat kws.length)) h := (rfl)
theorem ldQ_k : ldQ (some (.k kvs)) x h ke = (lenA x h).sat ke := (rfl)
theorem ldQ_n : ldQ none x h ke = (lenA x h).sat ke := (rfl)
theorem s_lenD : (lenD x h).sat ke = ldQ (ddOf x h) x h ke := by
  unfold lenD ldQ
  cases ddOf x h with
  | none => rfl
  | some d => cases d <;> rfl
theorem s_lenCt : (lenA (.ctp xs) h).sat ke = ke.q (.int (Int.ofNat xs.length)) h := (rfl)
def lnQ (o : Option (Nat × List A)) (mt : Mt) (x : A) (h : Hs) (ke : KE A) : Prop := match o with
  | some p => nd (mt p.1) fun f => (f [x] h).sat (kW lenBk ke)
  | none => (lenD x h).sat ke
theorem lnQ_s : lnQ (some (c, xs)) mt x h ke = nd (mt c) fun f => (f [x] h).sat (kW lenBk ke) := (rfl)
theorem lnQ_n : lnQ none mt x h ke = (lenD x h).sat ke := (rfl)
theorem s_lenG : (lenG mt x h).sat ke = lnQ (instOf x h) mt x h ke := by
  unfold lenG lnQ
  cases instOf x h with
  | none => rfl
  | some p =>
    dsimp only
    cases mt p.1 with
    | none => rfl
    | some f => exact s_bind
theorem s_lenBk {i : Int} : (lenBk (.int i) h).sat ke = (decide (0 ≤ i ∧ i < 9223372036854775808) = true ∧ ke.q (.int i) h) := s_chk
def lsQ (o : Option Dd) (x : A) (h : Hs) (ke : KE A) : Prop := match o with
  | some (.k kvs) => ke.q (.lst (kvs.map fun kv => keyV kv.1)) h
  | some (.t kvs) => ke.q (.lst (kvs.map fun kv => .tup (kv.1.map keyV))) h
  | none => nd (itemsOf x h) fun xs => ke.q (.lst xs) h
theorem lsQ_k : lsQ (some (.k kvs)) x h ke = ke.q (.lst (kvs.map fun kv => keyV kv.1)) h := (rfl)
theorem lsQ_t : lsQ (some (.t kws)) x h ke = ke.q (.lst (kws.map fun kv => .tup (kv.1.map keyV))) h := (rfl)
theorem lsQ_n : lsQ none x h ke = nd (itemsOf x h) fun xs => ke.q (.lst xs) h := (rfl)
theorem s_listDA : (listDA x h).sat ke = lsQ (ddOf x h) x h ke := by
  have key : ∀ o, ddOf x h = o → (listDA x h).sat ke = lsQ o x h ke := by
    intro o e
    unfold listDA
    rw [e]
    cases o with
    | none =>
      show (need (itemsOf x h) fun xs => Out.ok (A.lst xs) h).sat ke = nd (itemsOf x h) fun xs => ke.q (.lst xs) h
      cases itemsOf x h <;> rfl
    | some d => cases d <;> rfl
  exact key _ rfl
theorem itemsOf_lst : itemsOf (.lst xs) h = some xs := (rfl)
theorem itemsOf_tup : itemsOf (.tup xs) h = some xs := (rfl)
theorem itemsOf_ctp : itemsOf (.ctp xs) h = some xs := (rfl)
def igQ (o : Option (Nat × List A)) (mt : Mt) (x y : A) (h : Hs) (ke : KE A) : Prop := match o with
  | some p => nd (mt p.1) fun f => (f [x, y] h).sat ke
  | none => (ixD x y h).sat ke
theorem igQ_s : igQ (some (c, xs)) mt x y h ke = nd (mt c) fun f => (f [x, y] h).sat ke := (rfl)
theorem igQ_n : igQ none mt x y h ke = (ixD x y h).sat ke := (rfl)
theorem s_ixG : (ixG mt x y h).sat ke = igQ (instOf x h) mt x y h ke := by
  unfold ixG igQ
  cases instOf x h with
  | none => rfl
  | some p =>
    dsimp only
    cases mt p.1 <;> rfl
def sgQ (o : Option (Nat × List A)) (mt : Mt) (x y z : A) (h : Hs) (ku : KE Unit) : Prop := match o with
  | some p => nd (mt p.1) fun f => (f [x, y, z] h).sat ⟨fun _ h => ku.q () h, ku.e⟩
  | none => (setD x y z h).sat ku
def kUn (ku : KE Unit) : KE A := ⟨fun _ h => ku.q () h, ku.e⟩
theorem q_un : (kUn ku).q x h = ku.q () h := (rfl)
theorem e_un : (kUn ku).e xc h = ku.e xc h := (rfl)
theorem sgQ_s : sgQ (some (c, xs)) mt x y z h ku = nd (mt c) fun f => (f [x, y, z] h).sat (kUn ku) := (rfl)
theorem sgQ_n : sgQ none mt x y z h ku = (setD x y z h).sat ku := (rfl)
theorem s_setG : (setG mt x y z h).sat ku = sgQ (instOf x h) mt x y z h ku := by
  unfold setG sgQ
  cases instOf x h with
  | none => rfl
  | some p =>
    dsimp only
    cases mt p.1 with
    | none => rfl
    | some f => exact s_bind
theorem inO_lst : inO (some (.lst xs)) = none := (rfl)
theorem inO_dk : inO (some (.dk kvs)) = none := (rfl)
theorem inO_dt : inO (some (.dt kws)) = none := (rfl)
theorem instOf_lst : instOf (.lst xs) h = none := (rfl)
theorem instOf_tup : instOf (.tup xs) h = none := (rfl)
theorem instOf_ctp : instOf (.ctp xs) h = none := (rfl)
theorem instOf_str {z : Str} : instOf (.str z) h = none := (rfl)
theorem instOf_int {z : Int} : instOf (.int z) h = none := (rfl)
theorem instOf_scr {z : List Int} : instOf (.scr z) h = none := (rfl)
theorem instOf_wdk : instOf (.wdk kvs) h = none := (rfl)
theorem instOf_non : instOf .non h = none := (rfl)
theorem instOf_bl : instOf (.bl b) h = none := (rfl)
/-! ### methods by the value; pop -/
variable {bt' : Bt}
theorem s_mb : (eMb bt' fo fs sl h).sat ke = (fo sl h).sat (kW (fun x h1 => need (kindB x h1) fun T => need (bt' T) fun g => (fs sl h1).bind fun xs h2 => g x xs h2) ke) := s_bind
theorem s_mb0 : (eMb0 bt' fo sl h).sat ke = (fo sl h).sat (kW (fun x h1 => need (kindB x h1) fun T => need (bt' T) fun g => g x [] h1) ke) := s_bind
def kiO (o : Option O) : Option Bk := match o with | some (.lst _) => some .lst | some (.dk _) => some .dct | some (.dt _) => some .dct | _ => none
theorem kiO_lst : kiO (some (.lst xs)) = some .lst := (rfl)
theorem kiO_dk : kiO (some (.dk kvs)) = some .dct := (rfl)
theorem kiO_dt : kiO (some (.dt kws)) = some .dct := (rfl)
theorem kindB_ref : kindB (.ref n) h = kiO h[n]? := (rfl)
theorem kindB_lst : kindB (.lst xs) h = some .lst := (rfl)
theorem kindB_str {z : Str} : kindB (.str z) h = some .str := (rfl)
theorem s_nd {o : Option α} {c : α → Out β} {k : KE β} : (need o c).sat k = nd o fun a => (c a).sat k := s_need
theorem s_bnd {m : Out α} {c : α → Hs → Out β} {k : KE β} : (m.bind c).sat k = m.sat (kW c k) := s_bind
def pdQ (o : Option O) (n : Nat) (y : A) (ke : KE A) (h : Hs) : Prop := match o with
  | some (.dk kvs) => nd (keyA y) fun k => nd (valA kvs k) fun v => ke.q v (h.set n (.dk (dropA kvs k)))
  | some (.dt kvs) => nd (tkA y) fun k => nd (valA kvs k) fun v => ke.q v (h.set n (.dt (dropA kvs k)))
  | _ => False
theorem pdQ_ks {w : Str} : pdQ (some (.dk kvs)) n (.str w) ke h = nd (valA kvs (.inr w)) fun v => ke.q v (h.set n (.dk (dropA kvs (.inr w)))) := (rfl)
theorem pdQ_ki {w : Int} : pdQ (some (.dk kvs)) n (.int w) ke h = nd (valA kvs (.inl w)) fun v => ke.q v (h.set n (.dk (dropA kvs (.inl w)))) := (rfl)
theorem pdQ_t : pdQ (some (.dt kws)) n (.tup ys) ke h = nd (keysA ys) fun k => nd (valA kws k) fun v => ke.q v (h.set n (.dt (dropA kws k))) := (rfl)
theorem s_popD : (popD (.ref n) [y] h).sat ke = pdQ h[n]? n y ke h := by
  have key : ∀ o, h[n]? = o → (popD (.ref n) [y] h).sat ke = pdQ o n y ke h := by
    intro o e
    unfold popD pdQ
    dsimp only
    rw [e]
    cases o with
    | none => rfl
    | some o =>
      cases o <;> try rfl
      · rename_i kvs
        dsimp only
        cases keyA y with
        | none => rfl
        | some k => dsimp only [need, nd]; cases valA kvs k <;> rfl
      · rename_i kvs
        dsimp only
        cases tkA y with
        | none => rfl
        | some k => dsimp only [need, nd]; cases valA kvs k <;> rfl
  exact key _ rfl
/-! ### stars, walks, += at a subscript, own methods -/
theorem s_star : (aStar fa fs sl h).sat kl = (fa sl h).sat (kW (fun x h1 => need (itemsOf x h1) fun xs => (fs sl h1).bind fun ys h2 => .ok (xs ++ ys) h2) kl) := s_bind
variable {itf : Nat → Option Nat}
theorem s_iAny : (iAny itf fa sl h).sat kl = (fa sl h).sat (kW (fun x h1 => need (walkA itf x h1) fun xs => .ok xs h1) kl) := s_bind
theorem walk_lst : walkA itf (.lst xs) h = some xs := (rfl)
theorem walk_tup : walkA itf (.tup xs) h = some xs := (rfl)
theorem walk_ctp : walkA itf (.ctp xs) h = some xs := (rfl)
theorem walk_str {z : Str} : walkA itf (.str z) h = some (signs z) := (rfl)
def wkF (o : Option A) : Option (List A) := match o with | some (.lst xs) => some xs | some (.tup xs) => some xs | some (.ctp xs) => some xs | _ => none
def wkJ (o : Option Nat) (fs : List A) : Option (List A) := match o with | some j => wkF fs[j]? | none => none
def wkP (o : Option (Nat × List A)) (itf : Nat → Option Nat) : Option (List A) := match o with | some p => wkJ (itf p.1) p.2 | none => none
theorem wkF_lst : wkF (some (.lst xs)) = some xs := (rfl)
theorem wkF_tup : wkF (some (.tup xs)) = some xs := (rfl)
theorem wkJ_some : wkJ (some j) xs = wkF xs[j]? := (rfl)
theorem wkP_some : wkP (some (c, xs)) itf = wkJ (itf c) xs := (rfl)
theorem wk_eq {o : Option (Nat × List A)} : (o.bind fun p => (itf p.1).bind fun j => p.2[j]?.bind fun y => match y with
    | A.lst xs => some xs
    | A.tup xs => some xs
    | A.ctp xs => some xs
    | _ => none) = wkP o itf := by
  cases o with
  | none => rfl
  | some p =>
    show ((itf p.1).bind _) = wkJ (itf p.1) p.2
    cases itf p.1 with
    | none => rfl
    | some j =>
      show (p.2[j]?.bind _) = wkF p.2[j]?
      cases p.2[j]? with
      | none => rfl
      | some y => cases y <;> rfl
theorem walk_ref : walkA itf (.ref n) h = wkP (inO h[n]?) itf := wk_eq
theorem walk_ins : walkA itf (.ins c xs) h = wkP (some (c, xs)) itf := wk_eq (o := some (c, xs))
variable {gx gi : A → A → Hs → Out A} {gs : A → A → A → Hs → Out Unit}
theorem s_augS : (sAugS fo fi fa gx gi gs sl h).sat k = (fo sl h).sat (kV sl (fun x h1 => (fi sl h1).bindS sl fun y h2 => (gx x y h2).bindS sl fun c h3 => (fa sl h3).bindS sl fun z h4 => (gi c z h4).bindS sl fun w h5 => (gs x y w h5).bindS sl fun _ h6 => .nx sl h6) k) := s_bindS
theorem s_gtD : (gtD x y h).sat ke = nd (ddOf x h) fun d => ddQ d y h ke := by
  unfold gtD
  cases ddOf x h with
  | none => rfl
  | some d =>
    show (need (ddGet d y) fun r => need r fun z => Out.ok z h).sat ke = ddQ d y h ke
    unfold ddQ
    cases ddGet d y with
    | none => rfl
    | some r => exact s_needO
theorem s_addI' {i j : Int} : (addI (.int i) (.int j) h).sat ke = ke.q (.int (i + j)) h := (rfl)
theorem s_nxS : (OutS.nx sl h).sat k = k.n sl h := (rfl)
theorem s_okO {a : α} {k : KE α} : (Out.ok a h).sat k = k.q a h := (rfl)
theorem s_m : (eM mt fa fs sl h).sat ke = (fa sl h).sat (kW (fun x h1 => need (instOf x h1) fun p => need (mt p.1) fun f => (fs sl h1).bind fun xs h2 => f (x :: xs) h2) ke) := s_bind
theorem s_m0 : (eM0 mt fa sl h).sat ke = (fa sl h).sat (kW (fun x h1 => need (instOf x h1) fun p => need (mt p.1) fun f => f [x] h1) ke) := s_bind
end
end Rx
set_option Elab.async false
set_option linter.all false
set_option maxRecDepth 100000
set_option maxHeartbeats 4000000
/-! RxK: plain laws: texts sorted; dicts as lists of pairs; list(o). -/
namespace Rx
open PySem L2 Sx
section
variable {sl : Sl} {h h1 : Hs} {k : KS} {ke : KE A} {x y z : A} {xs ys : List A} {c n j : Nat} {mt : Mt} {itf : Nat → Option Nat}
/-! ### list(o) -/
theorem s_addIn {i j : Int} : (addI (.int i) (.int j) h).sat ke = ke.q (.int (i + j)) h := s_addI'
def kLo (ys : List A) (ke : KE A) : KE A := ⟨fun r h1 => match r with | .int k => decide (0 ≤ k ∧ k.toNat ≤ sizeLine) = true ∧ ke.q (.lst ys) h1 | _ => False, fun _ _ => False⟩
theorem q_lo {i : Int} : (kLo ys ke).q (.int i) h = (decide (0 ≤ i ∧ i.toNat ≤ sizeLine) = true ∧ ke.q (.lst ys) h) := (rfl)
def loQ (o : Option (Nat × List A)) (w : Option (Bool × List A)) (mt : Mt) (x : A) (h : Hs) (ke : KE A) : Prop := match o with
  | some p => nd w fun w => nd (mt p.1) fun f => (f [x] h).sat (kLo w.2 ke)
  | none => (listDA x h).sat ke
theorem loQ_s {w : Option (Bool × List A)} : loQ (some (c, xs)) w mt x h ke = nd w fun w => nd (mt c) fun f => (f [x] h).sat (kLo w.2 ke) := (rfl)
theorem loQ_n {w : Option (Bool × List A)} : loQ none w mt x h ke = (listDA x h).sat ke := (rfl)
theorem s_listOA : (listOA mt itf x h).sat ke = loQ (instOf x h) (ownW itf x h) mt x h ke := by
  unfold listOA loQ
  cases instOf x h with
  | none => rfl
  | some p =>
    dsimp only
    cases ownW itf x h with
    | none => rfl
    | some w =>
      dsimp only [need, nd]
      cases mt p.1 with
      | none => rfl
      | some f =>
        dsimp only
        cases f [x] h with
        | ok r h1 =>
          cases r <;> try rfl
          exact s_chk
        | ex _ _ => rfl
        | bad => rfl
def owF (o : Option A) : Option (Bool × List A) := match o with | some y => seqOf y | none => none
def owJ (o : Option Nat) (fs : List A) : Option (Bool × List A) := match o with | some j => owF fs[j]? | none => none
def owP (o : Option (Nat × List A)) (itf : Nat → Option Nat) : Option (Bool × List A) := match o with | some p => owJ (itf p.1) p.2 | none => none
theorem owF_lst : owF (some (.lst xs)) = some (false, xs) := (rfl)
theorem owF_tup : owF (some (.tup xs)) = some (true, xs) := (rfl)
theorem owJ_some : owJ (some j) xs = owF xs[j]? := (rfl)
theorem owP_some : owP (some (c, xs)) itf = owJ (itf c) xs := (rfl)
theorem ownW_eq {o : Option (Nat × List A)} : (o.bind fun p => (itf p.1).bind fun j => p.2[j]?.bind seqOf) = owP o itf := by
  cases o with
  | none => rfl
  | some p =>
    show ((itf p.1).bind _) = owJ (itf p.1) p.2
    cases itf p.1 with
    | none => rfl
    | some j =>
      show (p.2[j]?.bind _) = owF p.2[j]?
      cases p.2[j]? <;> rfl
theorem ownW_ref : ownW itf (.ref n) h = owP (inO h[n]?) itf := ownW_eq
theorem ownW_ins : ownW itf (.ins c xs) h = owP (some (c, xs)) itf := ownW_eq (o := some (c, xs))
end
section
variable {x y z u v : A} {xs : List A}
theorem pt_n0 : putI 0 x [] = some [x] := (rfl)
theorem pt_s0 : putI 0 x (y :: xs) = some (x :: xs) := (rfl)
theorem pt_n1 : putI 1 x [y] = some [y, x] := (rfl)
theorem pt_s1 : putI 1 x (y :: z :: xs) = some (y :: x :: xs) := (rfl)
theorem pt_n2 : putI 2 x [y, z] = some [y, z, x] := (rfl)
theorem pt_n3 : putI 3 x [y, z, u] = some [y, z, u, x] := (rfl)
theorem pt_n4 : putI 4 x [y, z, u, v] = some [y, z, u, v, x] := (rfl)
theorem fl_0 : Nat.blt ([] : List A).length 1000 = true := (rfl)
theorem fl_1 : Nat.blt [x].length 1000 = true := (rfl)
theorem fl_2 : Nat.blt [x, y].length 1000 = true := (rfl)
theorem fl_3 : Nat.blt [x, y, z].length 1000 = true := (rfl)
theorem fl_4 : Nat.blt [x, y, z, u].length 1000 = true := (rfl)
theorem tl_0 : Nat.ble ([] : List A).length sizeLine = true := (rfl)
theorem tl_1 : Nat.ble [x].length sizeLine = true := (rfl)
theorem tl_2 : Nat.ble [x, y].length sizeLine = true := (rfl)
theorem tl_3 : Nat.ble [x, y, z].length sizeLine = true := (rfl)
end
section
variable {h h1 : Hs} {k : KS} {ke : KE A} {kt : KE Bool} {ku : KE Unit} {x y z : A} {xs ys : List A} {c n j : Nat} {i : Int} {mt : Mt} {kvs : List (Key × A)} {kws : List (List Key × A)} {w : Str} {ns : List Int}
/-! ### by the object -/
def igR (o : Option O) (mt : Mt) (n : Nat) (y : A) (h : Hs) (ke : KE A) : Prop := match o with
  | some (.lst _) => (ixA (.ref n) y h).sat ke
  | some (.ins c _) => nd (mt c) fun f => (f [.ref n, y] h).sat ke
  | some (.dk kvs) => ddQ (.k kvs) y h ke
  | some (.dt kws) => ddQ (.t kws) y h ke
  | _ => (ixG mt (.ref n) y h).sat ke
theorem igR_l : igR (some (.lst xs)) mt n y h ke = (ixA (.ref n) y h).sat ke := (rfl)
theorem igR_i : igR (some (.ins c xs)) mt n y h ke = nd (mt c) fun f => (f [.ref n, y] h).sat ke := (rfl)
theorem igR_k : igR (some (.dk kvs)) mt n y h ke = ddQ (.k kvs) y h ke := (rfl)
theorem igR_t : igR (some (.dt kws)) mt n y h ke = ddQ (.t kws) y h ke := (rfl)
theorem s_ixGr : (ixG mt (.ref n) y h).sat ke = igR h[n]? mt n y h ke := by
  unfold igR
  split
  · rename_i e; rw [s_ixG, instOf_ref, e]; exact ixQ_refL e ▸ s_ixD.trans (by rw [ddOf_ref, e]; rfl)
  · rename_i e; rw [s_ixG, instOf_ref, e]; rfl
  · rename_i e; rw [s_ixG, instOf_ref, e]; exact s_ixD.trans (by rw [ddOf_ref, e]; rfl)
  · rename_i e; rw [s_ixG, instOf_ref, e]; exact s_ixD.trans (by rw [ddOf_ref, e]; rfl)
  · rfl
theorem s_ixGl : (ixG mt (.lst xs) (.int i) h).sat ke = qO (atI xs i) ke h := s_ixL
theorem s_ixGt : (ixG mt (.tup xs) (.int i) h).sat ke = qO (atI xs i) ke h := s_ixT
theorem s_ixGc : (ixG mt (.ctp xs) (.int i) h).sat ke = qO (atI xs i) ke h := s_ixCt
theorem s_ixGn : (ixG mt (.scr ns) (.int i) h).sat ke = nQ (atI ns i) ke h := s_ixC
theorem s_ixGs : (ixG mt (.str w) (.int i) h).sat ke = (Nat.ble w.length sizeLine = true ∧ nd (atI w.cps.toList i) fun c => ke.q (.str ⟨#[c]⟩) h) := by
  show (chk (Nat.ble w.length sizeLine) (need (atI w.cps.toList i) fun c => .ok (.str ⟨#[c]⟩) h)).sat ke = _
  rw [s_chk, s_need]
  rfl
theorem s_ixGi : (ixG mt (.ins c xs) y h).sat ke = nd (mt c) fun f => (f [.ins c xs, y] h).sat ke := s_ixG
def lnR (o : Option O) (mt : Mt) (n : Nat) (h : Hs) (ke : KE A) : Prop := match o with
  | some (.lst xs) => ke.q (.int (Int.ofNat xs.length)) h
  | some (.ins c _) => nd (mt c) fun f => (f [.ref n] h).sat (kW lenBk ke)
  | some (.dk kvs) => ke.q (.int (Int.ofNat kvs.length)) h
  | some (.dt kws) => ke.q (.int (Int.ofNat kws.length)) h
  | _ => (lenG mt (.ref n) h).sat ke
theorem lnR_l : lnR (some (.lst xs)) mt n h ke = ke.q (.int (Int.ofNat xs.length)) h := (rfl)
theorem lnR_i : lnR (some (.ins c xs)) mt n h ke = nd (mt c) fun f => (f [.ref n] h).sat (kW lenBk ke) := (rfl)
theorem lnR_k : lnR (some (.dk kvs)) mt n h ke = ke.q (.int (Int.ofNat kvs.length)) h := (rfl)
theorem lnR_t : lnR (some (.dt kws)) mt n h ke = ke.q (.int (Int.ofNat kws.length)) h := (rfl)
theorem s_lenGr : (lenG mt (.ref n) h).sat ke = lnR h[n]? mt n h ke := by
  unfold lnR
  split
  · rename_i e; rw [s_lenG, instOf_ref, e]; exact s_lenD.trans (by rw [ddOf_ref, e]; exact s_lenR.trans (by rw [e]; rfl))
  · rename_i e; rw [s_lenG, instOf_ref, e]; rfl
  · rename_i e; rw [s_lenG, instOf_ref, e]; exact s_lenD.trans (by rw [ddOf_ref, e]; exact s_lenR.trans (by rw [e]; rfl))
  · rename_i e; rw [s_lenG, instOf_ref, e]; exact s_lenD.trans (by rw [ddOf_ref, e]; rfl)
  · rfl
theorem s_lenGl : (lenG mt (.lst xs) h).sat ke = ke.q (.int (Int.ofNat xs.length)) h := (rfl)
theorem s_lenGt : (lenG mt (.tup xs) h).sat ke = ke.q (.int (Int.ofNat xs.length)) h := (rfl)
theorem s_lenGc : (lenG mt (.ctp xs) h).sat ke = ke.q (.int (Int.ofNat xs.length)) h := (rfl)
theorem s_lenGn : (lenG mt (.scr ns) h).sat ke = ke.q (.int (Int.ofNat ns.length)) h := (rfl)
theorem s_lenGs : (lenG mt (.str w) h).sat ke = (Nat.ble w.length sizeLine = true ∧ ke.q (.int (Int.ofNat w.length)) h) := s_lenS
theorem s_lenGi : (lenG mt (.ins c xs) h).sat ke = nd (mt c) fun f => (f [.ins c xs] h).sat (kW lenBk ke) := s_lenG
def sgR (o : Option O) (mt : Mt) (n : Nat) (y z : A) (h : Hs) (ku : KE Unit) : Prop := match o with
  | some (.lst _) => (setL (.ref n) y z h).sat ku
  | some (.ins c _) => nd (mt c) fun f => (f [.ref n, y, z] h).sat (kUn ku)
  | some (.dk kvs) => sdQ (some (.dk kvs)) n y z ku h
  | some (.dt kws) => sdQ (some (.dt kws)) n y z ku h
  | _ => (setG mt (.ref n) y z h).sat ku
theorem sgR_l : sgR (some (.lst xs)) mt n y z h ku = (setL (.ref n) y z h).sat ku := (rfl)
theorem sgR_i : sgR (some (.ins c xs)) mt n y z h ku = nd (mt c) fun f => (f [.ref n, y, z] h).sat (kUn ku) := (rfl)
theorem sgR_k : sgR (some (.dk kvs)) mt n y z h ku = sdQ (some (.dk kvs)) n y z ku h := (rfl)
theorem sgR_t : sgR (some (.dt kws)) mt n y z h ku = sdQ (some (.dt kws)) n y z ku h := (rfl)
theorem s_setGr : (setG mt (.ref n) y z h).sat ku = sgR h[n]? mt n y z h ku := by
  unfold sgR
  split
  · rename_i e; rw [s_setG, instOf_ref, e]; exact s_setD.trans (by rw [e]; rfl)
  · rename_i e; rw [s_setG, instOf_ref, e]; rfl
  · rename_i e; rw [s_setG, instOf_ref, e]; exact s_setD.trans (by rw [e])
  · rename_i e; rw [s_setG, instOf_ref, e]; exact s_setD.trans (by rw [e])
  · rfl
theorem s_setGi : (setG mt (.ins c xs) y z h).sat ku = nd (mt c) fun f => (f [.ins c xs, y, z] h).sat (kUn ku) := s_setG
def inR (o : Option O) (mt : Mt) (x : A) (n : Nat) (h : Hs) (kt : KE Bool) : Prop := match o with
  | some (.ins c _) => nd (mt c) fun f => (f [.ref n, x] h).sat (kBl kt)
  | some (.dk kvs) => inQ (some (.k kvs)) x (.ref n) h kt
  | some (.dt kws) => inQ (some (.t kws)) x (.ref n) h kt
  | _ => (inG mt x (.ref n) h).sat kt
theorem inR_i : inR (some (.ins c xs)) mt x n h kt = nd (mt c) fun f => (f [.ref n, x] h).sat (kBl kt) := (rfl)
theorem inR_k : inR (some (.dk kvs)) mt x n h kt = inQ (some (.k kvs)) x (.ref n) h kt := (rfl)
theorem inR_t : inR (some (.dt kws)) mt x n h kt = inQ (some (.t kws)) x (.ref n) h kt := (rfl)
theorem s_inGr : (inG mt x (.ref n) h).sat kt = inR h[n]? mt x n h kt := by
  unfold inR
  split
  · rename_i e; rw [s_inG, instOf_ref, e]; rfl
  · rename_i e; rw [s_inG, instOf_ref, e]; exact s_inA.trans (by rw [ddOf_ref, e]; rfl)
  · rename_i e; rw [s_inG, instOf_ref, e]; exact s_inA.trans (by rw [ddOf_ref, e]; rfl)
  · rfl
theorem s_inGl : (inG mt x (.lst xs) h).sat kt = (inA x (.lst xs) h).sat kt := (rfl)
theorem s_inGt : (inG mt x (.tup xs) h).sat kt = (inA x (.tup xs) h).sat kt := (rfl)
theorem s_inGc : (inG mt x (.ctp xs) h).sat kt = (inA x (.ctp xs) h).sat kt := (rfl)
theorem s_inGs : (inG mt x (.str w) h).sat kt = (inA x (.str w) h).sat kt := (rfl)
theorem s_inGw : (inG mt x (.wdk kvs) h).sat kt = (inA x (.wdk kvs) h).sat kt := (rfl)
theorem s_inGi : (inG mt x (.ins c xs) h).sat kt = nd (mt c) fun f => (f [.ins c xs, x] h).sat (kBl kt) := s_inG
def adR (o : Option (List A)) (ys : List A) (h : Hs) (ke : KE A) : Prop := match o with | some xs => Nat.ble (xs.length + ys.length) sizeLine = true ∧ ke.q (.lst (xs ++ ys)) h | none => False
theorem adR_l : adR (some xs) ys h ke = (Nat.ble (xs.length + ys.length) sizeLine = true ∧ ke.q (.lst (xs ++ ys)) h) := (rfl)
theorem s_addRl : (aAdd (.ref n) (.lst ys) h).sat ke = adR (liO h[n]?) ys h ke := by
  show (need (listOf (.ref n) h) fun xs => need (listOf (.lst ys) h) fun ys => chk (Nat.ble (xs.length + ys.length) sizeLine) (.ok (.lst (xs ++ ys)) h)).sat ke = _
  rw [listOf_ref]
  cases liO h[n]? with
  | none => rfl
  | some xs => exact s_chk
theorem s_slS {lo hi : Option Int} : (slA (.str w) lo hi h).sat ke = (Nat.ble w.length sizeLine = true ∧ ke.q (.str (cutS w lo hi)) h) := s_chk
variable {I : Isa} {t : String}
theorem isb_i : isaB I (.int i) (.ty t) h = kitB "int" t := (rfl)
theorem isb_b {b : Bool} : isaB I (.bl b) (.ty t) h = kitB "bool" t := (rfl)
theorem isb_s : isaB I (.str w) (.ty t) h = kitB "str" t := (rfl)
theorem isb_t : isaB I (.tup xs) (.ty t) h = kitB "tuple" t := (rfl)
theorem isb_l : isaB I (.lst xs) (.ty t) h = kitB "list" t := (rfl)
theorem isb_n : isaB I .non (.ty t) h = kitB "NoneType" t := (rfl)
theorem kb_ii : kitB "int" "int" = some true := by decide +kernel
theorem kb_ib : kitB "int" "bool" = some false := by decide +kernel
theorem kb_tb : kitB "tuple" "bool" = some false := by decide +kernel
theorem kb_sb : kitB "str" "bool" = some false := by decide +kernel
theorem kb_bb : kitB "bool" "bool" = some true := by decide +kernel
theorem kb_ss : kitB "str" "str" = some true := by decide +kernel
theorem kb_si : kitB "str" "int" = some false := by decide +kernel
theorem kb_is : kitB "int" "str" = some false := by decide +kernel
end
theorem inQ_sL {w : Str} {ss : List Str} {h : Hs} {kt : KE Bool} : inQ none (.str w) (.lst (strL ss)) h kt = kt.q (ss.contains w) h := by
  show (inA (.str w) (.lst (strL ss)) h).sat kt = _
  rw [inA_strL]; rfl
theorem igR_btp : bt_pop .dct = some popD := (rfl)
theorem igR_bta : bt_append .lst = some appendA := (rfl)
theorem rng_len {n : Nat} : (rangeA n).length = n := by simp [rangeA]
theorem rng_get {n i : Nat} {x : A} (e : (rangeA n)[i]? = some x) : i < n ∧ x = .int (Int.ofNat i) := by
  unfold rangeA at e
  rw [List.getElem?_map] at e
  by_cases h : i < n
  · rw [List.getElem?_range h] at e
    cases e
    exact ⟨h, rfl⟩
  · rw [List.getElem?_eq_none (by simp; omega)] at e
    cases e
theorem cut_len {a : Str} {lo hi : Option Int} : (cutS a lo hi).length ≤ a.length := by
  show (List.toArray _).size ≤ a.cps.size
  rw [List.size_toArray]
  refine Nat.le_trans (List.length_take_le' _ _) ?_
  rw [List.length_drop, Array.length_toList]
  omega
theorem app_inj {a : Str} {c d : Nat} (e : a ++ (⟨#[c]⟩ : Str) = a ++ ⟨#[d]⟩) : c = d := by
  have z := congrArg (fun s => s.cps.toList) e
  have z : (a.cps ++ #[c]).toList = (a.cps ++ #[d]).toList := z
  rw [Array.toList_append, Array.toList_append] at z
  have := List.append_cancel_left z
  simpa using this
theorem strL_get {ss : List Str} {i : Nat} {x : A} (e : (strL ss)[i]? = some x) : ∃ s, ss[i]? = some s ∧ x = .str s := by
  unfold strL at e
  rw [List.getElem?_map] at e
  cases h : ss[i]? with
  | none => rw [h] at e; cases e
  | some s => rw [h] at e; cases e; exact ⟨s, rfl, rfl⟩
/-! ### texts, sorted -/
def leS (a b : Str) : Bool := decide (a.cps.toList ≤ b.cps.toList)
def srt (ss : List Str) : List Str := ss.mergeSort leS
theorem leS_trans (a b c : Str) (h : leS a b = true) (g : leS b c = true) : leS a c = true := by
  unfold leS at *
  exact decide_eq_true (Std.le_trans (of_decide_eq_true h) (of_decide_eq_true g))
theorem leS_total (a b : Str) : (leS a b || leS b a) = true := by
  unfold leS
  rw [Bool.or_eq_true]
  exact (Std.le_total (a := a.cps.toList) (b := b.cps.toList)).imp decide_eq_true decide_eq_true
theorem leS_anti {a b : Str} (h : leS a b = true) (g : leS b a = true) : a = b := by
  have e : a.cps.toList = b.cps.toList := Std.le_antisymm (of_decide_eq_true h) (of_decide_eq_true g)
  cases a; cases b
  simp only [Str.mk.injEq]
  exact Array.toList_inj.mp e
theorem srt_perm (ss : List Str) : (srt ss).Perm ss := List.mergeSort_perm ss leS
theorem srt_pw (ss : List Str) : (srt ss).Pairwise (fun a b => leS a b = true) := List.pairwise_mergeSort (le := leS) leS_trans leS_total ss
theorem pw_uniq {α : Type} {R : α → α → Prop} (anti : ∀ a b, R a b → R b a → a = b) : ∀ {l1 l2 : List α}, l1.Perm l2 → l1.Pairwise R → l2.Pairwise R → l1 = l2
  | [], l2, p, _, _ => by rw [List.nil_perm.mp p]
  | a :: l1, [], p, _, _ => by simpa using p.length_eq
  | a :: l1, b :: l2, p, h1, h2 => by
    rw [List.pairwise_cons] at h1 h2
    have ab : a = b := by
      have ha : a ∈ b :: l2 := p.subset List.mem_cons_self
      have hb : b ∈ a :: l1 := p.symm.subset List.mem_cons_self
      rcases List.mem_cons.mp ha with e | ha
      · exact e
      rcases List.mem_cons.mp hb with e | hb
      · exact e.symm
      exact anti a b (h1.1 b hb) (h2.1 a ha)
    subst ab
    rw [pw_uniq anti (List.perm_cons a |>.mp p) h1.2 h2.2]
theorem srt_eq {l1 l2 : List Str} (p : l1.Perm l2) : srt l1 = srt l2 := pw_uniq (fun _ _ => leS_anti) ((srt_perm l1).trans (p.trans (srt_perm l2).symm)) (srt_pw l1) (srt_pw l2)
theorem srt_srt_add {l : List Str} {w : Str} : srt (srt l ++ [w]) = srt (l ++ [w]) := srt_eq ((srt_perm l).append_right [w])
theorem srt_filter {l : List Str} {p : Str → Bool} : (srt l).filter p = srt (l.filter p) :=
  pw_uniq (fun _ _ => leS_anti) (((srt_perm l).filter p).trans (srt_perm _).symm) ((srt_pw l).filter p) (srt_pw _)
theorem srt_mem {l : List Str} {w : Str} : w ∈ srt l ↔ w ∈ l := (srt_perm l).mem_iff
theorem srt_len {l : List Str} : (srt l).length = l.length := (srt_perm l).length_eq
theorem srt_nodup {l : List Str} (n : l.Nodup) : (srt l).Nodup := (srt_perm l).nodup_iff.mpr n
theorem datAll_strL : ∀ {ss : List Str}, datAll (strL ss) = some (ss.map PyData.str)
  | [] => by unfold strL datAll; rfl
  | s :: ss => by
    unfold strL
    rw [List.map_cons, datAll, dat, Option.bind_some]
    have := datAll_strL (ss := ss)
    unfold strL at this
    rw [this]
    rfl
theorem sortZ_str {ss : List Str} : sortZ ((strL ss).zip (ss.map PyData.str)) = strL (srt ss) := by
  unfold sortZ srt strL
  have e : (ss.map A.str).zip (ss.map PyData.str) = ss.map fun s => (A.str s, PyData.str s) := by
    induction ss with
    | nil => rfl
    | cons s ss ih => simp only [List.map_cons, List.zip_cons_cons, ih]
  rw [e, ← List.map_mergeSort (r := leS) (f := fun s => (A.str s, PyData.str s)) fun a _ b _ => ?_, List.map_map]
  · rfl
  · have := congrFun (congrFun (PySem.W.dataLe_str (fun s : Str => s)) a) b
    exact this.symm
theorem sortable_str {ss : List Str} : (allAlikeB (ss.map PyData.str) && sortableB (ss.map PyData.str) && (ss.map PyData.str).all (fun d => Nat.ble d.depth 100)) = true := by
  rw [Bool.and_eq_true, Bool.and_eq_true]
  refine ⟨⟨?_, ?_⟩, ?_⟩
  · unfold allAlikeB
    rw [List.all_eq_true]
    intro d hd
    obtain ⟨a, _, rfl⟩ := List.mem_map.mp hd
    rw [List.all_eq_true]
    intro d hd
    obtain ⟨b, _, rfl⟩ := List.mem_map.mp hd
    rfl
  · unfold sortableB
    rw [Bool.or_eq_true]
    right
    rw [List.all_eq_true]
    intro d hd
    obtain ⟨a, _, rfl⟩ := List.mem_map.mp hd
    rfl
  · rw [List.all_eq_true]
    intro d hd
    obtain ⟨a, _, rfl⟩ := List.mem_map.mp hd
    rfl
theorem sorted_str {ss : List Str} {h : Hs} {ke : KE A} (hl : ss.length ≤ sizeLine) : (sortedA (.lst (strL ss)) h).sat ke = ke.q (.lst (strL (srt ss))) h := by
  have hs : Nat.ble (strL ss).length sizeLine = true := Nat.ble_eq_true_of_le (by unfold strL; rw [List.length_map]; exact hl)
  have e : sortedA (.lst (strL ss)) h = .ok (.lst (strL (srt ss))) h := by
    unfold sortedA
    show need (datAll (strL ss)) _ = _
    rw [datAll_strL]
    show chk _ _ = _
    rw [sortable_str, hs, sortZ_str]
    rfl
  rw [e]; rfl
section
variable {h : Hs} {ke : KE A} {x : A} {a b : Str} {ss : List Str} {d : PyData}
theorem sh_str (ha : PyData.strOk a = true) : SeqAt.shaped (.str a) = true := by
  unfold SeqAt.shaped
  simp [PyData.canLay0, PyData.depth, ha]
theorem eqS (ha : PyData.strOk a = true) (hb : PyData.strOk b = true) : (aEq (.str a) (.str b) h).sat ke = ke.q (.bl (a == b)) h := by
  rw [s_aEq (d := .str a) (e := .str b) rfl rfl, sh_str ha, sh_str hb]
  show (true = true ∧ _) = _
  rw [eq_self_iff_true, true_and]
  rfl
theorem neS (ha : PyData.strOk a = true) (hb : PyData.strOk b = true) : (aNe (.str a) (.str b) h).sat ke = ke.q (.bl (!(a == b))) h := by
  rw [s_aNe (d := .str a) (e := .str b) rfl rfl, sh_str ha, sh_str hb]
  show (true = true ∧ _) = _
  rw [eq_self_iff_true, true_and]
  rfl
theorem sh_all : ∀ {ss : List Str}, (∀ s ∈ ss, PyData.strOk s = true) → PyData.canLayAll0 (ss.map PyData.str) = true ∧ PyData.depthAll (ss.map PyData.str) ≤ 1
  | [], _ => by simp [PyData.canLayAll0, PyData.depthAll]
  | s :: ss, k => by
    obtain ⟨h1, h2⟩ := sh_all (ss := ss) fun x hx => k x (List.mem_cons_of_mem _ hx)
    rw [List.map_cons]
    simp only [PyData.canLayAll0, PyData.depthAll, PyData.canLay0, PyData.depth, h1, k s List.mem_cons_self]
    refine ⟨rfl, ?_⟩
    omega
theorem ne_self (e : datH x h = some d) (hs : SeqAt.shaped d = true) (ha : PyData.eqv d d = true) : (aNe x x h).sat ke = ke.q (.bl false) h := by
  rw [s_aNe e e, hs, ha]
  show (true = true ∧ _) = _
  rw [eq_self_iff_true, true_and]
  rfl
theorem eqv_strs : ∀ {ss : List Str}, PyData.eqvAll (ss.map PyData.str) (ss.map PyData.str) = true
  | [] => rfl
  | s :: ss => by
    show (PyData.eqv (.str s) (.str s) && PyData.eqvAll (ss.map PyData.str) (ss.map PyData.str)) = true
    rw [eqv_strs]
    show ((s == s) && true) = true
    rw [beq_self_eq_true]; rfl
theorem ne_strL (k : ∀ s ∈ ss, PyData.strOk s = true) : (aNe (.lst (strL ss)) (.lst (strL ss)) h).sat ke = ke.q (.bl false) h := by
  refine ne_self (d := .list (ss.map PyData.str)) ?_ ?_ ?_
  · show (datAll (strL ss)).map PyData.list = _
    rw [datAll_strL]; rfl
  · unfold SeqAt.shaped
    obtain ⟨h1, h2⟩ := sh_all k
    simp only [PyData.canLay0, PyData.depth, h1, Bool.true_and]
    exact decide_eq_true (by omega)
  · exact eqv_strs
end
section
variable {h : Hs} {ke : KE A} {a : Str} {ss : List Str} {sl : Sl} {fa : FE} {fl fh : Sl → Hs → Out (Option Int)} {ko : KE (Option Int)}
theorem allS_strL : ∀ {ss : List Str}, allS (strL ss) = some ss
  | [] => rfl
  | s :: ss => by
    show (allS (strL ss)).map _ = _
    rw [allS_strL]; rfl
theorem join_strL : (joinA (.str a) [.lst (strL ss)] h).sat ke = (Nat.ble (sumLen ss + ss.length * a.length) 16777216 = true ∧ ke.q (.str (Txt.join a ss)) h) := by
  show (need (itemsOf (.lst (strL ss)) h) fun zs => need (allS zs) fun ys => chk (Nat.ble (sumLen ys + ys.length * a.length) 16777216) (.ok (.str (Txt.join a ys)) h)).sat ke = _
  rw [itemsOf_lst]
  show (need (allS (strL ss)) fun ys => chk (Nat.ble (sumLen ys + ys.length * a.length) 16777216) (.ok (.str (Txt.join a ys)) h)).sat ke = _
  rw [allS_strL]
  exact s_chk
theorem s_sl : (eSl fa fl fh sl h).sat ke = (fa sl h).sat (kW (fun x h1 => (fl sl h1).bind fun l h2 => (fh sl h2).bind fun u h3 => slA x l u h3) ke) := s_bind
theorem s_oNone : (oNone sl h).sat ko = ko.q none h := (rfl)
def kOs (ko : KE (Option Int)) : KE A := ⟨fun x h => match x with | .int i => ko.q (some i) h | _ => False, ko.e⟩
theorem q_os {i : Int} : (kOs ko).q (.int i) h = ko.q (some i) h := (rfl)
theorem s_oSome : (oSome fa sl h).sat ko = (fa sl h).sat (kOs ko) := by
  refine s_bind.trans ?_
  cases fa sl h with
  | ok a h => cases a <;> rfl
  | ex x h => rfl
  | bad => rfl
theorem strOk_app {a b : Str} (ha : PyData.strOk a = true) (hb : PyData.strOk b = true) : PyData.strOk (a ++ b) = true := by
  unfold PyData.strOk at *
  rw [Array.all_eq_true_iff_forall_mem] at *
  intro x hx
  rcases Array.mem_append.mp (show x ∈ a.cps ++ b.cps from hx) with h | h
  · exact ha x h
  · exact hb x h
theorem strOk_cut {a : Str} {lo hi : Option Int} (ha : PyData.strOk a = true) : PyData.strOk (cutS a lo hi) = true := by
  unfold PyData.strOk at *
  rw [Array.all_eq_true_iff_forall_mem] at *
  intro x hx
  unfold cutS at hx
  exact ha x (Array.mem_toList_iff.mp (List.mem_of_mem_drop (List.mem_of_mem_take (List.mem_toArray.mp hx))))
theorem glue_fold {g : Array Nat} {P : Nat → Prop} (hg : ∀ x ∈ g, P x) : ∀ {r : List Str} {acc : Array Nat}, (∀ x ∈ acc, P x) → (∀ p ∈ r, ∀ x ∈ p.cps, P x) → ∀ x ∈ r.foldl (fun acc p => acc ++ g ++ p.cps) acc, P x
  | [], _, h1, _ => h1
  | p :: r, acc, h1, h2 => glue_fold hg (r := r) (acc := acc ++ g ++ p.cps) (fun x hx => by
      rcases Array.mem_append.mp hx with hx | hx
      · rcases Array.mem_append.mp hx with hx | hx
        · exact h1 x hx
        · exact hg x hx
      · exact h2 p List.mem_cons_self x hx) fun q hq => h2 q (List.mem_cons_of_mem _ hq)
theorem glue_size {g : Array Nat} (hg : g.size = 0) : ∀ {r : List Str} {acc : Array Nat}, (r.foldl (fun acc p => acc ++ g ++ p.cps) acc).size = acc.size + sumLen r
  | [], acc => by simp [sumLen]
  | p :: r, acc => by
    rw [List.foldl_cons, glue_size hg, Array.size_append, Array.size_append, hg]
    show _ = acc.size + (p.cps.size + sumLen r)
    omega
theorem strOk_join {g : Str} {ys : List Str} (hg : PyData.strOk g = true) (hy : ∀ y ∈ ys, PyData.strOk y = true) : PyData.strOk (Txt.join g ys) = true := by
  unfold PyData.strOk at *
  rw [Array.all_eq_true_iff_forall_mem] at *
  cases ys with
  | nil => intro x hx; exact absurd (show x ∈ (#[] : Array Nat) from hx) (by simp)
  | cons y ys =>
    refine glue_fold (P := fun x => decide (x < 0x110000) = true) hg (r := ys) (acc := y.cps) ?_ fun p hp => ?_
    · exact Array.all_eq_true_iff_forall_mem.mp (hy y List.mem_cons_self)
    · exact Array.all_eq_true_iff_forall_mem.mp (hy p (List.mem_cons_of_mem _ hp))
theorem len_join {g : Str} {ys : List Str} (hg : g.cps.size = 0) : (Txt.join g ys).length = sumLen ys := by
  cases ys with
  | nil => rfl
  | cons y ys => exact glue_size hg
theorem sum_le {n : Nat} : ∀ {ys : List Str}, (∀ y ∈ ys, y.length ≤ n) → sumLen ys ≤ ys.length * n
  | [], _ => by simp [sumLen]
  | y :: ys, k => by
    have h1 := sum_le (n := n) (ys := ys) fun z hz => k z (List.mem_cons_of_mem _ hz)
    have h2 := k y List.mem_cons_self
    show y.length + sumLen ys ≤ (ys.length + 1) * n
    rw [Nat.add_mul]; omega
theorem app_len {a b : Str} : (a ++ b).length = a.length + b.length := Array.size_append
end
/-! ### dicts as lists of pairs -/
section
variable {κ κ' ν : Type} [DecidableEq κ] [DecidableEq κ'] {kf : κ → κ'} {vf : ν → A}
def encK (kf : κ → κ') (vf : ν → A) (m : List (κ × ν)) : List (κ' × A) := m.map fun p => (kf p.1, vf p.2)
def getM (m : List (κ × ν)) (w : κ) : Option ν := (m.find? fun p => decide (p.1 = w)).map (·.2)
def putM (m : List (κ × ν)) (w : κ) (v : ν) : List (κ × ν) := if m.any (fun p => decide (p.1 = w)) then m.map fun p => if p.1 = w then (p.1, v) else p else m ++ [(w, v)]
def dropM (m : List (κ × ν)) (w : κ) : List (κ × ν) := m.filter fun p => decide (p.1 ≠ w)
def hasM (m : List (κ × ν)) (w : κ) : Bool := (m.map (·.1)).contains w
theorem val_enc (inj : ∀ a b, kf a = kf b → a = b) {w : κ} : ∀ {m : List (κ × ν)}, valA (encK kf vf m) (kf w) = (getM m w).map vf
  | [] => rfl
  | (a, v) :: m => by
    have ih := val_enc inj (w := w) (m := m)
    unfold valA getM encK at *
    rw [List.map_cons, List.find?_cons, List.find?_cons]
    by_cases h : a = w
    · subst h; simp
    · have : ¬ kf a = kf w := fun z => h (inj _ _ z)
      simp only [h, this, decide_false]
      exact ih
theorem any_enc (inj : ∀ a b, kf a = kf b → a = b) {w : κ} {m : List (κ × ν)} : (encK kf vf m).any (fun p => decide (p.1 = kf w)) = m.any (fun p => decide (p.1 = w)) := by
  unfold encK
  rw [List.any_map]
  congr 1
  funext p
  show decide (kf p.1 = kf w) = decide (p.1 = w)
  by_cases h : p.1 = w
  · rw [h]; simp
  · have : ¬ kf p.1 = kf w := fun z => h (inj _ _ z)
    simp [h, this]
theorem put_enc (inj : ∀ a b, kf a = kf b → a = b) {w : κ} {v : ν} {m : List (κ × ν)} : putA (encK kf vf m) (kf w) (vf v) = encK kf vf (putM m w v) := by
  unfold putA putM
  rw [any_enc inj]
  cases m.any (fun p => decide (p.1 = w)) with
  | false => rw [if_neg (by decide), if_neg (by decide)]; unfold encK; rw [List.map_append]; rfl
  | true =>
    rw [if_pos rfl, if_pos rfl]
    unfold encK
    rw [List.map_map, List.map_map]
    congr 1
    funext p
    show (if kf p.1 = kf w then (kf p.1, vf v) else (kf p.1, vf p.2)) = ((fun p => (kf p.1, vf p.2)) (if p.1 = w then (p.1, v) else p))
    by_cases h : p.1 = w
    · rw [if_pos h, if_pos (by rw [h])]
    · rw [if_neg h, if_neg fun z => h (inj _ _ z)]
theorem drop_enc (inj : ∀ a b, kf a = kf b → a = b) {w : κ} {m : List (κ × ν)} : dropA (encK kf vf m) (kf w) = encK kf vf (dropM m w) := by
  unfold dropA dropM encK
  rw [List.filter_map]
  congr 1
  congr 1
  funext p
  show decide (kf p.1 ≠ kf w) = decide (p.1 ≠ w)
  by_cases h : p.1 = w
  · rw [h]; simp
  · have : ¬ kf p.1 = kf w := fun z => h (inj _ _ z)
    simp [h, this]
theorem enc_len {m : List (κ × ν)} : (encK kf vf m).length = m.length := by unfold encK; rw [List.length_map]
theorem get_has {w : κ} : ∀ {m : List (κ × ν)}, (getM m w).isSome = hasM m w
  | [] => rfl
  | (a, v) :: m => by
    have ih := get_has (w := w) (m := m)
    unfold getM hasM at *
    rw [List.find?_cons, List.map_cons, List.contains_cons]
    by_cases h : a = w
    · subst h; simp
    · have h' : ¬ w = a := fun z => h z.symm
      simp only [h, decide_false]
      rw [ih, show (w == a) = false by simpa using h', Bool.false_or]
theorem put_any {w : κ} {m : List (κ × ν)} : m.any (fun p => decide (p.1 = w)) = hasM m w := by
  unfold hasM
  rw [Bool.eq_iff_iff, List.any_eq_true, List.contains_iff_mem, List.mem_map]
  exact ⟨fun ⟨p, h1, h2⟩ => ⟨p, h1, of_decide_eq_true h2⟩, fun ⟨p, h1, h2⟩ => ⟨p, h1, decide_eq_true h2⟩⟩
theorem keys_put_old {w : κ} {v : ν} {m : List (κ × ν)} (h : hasM m w = true) : (putM m w v).map (·.1) = m.map (·.1) := by
  unfold putM
  rw [put_any, if_pos h, List.map_map]
  congr 1
  funext p
  show (if p.1 = w then (p.1, v) else p).1 = p.1
  split <;> rfl
theorem keys_put_new {w : κ} {v : ν} {m : List (κ × ν)} (h : hasM m w = false) : (putM m w v).map (·.1) = m.map (·.1) ++ [w] := by
  unfold putM
  rw [put_any, h, if_neg (by decide), List.map_append]
  rfl
theorem keys_drop {w : κ} {m : List (κ × ν)} : (dropM m w).map (·.1) = (m.map (·.1)).filter fun a => decide (a ≠ w) := by
  unfold dropM
  rw [List.filter_map]
  rfl
/-- one more for all of ws -/
def tickM (f : ν → ν) (m : List (κ × ν)) (ws : List κ) : List (κ × ν) := m.map fun p => if p.1 ∈ ws then (p.1, f p.2) else p
theorem tick_keys {f : ν → ν} {m : List (κ × ν)} {ws : List κ} : (tickM f m ws).map (·.1) = m.map (·.1) := by
  unfold tickM
  rw [List.map_map]
  congr 1
  funext p
  show (if p.1 ∈ ws then (p.1, f p.2) else p).1 = p.1
  split <;> rfl
theorem tick_nil {f : ν → ν} {m : List (κ × ν)} : tickM f m [] = m := by
  unfold tickM
  simp
theorem has_get {m : List (κ × ν)} {w : κ} (h : w ∈ m.map (·.1)) : ∃ v, getM m w = some v := by
  have z : (getM m w).isSome = true := by rw [get_has]; unfold hasM; exact List.contains_iff_mem.mpr h
  exact Option.isSome_iff_exists.mp z
theorem tick_get {f : ν → ν} {w : κ} {ws : List κ} (h : w ∉ ws) : ∀ {m : List (κ × ν)}, getM (tickM f m ws) w = getM m w
  | [] => rfl
  | (a, v) :: m => by
    have ih := tick_get (f := f) h (m := m)
    unfold getM tickM at *
    rw [List.map_cons, List.find?_cons, List.find?_cons]
    by_cases ha : a = w
    · subst ha; simp [h]
    · by_cases hw : a ∈ ws
      · simp only [hw, if_true, ha, decide_false]; exact ih
      · simp only [hw, if_false, ha, decide_false]; exact ih
theorem tick_put {f : ν → ν} {w : κ} {ws : List κ} {v : ν} {m : List (κ × ν)} (nd : (m.map (·.1)).Nodup) (h : w ∉ ws) (g : getM m w = some v) : putM (tickM f m ws) w (f v) = tickM f m (ws ++ [w]) := by
  have hw : hasM m w = true := by rw [← get_has, g]; rfl
  unfold putM
  rw [put_any, show hasM (tickM f m ws) w = hasM m w by unfold hasM; rw [tick_keys], if_pos hw]
  unfold tickM
  rw [List.map_map]
  refine List.map_congr_left fun p hp => ?_
  show (if (if p.1 ∈ ws then (p.1, f p.2) else p).1 = w then ((if p.1 ∈ ws then (p.1, f p.2) else p).1, f v) else (if p.1 ∈ ws then (p.1, f p.2) else p)) = if p.1 ∈ ws ++ [w] then (p.1, f p.2) else p
  by_cases hpw : p.1 = w
  · subst hpw
    have ev : p.2 = v := by
      unfold getM at g
      cases hq : m.find? (fun q => decide (q.1 = p.1)) with
      | none => rw [hq] at g; cases g
      | some q =>
        rw [hq] at g
        have e1 := List.find?_some hq
        have e2 := List.mem_of_find?_eq_some hq
        have e3 : q.2 = v := Option.some.inj g
        have : q = p := by
          have inj := nd
          rw [List.nodup_iff_pairwise_ne, List.pairwise_map] at inj
          rcases List.pairwise_iff_getElem.mp inj with inj
          obtain ⟨i, hi, ei⟩ := List.mem_iff_getElem.mp e2
          obtain ⟨j, hj, ej⟩ := List.mem_iff_getElem.mp hp
          have hk : q.1 = p.1 := of_decide_eq_true e1
          rcases Nat.lt_trichotomy i j with hl | hl | hl
          · have := inj i j hi hj hl
            rw [ei, ej] at this
            exact absurd hk this
          · subst hl; rw [← ei, ← ej]
          · have := inj j i hj hi hl
            rw [ei, ej] at this
            exact absurd hk.symm this
        rw [← this, e3]
    simp [h, ev]
  · by_cases hp2 : p.1 ∈ ws
    · simp [hp2, hpw]
    · simp [hp2, hpw]
theorem tick_all {f : ν → ν} {m : List (κ × ν)} {ws : List κ} (h : ∀ a ∈ m.map (·.1), a ∈ ws) : tickM f m ws = m.map fun p => (p.1, f p.2) := by
  unfold tickM
  refine List.map_congr_left fun p hp => ?_
  rw [if_pos (h _ (List.mem_map.mpr ⟨p, hp, rfl⟩))]
end
end Rx
set_option Elab.async false
set_option linter.all false
set_option maxRecDepth 100000
set_option maxHeartbeats 4000000
/-! RxB: own == and !=. -/
namespace Rx
open PySem L2 Sx
section
variable {G : Gc} {L : Wh} {X : Cx} {σ : St} {H : Hp} {ρ : Rho} {sl : Sl} {h : Hs} {Q : VK} {x y : A} {v u : V} {n c : Nat}
theorem ty_looks {M : Model} {pins : List (Addr × Obj)} {s : Shared} {x : V} {u t : Value} (I : Inv X pins σ H s) (rx : RelV x u) (ty : TyX X.K H x t) : PySem.W.Looks M s.heap (typeOf u) t := by
  obtain ⟨P, kx, hp, _⟩ := kit_of I rx ty
  exact kx.ty M s.heap I.kIn hp
/-! ### own == and != -/
def rTy (y : A) (h : Hs) : Option (Nat ⊕ String) := match instOf y h with
  | some (d, _) => some (.inl d)
  | none => (tyN y h).map .inr
def rTv (G : Gc) : Nat ⊕ String → Value
  | .inl d => .ref (G.cad d)
  | .inr n => .type n
theorem rTy_ok {M : Model} {pins : List (Addr × Obj)} {s : Shared} {y : A} {v : V} {w : Value} {z : Nat ⊕ String} (xr : Xr G X L) (I : Inv X pins σ H s) (hr : HR G H ρ h) (ry : RA G H ρ y v) (r : RelV v w) (e : rTy y h = some z) : PySem.W.Looks M s.heap (typeOf w) (rTv G z) := by
  unfold rTy at e
  split at e
  · rename_i d xs hi
    cases e
    obtain ⟨a, dx, vs, rfl, e1, _⟩ := inst_ok hr ry hi
    cases r
    obtain ⟨od, J⟩ := inst_at I e1
    exact J.type
  · cases ht : tyN y h with
    | none => rw [ht] at e; cases e
    | some n =>
      rw [ht] at e
      cases e
      exact ty_looks I r (by rw [xr.K]; exact tyN_ok hr ry ht)
/-- the other one's class is not asked first -/
structure EqK (G : Gc) (ok : Nat ⊕ String → Nat → Bool) : Prop where
  ty : ∀ n c, ok (.inr n) c = true → PySem.W.subIn G.K (.type n) (.ref (G.cad c)) = some false
  cl : ∀ d c, ok (.inl d) c = true → d = c ∨ PySem.W.subIn G.K (.ref (G.cad d)) (.ref (G.cad c)) = some false
theorem EqK.first {ok : Nat ⊕ String → Nat → Bool} (E : EqK G ok) {z : Nat ⊕ String} (e : ok z c = true) : PySem.W.notFirst G.K (G.cad c) (rTv G z) = true := by
  unfold PySem.W.notFirst
  cases z with
  | inr n =>
    have q : PySem.W.subIn G.K (rTv G (.inr n)) (.ref (G.cad c)) = some false := E.ty n c e
    rw [q, Bool.or_eq_true]
    exact .inr (by decide)
  | inl d =>
    rcases E.cl d c e with q | q
    · subst q
      rw [Bool.or_eq_true]
      exact .inl (by show (Value.ref (G.cad d) == Value.ref (G.cad d)) = true; exact beq_self_eq_true _)
    · have q : PySem.W.subIn G.K (rTv G (.inl d)) (.ref (G.cad c)) = some false := q
      rw [q, Bool.or_eq_true]
      exact .inr (by decide)
/-- != stands as the object's -/
def NeO (G : Gc) (mt : Mt) : Prop := ∀ c f, mt c = some f → PySem.W.findIn G.K (.ref (G.cad c)) "__ne__" = some (some (.builtin "object.__ne__")) ∧ PySem.W.mroIn G.K (G.cad c) (.type "object") = some true
def eqC (mt : Mt) (ok : Nat ⊕ String → Nat → Bool) (c : Nat) (x y : A) (h : Hs) : Out Bool := need (rTy y h) fun z => chk (ok z c) (need (mt c) fun f => (f [x, y] h).bind isB)
def eqG (mt : Mt) (ok : Nat ⊕ String → Nat → Bool) (x y : A) (h : Hs) : Out A := match instOf x h with
  | some (c, _) => (eqC mt ok c x y h).bind fun b h1 => .ok (.bl b) h1
  | none => aEq x y h
def neG (mt : Mt) (ok : Nat ⊕ String → Nat → Bool) (x y : A) (h : Hs) : Out A := match instOf x h with
  | some (c, _) => (eqC mt ok c x y h).bind fun b h1 => .ok (.bl (!b)) h1
  | none => aNe x y h
theorem eqC_ok {W : WX} {mt : Mt} {ok : Nat ⊕ String → Nat → Bool} {neg : Bool} (q : Po G W σ H ρ (RQ G Q) ((eqC mt ok c x y h).bind fun b h1 => .ok (.bl (if neg then !b else b)) h1)) :
    ∃ z f, rTy y h = some z ∧ ok z c = true ∧ mt c = some f ∧ Po G W σ H ρ (RQ G fun w H' => ∃ b, w = .bl b ∧ Q (.bl (if neg then !b else b)) H') (f [x, y] h) := by
  unfold eqC at q
  cases hz : rTy y h with
  | none => rw [hz] at q; exact q.elim
  | some z =>
    rw [hz] at q
    cases hk : ok z c with
    | false => unfold need chk at q; simp only [hk] at q; exact q.elim
    | true =>
      cases hm : mt c with
      | none => unfold need chk at q; simp only [hk, hm] at q; exact q.elim
      | some f =>
        have q : Po G W σ H ρ (RQ G Q) (((f [x, y] h).bind isB).bind fun b h1 => .ok (.bl (if neg then !b else b)) h1) := by
          unfold need chk at q; simp only [hk, hm] at q; exact q
        refine ⟨z, f, rfl, hk, rfl, ?_⟩
        revert q
        cases f [x, y] h with
        | ok a h1 =>
          cases a <;> try exact fun q => q.elim
          rename_i b
          exact fun q H' ρ' e r v ra => by cases ra; exact ⟨b, rfl, q H' ρ' e r _ .bl⟩
        | ex x h1 => exact id
        | bad => exact id
theorem oc_eqG {j : Nat} {mt : Mt} {ok : Nat ⊕ String → Nat → Bool} (O : MtOk G "__eq__" j mt) (E : EqK G ok) (hj : j ≤ L.k) (hc : L.cm = true := by rfl) : OpC G L .Eq (eqG mt ok) := by
  refine ⟨fun X xr σ H ρ h x y v u hr rx ry Q q => ?_⟩
  unfold eqG at q
  cases hi : instOf x h with
  | none => rw [hi] at q; exact oc_eq.run X xr σ H ρ h x y v u hr rx ry Q q
  | some pr =>
    obtain ⟨c, xs⟩ := pr
    rw [hi] at q
    obtain ⟨z, f, hz, hk, hm', q⟩ := eqC_ok (neg := false) q
    obtain ⟨n, M⟩ := O c f hm'
    obtain ⟨ad, dx, vs, rfl, e1, _⟩ := inst_ok hr rx hi
    refine ⟨fun pins s vv uu I r1 r2 => ?_⟩
    cases r1
    obtain ⟨od, J⟩ := inst_at I e1
    obtain ⟨m', hF⟩ := I.fr
    obtain ⟨fa, hm, run⟩ := run_mt (us := [.ref ad, uu]) xr hc hj M I hr (.cons rx (.cons ry .nil)) (.cons rfl (.cons r2 .nil)) q
    have nf := E.first hk
    rw [← xr.K] at nf
    show wpAny _ _ (richCompare .Eq _ _) _ _ _
    refine PySem.W.cmp_K (by have := xr.un; omega) hF I.ok.mod.kin J (rTy_ok xr I hr ry r2 hz) nf hm.at_ hm.fn (wpAny_mono run (fun w s' ⟨v', H', I', r, b, ev, q⟩ => ?_) fun _ _ z => z)
    subst ev
    cases r
    exact ⟨.bl b, H', I', rfl, q⟩
theorem oc_neG {j : Nat} {mt : Mt} {ok : Nat ⊕ String → Nat → Bool} (O : MtOk G "__eq__" j mt) (E : EqK G ok) (N : NeO G mt) (hj : j + 1 ≤ L.k) (hc : L.cm = true := by rfl) : OpC G L .NotEq (neG mt ok) := by
  refine ⟨fun X xr σ H ρ h x y v u hr rx ry Q q => ?_⟩
  unfold neG at q
  cases hi : instOf x h with
  | none => rw [hi] at q; exact oc_ne.run X xr σ H ρ h x y v u hr rx ry Q q
  | some pr =>
    obtain ⟨c, xs⟩ := pr
    rw [hi] at q
    obtain ⟨z, f, hz, hk, hm', q⟩ := eqC_ok (neg := true) q
    obtain ⟨n, M⟩ := O c f hm'
    obtain ⟨hne, hmr⟩ := N c f hm'
    obtain ⟨ad, dx, vs, rfl, e1, _⟩ := inst_ok hr rx hi
    refine ⟨fun pins s vv uu I r1 r2 => ?_⟩
    cases r1
    obtain ⟨od, J⟩ := inst_at I e1
    obtain ⟨m', hF⟩ := I.fr
    obtain ⟨fa, hm, run⟩ := run_mt1 (us := [.ref ad, uu]) xr hc hj M I hr (.cons rx (.cons ry .nil)) (.cons rfl (.cons r2 .nil)) q
    have nf := E.first hk
    rw [← xr.K] at nf hne hmr
    show wpAny _ _ (richCompare .NotEq _ _) _ _ _
    refine cmp_by (by have := xr.un; omega) hF I.ok.mod.kin J (rTy_ok xr I hr ry r2 hz) nf ?_
    unfold tryCompare
    refine wpAny_bind (ifBound_B I.kIn J (name := (cmpInfo CmpOp.NotEq).2.1) hne (fun self => PySem.F.slot_object_ne.bind self) ?_)
    refine call_one (f := fa) (by have := xr.un; show X.A.units + 1 < _; omega) I.kIn J hmr hm.at_ hm.fn (wpAny_mono run (fun w s' ⟨v', H', I', r, b, ev, q⟩ => ?_) fun _ _ z => z)
    subst ev
    cases r
    exact .inr ⟨b, rfl, wpAny_pure ⟨_, rfl, .bl (!b), H', I', rfl, q⟩⟩
/-! ### keywords, defaults -/
/-- what is given, put into the order of the parameters (as values, as data) -/
structure KbA (G : Gc) (fd : FuncData) (ps : List Str) (n : Nat) (ks : List Str) (gA : List A → List A → List A) : Prop where
  ex : ∃ (g : List Value → List Value → List Value) (gV : List V → List V → List V), KBn G.K fd ps n ks g gV ∧ ∀ (H : Hp) (ρ : Rho) (xs zs : List A) (vs ws : List V), RAs G H ρ xs vs → RAs G H ρ zs ws → xs.length = n → zs.length = ks.length → RAs G H ρ (gA xs zs) (gV vs ws)
structure DK (G : Gc) (L : Wh) (kws : List Keyword) (f : FA) : Prop where
  run : ∀ X, Xr G X L → ∀ σ H ρ sl h, SR G H ρ sl σ → HR G H ρ h → ∀ Q : List V → Hp → Prop, Po G L.W σ H ρ (RQs G Q) (f sl h) → Ks X kws σ H Q
theorem DK.bind {β : Type} {kws : List Keyword} {ft : FA} {k : List A → Hs → Out β} {R : β → Hp → Rho → Prop} {Q : List V → Hp → Prop} (ha : DK G L kws ft) (xr : Xr G X L) (sr : SR G H ρ sl σ) (hr : HR G H ρ h) (q : Po G L.W σ H ρ R ((ft sl h).bind k))
    (c : ∀ x h1 v H1 ρ1, Ext H ρ H1 ρ1 → HR G H1 ρ1 h1 → RAs G H1 ρ1 x v → SR G H1 ρ1 sl σ → Po G L.W σ H1 ρ1 R (k x h1) → Q v H1) : Ks X kws σ H Q := by
  refine ha.run X xr σ H ρ sl h sr hr Q ?_
  cases hm : ft sl h with
  | ok x h1 =>
    rw [hm] at q
    exact fun H1 ρ1 e1 r1 v ra => c x h1 v H1 ρ1 e1 r1 ra (sr.mono e1) (Po.at1 (m := k x h1) q e1)
  | ex x h1 => rw [hm] at q; exact q
  | bad => rw [hm] at q; exact q
theorem dk_nil : DK G L [] aNil := ⟨fun X xr σ H ρ sl h sr hh Q q => ks_nil (q H ρ .refl hh _ .nil)⟩
theorem dk_cons {e : Expr} {nm : Option Str} {kpos : Pos} {kws : List Keyword} {fa : FE} {fs : FA} (ha : DE G L e fa) (hs : DK G L kws fs) : DK G L (⟨nm, e, kpos⟩ :: kws) (aCons fa fs) :=
  ⟨fun X xr σ H ρ sl h sr hh Q q => ks_cons (DE.bind ha xr sr hh q fun x h1 v H1 ρ1 e1 r1 ra s1 q1 => DK.bind hs xr s1 r1 q1 fun xs h2 vs H2 ρ2 e2 r2 rs s2 q2 => q2 H2 ρ2 .refl r2 _ (.cons (ra.mono e2) rs))⟩
/-- C(.., k = v) -/
structure DcK (G : Gc) (x : Str) (c j n : Nat) (ks : List Str) (m : Nat) (gA : List A → List A → List A) (f : F) : Prop where
  cr : ClsR G c
  ar : Ar (m + 1) f
  ex : ∃ (fa : Addr) (fd : FuncData) (ps : List Str), FnOk G.P G.w G.K G.mg G.base (L2.CX G.P G.w) j fa fd ps (spF G (m + 1) f) ∧ G.mg x = some (.ref (G.cad c)) ∧ Mk G.K (G.cad c) fa ∧ KbA G fd ps (n + 1) ks fun xs zs => xs.take 1 ++ gA (xs.drop 1) zs
def eKw (fs fk : FA) (n m : Nat) (gA : List A → List A → List A) (k : F) : FE := fun sl h => (fs sl h).bind fun xs h1 => (fk sl h1).bind fun zs h2 => chk (Nat.beq xs.length n && Nat.beq zs.length m) (k (gA xs zs) h2)
theorem run_kwMk {k : Nat} {fa C : Addr} {fd : FuncData} {ps : List Str} {sp : Sp} {Es : St → XK} {pins : List (Addr × Obj)} {s : Shared} {us : List Value} {kw : List (Str × Value)} (M : Mk X.K C fa) (F : FnOk X.prog X.w X.K X.mg X.base (L2.CX X.prog X.w) k fa fd ps sp) (hr : Room (k + 1) X.A) (hg : X.A.guards = some []) (hx : PassesAt (L2.CX X.prog X.w) X σ (Es σ)) (I : Inv X pins σ H s)
    (h : ∀ x dx, H x = none → H dx = none → dx ≠ x → ∃ (full : List Value) (vf : List V), (∀ s' : Shared, X.K.In s'.heap → BindsTo s' fd ⟨.ref x :: us, kw⟩ (ps.zip full)) ∧ Vals vf full ∧ sp vf (upd (upd H dx (.own x)) x (.ins C dx [])) (fun v H2 => v = .non ∧ Q (.ref x) H2) (Es σ)) :
    wpAny (model X.prog X.w) X.A (call (.ref C) us kw) (EP X pins σ Q) X.xe s := by
  obtain ⟨full, vf, hb, r2, hq⟩ := h (s.heap.objs.size + 1) s.heap.objs.size (I.hok.fresh (Nat.le_succ _)) (I.hok.fresh (Nat.le_refl _)) (Nat.ne_of_lt (Nat.lt_succ_self _))
  have I2 := Inv.made (C := C) I
  refine wpAny_call (make_map (f := fa) I.kIn M.makes M.init (beq_iff_eq.mp M.fn) (codeAny_mono (F.run _ X.stack _ _ ⟨Value.ref (s.heap.objs.size + 1) :: us, kw⟩ full _ _ (Es σ) (hr.make C us kw) (make_guards.trans hg)
    (I2.env0.make C us kw) (hb _ I2.kIn) r2 hq) fun r s' hq' => ?_))
  cases r with
  | error e => exact hx _ _ _ e s' I2 hq'
  | ok fl =>
    cases fl with
    | ret u =>
      obtain ⟨v, H', I3, rv, ev, q3⟩ := I2.after hq'
      subst ev
      exact ⟨rv, ⟨V.ref (s.heap.objs.size + 1), H', I3, rfl, q3⟩⟩
    | next => exact False.elim hq'
    | brk => exact False.elim hq'
    | cont => exact False.elim hq'
theorem make_okK {m c : Nat} {f k : F} {ys : List A} {vf : Addr → List V} {W : WX} (ar : Ar (m + 1) f) (hr : HR G H ρ h) (rs : ∀ (x : Addr) H2 ρ2, Ext H ρ H2 ρ2 → RA G H2 ρ2 (.ref h.length) (.ref x) → RAs G H2 ρ2 (.ref h.length :: ys) (vf x)) (q : Po G W σ H ρ (RQ G Q) (k ys h))
    (hk : ∀ R H2 ρ2 (ad : Addr), Ext H ρ H2 ρ2 → RA G H2 ρ2 (.ref h.length) (.ref ad) → Po G W σ H ρ (RQ G R) (k ys h) → Po G W σ H2 ρ2 (RQ G fun v H3 => v = .non ∧ R (.ref ad) H3) (f (.ref h.length :: ys) (h ++ [.ins c []]))) :
    ∀ x dx, H x = none → H dx = none → dx ≠ x → spF G (m + 1) f (vf x) (upd (upd H dx (.own x)) x (.ins (G.cad c) dx [])) (fun v H2 => v = .non ∧ Q (.ref x) H2) (WE W σ) := by
  intro x dx nx ndx ne
  have r1 : HR G (upd H dx (.own x)) ρ h := hr.new ndx
  have e1 : Ext H ρ (upd H dx (.own x)) ρ := hr.ext_new ndx
  have nx1 : upd H dx (.own x) x = none := by rw [upd_ne ne.symm]; exact nx
  have e2 := r1.ext_track (o := .ins (G.cad c) dx []) nx1
  have r2 : HR G (upd (upd H dx (.own x)) x (.ins (G.cad c) dx [])) (ρ.add x) (h ++ [.ins c []]) := r1.track nx1 ⟨dx, [], upd_same, by simp, rfl, fun _ _ _ _ z => by simp at z⟩
  have ra : RA G (upd (upd H dx (.own x)) x (.ins (G.cad c) dx [])) (ρ.add x) (.ref h.length) (.ref x) := .ref (by simp [hr.len]) fun b e => by rw [← hr.len] at e; simpa using e
  have q2 := hk Q _ _ x (e1.trans e2) ra q
  have rr := rs x _ _ (e1.trans e2) ra
  exact ⟨by rw [← rr.1, ← ar.len q2], .ref h.length :: ys, ρ.add x, h ++ [.ins c []], rr, r2, q2.wish⟩
section
variable {e : Expr} {es : List Expr} {kws : List Keyword} {fs fk : FA} {p pos : Pos} {xx : Str} {cl j m : Nat} {ks : List Str} {gA : List A → List A → List A} {f k : F}
theorem mk_K (D : DcK G xx cl j n ks m gA f) (hg : xx ∈ L.GL) (hj : j + 1 ≤ L.k) (ha : DA G L (e :: es) fs) (hkw : DK G L kws fk) (he : NoSt e = true) (hpl : ∀ env, ((backTo pos (starEach (e :: es) env)).any (·.1) || (backToKw pos (keywordEach kws env)).any (·.1.isNone)) = false)
    (hall : ∀ env, (backToKw pos (keywordEach kws env)).all (·.1.isSome) = true) (hks : ∀ env, (backToKw pos (keywordEach kws env)).filterMap (·.1) = ks) (hc : L.cm = true)
    (hk : ∀ (σ : St) (H : Hp) (ρ : Rho) (h : Hs) (xs : List A) (R : VK) H2 ρ2 (ad : Addr), Ext H ρ H2 ρ2 → RA G H2 ρ2 (.ref h.length) (.ref ad) → Po G L.W σ H ρ (RQ G R) (k xs h) → Po G L.W σ H2 ρ2 (RQ G fun v H3 => v = .non ∧ R (.ref ad) H3) (f (.ref h.length :: xs) (h ++ [.ins cl []]))) :
    DE G L (.Call (.Name xx p) (e :: es) kws pos) (eKw fs fk n ks.length gA k) := by
  refine ⟨fun X xr σ H ρ sl h sr hh Q q => ⟨fun pins s I => ?_⟩⟩
  obtain ⟨fa', fd, ps, Fn, hm, M, g, gV, hb, hrel⟩ := D.ex
  have z : As X (e :: es) σ H fun vs H1 => Ks X kws σ H1 fun zs H2 => vs.length = n ∧ zs.length = ks.length ∧ ∀ x dx, H2 x = none → H2 dx = none → dx ≠ x → spF G (m + 1) f (gV (.ref x :: vs) zs) (upd (upd H2 dx (.own x)) x (.ins (G.cad cl) dx [])) (fun v H2 => v = .non ∧ Q (.ref x) H2) (WE L.W σ) :=
    DA.bind ha xr sr hh q fun xs h1 vs H1 ρ1 e1 r1 rs s1 q1 => DK.bind hkw xr s1 r1 q1 fun zs h2 us H2 ρ2 e2 r2 rz s2 q2 => by
      obtain ⟨kk, q2⟩ := chk_ok q2
      rw [Bool.and_eq_true] at kk
      have l1 := Nat.eq_of_beq_eq_true kk.1
      have l2 := Nat.eq_of_beq_eq_true kk.2
      refine ⟨by rw [← rs.1]; exact l1, by rw [← rz.1]; exact l2, make_okK (k := k) D.ar r2 (fun x H3 ρ3 e3 ra => ?_) q2 (hk σ H2 ρ2 h2 _)⟩
      exact hrel H3 ρ3 (.ref h2.length :: xs) zs _ _ (.cons ra ((rs.mono e2).mono e3)) (rz.mono e3) (by simp [l1]) l2
  have M' : Mk X.K (G.cad cl) fa' := by rw [xr.K]; exact M
  have hb' : KBn X.K fd ps (n + 1) ks g gV := by rw [xr.K]; exact hb
  refine wpAny_Call_Name_kw (ld_glob I (xr.gl xx hg).1 (by rw [xr.mg]; exact hm) ?_ (xr.gl xx hg).2.1)
  refine PySem.W.callWith_KW (h₀ := X.base) I.ok.mod.kin M'.kp (hall _) (thn (z.run pos pins s I) fun us s1 ⟨vs, H1, I1, r, q⟩ => ?_) (hpl _) (star_cons he)
  refine thn (q.run pos pins s1 I1) fun ws s2 ⟨zs, H2, I2, rz, l1, l2, q2⟩ => ⟨I2.kIn, ?_⟩
  rw [hks]
  refine run_kwMk (Es := WE L.W) M' (xr.fn Fn) ((xr.room hc).mono hj) xr.gd (xr.pass σ) I2 fun x dx n1 n2 n3 => ⟨g (.ref x :: us) ws, gV (.ref x :: vs) zs, fun s' X' => hb'.to s' _ _ X' ?_ ?_, hb'.rel (.cons rfl r) rz, q2 x dx n1 n2 n3⟩
  · show us.length + 1 = n + 1
    rw [← r.length, l1]
  · rw [← rz.length, l2]
theorem de_mkKF (D : DcK G xx cl j n ks m gA f) (hg : xx ∈ L.GL) (hj : j + 1 ≤ L.k) (ha : DA G L (e :: es) fs) (hkw : DK G L kws fk) (he : NoSt e = true := by rfl) (hpl : ∀ env, ((backTo pos (starEach (e :: es) env)).any (·.1) || (backToKw pos (keywordEach kws env)).any (·.1.isNone)) = false := by intro _; rfl)
    (hall : ∀ env, (backToKw pos (keywordEach kws env)).all (·.1.isSome) = true := by intro _; rfl) (hks : ∀ env, (backToKw pos (keywordEach kws env)).filterMap (·.1) = ks := by intro _; rfl) (hc : L.cm = true := by rfl) :
    DE G L (.Call (.Name xx p) (e :: es) kws pos) (eKw fs fk n ks.length gA (mkF cl f)) := mk_K D hg hj ha hkw he hpl hall hks hc fun σ H ρ h xs => mkF_hk
theorem de_mkKT (D : DcK G xx cl j n ks m gA f) (hg : xx ∈ L.GL) (hj : j + 1 ≤ L.k) (ha : DA G L (e :: es) fs) (hkw : DK G L kws fk) (he : NoSt e = true := by rfl) (hpl : ∀ env, ((backTo pos (starEach (e :: es) env)).any (·.1) || (backToKw pos (keywordEach kws env)).any (·.1.isNone)) = false := by intro _; rfl)
    (hall : ∀ env, (backToKw pos (keywordEach kws env)).all (·.1.isSome) = true := by intro _; rfl) (hks : ∀ env, (backToKw pos (keywordEach kws env)).filterMap (·.1) = ks := by intro _; rfl) (hc : L.cm = true := by rfl) :
    DE G L (.Call (.Name xx p) (e :: es) kws pos) (eKw fs fk n ks.length gA (mkT cl f)) := mk_K D hg hj ha hkw he hpl hall hks hc fun σ H ρ h xs => mkT_hk
end
/-! ### f(.., k = v), f with defaults -/
structure DfK (G : Gc) (x : Str) (j n : Nat) (ks : List Str) (m : Nat) (gA : List A → List A → List A) (f : F) : Prop where
  ar : Ar m f
  ex : ∃ (fa : Addr) (fd : FuncData) (ps : List Str), FnOk G.P G.w G.K G.mg G.base (L2.CX G.P G.w) j fa fd ps (spF G m f) ∧ G.mg x = some (.ref fa) ∧ PySem.W.keepIn G.K (.ref fa) = true ∧ KbA G fd ps n ks gA
section
variable {e : Expr} {es : List Expr} {kws : List Keyword} {fs fk : FA} {p pos : Pos} {xx : Str} {j m : Nat} {ks : List Str} {gA : List A → List A → List A} {f : F}
theorem de_callKw (D : DfK G xx j n ks m gA f) (hg : xx ∈ L.GL) (hj : j ≤ L.k) (ha : DA G L (e :: es) fs) (hkw : DK G L kws fk) (he : NoSt e = true := by rfl) (hpl : ∀ env, ((backTo pos (starEach (e :: es) env)).any (·.1) || (backToKw pos (keywordEach kws env)).any (·.1.isNone)) = false := by intro _; rfl)
    (hall : ∀ env, (backToKw pos (keywordEach kws env)).all (·.1.isSome) = true := by intro _; rfl) (hks : ∀ env, (backToKw pos (keywordEach kws env)).filterMap (·.1) = ks := by intro _; rfl) (hc : L.cm = true := by rfl) :
    DE G L (.Call (.Name xx p) (e :: es) kws pos) (eKw fs fk n ks.length gA f) := by
  refine ⟨fun X xr σ H ρ sl h sr hh Q q => ⟨fun pins s I => ?_⟩⟩
  obtain ⟨fa', fd, ps, Fn, hm, kp, g, gV, hb, hrel⟩ := D.ex
  have z : As X (e :: es) σ H fun vs H1 => Ks X kws σ H1 fun zs H2 => vs.length = n ∧ zs.length = ks.length ∧ spF G m f (gV vs zs) H2 Q (WE L.W σ) :=
    DA.bind ha xr sr hh q fun xs h1 vs H1 ρ1 e1 r1 rs s1 q1 => DK.bind hkw xr s1 r1 q1 fun zs h2 us H2 ρ2 e2 r2 rz s2 q2 => by
      obtain ⟨kk, q2⟩ := chk_ok q2
      rw [Bool.and_eq_true] at kk
      have l1 := Nat.eq_of_beq_eq_true kk.1
      have l2 := Nat.eq_of_beq_eq_true kk.2
      exact ⟨by rw [← rs.1]; exact l1, by rw [← rz.1]; exact l2, sp_of D.ar r2 (hrel H2 ρ2 xs zs _ _ (rs.mono e2) rz l1 l2) q2⟩
  have hb' : KBn X.K fd ps n ks g gV := by rw [xr.K]; exact hb
  refine wpAny_Call_Name_kw (ld_glob I (xr.gl xx hg).1 (by rw [xr.mg]; exact hm) ?_ (xr.gl xx hg).2.1)
  refine PySem.W.callWith_KW (h₀ := X.base) I.ok.mod.kin (by rw [xr.K]; exact kp) (hall _) (thn (z.run pos pins s I) fun us s1 ⟨vs, H1, I1, r, q⟩ => ?_) (hpl _) (star_cons he)
  refine thn (q.run pos pins s1 I1) fun ws s2 ⟨zs, H2, I2, rz, l1, l2, q2⟩ => ⟨I2.kIn, ?_⟩
  rw [hks]
  show wpAny _ _ (call (.ref fa') us (ks.zip ws)) _ _ _
  have bb := hb'.to s2 us ws I2.kIn (by rw [← r.length, l1]) (by rw [← rz.length, l2])
  refine wpAny_call (codeAny_mono ((xr.fn Fn).run X.A X.stack s2 H2 ⟨us, ks.zip ws⟩ (g us ws) (gV vs zs) Q (WE L.W σ) ((xr.room hc).mono hj) xr.gd I2.env0 bb (hb'.rel r rz) q2) fun r s' hq => ?_)
  cases r with
  | error e => exact xr.pass σ pins H2 s2 e s' I2 hq
  | ok fl =>
    cases fl with
    | ret u => exact I2.after hq
    | next => exact False.elim hq
    | brk => exact False.elim hq
    | cont => exact False.elim hq
end
/-! ### repr(x), str(x) -/
def reprA (x : A) (h : Hs) : Out A := match x with
  | .bl b => .ok (.str (if b then "True" else "False")) h
  | .non => .ok (.str "None") h
  | .int i => chk (Nat.blt i.natAbs.log2 1920) (.ok (.str (toString i : String)) h)
  | .str z => chk (Nat.ble (reprText z).length sizeLine) (.ok (.str (reprText z)) h)
  | _ => .bad
theorem ok_repr : OpK G L (.builtin "repr") (f1 reprA) := by
  refine ⟨fun X xr σ H ρ h xs vs hr rs Q q => ?_⟩
  obtain ⟨x, v, rfl, rfl, rx, q⟩ := ok_one rs q
  refine ⟨fun pins s us I r => ?_⟩
  obtain ⟨u, rfl, r1⟩ := vals1 r
  unfold reprA at q
  cases rx <;> try (exact q.elim)
  · cases r1
    exact PySem.P.repr_of_none ⟨.str _, H, I.tok _, ⟨_, rfl⟩, q H ρ .refl hr _ .str⟩
  · cases r1
    exact PySem.P.repr_of_bool ⟨.str _, H, I.tok _, ⟨_, rfl⟩, q H ρ .refl hr _ .str⟩
  · obtain ⟨t, rfl⟩ := r1
    obtain ⟨k, q⟩ := chk_ok q
    exact PySem.P.repr_of_int (Nat.le_of_ble_eq_true k) ⟨.str _, H, I.tok _, ⟨_, rfl⟩, q H ρ .refl hr _ .str⟩
  · obtain ⟨t, rfl⟩ := r1
    obtain ⟨k, q⟩ := chk_ok q
    exact PySem.P.repr_of_str ⟨.str _, H, I.tok _, ⟨_, rfl⟩, q H ρ .refl hr _ .str⟩ (Nat.le_of_ble_eq_true k)
theorem run_mtA {Ar : Around} {m : Str} {j c n : Nat} {f : F} {pins : List (Addr × Obj)} {s : Shared} {us : List Value} {xs : List A} {vs : List V} (xr : Xr G X L) (hr0 : Room j Ar) (hg0 : Ar.guards = X.A.guards) (hfr : Ar.frames = X.A.frames) (M : MtC G m j c n f) (I : Inv X pins σ H s) (hr : HR G H ρ h) (rs : RAs G H ρ xs vs) (r : Vals vs us) (q : Po G L.W σ H ρ (RQ G Q) (f xs h)) :
    ∃ fa : Addr, Meth X.K (G.cad c) m fa ∧ wpAny (model X.prog X.w) Ar (call (.ref fa) us) (EP X pins σ Q) X.xe s := by
  obtain ⟨fa, fd, ps, Fn, hm, b⟩ := M.ex
  refine ⟨fa, by rw [xr.K]; exact hm, ?_⟩
  have sp := sp_of M.ar hr rs q
  have hl : us.length = ps.length := by rw [← r.length]; exact (xr.fn Fn).len _ _ _ _ sp
  have bb : Binds X.K fd ps [] := by rw [xr.K]; exact b
  have e0 : Env0 X.prog X.w X.K X.mg X.base Ar X.stack s H := by
    have e := I.env0
    exact ⟨by rw [hfr]; exact e.frames, e.mod, e.bs, e.bsz, e.funs, e.frf, e.hok, e.bare⟩
  refine wpAny_call (codeAny_mono ((xr.fn Fn).run Ar X.stack s H ⟨us, []⟩ us vs Q (WE L.W σ) hr0 (hg0.trans xr.gd) e0 (by
    have := bb s us I.kIn (by simpa using hl)
    simpa using this) r sp) fun r s' hq => ?_)
  cases r with
  | error e => exact xr.pass σ pins H s e s' I hq
  | ok fl =>
    cases fl with
    | ret u => exact I.after hq
    | next => exact False.elim hq
    | brk => exact False.elim hq
    | cont => exact False.elim hq
def isSt (r : A) (h : Hs) : Out A := match r with | .str z => .ok (.str z) h | _ => .bad
def strA (x : A) (h : Hs) : Out A := match x with
  | .str z => .ok (.str z) h
  | .int i => chk (Nat.blt i.natAbs.log2 1920) (.ok (.str (toString i : String)) h)
  | _ => .bad
def strG (mt : Mt) (x : A) (h : Hs) : Out A := match instOf x h with
  | some (c, _) => need (mt c) fun f => (f [x] h).bind isSt
  | none => strA x h
theorem ok_strA : OpK G L (.type "str") (f1 strA) := by
  refine ⟨fun X xr σ H ρ h xs vs hr rs Q q => ?_⟩
  obtain ⟨x, v, rfl, rfl, rx, q⟩ := ok_one rs q
  unfold strA at q
  cases rx <;> try (exact q.elim)
  · obtain ⟨k, q⟩ := chk_ok q
    exact .of (k_strI (Nat.le_of_ble_eq_true k) (q H ρ .refl hr _ .str))
  · exact .of (k_strS (q H ρ .refl hr _ .str))
theorem ok_strG {j : Nat} {mt : Mt} (O : MtOk G "__str__" j mt) (hj : j + 2 ≤ L.k) (hc : L.cm = true := by rfl) : OpK G L (.type "str") (f1 (strG mt)) := by
  refine ⟨fun X xr σ H ρ h xs vs hr rs Q q => ?_⟩
  obtain ⟨x, v, rfl, rfl, rx, q⟩ := ok_one rs q
  unfold strG at q
  cases hi : instOf x h with
  | none => rw [hi] at q; exact ok_strA.run X xr σ H ρ h [x] [v] hr rs Q q
  | some pr =>
    obtain ⟨c, xs⟩ := pr
    rw [hi] at q
    obtain ⟨f, e, q⟩ := need_ok q
    obtain ⟨n, M⟩ := O c f e
    obtain ⟨ad, dx, vs, rfl, e1, _⟩ := inst_ok hr rx hi
    have q' : Po G L.W σ H ρ (RQ G fun w H' => ∃ n, w = .str n ∧ Q (.str n) H') (f [x] h) := by
      revert q
      cases f [x] h with
      | ok a h1 =>
        cases a <;> try exact fun q => q.elim
        exact fun q H' ρ' e r v ra => by cases ra; exact ⟨_, rfl, q H' ρ' e r _ .str⟩
      | ex x h1 => exact id
      | bad => exact id
    refine ⟨fun pins s us I r => ?_⟩
    obtain ⟨u, rfl, r1⟩ := vals1 r
    cases r1
    obtain ⟨od, J⟩ := inst_at I e1
    obtain ⟨fa, hm, run⟩ := run_mtA (us := [.ref ad]) xr (((xr.room hc).mono hj).in1.in1) rfl rfl M I hr (.cons rx .nil) (.cons rfl .nil) q'
    exact PySem.W.kso_call (by have := xr.un; show X.A.units + 1 + 1 < _; omega) I.kIn J hm.at_ hm.fn (wpAny_mono run (fun _ _ z => ep_str z) fun _ _ z => z)
/-! ### {k: v, ..} -/
def RPs (G : Gc) (H : Hp) (ρ : Rho) (ps : List (A × A)) (vs : List (V × V)) : Prop := RAs G H ρ (ps.map (·.1)) (vs.map (·.1)) ∧ RAs G H ρ (ps.map (·.2)) (vs.map (·.2))
abbrev FP := Sl → Hs → Out (List (A × A))
def pNil : FP := fun _ h => .ok [] h
def pCons (fk fv : FE) (fr : FP) : FP := fun sl h => (fk sl h).bind fun x h1 => (fv sl h1).bind fun y h2 => (fr sl h2).bind fun ps h3 => .ok ((x, y) :: ps) h3
structure DP (G : Gc) (L : Wh) (keys : List (Option Expr)) (values : List Expr) (f : FP) : Prop where
  run : ∀ X, Xr G X L → ∀ pos, ∃ trs, PPs X pos keys values trs ∧ ∀ σ H ρ sl h, SR G H ρ sl σ → HR G H ρ h → ∀ Q : List (V × V) → Hp → Prop, Po G L.W σ H ρ (fun ps H' ρ' => ∀ vs, RPs G H' ρ' ps vs → Q vs H') (f sl h) → tPairs trs σ H Q
theorem dp_nil : DP G L [] [] pNil := ⟨fun X xr pos => ⟨[], pps_nil, fun σ H ρ sl h sr hh Q q => q H ρ .refl hh [] ⟨.nil, .nil⟩⟩⟩
theorem dp_cons {k v : Expr} {ks : List (Option Expr)} {vs : List Expr} {fk fv : FE} {fr : FP} (hk : DE G L k fk) (hv : DE G L v fv) (hr : DP G L ks vs fr) : DP G L (some k :: ks) (v :: vs) (pCons fk fv fr) := by
  refine ⟨fun X xr pos => ?_⟩
  obtain ⟨trs, hp, hq⟩ := hr.run X xr pos
  refine ⟨_, pps_cons (pe (e := k)) (pe (e := v)) hp, fun σ H ρ sl h sr hh Q q => ?_⟩
  refine DE.bind hk xr sr hh q fun x h1 u H1 ρ1 e1 r1 rx s1 q1 => ?_
  refine DE.bind hv xr s1 r1 q1 fun y h2 w H2 ρ2 e2 r2 ry s2 q2 => ?_
  refine hq σ H2 ρ2 sl h2 s2 r2 _ ?_
  cases hm : fr sl h2 with
  | ok ps h3 =>
    rw [hm] at q2
    intro H3 ρ3 e3 r3 vs rp
    have q3 : Po G L.W σ H2 ρ2 (fun ps H' ρ' => ∀ vs, RPs G H' ρ' ps vs → Q vs H') (Out.ok ((x, y) :: ps) h3) := q2
    exact q3 H3 ρ3 e3 r3 ((u, w) :: vs) ⟨.cons ((rx.mono e2).mono e3) rp.1, .cons (ry.mono e3) rp.2⟩
  | ex x h3 => rw [hm] at q2; exact q2
  | bad => rw [hm] at q2; exact q2
theorem HR.hideD (r : HR G H ρ h) {p : Addr} {vs : List (Key × V)} (n : H p = none) : HR G (upd H p (.dK vs)) (ρ.hide p) h := by
  have nl := r.nlive n
  refine ⟨r.len, r.nd, r.live, fun i a o e1 e2 => ?_, fun i a e1 z => ?_, fun a ha => ?_, r.xk.mono' (r.kq_hide n)⟩
  · obtain ⟨u, eu, _⟩ := r.stands (.inl ⟨i, e1⟩)
    exact (r.obj i a o e1 e2).mono' (r.kq_hide n) (upd_ne (ne_of_none eu n))
  · rcases List.mem_cons.mp z with z | z
    · exact nl (.inl ⟨i, by rw [← z]; exact e1⟩)
    · exact r.sep i a e1 z
  · rcases List.mem_cons.mp ha with z | z
    · rw [z, upd_same]; exact ⟨_, rfl, (fun _ z => by cases z), fun _ _ z => by cases z⟩
    · obtain ⟨u, e, k⟩ := r.hid a z
      exact ⟨u, by rw [upd_ne (ne_of_none e n)]; exact e, k⟩
theorem HR.upd_hidD (r : HR G H ρ h) {p : Addr} {vs : List (Key × V)} (hp : p ∈ ρ.hd) : HR G (upd H p (.dK vs)) ρ h := by
  obtain ⟨u, e, nt, nf⟩ := r.hid p hp
  refine ⟨r.len, r.nd, r.live, fun i a o e1 e2 => ?_, r.sep, fun a ha => ?_, r.xk.mono' (kq_hid hp e nt nf)⟩
  · exact (r.obj i a o e1 e2).mono' (kq_hid hp e nt nf) (upd_ne fun z => r.sep i a e1 (by rw [z]; exact hp))
  · by_cases hz : a = p
    · rw [hz, upd_same]; exact ⟨_, rfl, (fun _ z => by cases z), fun _ _ z => by cases z⟩
    · rw [upd_ne hz]; exact r.hid a ha
def keyP : List (A × A) → Option (List (Key × A))
  | [] => some []
  | (x, y) :: ps => (keyA x).bind fun k => (keyP ps).map fun kvs => (k, y) :: kvs
theorem keyP_ok : ∀ {ps : List (A × A)} {kvs : List (Key × A)} {vs : List (V × V)}, RPs G H ρ ps vs → keyP ps = some kvs → ∃ us : List (Key × V), vs = us.map (fun kv => (L2.kV kv.1, kv.2)) ∧ RKs G H ρ kvs us
  | [], kvs, vs, r, e => by
    cases e
    have l := r.1.1
    rw [List.length_map, List.length_map] at l
    have : vs = [] := List.length_eq_zero_iff.mp l.symm
    subst this
    exact ⟨[], rfl, rfl, fun _ _ _ _ _ z => by simp at z⟩
  | (x, y) :: ps, kvs, vs, r, e => by
    unfold keyP at e
    cases hk : keyA x with
    | none => rw [hk] at e; cases e
    | some k =>
      rw [hk] at e
      cases hp : keyP ps with
      | none => rw [hp] at e; cases e
      | some kvs' =>
        rw [hp] at e
        cases e
        cases vs with
        | nil => have := r.1.1; simp at this
        | cons q vs =>
          obtain ⟨u, w⟩ := q
          obtain ⟨u', us', e1, ra1, rs1⟩ := r.1.uncons
          obtain ⟨w', ws', e2, ra2, rs2⟩ := r.2.uncons
          simp only [List.map_cons, List.cons.injEq] at e1 e2
          obtain ⟨rfl, rfl⟩ := e1
          obtain ⟨rfl, rfl⟩ := e2
          obtain ⟨us, rfl, l, rk⟩ := keyP_ok (kvs := kvs') ⟨rs1, rs2⟩ hp
          refine ⟨(k, w) :: us, by rw [List.map_cons, keyA_ok ra1 hk], by simp [l], fun i a x' b v z1 z2 => ?_⟩
          cases i with
          | zero =>
            simp only [List.getElem?_cons_zero, Option.some.injEq, Prod.mk.injEq] at z1 z2
            obtain ⟨rfl, rfl⟩ := z1
            obtain ⟨rfl, rfl⟩ := z2
            exact ra2
          | succ i =>
            simp only [List.getElem?_cons_succ] at z1 z2
            exact rk i a x' b v z1 z2
def mergeA (kvs more : List (Key × A)) : List (Key × A) := more.foldl (fun acc kv => putA acc kv.1 kv.2) kvs
theorem RKs.merge : ∀ {more : List (Key × A)} {ms : List (Key × V)} {kvs : List (Key × A)} {vs : List (Key × V)}, RKs G H ρ more ms → RKs G H ρ kvs vs → RKs G H ρ (mergeA kvs more) (mergeK vs ms)
  | [], ms, kvs, vs, r, r0 => by
    cases ms with
    | nil => exact r0
    | cons _ _ => have := r.1; simp at this
  | (k, x) :: more, ms, kvs, vs, r, r0 => by
    cases ms with
    | nil => have := r.1; simp at this
    | cons q ms =>
      obtain ⟨k', v⟩ := q
      have l := r.1
      simp only [List.map_cons, List.cons.injEq] at l
      obtain ⟨rfl, l⟩ := l
      have r1 := r0.put k (r.2 0 k x k v rfl rfl)
      exact RKs.merge (more := more) (ms := ms) ⟨l, fun i a x' b v' z1 z2 => r.2 (i + 1) a x' b v' (by simpa using z1) (by simpa using z2)⟩ r1
def eDd (f : FP) : FE := fun sl h => match f sl h with | .ok ps h1 => need (keyP ps) fun kvs => chk (Nat.ble kvs.length 15) (.ok (.dk (mergeA [] kvs)) h1) | _ => .bad
theorem de_dd {keys : List (Option Expr)} {values : List Expr} {pos : Pos} {f : FP} (hp : DP G L keys values f) (hall : keys.all (·.isSome) = true := by rfl) (hl : keys.length = values.length := by rfl) (h0 : keys ≠ [] := by simp) (h15 : keys.length ≤ 15 := by decide) : DE G L (.Dict keys values pos) (eDd f) := by
  refine ⟨fun X xr σ H ρ sl h sr hh Q q => ?_⟩
  obtain ⟨trs, pp, hq⟩ := hp.run X xr pos
  refine .of (pe_disp pp hall hl h0 h15) fun p np => ?_
  have nD : H p = none := np
  refine hq σ _ (ρ.hide p) sl h (sr.mono' (hh.kq_hide np)) (hh.hideD np) _ ?_
  unfold eDd at q
  cases hm : f sl h with
  | ex x h1 => rw [hm] at q; exact q.elim
  | bad => rw [hm] at q; exact q.elim
  | ok ps h1 =>
    rw [hm] at q
    obtain ⟨kvs, hk, q⟩ := need_ok q
    obtain ⟨k15, q⟩ := chk_ok q
    intro H' ρ' e' r' vs rp
    obtain ⟨us, rfl, rk⟩ := keyP_ok rp hk
    have hhd : ρ'.hd = p :: ρ.hd := e'.hds
    have eD : H' p = some (.dK []) := (e'.hidk p List.mem_cons_self).trans upd_same
    have hin : p ∈ ρ'.hd := by rw [hhd]; exact List.mem_cons_self
    have lu : us.length = kvs.length := by have := congrArg List.length rk.1; simpa using this.symm
    refine ⟨eD, us, rfl, by rw [lu]; exact Nat.le_of_ble_eq_true k15, ?_⟩
    have kq1 : Kq H' ρ' (upd H' p (.dK (mergeK [] us))) ρ' := kq_hid hin eD (fun _ z => by cases z) fun _ _ z => by cases z
    have xl : Ext H ρ H' ⟨ρ'.l, ρ.hd⟩ := ext_lift hh (ρ' := ρ.hide p) (hh.ext_new np) rfl np e'
    have xF : Ext H ρ (upd H' p (.dK (mergeK [] us))) ⟨ρ'.l, ρ.hd⟩ := ext_updD hh xl np
    have rF := (r'.upd_hidD (vs := mergeK [] us) hin).unhide hhd
    have rm : RKs G H' ρ' (mergeA [] kvs) (mergeK [] us) := rk.merge ⟨rfl, fun _ _ _ _ _ z => by simp at z⟩
    have rm2 := (rm.mono' kq1).mono' (kq_show (H := upd H' p (.dK (mergeK [] us))) (ρ0 := ρ) hhd)
    refine q _ _ xF rF _ (.dk upd_same (fun z => ?_) rm2.1 rm2.2)
    rcases z with ⟨i, z⟩ | z
    · exact r'.sep i p z hin
    · obtain ⟨u, e, _⟩ := hh.hid p z
      rw [np] at e; cases e
/-! ### how the given stands in the parameters' order -/
theorem kba_all {fd : FuncData} {ps ks : List Str} (h : ∀ us ws : List Value, us.length = n → ws.length = ks.length → bindArgs fd ⟨us, ks.zip ws⟩ = pure (ps.zip (us ++ ws))) : KbA G fd ps n ks fun xs zs => xs ++ zs :=
  ⟨fun us ws => us ++ ws, fun vs zs => vs ++ zs, ⟨fun s us ws _ l1 l2 => .of_eq (h us ws l1 l2), fun r1 r2 => r1.append r2⟩, fun H ρ xs zs vs ws r1 r2 _ _ => r1.append r2⟩
theorem kba_mk {fd : FuncData} {ps ks : List Str} {gA : List A → List A → List A} (h : KbA G fd ps (n + 1) ks gA) (gB : List A → List A → List A) (e : ∀ x xs zs, xs.length = n → zs.length = ks.length → gA (x :: xs) zs = x :: gB xs zs) : KbA G fd ps (n + 1) ks fun xs zs => xs.take 1 ++ gB (xs.drop 1) zs := by
  obtain ⟨g, gV, hb, hr⟩ := h.ex
  refine ⟨g, gV, hb, fun H ρ xs zs vs ws r1 r2 l1 l2 => ?_⟩
  have z := hr H ρ xs zs vs ws r1 r2 l1 l2
  cases xs with
  | nil => simp at l1
  | cons x xs =>
    rw [e x xs zs (by simpa using l1) l2] at z
    exact z
theorem kba_kw0 {fd : FuncData} {ps : List Str} {D : Addr} {kws : List (Str × V)} {das : List A} (h : ∀ us ks' : List Value, us.length = n → ks'.length = kws.length → KwChain D ((kws.map (·.1)).zip ks') (bindArgs fd ⟨us, []⟩) (ps.zip (us ++ ks')))
    (hq : ∀ q ∈ kws, ∃ u, PySem.W.nsIn G.K D q.1 = some (some u) ∧ RelV q.2 u) (ra : ∀ H ρ, RAs G H ρ das (kws.map (·.2))) : KbA G fd ps n [] fun xs _ => xs ++ das := by
  obtain ⟨ks', l, r, hk⟩ := kwd_vals hq
  refine ⟨fun us _ => us ++ ks', fun vs _ => vs ++ kws.map (·.2), ⟨fun s us ws X l1 l2 => ?_, fun r1 _ => r1.append r⟩, fun H ρ xs zs vs ws r1 _ _ _ => r1.append (ra H ρ)⟩
  have : ws = [] := List.length_eq_zero_iff.mp l2
  subst this
  exact BindsTo.of_looks fun M => KwChain.looks X hk (h us ks' l1 l)
/-! ### the written part's constants -/
theorem ctp_of {a : Addr} {od : Option Addr} {its : Array Value} {k : Nat} {slo : Array (Option Value)} {xs : List A} {vs : List V} (lk : G.K.lookup a = some ⟨.type "tuple", od, .seq its k, slo⟩) (hz : Nat.ble its.size 1000 = true) (r : Vals vs its.toList) (ra : ∀ H ρ, RAs G H ρ xs vs) : ∀ H ρ, RA G H ρ (.ctp xs) (.ref a) :=
  fun H ρ => .ctp (.inr ⟨_, its, k, lk, rfl, rfl, Nat.le_trans (Nat.le_of_ble_eq_true hz) (by decide), r⟩) (ra H ρ).1 (ra H ρ).2
theorem glob_of {xx : Str} {c : A} {v : V} {w : Value} (hm : G.mg xx = some w) (r : RelV v w) (h : ∀ H ρ, RA G H ρ c v) : GlobC G xx c := ⟨v, w, hm, r, h⟩
abbrev WEs : List (Str × V) → List DictEntry → Prop := Paired fun p e => (∃ t, e.key = .str p.1 t) ∧ RelV p.2 e.val
theorem wes_get {x : Str} {v : V} : ∀ {vs : List (Str × V)} {es : List DictEntry}, WEs vs es → vs.lookup x = some v → ∃ e, es.find? (·.key.isStr x) = some e ∧ RelV v e.val
  | _, _, .nil, h => nomatch h
  | _, _, .cons (a := p) (b := e) r rs, h => by
    obtain ⟨y, u⟩ := p
    obtain ⟨⟨t, hk⟩, hv⟩ := r
    rw [List.lookup_cons] at h
    rw [List.find?_cons, hk]
    by_cases hy : x = y
    · subst hy
      rw [beq_self_eq_true] at h
      cases h
      exact ⟨e, by simp [Value.isStr], hv⟩
    · have h1 : (x == y) = false := by simpa using hy
      rw [h1] at h
      have h2 : (Value.str y t).isStr x = false := by
        have : ¬ y = x := fun z => hy z.symm
        simp [Value.isStr, this]
      rw [h2]
      exact wes_get rs h
theorem wes_no {x : Str} : ∀ {vs : List (Str × V)} {es : List DictEntry}, WEs vs es → vs.lookup x = none → es.find? (·.key.isStr x) = none ∧ es.any (·.refKey) = false
  | _, _, .nil, _ => ⟨rfl, rfl⟩
  | _, _, .cons (a := p) (b := e) r rs, h => by
    obtain ⟨y, u⟩ := p
    obtain ⟨⟨t, hk⟩, hv⟩ := r
    rw [List.lookup_cons] at h
    by_cases hy : x = y
    · subst hy
      rw [beq_self_eq_true] at h
      cases h
    · have h1 : (x == y) = false := by simpa using hy
      rw [h1] at h
      have h2 : (Value.str y t).isStr x = false := by
        have : ¬ y = x := fun z => hy z.symm
        simp [Value.isStr, this]
      obtain ⟨i1, i2⟩ := wes_no rs h
      refine ⟨by rw [List.find?_cons, hk, h2]; exact i1, ?_⟩
      rw [List.any_cons, i2, Bool.or_false]
      unfold DictEntry.refKey
      rw [hk]
theorem wdk_of {a : Addr} {es : Array DictEntry} {k : Nat} {vs : List (Str × V)} {xs : List (Key × A)} (lk : G.K.lookup a = some ⟨.type "dict", none, .dict es k, #[]⟩) (kl : PySem.W.KeysLit G.w.params es.toList) (hs : (a == sysModules) = false) (r : WEs vs es.toList)
    (l : xs.map (·.1) = vs.map (fun p => Sum.inr p.1)) (ra : ∀ H ρ, RAs G H ρ (xs.map (·.2)) (vs.map (·.2))) : ∀ H ρ, RA G H ρ (.wdk xs) (.ref a) := by
  intro H ρ
  refine .wdk ⟨⟨es, k, lk, kl, hs⟩, fun x v h => ?_, fun x h => ?_⟩ l fun i q x q' v e1 e2 => ?_
  · obtain ⟨e, h1, h2⟩ := wes_get r h
    refine ⟨e.val, ?_, h2⟩
    unfold PySem.W.nsIn
    rw [lk]
    dsimp only
    rw [h1]
  · obtain ⟨h1, h2⟩ := wes_no r h
    unfold PySem.W.nsIn
    rw [lk]
    dsimp only
    rw [h1]
    dsimp only
    rw [h2]
    rfl
  · refine (ra H ρ).2 i x v ?_ ?_
    · rw [List.getElem?_map, e1]; rfl
    · rw [List.getElem?_map, e2]; rfl
end
end Rx
set_option Elab.async false
set_option linter.all false
set_option maxRecDepth 100000
set_option maxHeartbeats 4000000
/-! RxU: the pure walk over what RxB brings. -/
namespace Rx
open PySem L2 Sx
section
variable {α : Type} {sl : Sl} {h : Hs} {k : KS} {ke : KE A} {kt : KE Bool} {fk fv : FE} {fs fkw : FA} {x y : A} {xs ys : List A} {n m c d : Nat} {mt : Mt} {ok : Nat ⊕ String → Nat → Bool} {gA : List A → List A → List A} {kk : F} {w : Str} {b : Bool} {i : Int}
theorem s_kw : (eKw fs fkw n m gA kk sl h).sat ke = (fs sl h).sat (kW (fun xs h1 => (fkw sl h1).bind fun zs h2 => chk (Nat.beq xs.length n && Nat.beq zs.length m) (kk (gA xs zs) h2)) ke) := s_bind
theorem lb0 : Nat.beq ([] : List A).length 0 = true := (rfl)
theorem lb3 {z : A} : Nat.beq [x, y, z].length 3 = true := (rfl)
/-! ### own == and != -/
def eqT (z : Option (Nat ⊕ String)) (mt : Mt) (ok : Nat ⊕ String → Nat → Bool) (c : Nat) (x y : A) (h : Hs) (kt : KE Bool) : Prop := nd z fun z => ok z c = true ∧ nd (mt c) fun f => (f [x, y] h).sat (kBl kt)
theorem eqT_s {z : Nat ⊕ String} : eqT (some z) mt ok c x y h kt = (ok z c = true ∧ nd (mt c) fun f => (f [x, y] h).sat (kBl kt)) := (rfl)
theorem s_eqC : (eqC mt ok c x y h).sat kt = eqT (rTy y h) mt ok c x y h kt := by
  unfold eqC eqT
  rw [s_need]
  congr 1
  funext z
  rw [s_chk, s_need]
  congr 2
  funext f
  exact s_bind
def eqQ (o : Option (Nat × List A)) (mt : Mt) (ok : Nat ⊕ String → Nat → Bool) (x y : A) (h : Hs) (ke : KE A) : Prop := match o with
  | some p => (eqC mt ok p.1 x y h).sat (kBv false ke)
  | none => (aEq x y h).sat ke
theorem eqQ_s : eqQ (some (c, xs)) mt ok x y h ke = (eqC mt ok c x y h).sat (kBv false ke) := (rfl)
theorem eqQ_n : eqQ none mt ok x y h ke = (aEq x y h).sat ke := (rfl)
theorem s_eqG : (eqG mt ok x y h).sat ke = eqQ (instOf x h) mt ok x y h ke := by
  have key : ∀ o, instOf x h = o → (eqG mt ok x y h).sat ke = eqQ o mt ok x y h ke := by
    intro o e
    unfold eqG
    rw [e]
    cases o with
    | none => rfl
    | some p => exact s_bind
  exact key _ rfl
def neQ (o : Option (Nat × List A)) (mt : Mt) (ok : Nat ⊕ String → Nat → Bool) (x y : A) (h : Hs) (ke : KE A) : Prop := match o with
  | some p => (eqC mt ok p.1 x y h).sat (kBv true ke)
  | none => (aNe x y h).sat ke
theorem neQ_s : neQ (some (c, xs)) mt ok x y h ke = (eqC mt ok c x y h).sat (kBv true ke) := (rfl)
theorem neQ_n : neQ none mt ok x y h ke = (aNe x y h).sat ke := (rfl)
theorem s_neG : (neG mt ok x y h).sat ke = neQ (instOf x h) mt ok x y h ke := by
  have key : ∀ o, instOf x h = o → (neG mt ok x y h).sat ke = neQ o mt ok x y h ke := by
    intro o e
    unfold neG
    rw [e]
    cases o with
    | none => rfl
    | some p => exact s_bind
  exact key _ rfl
theorem rTy_ins : rTy (.ins d xs) h = some (.inl d) := (rfl)
theorem rTy_str : rTy (.str w) h = some (.inr "str") := (rfl)
theorem rTy_int : rTy (.int i) h = some (.inr "int") := (rfl)
theorem rTy_bl : rTy (.bl b) h = some (.inr "bool") := (rfl)
theorem rTy_non : rTy .non h = some (.inr "NoneType") := (rfl)
theorem rTy_tup : rTy (.tup xs) h = some (.inr "tuple") := (rfl)
theorem rTy_lst : rTy (.lst xs) h = some (.inr "list") := (rfl)
/-! ### repr, str -/
theorem s_reprB : (reprA (.bl b) h).sat ke = ke.q (.str (if b then "True" else "False")) h := (rfl)
theorem s_reprN : (reprA .non h).sat ke = ke.q (.str "None") h := (rfl)
theorem s_isSt : (isSt (.str w) h).sat ke = ke.q (.str w) h := (rfl)
def stG (o : Option (Nat × List A)) (mt : Mt) (x : A) (h : Hs) (ke : KE A) : Prop := match o with
  | some p => nd (mt p.1) fun f => (f [x] h).sat (kW isSt ke)
  | none => (strA x h).sat ke
theorem stG_s : stG (some (c, xs)) mt x h ke = nd (mt c) fun f => (f [x] h).sat (kW isSt ke) := (rfl)
theorem stG_n : stG none mt x h ke = (strA x h).sat ke := (rfl)
theorem s_strG : (strG mt x h).sat ke = stG (instOf x h) mt x h ke := by
  have key : ∀ o, instOf x h = o → (strG mt x h).sat ke = stG o mt x h ke := by
    intro o e
    unfold strG
    rw [e]
    cases o with
    | none => rfl
    | some p =>
      dsimp only
      rw [s_need]
      show nd (mt p.1) _ = nd (mt p.1) _
      congr 1
      funext f
      exact s_bind
  exact key _ rfl
theorem s_strS : (strA (.str w) h).sat ke = ke.q (.str w) h := (rfl)
/-! ### dict displays -/
def kDd (ke : KE A) : KE (List (A × A)) := ⟨fun ps h1 => nd (keyP ps) fun kvs => Nat.ble kvs.length 15 = true ∧ ke.q (.dk (mergeA [] kvs)) h1, fun _ _ => False⟩
theorem s_dd {f : FP} : (eDd f sl h).sat ke = (f sl h).sat (kDd ke) := by
  unfold eDd
  cases f sl h with
  | ok ps h1 =>
    show (need (keyP ps) _).sat ke = nd (keyP ps) _
    rw [s_need]
    congr 1
    funext kvs
    exact s_chk
  | ex _ _ => rfl
  | bad => rfl
theorem q_dd {ps : List (A × A)} : (kDd ke).q ps h = nd (keyP ps) fun kvs => Nat.ble kvs.length 15 = true ∧ ke.q (.dk (mergeA [] kvs)) h := (rfl)
theorem s_pNil {kp : KE (List (A × A))} : (pNil sl h).sat kp = kp.q [] h := (rfl)
theorem s_pCons {f : FP} {kp : KE (List (A × A))} : (pCons fk fv f sl h).sat kp = (fk sl h).sat (kW (fun x h1 => (fv sl h1).bind fun y h2 => (f sl h2).bind fun ps h3 => .ok ((x, y) :: ps) h3) kp) := s_bind
theorem keyP_n : keyP [] = some [] := (rfl)
theorem keyP_s {ps : List (A × A)} : keyP ((.str w, y) :: ps) = (keyP ps).map fun kvs => (.inr w, y) :: kvs := (rfl)
/-! ### subscripts where no class has its own -/
def idR (o : Option O) (n : Nat) (y : A) (h : Hs) (ke : KE A) : Prop := match o with
  | some (.lst _) => (ixA (.ref n) y h).sat ke
  | some (.dk kvs) => ddQ (.k kvs) y h ke
  | some (.dt kws) => ddQ (.t kws) y h ke
  | some (.fdk kvs) => ddQ (.k kvs) y h ke
  | some (.fdt kws) => ddQ (.t kws) y h ke
  | _ => (ixD (.ref n) y h).sat ke
variable {kvs : List (Key × A)} {kws : List (List Key × A)} {ns : List Int} {ku : KE Unit} {z : A}
theorem idR_l : idR (some (.lst xs)) n y h ke = (ixA (.ref n) y h).sat ke := (rfl)
theorem idR_k : idR (some (.dk kvs)) n y h ke = ddQ (.k kvs) y h ke := (rfl)
theorem idR_fk : idR (some (.fdk kvs)) n y h ke = ddQ (.k kvs) y h ke := (rfl)
theorem idR_ft : idR (some (.fdt kws)) n y h ke = ddQ (.t kws) y h ke := (rfl)
theorem idR_t : idR (some (.dt kws)) n y h ke = ddQ (.t kws) y h ke := (rfl)
theorem s_ixDr : (ixD (.ref n) y h).sat ke = idR h[n]? n y h ke := by
  have key : ∀ o, h[n]? = o → (ixD (.ref n) y h).sat ke = idR o n y h ke := by
    intro o e
    cases o with
    | none => rfl
    | some o =>
      cases o with
      | lst xs => exact s_ixD.trans (by rw [ddOf_ref, e]; exact ixQ_refL e)
      | dk kvs => exact s_ixD.trans (by rw [ddOf_ref, e]; rfl)
      | dt kws => exact s_ixD.trans (by rw [ddOf_ref, e]; rfl)
      | dead => rfl
      | ins c xs => rfl
      | fdk kvs => exact s_ixD.trans (by rw [ddOf_ref, e]; rfl)
      | fdt kws => exact s_ixD.trans (by rw [ddOf_ref, e]; rfl)
  exact key _ rfl
theorem s_ixDl : (ixD (.lst xs) (.int i) h).sat ke = qO (atI xs i) ke h := s_ixL
theorem s_ixDt : (ixD (.tup xs) (.int i) h).sat ke = qO (atI xs i) ke h := s_ixT
theorem s_ixDc : (ixD (.ctp xs) (.int i) h).sat ke = qO (atI xs i) ke h := s_ixCt
theorem s_ixDn : (ixD (.scr ns) (.int i) h).sat ke = nQ (atI ns i) ke h := s_ixC
theorem s_ixDs : (ixD (.str w) (.int i) h).sat ke = (Nat.ble w.length sizeLine = true ∧ nd (atI w.cps.toList i) fun c => ke.q (.str ⟨#[c]⟩) h) := by
  show (chk (Nat.ble w.length sizeLine) (need (atI w.cps.toList i) fun c => .ok (.str ⟨#[c]⟩) h)).sat ke = _
  rw [s_chk, s_need]
  rfl
theorem s_ixDw : (ixD (.wdk kvs) (.str w) h).sat ke = qO (valA kvs (.inr w)) ke h := ixQ_wdk
theorem s_ixDk : (ixD (.dk kvs) y h).sat ke = ddQ (.k kvs) y h ke := s_ixD
theorem sdQ_ll : sdQ (some (.lst xs)) n y z ku h = (setL (.ref n) y z h).sat ku := (rfl)
def exO (o : Option O) (n : Nat) (zs : List A) (k : KE A) (h : Hs) : Prop := match o with | some (.lst xs) => Nat.ble (xs.length + zs.length) sizeLine = true ∧ k.q .non (h.set n (.lst (xs ++ zs))) | _ => False
theorem exO_lst : exO (some (.lst xs)) n ys ke h = (Nat.ble (xs.length + ys.length) sizeLine = true ∧ ke.q .non (h.set n (.lst (xs ++ ys)))) := (rfl)
theorem s_extend : (extendA (.ref n) [.lst ys] h).sat ke = exO h[n]? n ys ke h := by
  have key : ∀ o, h[n]? = o → (extendA (.ref n) [.lst ys] h).sat ke = exO o n ys ke h := by
    intro o e
    unfold extendA
    dsimp only
    rw [e]
    cases o with
    | none => rfl
    | some o =>
      cases o <;> try rfl
      exact s_chk
  exact key _ rfl
theorem tl_4 {a0 a1 a2 a3 : A} : Nat.ble [a0, a1, a2, a3].length sizeLine = true := (rfl)
theorem tl_5 {a0 a1 a2 a3 a4 : A} : Nat.ble [a0, a1, a2, a3, a4].length sizeLine = true := (rfl)
theorem tl_6 {a0 a1 a2 a3 a4 a5 : A} : Nat.ble [a0, a1, a2, a3, a4, a5].length sizeLine = true := (rfl)
theorem tl_7 {a0 a1 a2 a3 a4 a5 a6 : A} : Nat.ble [a0, a1, a2, a3, a4, a5, a6].length sizeLine = true := (rfl)
theorem tl_8 {a0 a1 a2 a3 a4 a5 a6 a7 : A} : Nat.ble [a0, a1, a2, a3, a4, a5, a6, a7].length sizeLine = true := (rfl)
theorem tl_9 {a0 a1 a2 a3 a4 a5 a6 a7 a8 : A} : Nat.ble [a0, a1, a2, a3, a4, a5, a6, a7, a8].length sizeLine = true := (rfl)
theorem tl_10 {a0 a1 a2 a3 a4 a5 a6 a7 a8 a9 : A} : Nat.ble [a0, a1, a2, a3, a4, a5, a6, a7, a8, a9].length sizeLine = true := (rfl)
theorem tl_11 {a0 a1 a2 a3 a4 a5 a6 a7 a8 a9 a10 : A} : Nat.ble [a0, a1, a2, a3, a4, a5, a6, a7, a8, a9, a10].length sizeLine = true := (rfl)
theorem tl_12 {a0 a1 a2 a3 a4 a5 a6 a7 a8 a9 a10 a11 : A} : Nat.ble [a0, a1, a2, a3, a4, a5, a6, a7, a8, a9, a10, a11].length sizeLine = true := (rfl)
theorem tl_13 {a0 a1 a2 a3 a4 a5 a6 a7 a8 a9 a10 a11 a12 : A} : Nat.ble [a0, a1, a2, a3, a4, a5, a6, a7, a8, a9, a10, a11, a12].length sizeLine = true := (rfl)
theorem tl_14 {a0 a1 a2 a3 a4 a5 a6 a7 a8 a9 a10 a11 a12 a13 : A} : Nat.ble [a0, a1, a2, a3, a4, a5, a6, a7, a8, a9, a10, a11, a12, a13].length sizeLine = true := (rfl)
theorem tl_15 {a0 a1 a2 a3 a4 a5 a6 a7 a8 a9 a10 a11 a12 a13 a14 : A} : Nat.ble [a0, a1, a2, a3, a4, a5, a6, a7, a8, a9, a10, a11, a12, a13, a14].length sizeLine = true := (rfl)
theorem tl_44 {a0 a1 a2 a3 b0 b1 b2 b3 : A} : Nat.ble ([a0, a1, a2, a3].length + [b0, b1, b2, b3].length) sizeLine = true := (rfl)
end
end Rx
set_option Elab.async false
set_option linter.all false
set_option maxRecDepth 100000
set_option maxHeartbeats 4000000
/-! RxA: the head for promises that lean on guards; repr of data; texts changed. -/
namespace Rx
open PySem L2 Sx
/-! ### the head -/
section
open PySem.Spec PyProof.Rows
variable {P : Program} {w : World} {K : PySem.W.Frag} {mg mb : Str → Option Value} {CX : CXT} {k : Nat} {fa a : Addr} {fd : FuncData} {x : Str} {sp : Sp} {s : Shared} {vs : List Value} {ns : List Int}
/-- the call at a heap in which at most the script is known -/
theorem call_top {H : Hp} (KX : K.In s.heap) (n1 : s.heap.Ns mainGlobals mg) (n2 : s.heap.Ns builtinsNs mb) (bb : ∀ x : Str, x ≠ "__name__" → mb x = bootBuiltins x) (lim : s.heap.NoLimit) (hg : s.gens = #[])
    (ha : s.heap.get? a = some { cls := .type "list", data := .seq vs.toArray }) (hr : Room k callerA)
    (F : ∀ base : Heap, K.In base → base.Ns mainGlobals mg → FnOk P w K mg base CX k fa fd [x] sp) (hb : ∀ (s : Shared) (u : Value), BindsTo s fd ⟨[u], []⟩ [(x, u)])
    (hsp : sp [.ref a] H (fun v _ => v = .bl true) fun _ _ _ => False) (hCX : ∀ e s', CX [] H s (fun _ _ _ => False) e s' → False)
    (only : Only H) (hok : HOk P w H s.heap) (hA : ∀ b, H b ≠ none → b = a) (hK : H a ≠ none → K.lookup a = none) :
    codeAny (model P w) callerA (.call (.ref fa) ⟨[.ref a], []⟩) (fun r s' => r = .ok (.ret (.bool true)) ∧ OldK s.heap s'.heap ∧ s'.os = s.os ∧ AllBare s'.gens) s := by
  have seen : ∀ {b : Addr} {o : Obj}, s.heap.get? b = some o → (b = a → H a = none) → (hidT s.heap H).get? b = some o := fun {b o} e z => hidT_get e (by
    cases q : H b with
    | none => rfl
    | some u =>
      have e' := hA b (by rw [q]; intro z; cases z)
      subst e'
      rw [z rfl] at q; cases q)
  have nss : ∀ {b : Addr} {m : Str → Option Value}, s.heap.Ns b m → (hidT s.heap H).Ns b m := by
    rintro b m ⟨o, es, ep, e, d, r⟩
    refine ⟨o, es, ep, seen e (fun z => ?_), d, r⟩
    subst z
    rw [ha] at e
    cases e
    exact nomatch (d : Data.seq vs.toArray _ = Data.dict es ep)
  have kin : K.In (hidT s.heap H) := fun b o e => seen (KX b o e) fun z => by
    subst z
    cases q : H b with
    | none => rfl
    | some u =>
      have := hK (by rw [q]; intro z; cases z)
      rw [e] at this; cases this
  have md : Mod K mg (hidT s.heap H) := ⟨kin, nss n1, ⟨mb, nss n2, bb⟩, let ⟨mc, h1, h2⟩ := lim; ⟨mc, nss h1, h2⟩⟩
  have e0 : Env0 P w K mg (hidT s.heap H) callerA [] s H := ⟨rfl, md, fun b o e => of_hidT e, Nat.le_of_eq (hidT_size _ _), trivial, fun b z => (nomatch z), hok, .of_eq hg⟩
  refine codeAny_mono ((F _ kin (nss n1)).run callerA [] s H ⟨[.ref a], []⟩ [.ref a] [.ref a] _ _ hr rfl e0 (hb s (.ref a)) (.cons rfl .nil) hsp) fun r s' h => ?_
  match r, h with
  | .error e, h => exact (hCX e s' h).elim
  | .ok .next, h => exact False.elim h
  | .ok .brk, h => exact False.elim h
  | .ok .cont, h => exact False.elim h
  | .ok (.ret u), ⟨v, H', os, bare, un, hok', rv, q⟩ =>
    have q : v = .bl true := q
    subst q
    obtain rfl : u = Value.bool true := rv
    refine ⟨rfl, OldK.of_keep fun b o e => ?_, os, bare⟩
    cases q : H b with
    | none => exact un.keep b o e q (fun z => nomatch (show b ∈ ([] : List Addr) from z)) (fun z => nomatch z)
    | some u =>
      cases only b with
      | inl z => rw [q] at z; cases z
      | inr z =>
        obtain ⟨ob, xs, z⟩ := z
        have o1 := (hok b _ z).1
        have o2 := (hok' b _ (un.frzs b ob _ z)).1
        rw [e] at o1
        cases o1
        exact o2
theorem law_callG (KX : K.In s.heap) (n1 : s.heap.Ns mainGlobals mg) (n2 : s.heap.Ns builtinsNs mb) (bb : ∀ x : Str, x ≠ "__name__" → mb x = bootBuiltins x) (lim : s.heap.NoLimit) (hg : s.gens = #[])
    (ha : s.heap.get? a = some { cls := .type "list", data := .seq vs.toArray }) (hi : IntsAre vs ns) (hl : ns.length ≤ sizeLine) (hr : Room k callerA)
    (F : ∀ base : Heap, K.In base → base.Ns mainGlobals mg → FnOk P w K mg base CX k fa fd [x] sp) (hb : ∀ (s : Shared) (u : Value), BindsTo s fd ⟨[u], []⟩ [(x, u)])
    (hsp : ∀ H : Hp, Only H → SqL K H a (ns.map V.int) → sp [.ref a] H (fun v _ => v = .bl true) fun _ _ _ => False) (hCX : ∀ H e s', CX [] H s (fun _ _ _ => False) e s' → False) :
    codeAny (model P w) callerA (.call (.ref fa) ⟨[.ref a], []⟩) (fun r s' => r = .ok (.ret (.bool true)) ∧ OldK s.heap s'.heap ∧ s'.os = s.os ∧ AllBare s'.gens) s := by
  have rv := vals_ints hi
  cases hk : K.lookup a with
  | some o =>
    have e := KX a o hk
    rw [ha] at e
    cases e
    have on : Only fun _ => none := fun _ => .inl rfl
    exact call_top KX n1 n2 bb lim hg ha hr F hb (hsp _ on (.inr ⟨_, vs.toArray, _, hk, rfl, rfl, rfl, by rw [List.size_toArray, hi.length]; exact hl, by simpa using rv⟩)) (hCX _) on (fun b u z => nomatch (show (none : Option HO) = some u from z)) (fun b z => absurd rfl z) fun z => absurd rfl z
  | none =>
    obtain ⟨H, hH⟩ : ∃ H : Hp, H = fun b => if b = a then some (.frz { cls := .type "list", data := .seq vs.toArray } (.lst (ns.map V.int))) else none := ⟨_, rfl⟩
    have at_a : H a = some (.frz { cls := .type "list", data := .seq vs.toArray } (.lst (ns.map V.int))) := by rw [hH]; exact if_pos rfl
    have at_b : ∀ b, b ≠ a → H b = none := fun b n => by rw [hH]; exact if_neg n
    have on : Only H := fun b => (Decidable.em (b = a)).elim (fun e => .inr ⟨_, _, e ▸ at_a⟩) fun n => .inl (at_b b n)
    refine call_top KX n1 n2 bb lim hg ha hr F hb (hsp H on (.inl (.inr ⟨_, at_a⟩))) (hCX H) on (fun b u z => ?_) (fun b z => Decidable.byContradiction fun n => z (at_b b n)) fun _ => hk
    cases Decidable.em (b = a) with
    | inl e =>
      subst e
      rw [at_a] at z
      cases z
      exact ⟨ha, by rw [List.length_map]; exact hl, vs, _, rv, ha⟩
    | inr n => rw [at_b b n] at z; cases z
theorem walk_of {l : PySem.W.OpenLaw} {n k : Nat} {q : Program} {loose : List Str} {XP : (Str → Option Value) → Heap → Prop} {YP : World → Heap → Prop} {d : DefRec} {K : Params → PySem.W.Frag} {CX : World → CXT} {sp : World → Sp} {x : Str}
    (hn : l.most = some n) (hn2 : n ≤ sizeLine) (hdf : d.params.defaults = []) (hr : Room k callerA) (hY : ∀ (w : World) (h : Heap), YP w h → (K w.params).In h)
    (F : ∀ (w : World) (mg : Str → Option Value) (fa : Addr) (h : Heap), (K w.params).In h → h.Ns mainGlobals mg → mg d.name = some (.ref fa) →
      ∃ fd : FuncData, (∀ (s : Shared) (u : Value), BindsTo s fd ⟨[u], []⟩ [(x, u)]) ∧ ∀ base : Heap, (K w.params).In base → base.Ns mainGlobals mg → FnOk l.prog w (K w.params) mg base (CX w) k fa fd [x] (sp w))
    (hsp : ∀ (w : World) (H : Hp) (a : Addr) (ns : List Int), ns.length ≤ n → Only H → SqL (K w.params) H a (ns.map V.int) → sp w [.ref a] H (fun v _ => v = .bl true) fun _ _ _ => False)
    (hCX : ∀ (w : World) (H : Hp) (s : Shared) (e : Value) (s' : Shared), CX w [] H s (fun _ _ _ => False) e s' → False) : PySem.W.WalkO q loose XP YP l.row.toRowW d [] (fun f vs => PySem.call f vs) :=
  Att.attach_call hn hdf fun w s₀ s₁ mg mb fa o pm cd doc a vs ns G Y ho hd hcd hmg hobj hints hlen hg => by
    obtain ⟨fd, hb, hF⟩ := F w mg fa _ (hY w _ Y) G.T.g hmg
    exact law_callG (hY w _ Y) G.T.g G.T.b G.T.builtins G.T.nolimit hg hobj hints (Nat.le_trans hlen hn2) hr hF hb (fun H hO hS => hsp w H a ns hlen hO hS) fun H e s' => hCX w H s₁ e s'
end
/-! ### repr of data -/
section
variable {G : Gc} {L : Wh} {X : Cx} {σ : St} {H : Hp} {ρ : Rho} {sl : Sl} {h : Hs} {Q : VK} {e o a b c : Expr} {fa fb fo : FE} {ft fu : FT} {pos p apos cpos : Pos}
def shOk (d : PyData) : Bool := match d with | .int i => decide (i.natAbs.log2 < 1920) | .str z => Nat.ble (reprText z).length sizeLine | d => d.showable && !d.hasDict && Nat.ble d.depth 100 && Nat.ble d.shown.length sizeLine
def reprD (x : A) (h : Hs) : Out A := need (datH x h) fun d => chk (shOk d) (.ok (.str d.shown) h)
theorem ok_reprD : OpK G L (.builtin "repr") (f1 reprD) := by
  refine ⟨fun X xr σ H ρ h xs vs hr rs Q q => ?_⟩
  obtain ⟨x, v, rfl, rfl, rx, q⟩ := ok_one rs q
  refine ⟨fun pins s us I r => ?_⟩
  obtain ⟨u, rfl, r1⟩ := vals1 r
  unfold reprD at q
  obtain ⟨d, hd, q⟩ := need_ok q
  obtain ⟨k, q⟩ := chk_ok q
  have dp : Dp X.K H v d := by rw [xr.K]; exact datH_ok hr rx hd
  have fin : ∀ {h' : Heap} {tk t : Nat}, (∀ b o, s.heap.get? b = some o → h'.get? b = some o) → EP X pins σ Q (.str d.shown t) { s with heap := h', toks := tk } := fun kp => ⟨.str d.shown, H, I.kept kp, ⟨_, rfl⟩, q H ρ .refl hr _ .str⟩
  have un := xr.un
  have big : ∀ {a : Addr}, v = .ref a → (∀ i, d ≠ .int i) → (∀ z, d ≠ .str z) → wpAny (model X.prog X.w) X.A (call (.builtin "repr") [u]) (EP X pins σ Q) X.xe s := by
    rintro a rfl ni ns
    have k' : (d.showable && !d.hasDict && Nat.ble d.depth 100 && Nat.ble d.shown.length sizeLine) = true := by
      revert k ni ns
      unfold shOk
      cases d <;> intro k ni ns <;> first | exact k | exact absurd rfl (ni _) | exact absurd rfl (ns _)
    simp only [Bool.and_eq_true, Bool.not_eq_true'] at k'
    obtain ⟨⟨⟨k1, k2⟩, k3⟩, k4⟩ := k'
    have k3 := Nat.le_of_ble_eq_true k3
    obtain ⟨as, rd⟩ := Dp.reads I d _ u dp r1
    cases r1
    exact PySem.repr_of_reads' rd k1 (fun z => by rw [k2] at z; cases z) xr.gd (by omega) (fun _ _ e => e) (fun h' t tk kp => fin kp) (Nat.le_of_ble_eq_true k4)
  cases dp with
  | non =>
    cases r1
    exact PySem.P.repr_of_none ⟨.str _, H, I.tok _, ⟨_, rfl⟩, q H ρ .refl hr _ .str⟩
  | bl b =>
    cases r1
    refine PySem.P.repr_of_bool ⟨.str _, H, I.tok _, ⟨_, rfl⟩, ?_⟩
    have := q H ρ .refl hr _ .str
    exact this
  | int i =>
    obtain ⟨t, rfl⟩ := r1
    exact PySem.P.repr_of_int (of_decide_eq_true (show decide (i.natAbs.log2 < 1920) = true from k)) ⟨.str _, H, I.tok _, ⟨_, rfl⟩, q H ρ .refl hr _ .str⟩
  | str z =>
    obtain ⟨t, rfl⟩ := r1
    exact PySem.P.repr_of_str ⟨.str _, H, I.tok _, ⟨_, rfl⟩, q H ρ .refl hr _ .str⟩ (Nat.le_of_ble_eq_true k)
  | lst _ _ => exact big rfl (fun _ z => nomatch z) fun _ z => nomatch z
  | tup _ _ => exact big rfl (fun _ z => nomatch z) fun _ z => nomatch z
/-! ### == of texts -/
theorem dec_str {a b : Str} : decide (V.str a = V.str b) = (a == b) := by
  cases hb : a == b with
  | true => rw [beq_iff_eq.mp hb]; exact decide_eq_true rfl
  | false => exact decide_eq_false fun z => by cases z; rw [beq_self_eq_true] at hb; cases hb
def eqN (x y : A) (h : Hs) : Out A := match x, y with | .str a, .str b => .ok (.bl (a == b)) h | x, y => aEq x y h
def neN (x y : A) (h : Hs) : Out A := match x, y with | .str a, .str b => .ok (.bl (!(a == b))) h | x, y => aNe x y h
theorem oc_eqN : OpC G L .Eq eqN := by
  refine ⟨fun X xr σ H ρ h x y v u hr rx ry Q q => ?_⟩
  unfold eqN at q
  split at q
  · cases rx; cases ry
    exact .of (c_eq rfl (by rw [dec_str]; exact q H ρ .refl hr _ .bl))
  · exact oc_eq.run X xr σ H ρ h _ _ v u hr rx ry Q q
theorem oc_neN : OpC G L .NotEq neN := by
  refine ⟨fun X xr σ H ρ h x y v u hr rx ry Q q => ?_⟩
  unfold neN at q
  split at q
  · cases rx; cases ry
    exact .of (c_ne rfl (by rw [dec_str]; exact q H ρ .refl hr _ .bl))
  · exact oc_ne.run X xr σ H ρ h _ _ v u hr rx ry Q q
/-! ### methods of texts without arguments -/
def eMs0 (fo : FE) (g : A → Hs → Out A) : FE := fun sl h => (fo sl h).bind fun x h1 => match x with | .str z => g (.str z) h1 | _ => .bad
def upperA (x : A) (h : Hs) : Out A := match x with | .str a => chk (Nat.ble a.length 5592405) (.ok (.str (Txt.upper a)) h) | _ => .bad
theorem de_upper (ho : DE G L o fo) (hbase : ∀ env, attributeBase o "upper" env (eval o env) = eval o env := by intro _; rfl) (hline : (apos.endLine == cpos.line) = true := by rfl) : DE G L (.Call (.Attribute o "upper" apos) [] [] cpos) (eMs0 fo upperA) := by
  refine ⟨fun X xr σ H ρ sl h sr hh Q q => .of (pe_upper pe (hbase _) hline) ?_⟩
  refine DE.bind ho xr sr hh q fun x h1 v H1 ρ1 e1 r1 ra s1 q1 => ?_
  cases ra <;> try exact q1.elim
  unfold upperA at q1
  obtain ⟨k, q1⟩ := chk_ok q1
  exact ⟨⟨_, rfl⟩, _, rfl, rfl, Nat.le_of_ble_eq_true k, q1 H1 ρ1 .refl r1 _ .str⟩
/-! ### x.replace(y, z) of written texts, where a number was written before -/
structure E1 (X : Cx) (e : Expr) (σ : St) (H : Hp) (Q : VK) : Prop where
  run : ∀ (pins : List (Addr × Obj)) (s : Shared), s.toks ≠ 0 → L2.Inv X pins σ H s → wpAny (model X.prog X.w) X.A (eval e X.env) (EP X pins σ Q) X.xe s
structure T1 (X : Cx) (e : Expr) (σ : St) (H : Hp) (Q : Bool → Hp → Prop) : Prop where
  run : ∀ (pins : List (Addr × Obj)) (s : Shared), L2.Inv X pins σ H s → wpAny (model X.prog X.w) X.A (isTrue e X.env (eval e X.env)) (fun b s' => s'.toks ≠ 0 ∧ TP X pins σ Q b s') X.xe s
structure DE1 (G : Gc) (L : Wh) (e : Expr) (f : FE) : Prop where
  run : ∀ X, Xr G X L → ∀ σ H ρ sl h, SR G H ρ sl σ → HR G H ρ h → ∀ Q : VK, Po G L.W σ H ρ (RQ G Q) (f sl h) → E1 X e σ H Q
structure DT1 (G : Gc) (L : Wh) (e : Expr) (f : FT) : Prop where
  run : ∀ X, Xr G X L → ∀ σ H ρ sl h, SR G H ρ sl σ → HR G H ρ h → ∀ Q : Bool → Hp → Prop, Po G L.W σ H ρ (RB Q) (f sl h) → T1 X e σ H Q
theorem toks_keep {α : Type} {M : Model} {A : Around} {m : Sem α} {Q : α → Shared → Prop} {E : Value → Shared → Prop} {s : Shared} (hs : s.toks ≠ 0) (h : wpAny M A m Q E s) : wpAny M A m (fun a s' => s'.toks ≠ 0 ∧ Q a s') E s :=
  wpAny_mono (PySem.wpAny_toks h) (fun _ _ z => ⟨by have := z.1; omega, z.2⟩) fun _ _ z => z.2
variable {cop : CmpOp} {i : Int} {j k : Nat} {c0 c1 : Pos} {y z : Str} {rest : List Expr}
theorem dt1_cmp {g : A → A → Hs → Out A} (ho : OpC G L cop g) (ha : DE G L a fa) (hm : behindInMarks cop (.Constant (.int i) j c0) = false) : DT1 G L (.Compare a [cop] [.Constant (.int i) j c0] pos) (e2t fa (eC (.int i)) g) := by
  refine ⟨fun X xr σ H ρ sl h sr hh Q q => ?_⟩
  have zz : E X a σ H fun v H1 => Cv X σ cop v (.int i) H1 fun z H3 => ∃ k, z = .bl k ∧ Q k H3 :=
    DE.bind ha xr sr hh q fun x h1 v H1 ρ1 e1 r1 ra s1 q1 => ho.run X xr σ H1 ρ1 h1 x (.int i) v (.int i) r1 ra .int _ (isB_ok q1)
  refine ⟨fun pins s I => wpAny_isTrue_Compare1 (thn (zz.run pins s I) fun v s1 ⟨x, H1, I1, r1, q1⟩ => wpAny_Constant_int ?_) hm⟩
  refine wpAny_mono (toks_keep (show s1.toks + 1 ≠ 0 by omega) (q1.run pins _ v _ (I1.tok _) r1 ⟨_, rfl⟩)) (fun c s3 ⟨ht, z, H3, I3, r3, k, e, q3⟩ => ?_) fun _ _ z => z
  subst e
  cases r3
  exact wpAny_truthy_bool ⟨ht, H3, I3, q3⟩
theorem dt1_and (ha : DT1 G L a ft) (hb : DW G L (.BoolOp .And (b :: rest) pos) fu) : DT1 G L (.BoolOp .And (a :: b :: rest) pos) (tAnd ft fu) := by
  refine ⟨fun X xr σ H ρ sl h sr hh Q q => ?_⟩
  have zz : T1 X a σ H fun q H1 => Br q (W X (.BoolOp .And (b :: rest) pos) σ H1 Q) (Q false H1) := by
    refine ha.run X xr σ H ρ sl h sr hh _ ?_
    unfold tAnd at q
    revert q
    cases ft sl h with
    | ok x h1 =>
      cases x with
      | true => exact fun q H1 ρ1 e1 r1 => br_t (hb.run X xr σ H1 ρ1 sl h1 (sr.mono e1) r1 Q (Po.at1 (m := fu sl h1) q e1))
      | false => exact fun q H1 ρ1 e1 r1 => br_f (q H1 ρ1 e1 r1)
    | ex x h1 => exact fun q => q
    | bad => exact fun q => q
  refine ⟨fun pins s I => PyProof.Rows.isTrue_and (wpAny_mono (zz.run pins s I) (fun c s1 ⟨ht, H1, I1, q1⟩ => ?_) fun _ _ z => z)⟩
  cases c with
  | true => exact toks_keep ht ((q1.1 rfl).run _ pins s1 I1)
  | false => exact ⟨ht, H1, I1, q1.2 rfl⟩
theorem de_if1 (hc : DT1 G L c ft) (ha : DE1 G L a fa) (hb : DE G L b fb) : DE G L (.IfExp c a b pos) (eIf ft fa fb) := by
  refine ⟨fun X xr σ H ρ sl h sr hh Q q => ?_⟩
  have zz : T1 X c σ H fun q H1 => Br q (E1 X a σ H1 Q) (E X b σ H1 Q) := by
    refine hc.run X xr σ H ρ sl h sr hh _ ?_
    unfold eIf at q
    revert q
    cases ft sl h with
    | ok x h1 =>
      cases x with
      | true => exact fun q H1 ρ1 e1 r1 => br_t (ha.run X xr σ H1 ρ1 sl h1 (sr.mono e1) r1 Q (Po.at1 (m := fa sl h1) q e1))
      | false => exact fun q H1 ρ1 e1 r1 => br_f (hb.run X xr σ H1 ρ1 sl h1 (sr.mono e1) r1 Q (Po.at1 (m := fb sl h1) q e1))
    | ex x h1 => exact fun q => q
    | bad => exact fun q => q
  refine ⟨fun pins s I => wpAny_IfExp (thn (zz.run pins s I) fun d s1 ⟨ht, H1, I1, q1⟩ => ?_)⟩
  cases d with
  | true => exact (q1.1 rfl).run pins s1 ht I1
  | false => exact (q1.2 rfl).run pins s1 I1
def eRepl (fo : FE) (y z : Str) : FE := fun sl h => (fo sl h).bind fun x h1 => match x with | .str a => chk (Nat.ble (a.length + (a.length + 1) * z.length) 16777216) (.ok (.str (Txt.replace a y z)) h1) | _ => .bad
theorem de_repl (ho : DE G L o fo) (hyz : (y == z) = false := by decide)
    (hst : ∀ env, starEach [.Constant (.str y) j c0, .Constant (.str z) k c1] env = [(false, eval (.Constant (.str y) j c0) env), (false, eval (.Constant (.str z) k c1) env)] := by intro _; rfl)
    (hbase : ∀ env, attributeBase o "replace" env (eval o env) = eval o env := by intro _; rfl) (hline : (apos.endLine == pos.line) = true := by rfl) : DE1 G L (.Call (.Attribute o "replace" apos) [.Constant (.str y) j c0, .Constant (.str z) k c1] [] pos) (eRepl fo y z) := by
  refine ⟨fun X xr σ H ρ sl h sr hh Q q => ?_⟩
  have zz : E X o σ H fun v H1 => ∃ x, v = .str x ∧ x.length + (x.length + 1) * z.length ≤ 16777216 ∧ Q (.str (Txt.replace x y z)) H1 := by
    refine DE.bind ho xr sr hh q fun x h1 v H1 ρ1 e1 r1 ra s1 q1 => ?_
    cases ra <;> try exact q1.elim
    obtain ⟨k, q1⟩ := chk_ok q1
    exact ⟨_, rfl, Nat.le_of_ble_eq_true k, q1 H1 ρ1 .refl r1 _ .str⟩
  exact ⟨fun pins s ht I => CwR.pet_replC (to := fun σ' H' Q' => ∀ pins s, L2.Inv X pins σ' H' s → wpAny (model X.prog X.w) X.A (eval o X.env) (EP X pins σ' Q') X.xe s) ⟨fun pins s σ' H' Q' I q => q pins s I⟩ hyz (hst _) (hbase _) hline pins s σ H Q (Nat.pos_of_ne_zero ht) I fun pins s I => zz.run pins s I⟩
end
/-! ### the pure walk -/
section
variable {sl : Sl} {h : Hs} {ke : KE A} {fo : FE} {g : A → Hs → Out A} {x y : A} {a b w z : Str} {i j : Int} {p q : Bool} {xs ys : List A} {n : Nat} {cs : List Int}
def kMs0 (g : A → Hs → Out A) (ke : KE A) : KE A := ⟨fun x h => match x with | .str z => (g (.str z) h).sat ke | _ => False, ke.e⟩
theorem q_ms0 : (kMs0 g ke).q (.str z) h = (g (.str z) h).sat ke := (rfl)
theorem s_ms0 : (eMs0 fo g sl h).sat ke = (fo sl h).sat (kMs0 g ke) := by
  unfold eMs0
  cases fo sl h with
  | ok x h1 => cases x <;> rfl
  | ex x h1 => rfl
  | bad => rfl
theorem s_upper : (upperA (.str a) h).sat ke = (Nat.ble a.length 5592405 = true ∧ ke.q (.str (Txt.upper a)) h) := s_chk
def kRepl (y z : Str) (ke : KE A) : KE A := ⟨fun x h => match x with | .str a => Nat.ble (a.length + (a.length + 1) * z.length) 16777216 = true ∧ ke.q (.str (Txt.replace a y z)) h | _ => False, ke.e⟩
theorem q_repl : (kRepl w z ke).q (.str a) h = (Nat.ble (a.length + (a.length + 1) * z.length) 16777216 = true ∧ ke.q (.str (Txt.replace a w z)) h) := (rfl)
theorem s_repl : (eRepl fo w z sl h).sat ke = (fo sl h).sat (kRepl w z ke) := by
  unfold eRepl
  cases fo sl h with
  | ok x h1 =>
    cases x <;> try rfl
    exact s_chk
  | ex x h1 => rfl
  | bad => rfl
theorem s_reprD : (reprD x h).sat ke = nd (datH x h) fun d => shOk d = true ∧ ke.q (.str d.shown) h := by
  unfold reprD
  rw [s_need]
  congr 1
  funext d
  exact s_chk
theorem s_eqNs : (eqN (.str a) (.str b) h).sat ke = ke.q (.bl (a == b)) h := (rfl)
theorem s_neNs : (neN (.str a) (.str b) h).sat ke = ke.q (.bl (!(a == b))) h := (rfl)
theorem s_eqNi : (eqN (.int i) y h).sat ke = (aEq (.int i) y h).sat ke := (rfl)
theorem s_neNi : (neN (.int i) y h).sat ke = (aNe (.int i) y h).sat ke := (rfl)
theorem s_eqNb : (eqN (.bl p) y h).sat ke = (aEq (.bl p) y h).sat ke := (rfl)
theorem s_neNb : (neN (.bl p) y h).sat ke = (aNe (.bl p) y h).sat ke := (rfl)
theorem s_eqNn : (eqN .non y h).sat ke = (aEq .non y h).sat ke := (rfl)
theorem s_neNn : (neN .non y h).sat ke = (aNe .non y h).sat ke := (rfl)
theorem s_eqNt : (eqN (.tup xs) y h).sat ke = (aEq (.tup xs) y h).sat ke := (rfl)
theorem s_neNt : (neN (.tup xs) y h).sat ke = (aNe (.tup xs) y h).sat ke := (rfl)
theorem s_eqNl : (eqN (.lst xs) y h).sat ke = (aEq (.lst xs) y h).sat ke := (rfl)
theorem s_neNl : (neN (.lst xs) y h).sat ke = (aNe (.lst xs) y h).sat ke := (rfl)
theorem s_eqNc : (eqN (.ctp xs) y h).sat ke = (aEq (.ctp xs) y h).sat ke := (rfl)
theorem s_neNc : (neN (.ctp xs) y h).sat ke = (aNe (.ctp xs) y h).sat ke := (rfl)
theorem s_eqNr : (eqN (.ref n) y h).sat ke = (aEq (.ref n) y h).sat ke := (rfl)
theorem s_neNr : (neN (.ref n) y h).sat ke = (aNe (.ref n) y h).sat ke := (rfl)
theorem s_eqN0 : (aEq .non .non h).sat ke = ke.q (.bl true) h := (rfl)
theorem s_split1 (hl : a.length ≤ 900) : (splitA (.str a) [.str " "] h).sat ke = ke.q (.lst (strL (Txt.split a " "))) h := by
  refine s_chk.trans ?_
  have e : (!(((" " : Str).length == 0)) && Nat.ble (a.length + 2) sizeLine) = true := by
    rw [Nat.ble_eq_true_of_le (Nat.le_trans (Nat.add_le_add_right hl 2) (by decide))]; rfl
  exact propext ⟨fun z => z.2, fun z => ⟨e, z⟩⟩
end
end Rx
set_option Elab.async false
set_option linter.all false
set_option maxRecDepth 100000
set_option maxHeartbeats 4000000
/-! RxDw: dicts that are walked: while they are, they are locked; enumerate; a comprehension bound to a cell's name. -/
namespace Rx
open PySem L2 Sx
section
variable {G : Gc} {L : Wh} {X : Cx} {σ : St} {H H1 H2 : Hp} {ρ ρ2 : Rho} {sl : Sl} {h h2 : Hs} {Q : VK} {e tg iter a b : Expr} {fa fb fe f : FE} {pos p : Pos}
/-! ### locked, unlocked -/
/-- a dict -/
def DkH : HO → Prop
  | .dK _ => True
  | .dT _ => True
  | _ => False
theorem unl_ne {u : HO} {od : Obj} {a b : Addr} {w : HO} (hu : DkH u) (e : H a = some (.frz od u)) (eb : H b = some w) (nw : ∀ o' u', w = .frz o' u' → ¬ DkH u') : upd H a u b = some w := by
  have : b ≠ a := fun z => by
    subst z
    rw [e] at eb
    exact nw od u (Option.some.inj eb).symm hu
  rw [upd_ne this]; exact eb
theorem RA.unlock {x : A} {v : V} {u : HO} {od : Obj} {a : Addr} (hu : DkH u) (e : H a = some (.frz od u)) (la : Live ρ a) (r : RA G H ρ x v) : RA G (upd H a u) ρ x v := by
  induction r with
  | non => exact .non
  | bl => exact .bl
  | int => exact .int
  | str => exact .str
  | ty => exact .ty
  | cls => exact .cls
  | scr q =>
    refine .scr ?_
    rcases q with ⟨q, n⟩ | ⟨o, q⟩ | q
    · exact .inl ⟨unl_ne hu e q (fun _ _ z => nomatch z), n⟩
    · exact .inr (.inl ⟨o, unl_ne hu e q fun o' u' z => by cases z; exact fun z => z⟩)
    · exact .inr (.inr q)
  | ctp q l _ ih =>
    refine .ctp ?_ l ih
    rcases q with (q | ⟨o, q⟩) | q
    · exact .inl (.inl (unl_ne hu e q (fun _ _ z => nomatch z)))
    · exact .inl (.inr ⟨o, unl_ne hu e q fun o' u' z => by cases z; exact fun z => z⟩)
    · exact .inr q
  | tup q l _ ih => exact .tup (unl_ne hu e q (fun _ _ z => nomatch z)) l ih
  | lst q n l _ ih => exact .lst (unl_ne hu e q (fun _ _ z => nomatch z)) n l ih
  | dk q n l _ ih => exact .dk (unl_ne hu e q (fun _ _ z => nomatch z)) n l ih
  | dt q n l _ ih => exact .dt (unl_ne hu e q (fun _ _ z => nomatch z)) n l ih
  | ins q n l l' _ ih => exact .ins (unl_ne hu e q (fun _ _ z => nomatch z)) n l l' ih
  | ref hn hb => exact .ref hn hb
  | wdk q l _ ih => exact .wdk q l ih
theorem RAs.unlock {xs : List A} {vs : List V} {u : HO} {od : Obj} {a : Addr} (hu : DkH u) (e : H a = some (.frz od u)) (la : Live ρ a) (r : RAs G H ρ xs vs) : RAs G (upd H a u) ρ xs vs := ⟨r.1, fun i x v e1 e2 => (r.2 i x v e1 e2).unlock hu e la⟩
theorem RKs.unlock {κ : Type} {xs : List (κ × A)} {vs : List (κ × V)} {u : HO} {od : Obj} {a : Addr} (hu : DkH u) (e : H a = some (.frz od u)) (la : Live ρ a) (r : RKs G H ρ xs vs) : RKs G (upd H a u) ρ xs vs := ⟨r.1, fun i k x k' v e1 e2 => (r.2 i k x k' v e1 e2).unlock hu e la⟩
theorem RFs.unlock {c : Nat} {xs : List A} {vs : List (Str × V)} {u : HO} {od : Obj} {a : Addr} (hu : DkH u) (e : H a = some (.frz od u)) (la : Live ρ a) (r : RFs G H ρ c xs vs) : RFs G (upd H a u) ρ c xs vs := ⟨r.1, r.2.1, fun i x k v e1 e2 => (r.2.2 i x k v e1 e2).unlock hu e la⟩
theorem RO.unlock {o : O} {u : HO} {od : Obj} {a b : Addr} (hu : DkH u) (e : H a = some (.frz od u)) (la : Live ρ a) (ne : b ≠ a) (r : RO G H ρ b o) : RO G (upd H a u) ρ b o := by
  have k : upd H a u b = H b := upd_ne ne
  cases o with
  | dead => exact r
  | lst xs => obtain ⟨vs, q, z⟩ := r; exact ⟨vs, k.trans q, z.unlock hu e la⟩
  | dk xs => obtain ⟨vs, q, z⟩ := r; exact ⟨vs, k.trans q, z.unlock hu e la⟩
  | dt xs => obtain ⟨vs, q, z⟩ := r; exact ⟨vs, k.trans q, z.unlock hu e la⟩
  | ins c xs => obtain ⟨dx, vs, q, z⟩ := r; exact ⟨dx, vs, k.trans q, z.unlock hu e la⟩
  | fdk xs => obtain ⟨o, vs, q, z⟩ := r; exact ⟨o, vs, k.trans q, z.unlock hu e la⟩
  | fdt xs => obtain ⟨o, vs, q, z⟩ := r; exact ⟨o, vs, k.trans q, z.unlock hu e la⟩
theorem HR.unlock {n : Nat} {u : HO} {od : Obj} {a : Addr} {o2 : O} (hu : DkH u) (r : HR G H ρ h) (ea : ρ.l[n]? = some (some a)) (e : H a = some (.frz od u)) (q : RO G (upd H a u) ρ a o2) : HR G (upd H a u) ρ (h.set n o2) := by
  have la : Live ρ a := .inl ⟨n, ea⟩
  have hl : n < h.length := by
    rw [← r.len]
    by_cases hl : n < ρ.l.length
    · exact hl
    · rw [List.getElem?_eq_none (by omega)] at ea; cases ea
  refine ⟨by simp [r.len], r.nd, fun i o' e1 nd => ?_, fun i b o' e1 e2 => ?_, r.sep, fun b hb => ?_, fun xi ex => ?_⟩
  · by_cases hi : n = i
    · subst hi; exact ⟨a, ea⟩
    · rw [List.getElem?_set_ne hi] at e1; exact r.live i o' e1 nd
  · by_cases hi : n = i
    · subst hi
      rw [ea] at e1
      cases e1
      rw [List.getElem?_set_self hl] at e2
      cases e2
      exact q
    · rw [List.getElem?_set_ne hi] at e2
      exact (r.obj i b o' e1 e2).unlock hu e la fun z => hi (r.nd n i a ea (by rw [← z]; exact e1))
  · obtain ⟨w, ew, z⟩ := r.hid b hb
    have ne : b ≠ a := fun z => r.sep n a ea (by rw [← z]; exact hb)
    exact ⟨w, by rw [upd_ne ne]; exact ew, z⟩
  · obtain ⟨h1, h2, h3⟩ := r.xk xi ex
    exact ⟨unl_ne hu e h1 (fun _ _ z => nomatch z), h2, h3.unlock hu e la⟩
/-- from ahead of the lock to behind it -/
theorem Ext.unlock {n : Nat} {u : HO} {od : Obj} {a : Addr} (hu : DkH u) (hr : HR G H ρ h) (ea : ρ.l[n]? = some (some a)) (eu : H a = some u) (x : Ext (upd H a (.frz od u)) ρ H2 ρ2) : Ext H ρ (upd H2 a u) ρ2 := by
  have la : Live ρ a := .inl ⟨n, ea⟩
  have net : ∀ {b : Addr} {xs : List V}, H b = some (.tup xs) → b ≠ a := fun {b xs} eb z => by
    subst z
    rw [eu] at eb
    cases eb
    exact hu
  have nef : ∀ {b : Addr} {o' : Obj} {u' : HO}, H b = some (.frz o' u') → b ≠ a := fun {b o' u'} eb z => by
    subst z
    rw [eu] at eb
    cases eb
    exact hu
  refine ⟨x.len, x.old, fun i b hi q => ?_, fun b o q nl => ?_, fun b xs q => ?_, fun b o' u' q => ?_, fun b q => ?_, x.hds, fun b hb => ?_⟩
  · have z := x.new i b hi q
    by_cases hb : b = a
    · subst hb; rw [upd_same] at z; cases z
    · rw [upd_ne hb] at z; exact z
  · have hb : b ≠ a := fun z => nl (by rw [z]; exact la)
    rw [upd_ne hb]
    exact x.keep b o (by rw [upd_ne hb]; exact q) nl
  · rw [upd_ne (net q)]
    exact x.tup b xs (by rw [upd_ne (net q)]; exact q)
  · rw [upd_ne (nef q)]
    exact x.frz b o' u' (by rw [upd_ne (nef q)]; exact q)
  · by_cases hb : b = a
    · subst hb; rw [upd_same] at q; cases q
    · rw [upd_ne hb] at q
      have z := x.dom b q
      rw [upd_ne hb] at z
      exact z
  · have hb' : b ≠ a := fun z => hr.sep n a ea (by rw [← z]; exact hb)
    rw [upd_ne hb', x.hidk b hb, upd_ne hb']
theorem e_lock {d : Addr} {u : HO} (hd : H d = some u) (mu : Mut (some u)) (he : ∀ od, E X e σ (upd H d (.frz od u)) fun v H' => H' d = some (.frz od u) ∧ Q v (upd H' d u)) : E X e σ H Q :=
  ⟨fun pins s I => by
    obtain ⟨od, I1⟩ := I.lock hd mu
    exact thn ((he od).run pins s I1) fun v s1 ⟨x, H1, I2, r, e2, q⟩ => ⟨x, _, I2.unlock e2 (I.nofrz hd mu), r, q⟩⟩
def unlk (n : Nat) (m : Out A) : Out A := match m with
  | .ok x h2 => (match h2[n]? with
    | some (.fdk kvs) => .ok x (h2.set n (.dk kvs))
    | some (.fdt kvs) => .ok x (h2.set n (.dt kvs))
    | _ => .bad)
  | _ => .bad
def eLock (i : Nat) (f : FE) : FE := fun sl h => match sl[i]? with
  | some (some (.ref n)) => (match h[n]? with
    | some (.dk kvs) => unlk n (f sl (h.set n (.fdk kvs)))
    | some (.dt kvs) => unlk n (f sl (h.set n (.fdt kvs)))
    | _ => .bad)
  | _ => .bad
theorem unlk_ok {n : Nat} {m : Out A} {u : HO} {od : Obj} {a : Addr} {W : WX} (hu : DkH u) (hr : HR G H ρ h) (ea : ρ.l[n]? = some (some a)) (eu : H a = some u) (q : Po G W σ H ρ (RQ G Q) (unlk n m)) :
    Po G W σ (upd H a (.frz od u)) ρ (RQ G fun v H' => H' a = some (.frz od u) ∧ Q v (upd H' a u)) m := by
  cases m with
  | ex x h' => exact q.elim
  | bad => exact q.elim
  | ok x h2 =>
    intro H2 ρ2 ex r2 v rv
    have fz : H2 a = some (.frz od u) := ex.frz a od u upd_same
    refine ⟨fz, ?_⟩
    have hl : n < ρ.l.length := by
      by_cases hl : n < ρ.l.length
      · exact hl
      · rw [List.getElem?_eq_none (by omega)] at ea; cases ea
    have up : ∀ {o : O}, h2[n]? = some o → o ≠ .dead → ρ2.l[n]? = some (some a) ∧ RO G H2 ρ2 a o := fun {o} e nd => by
      obtain ⟨b, hb⟩ := r2.live n o e nd
      have e1 := ex.old n b hl hb
      rw [ea] at e1
      cases e1
      exact ⟨hb, r2.obj n a o hb e⟩
    unfold unlk at q
    dsimp only at q
    cases hn : h2[n]? with
    | none => rw [hn] at q; exact q.elim
    | some o =>
      rw [hn] at q
      cases o <;> try exact q.elim
      · rename_i kvs
        obtain ⟨e2, o', vs, e3, rk⟩ := up hn (fun z => nomatch z)
        rw [fz] at e3
        cases e3
        have la : Live ρ2 a := .inl ⟨n, e2⟩
        exact q _ ρ2 (Ext.unlock hu hr ea eu ex) (HR.unlock hu r2 e2 fz ⟨vs, upd_same, rk.unlock hu fz la⟩) v (rv.unlock hu fz la)
      · rename_i kvs
        obtain ⟨e2, o', vs, e3, rk⟩ := up hn (fun z => nomatch z)
        rw [fz] at e3
        cases e3
        have la : Live ρ2 a := .inl ⟨n, e2⟩
        exact q _ ρ2 (Ext.unlock hu hr ea eu ex) (HR.unlock hu r2 e2 fz ⟨vs, upd_same, rk.unlock hu fz la⟩) v (rv.unlock hu fz la)
theorem de_lock (i : Nat) (hf : DE G L e f) : DE G L e (eLock i f) := by
  refine ⟨fun X xr σ H ρ sl h sr hh Q q => ?_⟩
  unfold eLock at q
  cases hi : sl[i]? with
  | none => rw [hi] at q; exact q.elim
  | some o =>
    rw [hi] at q
    cases o with
    | none => exact q.elim
    | some x =>
      cases x <;> try exact q.elim
      rename_i n
      obtain ⟨v, hv, ra⟩ := sr.get i _ hi
      dsimp only at q
      cases hn : h[n]? with
      | none => rw [hn] at q; exact q.elim
      | some ob =>
        rw [hn] at q
        cases ob <;> try exact q.elim
        · rename_i kvs
          obtain ⟨a, rfl, ea, vs, eu, rk⟩ := hh.look ra hn (fun z => nomatch z)
          refine e_lock eu trivial fun od => ?_
          have ex := hh.ext_set (o := .frz od (.dK vs)) ea
          exact hf.run X xr σ _ ρ sl _ (sr.mono ex) (hh.set (ob := .fdk kvs) ea ⟨od, vs, upd_same, rk.mono ex⟩) _ (unlk_ok trivial hh ea eu q)
        · rename_i kvs
          obtain ⟨a, rfl, ea, vs, eu, rk⟩ := hh.look ra hn (fun z => nomatch z)
          refine e_lock eu trivial fun od => ?_
          have ex := hh.ext_set (o := .frz od (.dT vs)) ea
          exact hf.run X xr σ _ ρ sl _ (sr.mono ex) (hh.set (ob := .fdt kvs) ea ⟨od, vs, upd_same, rk.mono ex⟩) _ (unlk_ok trivial hh ea eu q)
/-! ### the keys of a locked dict -/
def keysOf (x : A) (h : Hs) : Option (List A) := match x with
  | .ref n => (match h[n]? with
    | some (.fdk kvs) => some (kvs.map fun kv => keyV kv.1)
    | some (.fdt kvs) => some (kvs.map fun kv => .tup (kv.1.map keyV))
    | _ => none)
  | _ => none
def iKeysA (fa : FE) : FA := fun sl h => (fa sl h).bind fun x h1 => need (keysOf x h1) fun xs => .ok xs h1
theorem di_keys (ha : DE G L iter fa) : DI G L tg iter (iKeysA fa) := by
  refine ⟨fun X xr σ H ρ sl h sr hh R q => ?_⟩
  refine .of (pi_keys pe) (DE.bind ha xr sr hh q fun x h1 v H1 ρ1 e1 r1 ra s1 q1 => ?_)
  obtain ⟨xs, ek, q1⟩ := need_ok q1
  cases x <;> try (cases ek; done)
  rename_i n
  unfold keysOf at ek
  dsimp only at ek
  cases hn : h1[n]? with
  | none => rw [hn] at ek; cases ek
  | some ob =>
    rw [hn] at ek
    cases ob <;> try (cases ek; done)
    · rename_i kvs
      cases ek
      obtain ⟨a, rfl, ea, od, vs, eu, rk⟩ := r1.look ra hn (fun z => nomatch z)
      refine ⟨a, od, rfl, .inl ⟨vs, eu, q1 H1 ρ1 .refl r1 _ fun H2 ρ2 h2 k hr i => ?_⟩⟩
      have e2 := k.frz a od _ eu
      refine ⟨fun x hx => ?_, fun hi => ⟨e2, by rw [List.length_map, rk.length] at hi; exact hi⟩⟩
      rw [List.getElem?_map] at hx
      cases hk : kvs[i]? with
      | none => rw [hk] at hx; cases hx
      | some kv =>
        rw [hk] at hx
        cases hx
        have hl : i < vs.length := by rw [← rk.length]; exact (List.getElem?_eq_some_iff.mp hk).1
        refine ⟨⟨e2, hl⟩, fun v H3 ⟨y1, k', v', y2, y3⟩ => ⟨.inl y1, ?_⟩⟩
        have key : kv.1 = k' := by
          have z := congrArg (fun l => l[i]?) rk.1
          rw [List.getElem?_map, List.getElem?_map, hk, y2] at z
          exact Option.some.inj z
        show RA G H3 ρ2 (keyV kv.1) v
        rw [y3, key]
        exact keyV_ok
    · rename_i kvs
      cases ek
      obtain ⟨a, rfl, ea, od, vs, eu, rk⟩ := r1.look ra hn (fun z => nomatch z)
      refine ⟨a, od, rfl, .inr ⟨vs, eu, q1 H1 ρ1 .refl r1 _ fun H2 ρ2 h2 k hr i => ?_⟩⟩
      have e2 := k.frz a od _ eu
      refine ⟨fun x hx => ?_, fun hi => ⟨e2, by rw [List.length_map, rk.length] at hi; exact hi⟩⟩
      rw [List.getElem?_map] at hx
      cases hk : kvs[i]? with
      | none => rw [hk] at hx; cases hx
      | some kv =>
        rw [hk] at hx
        cases hx
        have hl : i < vs.length := by rw [← rk.length]; exact (List.getElem?_eq_some_iff.mp hk).1
        refine ⟨⟨e2, hl⟩, fun v H3 ⟨y1, k', v', b, y2, y3, y4⟩ => ⟨.inl y1, ?_⟩⟩
        have key : kv.1 = k' := by
          have z := congrArg (fun l => l[i]?) rk.1
          rw [List.getElem?_map, List.getElem?_map, hk, y2] at z
          exact Option.some.inj z
        show RA G H3 ρ2 (.tup (kv.1.map keyV)) v
        rw [y3, key, y1]
        have z : RAs G H2 ρ2 (k'.map keyV) (k'.map L2.kV) := keysV_ok
        exact .tup y4 z.1 z.2
/-! ### enumerate -/
def enumL (xs : List A) : List A := xs.mapIdx fun i x => .tup [.int (Int.ofNat i), x]
def iEnumA (fa : FE) : FA := fun sl h => (fa sl h).bind fun x h1 => match x with | .lst xs => .ok (enumL xs) h1 | _ => .bad
theorem enumL_get {xs : List A} {i : Nat} {z : A} (e : (enumL xs)[i]? = some z) : ∃ x, xs[i]? = some x ∧ z = .tup [.int (Int.ofNat i), x] := by
  unfold enumL at e
  rw [List.getElem?_mapIdx] at e
  cases hx : xs[i]? with
  | none => rw [hx] at e; cases e
  | some x => rw [hx] at e; cases e; exact ⟨x, rfl, rfl⟩
theorem di_enum {elts : List Expr} {kk : Nat} {tpos : Pos} (hm : G.mg "enumerate" = none) (hg : ("enumerate" : Str) ∈ L.GL) (ha : DE G L a fa) (hn : NoSt a = true := by rfl) : DI G L (.Tuple elts kk tpos) (.Call (.Name "enumerate" p) [a] [] pos) (iEnumA fa) := by
  refine ⟨fun X xr σ H ρ sl h sr hh R q => ?_⟩
  refine .of (pi_enum (xr.gl _ hg).1 (by rw [xr.mg]; exact hm) pa (star_cons hn)) ?_
  refine as_cons (DE.bind ha xr sr hh q fun x h1 v H1 ρ1 e1 r1 ra s1 q1 => as_nil ?_) (star_cons hn)
  cases ra <;> try exact q1.elim
  rename_i xs ad vs h3 nl l r
  refine ⟨ad, vs, rfl, .inl (.inl h3), ?_⟩
  rw [xr.K]
  refine q1 H1 ρ1 .refl r1 _ fun H2 ρ2 h2 k hr i => ?_
  have k1 := (k.keep ad _ h3 nl).1
  refine ⟨fun z hz => ?_, fun hi => ⟨vs, .inl (.inl k1), ?_⟩⟩
  · obtain ⟨x, hx, rfl⟩ := enumL_get hz
    obtain ⟨v1, hv1, rv1⟩ := RAs.get (G := G) (H := H1) (ρ := ρ1) ⟨l, r⟩ hx
    refine ⟨⟨vs, v1, .inl (.inl k1), hv1⟩, fun v H4 ⟨T, x', ev, nT, eH, g1⟩ => ?_⟩
    have := g1 vs (.inl (.inl k1))
    rw [hv1] at this; cases this
    subst ev eH
    exact ⟨.inr ⟨T, _, nT, rfl⟩, new_tupA hr nT (.cons .int (.cons (rv1.mono' k) .nil))⟩
  · unfold enumL at hi
    rw [List.length_mapIdx] at hi
    rw [← l]
    exact hi
/-! ### x = [.. for ..], x a cell's name -/
theorem ds_setC (i : Nat) {x : Str} {pos' : Pos} (ha : DE G L e fa) (hsw : ∀ (q : Str) (Lo f : Addr) (cd : Value), swapsWith e (some (.Name x pos')) pos.line (PyProof.Rows.envOfC q L.sc Lo f cd) = pure false) (hi : L.N[i]? = some x := by rfl) (hw : L.wr.contains i = true := by rfl) (hf : L.fb = true := by rfl) : DS G L (.Assign [.Name x pos'] e pos) (sSet i fa) := by
  refine ⟨fun X xr σ H ρ sl h sr hh nx rt bk ct q => ?_⟩
  have z := xr.wrv i (by simpa using hw) x hi
  obtain ⟨qn, Lo, f, cd, ev⟩ := xr.ev hf
  refine .of (L2.ps_set (i := i) (by rw [xr.n]; exact xr.nd) (by rw [xr.n]; exact hi) z.1 pe (by rw [ev]; exact hsw _ _ _ _) z.2) ?_
  exact DE.bindS ha xr sr hh q fun x h1 v H1 ρ1 e1 r1 ra s1 q1 => q1 _ H1 ρ1 .refl r1 (s1.set ra i)
theorem sw_cell {elt : Expr} {gs : List Comprehension} {scope : Scope} {pos py : Pos} {y : Str} {l : Nat} {env : Env} (hy : env.scope.names.lookup y = some .cell) : swapsWith (.ListComp elt gs scope pos) (some (.Name y py)) l env = pure false := by
  have ky : env.kindOf y = some .cell := hy
  have nk : (some NameKind.cell == some NameKind.local) = false := rfl
  unfold swapsWith
  simp only [ky]
  cases env.blockKind == ScopeKind.function <;> rfl
/-! ### dict comprehensions -/
variable {g1 : FG} {ft : FT} {ws : List Nat} {fi : FA} {kx vx : Expr}
def dcV (g : FG) (t : FT) (fk fv : FE) (sl : Sl) : List A → List (Key × A) → Hs → Out (List (Key × A))
  | [], acc, h => .ok acc h
  | x :: xs, acc, h => match g x sl h with
    | .nx sl1 h1 => (match t sl1 h1 with
      | .ok true h2 => (match fk sl1 h2 with
        | .ok y h3 => (match fv sl1 h3 with
          | .ok z h4 => (match keyA y with
            | some k => dcV g t fk fv sl xs (putA acc k z) h4
            | none => .bad)
          | _ => .bad)
        | _ => .bad)
      | .ok false h2 => dcV g t fk fv sl xs acc h2
      | _ => .bad)
    | _ => .bad
def dcAll (fi : FA) (own : List Nat) (g : FG) (t : FT) (fk fv : FE) : Sl → Hs → Out (List (Key × A)) := fun sl h => (fi sl h).bind fun xs h1 => chk (Nat.ble xs.length sizeLine) (dcV g t fk fv (wipeA sl own) xs [] h1)
/-- .. as a dict that may be changed -/
def eDcT (fi : FA) (own : List Nat) (g : FG) (t : FT) (fk fv : FE) : FE := fun sl h => (dcAll fi own g t fk fv sl h).bind fun kvs h1 => .ok (.ref h1.length) (h1 ++ [.dk kvs])
structure DcEnd (G : Gc) (kvs : List (Key × A)) (hF : Hs) (D : Addr) (HF : Hp) (H1 : Hp) (ρ1 : Rho) : Prop where
  ex : ∃ (us : List (Key × V)) (ρF : Rho), HF D = some (.dK us) ∧ ρF.hd = D :: ρ1.hd ∧ RKs G HF ρF kvs us ∧ HR G HF ρF hF ∧ Ext H1 ρ1 HF ⟨ρF.l, ρ1.hd⟩ ∧ H1 D = none
theorem putA_len {kvs : List (Key × A)} {k : Key} {z : A} : (putA kvs k z).length ≤ kvs.length + 1 := by
  unfold putA
  split
  · rw [List.length_map]; omega
  · simp
theorem dc_ok {β : Type} {scope : Scope} {rd wr vs : List Nat} {GL : List Str} {ifs : List Expr} {fk fv : FE} {k : List (Key × A) → Hs → Out β} {R : β → Hp → Rho → Prop} {Q : VK} (hc : L.cm = true) (hi : DI G L tg iter fi) (okb : okB L.N rd wr GL scope (relS scope L.sc) = true)
    (hg : DGw G (blkW L scope rd wr GL) ws tg g1) (ht : DTs G (blkW L scope rd wr GL) ifs ft) (hk : DE G (blkW L scope rd wr GL) kx fk) (hv : DE G (blkW L scope rd wr GL) vx fv) (hw : ws.all (fun i => vs.contains i) = true)
    (xr : Xr G X L) (sr : SR G H ρ sl σ) (hh : HR G H ρ h) (q : Po G L.W σ H ρ R ((dcAll fi vs g1 ft fk fv sl h).bind k))
    (cc : ∀ ys hF D HF H1 ρ1 h1, Ext H ρ H1 ρ1 → HR G H1 ρ1 h1 → DcEnd G ys hF D HF H1 ρ1 → Po G L.W σ H1 ρ1 R (k ys hF) → Q (.ref D) HF) :
    tDc (fun σ H R => PIr X tg iter σ H R) (gB X scope tg) (tB' X scope ifs) (eB X scope kx) (eB X scope vx) vs σ H Q := by
  have q0 : Po G L.W σ H ρ R ((fi sl h).bind fun xs h1 => (chk (Nat.ble xs.length sizeLine) (dcV g1 ft fk fv (wipeA sl vs) xs [] h1)).bind k) := by
    unfold dcAll at q
    revert q
    cases fi sl h <;> exact fun q => q
  refine DI.bind hi xr sr hh q0 fun xs h1 J H1 ρ1 e1 r1 it s1 q1 D nD => ?_
  cases hsz : Nat.ble xs.length sizeLine with
  | false => rw [hsz] at q1; exact q1.elim
  | true =>
  rw [hsz] at q1
  have hsz := Nat.le_of_ble_eq_true hsz
  have q1 : Po G L.W σ H1 ρ1 R ((dcV g1 ft fk fv (wipeA sl vs) (xs.drop 0) [] h1).bind k) := q1
  refine ⟨fun i m H' => m = xs.length - i ∧ i ≤ xs.length ∧ ∃ acc us h' ρ', H' D = some (.dK us) ∧ ρ'.hd = D :: ρ1.hd ∧ RKs G H' ρ' acc us ∧ HR G H' ρ' h' ∧ Kq H1 ρ1 H' ρ' ∧ Ext H1 ρ1 H' ⟨ρ'.l, ρ1.hd⟩ ∧ SR G H' ρ' (wipeA sl vs) (wipe σ vs) ∧ acc.length ≤ i ∧
    Po G L.W σ H1 ρ1 R ((dcV g1 ft fk fv (wipeA sl vs) (xs.drop i) acc h').bind k), ⟨_, rfl, Nat.zero_le _, [], [], h1, ρ1.hide D, upd_same, rfl, .nil, r1.hideD nD, r1.kq_hide nD, r1.ext_new nD, (wipe_SR s1 (xr.cx hc) vs).mono' (r1.kq_hide nD), Nat.le_refl _, q1⟩, ?_⟩
  rintro i m H' ⟨rfl, hi', acc, us, h', ρ', hD, hhd, ras, r', kq', ex', s', hacc, q'⟩
  obtain ⟨ig, is⟩ := it H' ρ' h' kq' r' i
  by_cases hlt : i < xs.length
  · rw [List.drop_eq_getElem_cons hlt] at q'
    obtain ⟨go, yld⟩ := ig xs[i] (List.getElem?_eq_getElem hlt)
    refine .inr ⟨go, fun H2 => ∃ acc us h' ρ', H2 D = some (.dK us) ∧ ρ'.hd = D :: ρ1.hd ∧ RKs G H2 ρ' acc us ∧ HR G H2 ρ' h' ∧ Kq H1 ρ1 H2 ρ' ∧ Ext H1 ρ1 H2 ⟨ρ'.l, ρ1.hd⟩ ∧ SR G H2 ρ' (wipeA sl vs) (wipe σ vs) ∧ acc.length ≤ i + 1 ∧
      Po G L.W σ H1 ρ1 R ((dcV g1 ft fk fv (wipeA sl vs) (xs.drop (i + 1)) acc h').bind k), fun H2 z => ⟨_, by omega, rfl, hlt, z⟩, fun v H3 y s H0 C cl fp => ?_⟩
    obtain ⟨yo, ra⟩ := yld v H3 y
    obtain ⟨e3, r3⟩ := yo.ext r'
    have xb := fun s H0 C cl fp => xr.blk (scope := scope) hc okb s H0 C cl fp
    unfold dcV at q'
    have s3 := s'.mono e3
    have fin : ∀ {H4 : Hp} {ρ4 : Rho}, Ext H3 ρ' H4 ρ4 → H4 D = some (.dK us) ∧ ρ4.hd = D :: ρ1.hd ∧ RKs G H4 ρ4 acc us ∧ Kq H1 ρ1 H4 ρ4 ∧ Ext H1 ρ1 H4 ⟨ρ4.l, ρ1.hd⟩ ∧ SR G H4 ρ4 (wipeA sl vs) (wipe σ vs) := fun {H4 ρ4} e4 => by
      have e34 := e3.trans e4
      exact ⟨by rw [e34.hidk D (by rw [hhd]; exact List.mem_cons_self)]; exact hD, by rw [e34.hds]; exact hhd, ras.mono e34, kq'.trans e34.kq, ext_lift r1 ex' hhd nD e34, s'.mono e34⟩
    cases hgx : g1 xs[i] (wipeA sl vs) h' with
    | nx sl4 h4 =>
      rw [hgx] at q'
      refine sxG_mono (hg.run _ (xb s H0 C cl fp) (wipe σ vs) H3 ρ' (wipeA sl vs) h' xs[i] v s3 r3 ra (fun σ4 H4 => ∃ ρ4, Ext H3 ρ' H4 ρ4 ∧ HR G H4 ρ4 h4 ∧ SR G H4 ρ4 sl4 σ4) (by rw [hgx]; exact fun σ4 H4 ρ4 e4 r4 s4 => ⟨ρ4, e4, r4, s4⟩)) fun σ4 H4 ⟨off, ρ4, e4, r4, s4⟩ => ?_
      refine ⟨wipe_off hw off, fun s H0 C cl fp => ?_⟩
      dsimp only at q'
      refine ht.run _ (xb s H0 C cl fp) σ4 H4 ρ4 sl4 h4 s4 r4 _ ?_
      cases htx : ft sl4 h4 with
      | ok b h5 =>
        rw [htx] at q'
        cases b with
        | false =>
          intro H5 ρ5 e5 r5
          obtain ⟨a1, a2, a3, a4, a5, a6⟩ := fin (e4.trans e5)
          exact ⟨acc, us, h5, ρ5, a1, a2, a3, r5, a4, a5, a6, by omega, q'⟩
        | true =>
          intro H5 ρ5 e5 r5
          unfold RB
          dsimp only
          rw [if_pos rfl]
          intro s H0 C cl fp
          dsimp only at q'
          refine hk.run _ (xb s H0 C cl fp) σ4 H5 ρ5 sl4 h5 (s4.mono e5) r5 _ ?_
          cases hkx : fk sl4 h5 with
          | ok yk h6 =>
            rw [hkx] at q'
            intro H6 ρ6 e6 r6 wk rwk s H0 C cl fp
            dsimp only at q'
            refine hv.run _ (xb s H0 C cl fp) σ4 H6 ρ6 sl4 h6 ((s4.mono e5).mono e6) r6 _ ?_
            cases hvx : fv sl4 h6 with
            | ok z h7 =>
              rw [hvx] at q'
              intro H7 ρ7 e7 r7 w rw'
              dsimp only at q'
              cases hky : keyA yk with
              | none => rw [hky] at q'; exact q'.elim
              | some ky =>
                rw [hky] at q'
                obtain ⟨a1, a2, a3, a4, a5, a6⟩ := fin (((e4.trans e5).trans e6).trans e7)
                obtain ⟨u0, eu0, nt, nf⟩ := r7.hid D (by rw [a2]; exact List.mem_cons_self)
                have kq8 := kq_hid (ρ := ρ7) (o := .dK (putK us ky w)) (by rw [a2]; exact List.mem_cons_self) eu0 nt nf
                refine ⟨us, ky, keyA_ok rwk hky, a1, by rw [← ras.length]; omega, putA acc ky z, putK us ky w, h7, ρ7, upd_same, a2, (a3.put ky rw').mono' kq8, r7.upd_hidD (by rw [a2]; exact List.mem_cons_self), a4.trans kq8, ext_updD r1 a5 nD, a6.mono' kq8, Nat.le_trans putA_len (by omega), q'⟩
            | ex y h6 => rw [hvx] at q'; exact q'.elim
            | bad => rw [hvx] at q'; exact q'.elim
          | ex y h6 => rw [hkx] at q'; exact q'.elim
          | bad => rw [hkx] at q'; exact q'.elim
      | ex b h5 => rw [htx] at q'; exact q'.elim
      | bad => rw [htx] at q'; exact q'.elim
    | rt _ _ => rw [hgx] at q'; exact q'.elim
    | bk _ _ => rw [hgx] at q'; exact q'.elim
    | ct _ _ => rw [hgx] at q'; exact q'.elim
    | ex _ _ _ => rw [hgx] at q'; exact q'.elim
    | bad => rw [hgx] at q'; exact q'.elim
  · have hd : xs.drop i = [] := List.drop_eq_nil_of_le (by omega)
    rw [hd] at q'
    exact .inl ⟨is (by omega), cc acc h' D H' H1 ρ1 h1 e1 r1 ⟨us, ρ', hD, hhd, ras, r', ex', nD⟩ q'⟩
/-- what was built behind the scenes is numbered from now on -/
theorem hid_tracked {o : O} {hF h1 : Hs} {D : Addr} {HF H1 : Hp} {ρ1 ρF : Rho} (r1 : HR G H1 ρ1 h1) (e2 : ρF.hd = D :: ρ1.hd) (e4 : HR G HF ρF hF) (e5 : Ext H1 ρ1 HF ⟨ρF.l, ρ1.hd⟩) (e6 : H1 D = none) (ro : RO G HF ρF D o) :
    ∃ ρ', Ext H1 ρ1 HF ρ' ∧ HR G HF ρ' (hF ++ [o]) ∧ RA G HF ρ' (.ref hF.length) (.ref D) := by
  have nD : D ∉ ρ1.hd := fun z => by
    obtain ⟨u, e, _⟩ := r1.hid D z
    rw [e6] at e; cases e
  have spl : ∀ {i : Nat} {y : Option Addr}, (ρF.l ++ [some D])[i]? = some y → (i < ρF.l.length ∧ ρF.l[i]? = some y) ∨ (i = ρF.l.length ∧ y = some D) := by
    intro i y e
    by_cases hi : i < ρF.l.length
    · rw [List.getElem?_append_left hi] at e; exact .inl ⟨hi, e⟩
    · rw [List.getElem?_append_right (by omega)] at e
      cases hk : i - ρF.l.length with
      | zero => rw [hk] at e; simp at e; exact .inr ⟨by omega, e.symm⟩
      | succ m => rw [hk] at e; simp at e
  have k : Kq HF ρF HF ⟨ρF.l ++ [some D], ρ1.hd⟩ := by
    refine ⟨by simp, fun i a hi e => ?_, fun a o e nl => ⟨e, fun z => ?_⟩, fun _ _ e => e, fun _ _ _ e => e⟩
    · rw [List.getElem?_append_left hi] at e; exact e
    · rcases z with ⟨i, z⟩ | z
      · rcases spl z with ⟨_, z⟩ | ⟨_, z⟩
        · exact nl (.inl ⟨i, z⟩)
        · cases z; exact nl (.inr (by rw [e2]; exact List.mem_cons_self))
      · exact nl (.inr (by rw [e2]; exact List.mem_cons_of_mem _ z))
  refine ⟨⟨ρF.l ++ [some D], ρ1.hd⟩, ⟨by have := e5.len; simp at this ⊢; omega, fun i a hi e => ?_, fun i a hi e => ?_, e5.keep, e5.tup, e5.frz, e5.dom, rfl, e5.hidk⟩, ⟨by simp [e4.len], fun i j a q1 q2 => ?_, fun i o q nd => ?_, fun i a o q1 q2 => ?_, fun i a q z => ?_, fun a ha => e4.hid a (by rw [e2]; exact List.mem_cons_of_mem _ ha), e4.xk.mono' k⟩, .ref (by simp [e4.len]) fun b q => ?_⟩
  · have hl := e5.len
    rw [List.getElem?_append_left (Nat.lt_of_lt_of_le hi hl)] at e
    exact e5.old i a hi e
  · rcases spl e with ⟨_, z⟩ | ⟨_, z⟩
    · exact e5.new i a hi z
    · cases z; exact e6
  · rcases spl q1 with ⟨_, z1⟩ | ⟨h1, z1⟩ <;> rcases spl q2 with ⟨_, z2⟩ | ⟨h2, z2⟩
    · exact e4.nd i j a z1 z2
    · cases z2; exact absurd (by rw [e2]; exact List.mem_cons_self) (e4.sep i D z1)
    · cases z1; exact absurd (by rw [e2]; exact List.mem_cons_self) (e4.sep j D z2)
    · omega
  · by_cases hi : i < hF.length
    · rw [List.getElem?_append_left hi] at q
      obtain ⟨a, ha⟩ := e4.live i o q nd
      exact ⟨a, by rw [List.getElem?_append_left (by rw [e4.len]; exact hi)]; exact ha⟩
    · have hi2 : i = hF.length := by
        by_cases hz : i = hF.length
        · exact hz
        · rw [List.getElem?_eq_none (by simp; omega)] at q; cases q
      exact ⟨D, by rw [hi2, ← e4.len]; simp⟩
  · rcases spl q1 with ⟨h1, z1⟩ | ⟨h1, z1⟩
    · rw [List.getElem?_append_left (by rw [← e4.len]; exact h1)] at q2
      exact (e4.obj i a o z1 q2).mono' k rfl
    · cases z1
      rw [h1, e4.len] at q2
      simp at q2
      subst q2
      exact ro.mono' k rfl
  · rcases spl q with ⟨_, z1⟩ | ⟨_, z1⟩
    · exact e4.sep i a z1 (by rw [e2]; exact List.mem_cons_of_mem _ z)
    · cases z1; exact nD z
  · rw [← e4.len] at q
    simpa using q
theorem de_dcT {scope : Scope} {own : List (Str × Nat)} {rd wr : List Nat} {GL : List Str} {ifs : List Expr} {fk fv : FE} (own' : List Nat) (hi : DI G L tg iter fi) (ok : BlkOk L.N L.sc scope own) (okb : okB L.N rd wr GL scope (relS scope L.sc) = true)
    (hg : DGw G (blkW L scope rd wr GL) ws tg g1) (ht : DTs G (blkW L scope rd wr GL) ifs ft) (hk : DE G (blkW L scope rd wr GL) kx fk) (hv : DE G (blkW L scope rd wr GL) vx fv) (ho : own.map (·.2) = own' := by rfl) (hw : ws.all (fun i => own'.contains i) = true := by rfl) (hs : ∀ env x, foldedSetIterable iter env x = pure x := by intro _ _; rfl) (hc : L.cm = true := by rfl) :
    DE G L (.DictComp kx vx [⟨tg, iter, ifs, 0⟩] scope pos) (eDcT fi own' g1 ft fk fv) := by
  subst ho
  refine ⟨fun X xr σ H ρ sl h sr hh Q q => .of (pe_dc (own := own) (xr.calm hc) (by rw [xr.n]; exact xr.nd) pir (by rw [xr.n, xr.scp]; exact ok) (fun s H0 C cl fp => ⟨fun pins s σ H x u Q I r q => (q _ _ _ _ _).run pins s u I r⟩) (fun s H0 C cl fp => ⟨fun pins s σ H Q I q => (q _ _ _ _ _).run pins s I⟩) (fun s H0 C cl fp => ⟨fun pins s σ H Q I q => (q _ _ _ _ _).run pins s I⟩) (fun s H0 C cl fp => ⟨fun pins s σ H Q I q => (q _ _ _ _ _).run pins s I⟩) (hs _))
    (dc_ok hc hi okb hg ht hk hv hw xr sr hh q fun ys hF D HF H1 ρ1 h1 e1 r1 le q1 => ?_)⟩
  obtain ⟨us, ρF, e1, e2, e3, e4, e5, e6⟩ := le.ex
  obtain ⟨ρ', ex, r', ra⟩ := hid_tracked (o := .dk ys) r1 e2 e4 e5 e6 ⟨us, e1, e3⟩
  exact q1 HF ρ' ex r' _ ra
end
end Rx
set_option Elab.async false
set_option linter.all false
set_option maxRecDepth 100000
set_option maxHeartbeats 4000000
/-! RxSk: things that are sorted: pairs, triples (in the pure walk). -/
namespace Rx
open PySem L2 Sx
structure SK (P : Type) where
  enc : P → A
  dat : P → PyData
  hd : ∀ p, Rx.dat (enc p) = some (dat p)
  inj : ∀ p q, PySem.W.keyToks (dat p) = PySem.W.keyToks (dat q) → p = q
  alike : ∀ p q, PySem.W.alike (dat p) (dat q) = true
  tup : ∀ p, isTupD (dat p) = true
  dep : ∀ p, (dat p).depth ≤ 100
section
variable {P : Type} {K : SK P} {ps qs : List P} {p q : P} {h : Hs} {ke : KE A}
def SK.le (K : SK P) : P → P → Bool := PySem.W.dataLe false K.dat
def SK.srt (K : SK P) (ps : List P) : List P := ps.mergeSort K.le
theorem SK.tle (K : SK P) : PySem.W.TotalLe K.le := PySem.W.sortLe_total (PyProof.Rows.listOrd PyProof.Rows.itemOrd) false fun b => PySem.W.keyToks (K.dat b)
theorem SK.le_total (K : SK P) (a b : P) : (K.le a b || K.le b a) = true := (Bool.or_eq_true _ _).mpr (K.tle.total a b)
theorem SK.le_trans (K : SK P) (a b c : P) (h : K.le a b = true) (g : K.le b c = true) : K.le a c = true := K.tle.trans a b c h g
theorem SK.le_anti (K : SK P) {a b : P} (h : K.le a b = true) (g : K.le b a = true) : a = b := by
  have h : (!(PyProof.Rows.listOrd PyProof.Rows.itemOrd).blt (PySem.W.keyToks (K.dat b)) (PySem.W.keyToks (K.dat a))) = true := h
  have g : (!(PyProof.Rows.listOrd PyProof.Rows.itemOrd).blt (PySem.W.keyToks (K.dat a)) (PySem.W.keyToks (K.dat b))) = true := g
  rw [Bool.not_eq_true'] at h g
  exact K.inj _ _ ((PyProof.Rows.listOrd PyProof.Rows.itemOrd).total _ _ g h)
theorem SK.perm : (K.srt ps).Perm ps := List.mergeSort_perm ps K.le
theorem SK.pw : (K.srt ps).Pairwise (fun a b => K.le a b = true) := List.pairwise_mergeSort (le := K.le) K.le_trans K.le_total ps
theorem SK.eq (x : ps.Perm qs) : K.srt ps = K.srt qs := pw_uniq (fun _ _ => K.le_anti) (SK.perm.trans (x.trans SK.perm.symm)) SK.pw SK.pw
theorem SK.add : K.srt (K.srt ps ++ [p]) = K.srt (ps ++ [p]) := SK.eq (SK.perm.append_right [p])
theorem SK.filter {f : P → Bool} : (K.srt ps).filter f = K.srt (ps.filter f) := pw_uniq (fun _ _ => K.le_anti) ((SK.perm.filter f).trans SK.perm.symm) (SK.pw.filter f) SK.pw
theorem SK.mem : p ∈ K.srt ps ↔ p ∈ ps := SK.perm.mem_iff
theorem SK.len : (K.srt ps).length = ps.length := SK.perm.length_eq
theorem SK.nodup (n : ps.Nodup) : (K.srt ps).Nodup := SK.perm.nodup_iff.mpr n
def SK.L (K : SK P) (ps : List P) : List A := ps.map K.enc
theorem SK.datAll : Rx.datAll (K.L ps) = some (ps.map K.dat) := by
  unfold SK.L
  induction ps with
  | nil => unfold Rx.datAll; rfl
  | cons p ps ih =>
    rw [List.map_cons, Rx.datAll, K.hd, Option.bind_some, ih]
    rfl
theorem SK.sortZ : Rx.sortZ ((K.L ps).zip (ps.map K.dat)) = K.L (K.srt ps) := by
  unfold Rx.sortZ SK.srt SK.L
  have e : (ps.map K.enc).zip (ps.map K.dat) = ps.map fun s => (K.enc s, K.dat s) := by
    induction ps with
    | nil => rfl
    | cons s ss ih => simp only [List.map_cons, List.zip_cons_cons, ih]
  rw [e, ← List.map_mergeSort (r := K.le) (f := fun s => (K.enc s, K.dat s)) fun a _ b _ => ?_, List.map_map]
  · rfl
  · rfl
theorem SK.sortable : (allAlikeB (ps.map K.dat) && sortableB (ps.map K.dat) && (ps.map K.dat).all (fun d => Nat.ble d.depth 100)) = true := by
  rw [Bool.and_eq_true, Bool.and_eq_true]
  refine ⟨⟨?_, ?_⟩, ?_⟩
  · unfold allAlikeB
    rw [List.all_eq_true]
    intro d hd
    obtain ⟨a, _, rfl⟩ := List.mem_map.mp hd
    rw [List.all_eq_true]
    intro d hd
    obtain ⟨b, _, rfl⟩ := List.mem_map.mp hd
    exact K.alike a b
  · unfold sortableB
    rw [Bool.or_eq_true]
    left
    rw [List.all_eq_true]
    intro d hd
    obtain ⟨a, _, rfl⟩ := List.mem_map.mp hd
    exact K.tup a
  · rw [List.all_eq_true]
    intro d hd
    obtain ⟨a, _, rfl⟩ := List.mem_map.mp hd
    exact Nat.ble_eq_true_of_le (K.dep a)
theorem SK.sorted (hl : ps.length ≤ sizeLine) : (sortedA (.lst (K.L ps)) h).sat ke = ke.q (.lst (K.L (K.srt ps))) h := by
  have hs : Nat.ble (K.L ps).length sizeLine = true := Nat.ble_eq_true_of_le (by unfold SK.L; rw [List.length_map]; exact hl)
  have e : sortedA (.lst (K.L ps)) h = .ok (.lst (K.L (K.srt ps))) h := by
    unfold sortedA
    show need (Rx.datAll (K.L ps)) _ = _
    rw [SK.datAll]
    show chk _ _ = _
    rw [SK.sortable, hs, SK.sortZ]
    rfl
  rw [e]; rfl
theorem SK.L_len : (K.L ps).length = ps.length := by unfold SK.L; rw [List.length_map]
theorem SK.L_app : K.L ps ++ K.L qs = K.L (ps ++ qs) := by unfold SK.L; rw [List.map_append]
theorem SK.L_get {i : Nat} {x : A} (e : (K.L ps)[i]? = some x) : ∃ p, ps[i]? = some p ∧ x = K.enc p := by
  unfold SK.L at e
  rw [List.getElem?_map] at e
  cases h : ps[i]? with
  | none => rw [h] at e; cases e
  | some s => rw [h] at e; cases e; exact ⟨s, rfl, rfl⟩
end
theorem cps_inj {a b : Str} (e : a.cps.toList = b.cps.toList) : a = b := PySem.W.str_of_cps e
/-- a text and a number -/
def kSI : SK (Str × Int) where
  enc p := .tup [.str p.1, .int p.2]
  dat p := .tuple [.str p.1, .int p.2]
  hd p := rfl
  inj p q e := by
    have e : [Sum.inl (1 : Int), .inr p.1.cps.toList, .inl 1, .inl p.2, .inl 0] = [Sum.inl (1 : Int), .inr q.1.cps.toList, .inl 1, .inl q.2, .inl 0] := e
    simp only [List.cons.injEq, Sum.inr.injEq, Sum.inl.injEq, true_and, and_true] at e
    exact Prod.ext (cps_inj e.1) e.2
  alike p q := rfl
  tup p := rfl
  dep p := by simp [PyData.depth, PyData.depthAll]
/-- a text and two numbers -/
def kSII : SK (Str × Int × Int) where
  enc p := .tup [.str p.1, .int p.2.1, .int p.2.2]
  dat p := .tuple [.str p.1, .int p.2.1, .int p.2.2]
  hd p := rfl
  inj p q e := by
    have e : [Sum.inl (1 : Int), .inr p.1.cps.toList, .inl 1, .inl p.2.1, .inl 1, .inl p.2.2, .inl 0] = [Sum.inl (1 : Int), .inr q.1.cps.toList, .inl 1, .inl q.2.1, .inl 1, .inl q.2.2, .inl 0] := e
    simp only [List.cons.injEq, Sum.inr.injEq, Sum.inl.injEq, true_and, and_true] at e
    exact Prod.ext (cps_inj e.1) (Prod.ext e.2.1 e.2.2)
  alike p q := rfl
  tup p := rfl
  dep p := by simp [PyData.depth, PyData.depthAll]
end Rx
set_option Elab.async false
set_option linter.all false
set_option maxRecDepth 100000
set_option maxHeartbeats 4000000
/-! RxSl: the words by which RxDw's combinators are walked; lists that are compared with themselves. -/
namespace Rx
open PySem L2 Sx
section
variable {sl : Sl} {h h1 : Hs} {k : KS} {ke : KE A} {kl : KE (List A)} {x y z : A} {xs ys : List A} {c n i : Nat} {kvs : List (Key × A)} {kws : List (List Key × A)}
/-! ### a dict that is walked -/
def kUk (n : Nat) (kvs : List (Key × A)) (ke : KE A) : KE A := ⟨fun x h2 => h2[n]? = some (.fdk kvs) ∧ ke.q x (h2.set n (.dk kvs)), fun _ _ => False⟩
theorem q_uk : (kUk n kvs ke).q x h = (h[n]? = some (.fdk kvs) ∧ ke.q x (h.set n (.dk kvs))) := (rfl)
theorem lock_dk {f : FE} (e1 : sl[i]? = some (some (.ref n))) (e2 : h[n]? = some (.dk kvs)) (s : (f sl (h.set n (.fdk kvs))).sat (kUk n kvs ke)) : (eLock i f sl h).sat ke := by
  unfold eLock
  rw [e1]
  dsimp only
  rw [e2]
  show (unlk n _).sat ke
  cases hf : f sl (h.set n (.fdk kvs)) with
  | ok y h2 =>
    rw [hf] at s
    obtain ⟨s1, s2⟩ := s
    show (match h2[n]? with
    | some (.fdk kvs) => .ok y (h2.set n (.dk kvs))
    | some (.fdt kvs) => .ok y (h2.set n (.dt kvs))
    | _ => .bad : Out A).sat ke
    rw [s1]; exact s2
  | ex x h2 => rw [hf] at s; exact s.elim
  | bad => rw [hf] at s; exact s.elim
def kyQ (o : Option O) (x : A) (h : Hs) (kl : KE (List A)) : Prop := match o with
  | some (.fdk kvs) => kl.q (kvs.map fun kv => keyV kv.1) h
  | _ => nd (keysOf x h) fun xs => kl.q xs h
theorem kyQ_fk : kyQ (some (.fdk kvs)) x h kl = kl.q (kvs.map fun kv => keyV kv.1) h := (rfl)
def kKy (kl : KE (List A)) : KE A := ⟨fun x h => match x with | .ref n => kyQ h[n]? (.ref n) h kl | _ => False, kl.e⟩
theorem q_ky : (kKy kl).q (.ref n) h = kyQ h[n]? (.ref n) h kl := (rfl)
theorem e_ky {xc : Xc} : (kKy kl).e xc h = kl.e xc h := (rfl)
theorem w_keys {fa : FE} (s : (fa sl h).sat (kKy kl)) : (iKeysA fa sl h).sat kl := by
  refine Eq.mpr s_bind (Out.sat_mono s (fun x h1 q => ?_) fun _ _ z => z)
  cases x <;> try exact q.elim
  rename_i n
  have q : kyQ h1[n]? (.ref n) h1 kl := q
  show (need (keysOf (.ref n) h1) _).sat kl
  have key : ∀ o, h1[n]? = o → kyQ o (.ref n) h1 kl → (need (keysOf (.ref n) h1) fun xs => .ok xs h1).sat kl := by
    intro o e q
    have fin : nd (keysOf (.ref n) h1) (fun xs => kl.q xs h1) → (need (keysOf (.ref n) h1) fun xs => .ok xs h1).sat kl := by
      cases keysOf (.ref n) h1 <;> exact fun z => z
    cases o with
    | none => exact fin q
    | some o =>
      cases o with
      | fdk kvs =>
        have e2 : keysOf (.ref n) h1 = some (kvs.map fun kv => keyV kv.1) := by unfold keysOf; dsimp only; rw [e]
        rw [e2]; exact q
      | _ => exact fin q
  exact key _ rfl q
theorem s_ixGfk {mt : Mt} (e : h[n]? = some (.fdk kvs)) : (ixG mt (.ref n) y h).sat ke = ddQ (.k kvs) y h ke := by
  rw [s_ixG, instOf_ref, e]
  exact s_ixD.trans (by rw [ddOf_ref, e]; rfl)
/-! ### enumerate, cuts -/
def kEu (kl : KE (List A)) : KE A := ⟨fun x h => match x with | .lst xs => kl.q (enumL xs) h | _ => False, kl.e⟩
theorem q_eu : (kEu kl).q (.lst xs) h = kl.q (enumL xs) h := (rfl)
theorem s_iEnum {fa : FE} : (iEnumA fa sl h).sat kl = (fa sl h).sat (kEu kl) := by
  unfold iEnumA
  rw [s_bind]
  congr 1
  unfold kEu kW
  congr 1
  funext x h1
  cases x <;> rfl
theorem enumL_len : (enumL xs).length = xs.length := by unfold enumL; rw [List.length_mapIdx]
theorem s_slL {lo hi : Option Int} : (slA (.lst xs) lo hi h).sat ke = ke.q (.lst (cutA xs lo hi)) h := (rfl)
theorem cutA_sub {lo hi : Option Int} (e : x ∈ cutA xs lo hi) : x ∈ xs := by
  unfold cutA at e
  exact List.mem_of_mem_drop (List.mem_of_mem_take e)
def intL (is : List Int) : List A := is.map A.int
theorem intL_len {is : List Int} : (intL is).length = is.length := by unfold intL; rw [List.length_map]
theorem intL_get {is : List Int} {i : Nat} {x : A} (e : (intL is)[i]? = some x) : ∃ s, is[i]? = some s ∧ x = .int s := by
  unfold intL at e
  rw [List.getElem?_map] at e
  cases h : is[i]? with
  | none => rw [h] at e; cases e
  | some s => rw [h] at e; cases e; exact ⟨s, rfl, rfl⟩
theorem intL_app {is js : List Int} : intL is ++ intL js = intL (is ++ js) := by unfold intL; rw [List.map_append]
theorem inA_flat {r : Int} (e : xs.all flatA = true) : inA (.int r) (.lst xs) h = .ok (inF (.int r) xs) h := by
  show (match flatA (.int r) && xs.all flatA with
    | true => Out.ok (inF (.int r) xs) h
    | false => _) = _
  rw [e]
  rfl
theorem inA_cut {r : Int} {is : List Int} {lo hi : Option Int} : inA (.int r) (.lst (cutA (intL is) lo hi)) h = .ok (inF (.int r) (cutA (intL is) lo hi)) h := by
  refine inA_flat ?_
  rw [List.all_eq_true]
  intro x hx
  obtain ⟨i, _, rfl⟩ := List.mem_map.mp (cutA_sub hx)
  rfl
/-! ### dict comprehensions -/
def kDc (ke : KE A) : KE (List (Key × A)) := ⟨fun kvs h => ke.q (.ref h.length) (h ++ [.dk kvs]), ke.e⟩
theorem q_dc : (kDc ke).q kvs h = ke.q (.ref h.length) (h ++ [.dk kvs]) := (rfl)
theorem s_dcT {fi : FA} {own : List Nat} {g : FG} {t : FT} {fk fv : FE} : (eDcT fi own g t fk fv sl h).sat ke = (dcAll fi own g t fk fv sl h).sat (kDc ke) := s_bind
def kDf (fv : FE) (J : List (Key × A) → Hs → Prop) (acc : List (Key × A)) (sl : Sl) : KE A := ⟨fun y h => (fv sl h).sat ⟨fun z h => nd (keyA y) fun k => J (putA acc k z) h, fun _ _ => False⟩, fun _ _ => False⟩
def kDg (fk fv : FE) (J : List (Key × A) → Hs → Prop) (acc : List (Key × A)) (sl : Sl) : KE Bool := ⟨fun b h => Cond b ((fk sl h).sat (kDf fv J acc sl)) (J acc h), fun _ _ => False⟩
def kDh (t : FT) (fk fv : FE) (J : List (Key × A) → Hs → Prop) (acc : List (Key × A)) : KS := ⟨fun sl h => (t sl h).sat (kDg fk fv J acc sl), fun _ _ => False, fun _ _ => False, fun _ _ => False, fun _ _ _ => False⟩
def kDz (J : List (Key × A) → Hs → Prop) (acc : List (Key × A)) (y : A) : KE A := ⟨fun z h => nd (keyA y) fun k => J (putA acc k z) h, fun _ _ => False⟩
theorem q_dz {J : List (Key × A) → Hs → Prop} {acc : List (Key × A)} : (kDz J acc y).q z h = nd (keyA y) fun k => J (putA acc k z) h := (rfl)
theorem q_df {fv : FE} {J : List (Key × A) → Hs → Prop} {acc : List (Key × A)} : (kDf fv J acc sl).q y h = (fv sl h).sat (kDz J acc y) := (rfl)
theorem q_dg {fk fv : FE} {J : List (Key × A) → Hs → Prop} {acc : List (Key × A)} {b : Bool} : (kDg fk fv J acc sl).q b h = Cond b ((fk sl h).sat (kDf fv J acc sl)) (J acc h) := (rfl)
theorem n_dh {t : FT} {fk fv : FE} {J : List (Key × A) → Hs → Prop} {acc : List (Key × A)} : (kDh t fk fv J acc).n sl h = (t sl h).sat (kDg fk fv J acc sl) := (rfl)
theorem keyA_i {i : Int} : keyA (.int i) = some (.inl i) := (rfl)
theorem keyA_s {w : Str} : keyA (.str w) = some (.inr w) := (rfl)
theorem w_dcV {J : Nat → List (Key × A) → Hs → Prop} {g : FG} {t : FT} {fk fv : FE} {sl : Sl} {xs0 : List A} {kd : KE (List (Key × A))} (step : ∀ i x acc h, xs0[i]? = some x → J i acc h → (g x sl h).sat (kDh t fk fv (J (i + 1)) acc)) (fin : ∀ acc h, J xs0.length acc h → kd.q acc h) :
    ∀ (xs : List A) (i : Nat), xs0.drop i = xs → i ≤ xs0.length → ∀ acc h, J i acc h → (dcV g t fk fv sl xs acc h).sat kd
  | [], i, e, hi, acc, h, q => by
    have : i = xs0.length := by
      have := congrArg List.length e
      simp at this
      omega
    exact fin acc h (this ▸ q)
  | x :: xs, i, e, hi, acc, h, q => by
    have hl : i < xs0.length := by
      have := congrArg List.length e
      simp at this
      omega
    have ex : xs0[i]? = some x := by
      have := congrArg (fun l => l[0]?) e
      simpa [List.getElem?_drop] using this
    have et : xs0.drop (i + 1) = xs := by
      have := congrArg (List.drop 1) e
      rw [List.drop_drop] at this
      simpa using this
    have s := step i x acc h ex q
    unfold dcV
    cases hg : g x sl h with
    | nx sl1 h1 =>
      rw [hg] at s
      have s : (t sl1 h1).sat (kDg fk fv (J (i + 1)) acc sl1) := s
      dsimp only
      cases ht : t sl1 h1 with
      | ok b h2 =>
        rw [ht] at s
        cases b with
        | false => exact w_dcV step fin xs (i + 1) et (by omega) acc h2 (Cond.f s rfl)
        | true =>
          have s : (fk sl1 h2).sat (kDf fv (J (i + 1)) acc sl1) := Cond.t s rfl
          dsimp only
          cases hk : fk sl1 h2 with
          | ok y h3 =>
            rw [hk] at s
            have s : (fv sl1 h3).sat (kDz (J (i + 1)) acc y) := s
            dsimp only
            cases hv : fv sl1 h3 with
            | ok z h4 =>
              rw [hv] at s
              have s : nd (keyA y) fun k => J (i + 1) (putA acc k z) h4 := s
              dsimp only
              cases hy : keyA y with
              | none => rw [hy] at s; exact s.elim
              | some ky =>
                rw [hy] at s
                exact w_dcV step fin xs (i + 1) et (by omega) _ h4 s
            | ex x h4 => rw [hv] at s; exact s.elim
            | bad => rw [hv] at s; exact s.elim
          | ex x h3 => rw [hk] at s; exact s.elim
          | bad => rw [hk] at s; exact s.elim
      | ex x h3 => rw [ht] at s; exact s.elim
      | bad => rw [ht] at s; exact s.elim
    | ex x sl1 h1 => rw [hg] at s; exact s.elim
    | rt a h1 => rw [hg] at s; exact s.elim
    | bk a h1 => rw [hg] at s; exact s.elim
    | ct a h1 => rw [hg] at s; exact s.elim
    | bad => rw [hg] at s; exact s.elim
theorem w_dc {fi : FA} {own : List Nat} {g : FG} {t : FT} {fk fv : FE} {kd : KE (List (Key × A))} (J : List A → Nat → List (Key × A) → Hs → Prop) (s : (fi sl h).sat ⟨fun xs h => xs.length ≤ sizeLine ∧ J xs 0 [] h ∧ (∀ i x acc h, xs[i]? = some x → J xs i acc h → (g x (wipeA sl own) h).sat (kDh t fk fv (J xs (i + 1)) acc)) ∧ (∀ acc h, J xs xs.length acc h → kd.q acc h), kd.e⟩) : (dcAll fi own g t fk fv sl h).sat kd := by
  refine Eq.mpr s_bind (Out.sat_mono s (fun xs h q => ?_) fun _ _ z => z)
  exact Eq.mpr s_chk ⟨Nat.ble_eq_true_of_le q.1, w_dcV q.2.2.1 q.2.2.2 xs 0 rfl (Nat.zero_le _) [] h q.2.1⟩
/-! ### lists compared with themselves -/
/-- what may be compared with itself -/
def Flat (n : Nat) (d : PyData) : Prop := PyData.canLay0 d = true ∧ d.depth ≤ n ∧ PyData.eqv d d = true
theorem Flat.mono {n m : Nat} {d : PyData} (f : Flat n d) (l : n ≤ m) : Flat m d := ⟨f.1, Nat.le_trans f.2.1 l, f.2.2⟩
theorem flat_int {i : Int} : Flat 0 (.int i) := ⟨by simp [PyData.canLay0], by simp [PyData.depth], by simp [PyData.eqv]⟩
theorem flat_bool {b : Bool} : Flat 0 (.bool b) := ⟨by simp [PyData.canLay0], by simp [PyData.depth], by simp [PyData.eqv]⟩
theorem flat_str {w : Str} (ok : PyData.strOk w = true) : Flat 0 (.str w) := ⟨by simp [PyData.canLay0, ok], by simp [PyData.depth], by simp [PyData.eqv]⟩
theorem flat_all {n : Nat} : ∀ {ds : List PyData}, (∀ d ∈ ds, Flat n d) → PyData.canLayAll0 ds = true ∧ PyData.depthAll ds ≤ n + 1 ∧ PyData.eqvAll ds ds = true
  | [], _ => by simp [PyData.canLayAll0, PyData.depthAll, PyData.eqvAll]
  | d :: ds, k => by
    obtain ⟨h1, h2, h3⟩ := flat_all (ds := ds) fun x hx => k x (List.mem_cons_of_mem _ hx)
    obtain ⟨g1, g2, g3⟩ := k d List.mem_cons_self
    refine ⟨by simp [PyData.canLayAll0, h1, g1], ?_, by simp [PyData.eqvAll, h3, g3]⟩
    simp only [PyData.depthAll]
    omega
theorem flat_tup {n : Nat} {ds : List PyData} (k : ∀ d ∈ ds, Flat n d) : Flat (n + 2) (.tuple ds) := by
  obtain ⟨h1, h2, h3⟩ := flat_all k
  exact ⟨by simp [PyData.canLay0, h1], by simp only [PyData.depth]; omega, by simp [PyData.eqv, h3]⟩
theorem flat_lst {n : Nat} {ds : List PyData} (k : ∀ d ∈ ds, Flat n d) : Flat (n + 2) (.list ds) := by
  obtain ⟨h1, h2, h3⟩ := flat_all k
  exact ⟨by simp [PyData.canLay0, h1], by simp only [PyData.depth]; omega, by simp [PyData.eqv, h3]⟩
theorem flat_sh {n : Nat} {d : PyData} (f : Flat n d) (l : n ≤ 50) : SeqAt.shaped d = true := by
  unfold SeqAt.shaped
  rw [f.1, Bool.true_and]
  exact decide_eq_true (Nat.le_trans f.2.1 (by omega))
theorem datAll_map {P : Type} {f : P → A} {g : P → PyData} (e : ∀ p, Rx.dat (f p) = some (g p)) : ∀ {ps : List P}, Rx.datAll (ps.map f) = some (ps.map g)
  | [] => by unfold Rx.datAll; rfl
  | p :: ps => by rw [List.map_cons, Rx.datAll, e, Option.bind_some, datAll_map e]; rfl
theorem ne_map {P : Type} {f : P → A} {ps : List P} (g : P → PyData) (e : ∀ p, Rx.dat (f p) = some (g p)) (k : ∀ p ∈ ps, Flat 10 (g p)) : (aNe (.lst (ps.map f)) (.lst (ps.map f)) h).sat ke = ke.q (.bl false) h := by
  have z : Flat 12 (.list (ps.map g)) := flat_lst fun d hd => by obtain ⟨p, hp, rfl⟩ := List.mem_map.mp hd; exact k p hp
  refine ne_self (d := .list (ps.map g)) ?_ (flat_sh z (by decide)) z.2.2
  show (datAll (ps.map f)).map PyData.list = _
  rw [datAll_map e]; rfl
theorem ne_flat {d : PyData} (e : datH x h = some d) (f : Flat 20 d) : (aNe x x h).sat ke = ke.q (.bl false) h := ne_self e (flat_sh f (by decide)) f.2.2
end
/-! ### maps -/
section
variable {κ κ' ν : Type} [DecidableEq κ] [DecidableEq κ'] {kf : κ → κ'} {vf : ν → A}
theorem putM_new {m : List (κ × ν)} {w : κ} {v : ν} (e : hasM m w = false) : putM m w v = m ++ [(w, v)] := by
  unfold putM
  rw [put_any, e, if_neg (by decide)]
theorem drop_none {m : List (κ × ν)} {w : κ} (hh : hasM m w = false) : dropM m w = m := by
  unfold dropM
  rw [List.filter_eq_self]
  intro p hp
  refine decide_eq_true fun z => ?_
  have : hasM m w = true := by unfold hasM; rw [List.contains_iff_mem]; exact List.mem_map.mpr ⟨p, hp, z⟩
  rw [hh] at this; cases this
theorem get_mem {m : List (κ × ν)} {w : κ} {v : ν} (nd : (m.map (·.1)).Nodup) (h : (w, v) ∈ m) : getM m w = some v := by
  induction m with
  | nil => cases h
  | cons p m ih =>
    rw [List.map_cons, List.nodup_cons] at nd
    unfold getM
    rw [List.find?_cons]
    rcases List.mem_cons.mp h with h | h
    · rw [← h]; simp
    · have : ¬ p.1 = w := fun z => nd.1 (by rw [z]; exact List.mem_map.mpr ⟨_, h, rfl⟩)
      simp only [this, decide_false]
      exact ih nd.2 h
end
end Rx
set_option Elab.async false
set_option linter.all false
set_option maxRecDepth 100000
set_option maxHeartbeats 4000000
/-! RxFs: f-strings. -/
namespace Rx
open PySem L2 Sx
section
variable {G : Gc} {L : Wh} {X : Cx} {σ : St} {H : Hp} {ρ : Rho} {sl : Sl} {h : Hs} {Q : VK} {e v1 v2 : Expr} {es : List Expr} {fa : FE} {pos p : Pos}
/-- {x}: a text, an int -/
def fmtA (fa : FE) : FE := fun sl h => (fa sl h).bind fun x h1 => match x with
  | .str z => chk (Nat.ble z.length sizeLine) (.ok (.str z) h1)
  | .int i => chk (Nat.blt i.natAbs.log2 1920) (.ok (.str (toString i : String)) h1)
  | _ => .bad
theorem de_fmt (ha : DE G L e fa) : DE G L (.FormattedValue e (-1) none pos) (fmtA fa) := by
  refine ⟨fun X xr σ H ρ sl h sr hh Q q => ?_⟩
  refine .of (pe_fmt pe) (DE.bind ha xr sr hh q fun x h1 v H1 ρ1 e1 r1 ra s1 q1 => ?_)
  cases ra <;> try exact q1.elim
  · obtain ⟨k, q1⟩ := chk_ok q1
    exact .inr ⟨_, rfl, Nat.le_of_ble_eq_true k, q1 H1 ρ1 .refl r1 _ .str⟩
  · obtain ⟨k, q1⟩ := chk_ok q1
    exact .inl ⟨_, rfl, Nat.le_of_ble_eq_true k, q1 H1 ρ1 .refl r1 _ .str⟩
/-- {x!r} of data -/
def fmtR (fa : FE) : FE := fun sl h => (fa sl h).bind reprD
theorem de_fmtR (ha : DE G L e fa) : DE G L (.FormattedValue e 114 none pos) (fmtR fa) := by
  refine ⟨fun X xr σ H ρ sl h sr hr0 Q q => ⟨fun pins s I0 => ?_⟩⟩
  have z : E X e σ H fun v H1 => ∃ x h1 ρ1, HR G H1 ρ1 h1 ∧ RA G H1 ρ1 x v ∧ Po G L.W σ H1 ρ1 (RQ G Q) (reprD x h1) := DE.bind ha xr sr hr0 q fun x h1 v H1 ρ1 e1 r1 ra s1 q1 => ⟨x, h1, ρ1, r1, ra, q1⟩
  refine wpAny_FormattedValue_repr (thn (z.run pins s I0) fun u s1 hv => ?_)
  obtain ⟨v, H1, I, r1, x, h1, ρ1, hr, rx, q⟩ := hv
  unfold reprD at q
  obtain ⟨d, hd, q⟩ := need_ok q
  obtain ⟨k, q⟩ := chk_ok q
  have dp : Dp X.K H1 v d := by rw [xr.K]; exact datH_ok hr rx hd
  have un := xr.un
  have lim : d.shown.length ≤ sizeLine → ∀ {h' : Heap} {tk t : Nat}, (∀ b o, s1.heap.get? b = some o → h'.get? b = some o) → wpAny (model X.prog X.w) X.A (formatField (.str d.shown t) Str.empty) (EP X pins σ Q) X.xe { s1 with heap := h', toks := tk } := fun hz {h' tk t} kp =>
    wpAny_formatField_str ⟨.str d.shown, H1, I.kept kp, ⟨_, rfl⟩, q H1 ρ1 .refl hr _ .str⟩ ⟨.str d.shown, H1, I.kept kp, ⟨_, rfl⟩, q H1 ρ1 .refl hr _ .str⟩ hz
  have big : ∀ {a : Addr}, v = .ref a → (∀ i, d ≠ .int i) → (∀ z, d ≠ .str z) → wpAny (model X.prog X.w) X.A (pyReprObj u) (fun r s2 => wpAny (model X.prog X.w) X.A (formatField r Str.empty) (EP X pins σ Q) X.xe s2) X.xe s1 := by
    rintro a rfl ni ns
    have k' : (d.showable && !d.hasDict && Nat.ble d.depth 100 && Nat.ble d.shown.length sizeLine) = true := by
      revert k ni ns
      unfold shOk
      cases d <;> intro k ni ns <;> first | exact k | exact absurd rfl (ni _) | exact absurd rfl (ns _)
    simp only [Bool.and_eq_true, Bool.not_eq_true'] at k'
    obtain ⟨⟨⟨k1, k2⟩, k3⟩, k4⟩ := k'
    have k3 := Nat.le_of_ble_eq_true k3
    obtain ⟨as, rd⟩ := Dp.reads I d _ u dp r1
    cases r1
    exact PySem.pyReprObj_of_reads rd k1 (fun z => by rw [k2] at z; cases z) xr.gd (by omega) (fun _ _ e => e) (fun h' t tk kp => lim (Nat.le_of_ble_eq_true k4) kp) (Nat.le_of_ble_eq_true k4)
  cases dp with
  | non =>
    cases r1
    exact pyReprObj_none (lim (by decide +kernel) fun _ _ e => e)
  | bl b =>
    cases r1
    exact pyReprObj_bool (lim (by cases b <;> decide +kernel) fun _ _ e => e)
  | int i =>
    obtain ⟨t, rfl⟩ := r1
    have k := of_decide_eq_true (show decide (i.natAbs.log2 < 1920) = true from k)
    exact pyReprObj_int k (lim (int_text_fits k) fun _ _ e => e)
  | str z =>
    obtain ⟨t, rfl⟩ := r1
    exact pyReprObj_str (lim (Nat.le_of_ble_eq_true k) fun _ _ e => e) (Nat.le_of_ble_eq_true k)
  | lst _ _ => exact big rfl (fun _ z => nomatch z) fun _ z => nomatch z
  | tup _ _ => exact big rfl (fun _ z => nomatch z) fun _ z => nomatch z
/-- the parts, one behind another -/
abbrev FJ := Str → Sl → Hs → Out Str
def jNil : FJ := fun acc _ h => .ok acc h
def jCons (fa : FE) (fr : FJ) : FJ := fun acc sl h => (fa sl h).bind fun x h1 => match x with
  | .str y => chk (Nat.ble (acc ++ y).length sizeLine) (fr (acc ++ y) sl h1)
  | _ => .bad
structure DJ (G : Gc) (L : Wh) (es : List Expr) (f : FJ) : Prop where
  run : ∀ X, Xr G X L → ∃ ts, PJ X es ts ∧ ∀ acc σ H ρ sl h, SR G H ρ sl σ → HR G H ρ h → ∀ Q : Str → Hp → Prop, Po G L.W σ H ρ (fun out H' ρ' => Q out H') (f acc sl h) → tJs ts acc σ H Q
theorem dj_nil : DJ G L [] jNil := ⟨fun X xr => ⟨[], .nil, fun acc σ H ρ sl h sr hh Q q => q H ρ .refl hh⟩⟩
theorem dj_cons {fr : FJ} (ha : DE G L e fa) (hr : DJ G L es fr) : DJ G L (e :: es) (jCons fa fr) := by
  refine ⟨fun X xr => ?_⟩
  obtain ⟨ts, hp, hq⟩ := hr.run X xr
  refine ⟨_, .cons (pe (e := e)) hp, fun acc σ H ρ sl h sr hh Q q => ?_⟩
  refine DE.bind ha xr sr hh q fun x h1 v H1 ρ1 e1 r1 ra s1 q1 => ?_
  cases ra <;> try exact q1.elim
  obtain ⟨k, q1⟩ := chk_ok q1
  exact ⟨_, rfl, Nat.le_of_ble_eq_true k, hq _ σ H1 ρ1 sl h1 s1 r1 Q q1⟩
def eJs (fj : FJ) : FE := fun sl h => (fj Str.empty sl h).bind fun out h1 => .ok (.str out) h1
theorem de_joined {rest : List Expr} {fj : FJ} (hj : DJ G L (v1 :: v2 :: rest) fj) : DE G L (.JoinedStr (v1 :: v2 :: rest) pos) (eJs fj) := by
  refine ⟨fun X xr σ H ρ sl h sr hh Q q => ?_⟩
  obtain ⟨ts, hp, hq⟩ := hj.run X xr
  refine .of (pe_joined hp) (hq _ σ H ρ sl h sr hh _ ?_)
  unfold eJs at q
  cases hm : fj Str.empty sl h with
  | ok out h1 =>
    rw [hm] at q
    exact fun H1 ρ1 e1 r1 => q H1 ρ1 e1 r1 _ .str
  | ex x h1 => rw [hm] at q; exact q
  | bad => rw [hm] at q; exact q
theorem de_joined1 (ha : DE G L e fa) : DE G L (.JoinedStr [e] pos) fa := ⟨fun X xr σ H ρ sl h sr hh Q q => .of (pe_joined1 pe) (ha.run X xr σ H ρ sl h sr hh Q q)⟩
/-- repr(x), x data or of a class with an own __repr__ -/
def reprG (mt : Mt) (x : A) (h : Hs) : Out A := match instOf x h with
  | some (c, _) => need (mt c) fun f => (f [x] h).bind isSt
  | none => reprD x h
theorem ok_reprG {j : Nat} {mt : Mt} (O : MtOk G "__repr__" j mt) (hj : j + 1 ≤ L.k) (hc : L.cm = true := by rfl) : OpK G L (.builtin "repr") (f1 (reprG mt)) := by
  refine ⟨fun X xr σ H ρ h xs vs hr rs Q q => ?_⟩
  obtain ⟨x, v, rfl, rfl, rx, q⟩ := ok_one rs q
  unfold reprG at q
  cases hi : instOf x h with
  | none => rw [hi] at q; exact ok_reprD.run X xr σ H ρ h [x] [v] hr rs Q q
  | some pr =>
    obtain ⟨c, xs⟩ := pr
    rw [hi] at q
    obtain ⟨f, e, q⟩ := need_ok q
    obtain ⟨n, M⟩ := O c f e
    obtain ⟨ad, dx, vs, rfl, e1, _⟩ := inst_ok hr rx hi
    have q' : Po G L.W σ H ρ (RQ G fun w H' => ∃ n, w = .str n ∧ Q (.str n) H') (f [x] h) := by
      revert q
      cases f [x] h with
      | ok a h1 =>
        cases a <;> try exact fun q => q.elim
        exact fun q H' ρ' e r v ra => by cases ra; exact ⟨_, rfl, q H' ρ' e r _ .str⟩
      | ex x h1 => exact id
      | bad => exact id
    refine ⟨fun pins s us I r => ?_⟩
    obtain ⟨u, rfl, r1⟩ := vals1 r
    cases r1
    obtain ⟨od, J⟩ := inst_at I e1
    obtain ⟨fa, hm, run⟩ := run_mtA (us := [.ref ad]) xr ((xr.room hc).mono hj).in1 rfl rfl M I hr (.cons rx .nil) (.cons rfl .nil) q'
    obtain ⟨m, F⟩ := I.fr
    exact PySem.W.repr_K (by have := xr.un; show X.A.units + 1 < _; omega) F I.ok.mod.kin J hm.at_ hm.fn (wpAny_mono run (fun _ _ z => ep_str z) fun _ _ z => z)
end
/-! ### the pure walk -/
section
variable {sl : Sl} {h : Hs} {ke : KE A} {fa : FE} {x : A} {w : Str} {i : Int} {acc : Str}
def kFm (ke : KE A) : KE A := ⟨fun x h => match x with
  | .str z => Nat.ble z.length sizeLine = true ∧ ke.q (.str z) h
  | .int i => Nat.blt i.natAbs.log2 1920 = true ∧ ke.q (.str (toString i : String)) h
  | _ => False, ke.e⟩
theorem q_fmS : (kFm ke).q (.str w) h = (Nat.ble w.length sizeLine = true ∧ ke.q (.str w) h) := (rfl)
theorem q_fmI : (kFm ke).q (.int i) h = (Nat.blt i.natAbs.log2 1920 = true ∧ ke.q (.str (toString i : String)) h) := (rfl)
theorem e_fm {xc : Xc} : (kFm ke).e xc h = ke.e xc h := (rfl)
theorem s_fmt : (fmtA fa sl h).sat ke = (fa sl h).sat (kFm ke) := by
  unfold fmtA
  rw [s_bind]
  congr 1
  unfold kFm kW
  congr 1
  funext x h1
  cases x <;> first | rfl | exact s_chk
def rpG (o : Option (Nat × List A)) (mt : Mt) (x : A) (h : Hs) (ke : KE A) : Prop := match o with
  | some p => nd (mt p.1) fun f => (f [x] h).sat (kW isSt ke)
  | none => (reprD x h).sat ke
theorem rpG_s {c : Nat} {xs : List A} {mt : Mt} : rpG (some (c, xs)) mt x h ke = nd (mt c) fun f => (f [x] h).sat (kW isSt ke) := (rfl)
theorem rpG_n {mt : Mt} : rpG none mt x h ke = (reprD x h).sat ke := (rfl)
theorem s_reprG {mt : Mt} : (reprG mt x h).sat ke = rpG (instOf x h) mt x h ke := by
  have key : ∀ o, instOf x h = o → (reprG mt x h).sat ke = rpG o mt x h ke := by
    intro o e
    unfold reprG
    rw [e]
    cases o with
    | none => rfl
    | some p =>
      dsimp only
      rw [s_need]
      show nd (mt p.1) _ = nd (mt p.1) _
      congr 1
      funext f
      exact s_bind
  exact key _ rfl
theorem s_fmtR : (fmtR fa sl h).sat ke = (fa sl h).sat (kW reprD ke) := s_bind
def kJs (fr : FJ) (acc : Str) (sl : Sl) (kj : KE Str) : KE A := ⟨fun x h => match x with
  | .str y => Nat.ble (acc ++ y).length sizeLine = true ∧ (fr (acc ++ y) sl h).sat kj
  | _ => False, kj.e⟩
theorem q_js {fr : FJ} {kj : KE Str} : (kJs fr acc sl kj).q (.str w) h = (Nat.ble (acc ++ w).length sizeLine = true ∧ (fr (acc ++ w) sl h).sat kj) := (rfl)
theorem e_js {fr : FJ} {kj : KE Str} {xc : Xc} : (kJs fr acc sl kj).e xc h = kj.e xc h := (rfl)
theorem s_jNil {kj : KE Str} : (jNil acc sl h).sat kj = kj.q acc h := (rfl)
theorem s_jCons {fr : FJ} {kj : KE Str} : (jCons fa fr acc sl h).sat kj = (fa sl h).sat (kJs fr acc sl kj) := by
  unfold jCons
  rw [s_bind]
  congr 1
  unfold kJs kW
  congr 1
  funext x h1
  cases x <;> first | rfl | exact s_chk
def kJo (ke : KE A) : KE Str := ⟨fun out h => ke.q (.str out) h, ke.e⟩
theorem q_jo : (kJo ke).q w h = ke.q (.str w) h := (rfl)
theorem e_jo {xc : Xc} : (kJo ke).e xc h = ke.e xc h := (rfl)
theorem s_joined {fj : FJ} : (eJs fj sl h).sat ke = (fj Str.empty sl h).sat (kJo ke) := s_bind
end
end Rx
set_option Elab.async false
set_option linter.all false
set_option maxRecDepth 100000
set_option maxHeartbeats 4000000
/-! RxDp: dict(a list of pairs), the keys tuples. -/
namespace L2
open PySem PySem.Spec PyProof.Rows
/-- the pairs at Ts -/
abbrev PrsAt (H : Hp) : List (List Key × V) → List Addr → Prop := Paired fun p T => ∃ b, H T = some (.tup [.ref b, p.2]) ∧ H b = some (.tup (p.1.map kV))
def putAll (acc kvs : List (List Key × V)) : List (List Key × V) := kvs.foldl (fun acc p => putK acc p.1 p.2) acc
theorem KT.all {H : Hp} {kvs : List (List Key × V)} {ps : List (List Key × Addr × Value)} (r : KT H kvs ps) : ∀ {acc : List (List Key × V)} {xs : List (List Key × Addr × Value)}, KT H acc xs → KT H (putAll acc kvs) (storedAllH xs ps) := by
  induction r with
  | nil => exact fun z => z
  | @cons p q ps qs hq t ih =>
    intro acc xs z
    show KT H (putAll (putK acc p.1 p.2) ps) (storedAllH (storedH xs q.1 q.2.1 q.2.2) qs)
    refine ih ?_
    rw [← hq.1]
    exact z.put p.1 hq.2.1 hq.2.2
theorem PrsAt.ps {P : Program} {w : World} {H : Hp} {h : Heap} (ok : HOk P w H h) {kvs : List (List Key × V)} {Ts : List Addr} (r : PrsAt H kvs Ts) :
    ∃ ps : List (List Key × Addr × Value), KT H kvs ps ∧ Paired (fun (x : List Key × Addr × Value) T => PairAt h T (.ref x.2.1) x.2.2) ps Ts := by
  induction r with
  | nil => exact ⟨[], .nil, .nil⟩
  | @cons p T ps Ts hq t ih =>
    obtain ⟨qs, h1, h2⟩ := ih
    obtain ⟨b, e1, e2⟩ := hq
    obtain ⟨_, its, rv, o, g1, g2, n, g3⟩ := (show ObjOk P w H h T (.tup [.ref b, p.2]) from ok T _ e1)
    cases rv with
    | cons rv1 rv2 =>
      cases rv2 with
      | cons rv2 rv3 =>
        cases rv3
        cases rv1
        rename_i u
        exact ⟨(p.1, b, u) :: qs, .cons ⟨rfl, e2, rv2⟩ h1, .cons (.inl ⟨o, g1, g2, n, g3⟩) h2⟩
section
variable {X : Cx}
theorem call_dict_T (hc : X.calm = true) (hu : X.A.units + 3 < cLine) : CallR X (.type "dict") (fun xs H Q => ∃ (a : Addr) (Ts : List Addr) (kvs : List (List Key × V)), xs = [V.ref a] ∧ H a = some (.lst (Ts.map V.ref)) ∧ PrsAt H kvs Ts ∧ ∀ p, H p = none → Q (.ref p) (upd H p (.dT (putAll [] kvs)))) := by
  intro pins s σ H xs us Q I r h
  obtain ⟨a, Ts, kvs, rfl, hl, hp, q⟩ := h
  obtain ⟨u, rfl, rx⟩ := r.one
  cases rx
  obtain ⟨sz, its, n, rv, ho⟩ := (show ObjOk X.prog X.w H s.heap a (.lst (Ts.map V.ref)) from I.hok a _ hl)
  obtain ⟨ps, kt, pr⟩ := hp.ps I.hok
  have eits : its = Ts.map Value.ref := by
    have : ∀ (Ts : List Addr) {its : List Value}, Vals (Ts.map V.ref) its → its = Ts.map Value.ref := by
      intro Ts
      induction Ts with
      | nil => intro its r; cases r; rfl
      | cons T Ts ih =>
        intro its r
        cases r with
        | cons r1 r2 => cases r1; rw [ih r2]; rfl
    exact this Ts rv
  have l1 : ps.length = Ts.length := Paired.length pr
  have l2 : kvs.length = ps.length := Paired.length kt
  have l3 : Ts.length ≤ sizeLine := by rw [List.length_map] at sz; exact sz
  have at_ : ∀ (i : Nat) x T, ps[i]? = some x → Ts[i]? = some T → PairAt s.heap T (.ref x.2.1) x.2.2 := by
    have gen : ∀ {ps : List (List Key × Addr × Value)} {Ts : List Addr}, Paired (fun (x : List Key × Addr × Value) T => PairAt s.heap T (.ref x.2.1) x.2.2) ps Ts → ∀ (i : Nat) x T, ps[i]? = some x → Ts[i]? = some T → PairAt s.heap T (.ref x.2.1) x.2.2 := by
      intro ps Ts r
      induction r with
      | nil => intro i x T e; cases e
      | cons hq t ih =>
        intro i x T e1 e2
        cases i with
        | zero => cases e1; cases e2; exact hq
        | succ i => exact ih i x T e1 e2
    exact gen pr
  have ok : (fun h => PlainSeq "list" h a its.toArray ∧ PairItems h its.toArray (fun j => (Ts[j]?).getD 0) (ps.map fun x => (Value.ref x.2.1, x.2.2))) s.heap := by
    refine ⟨⟨_, n, ho, rfl, rfl, rfl⟩, by rw [List.size_toArray, eits, List.length_map, List.length_map, l1], fun j k v hj => ?_⟩
    rw [List.getElem?_map] at hj
    cases hx : ps[j]? with
    | none => rw [hx] at hj; cases hj
    | some x =>
      rw [hx] at hj
      cases hj
      have hlt : j < Ts.length := by rw [← l1]; exact (List.getElem?_eq_some_iff.mp hx).1
      have hT : Ts[j]? = some Ts[j] := List.getElem?_eq_getElem hlt
      have hG : (fun j => (Ts[j]?).getD 0) j = Ts[j] := by show (Ts[j]?).getD 0 = _; rw [hT]; rfl
      rw [hG]
      refine ⟨?_, at_ j x _ hx hT⟩
      rw [← Array.getElem?_toList, eits, List.getElem?_map, hT]; rfl
  refine call_dict_pairsH (knd := tupleKind (mixKind X.prog X.w)) (ps := ps) (PairArg.list a its.toArray (fun j => (Ts[j]?).getD 0) (ps.map fun x => (Value.ref x.2.1, x.2.2))) (I.ok.hd hc) (tupleKind_room_in1 (A := X.A.in1) (by show X.A.units + 1 + 1 < cLine; omega)) ok ⟨by rw [List.length_map], fun i key v e => ?_⟩ ?_ (by rw [List.length_map, l1]; exact l3) fun h' tk hd kp => ?_
  · have e : (ps.map fun x => (Value.ref x.2.1, x.2.2))[i]? = some (key, v) := e
    rw [List.getElem?_map] at e
    cases hx : ps[i]? with
    | none => rw [hx] at e; cases e
    | some x => rw [hx] at e; cases e; exact ⟨x.1, x.2.1, rfl, rfl⟩
  · intro h' k x hx
    have all : ∀ {l : List (List Key × V)} {m : List (List Key × Addr × Value)}, KT H l m → ∀ x ∈ m, H x.2.1 = some (.tup (x.1.map kV)) := by
      intro l m q
      induction q with
      | nil => intro x hx; exact nomatch hx
      | @cons p q ps qs hq t ih =>
        intro x hx
        rcases List.mem_cons.mp hx with e | hx
        · subst e; rw [← hq.1]; exact hq.2.1
        · exact ih x hx
    obtain ⟨o, items, n, g1, g2⟩ := key_of I.hok (all kt x hx)
    exact ⟨o, items, n, k _ _ (Nat.ne_of_lt (Heap.lt_size g1)) (fun z => nomatch z) g1, g2⟩
  · have fr := I.hok.fresh (Nat.le_refl s.heap.objs.size)
    obtain ⟨o, es, ep, h1, h2, h3, h4, _, h5⟩ := hd
    have kt2 : KT H (putAll [] kvs) (storedAllH [] ps) := kt.all .nil
    refine ⟨.ref s.heap.objs.size, _, I.laid (t' := tk) (o := .dT (putAll [] kvs)) (fun b o e => kp b o (fun z => nomatch z) e) (Nat.le_refl _) ?_, rfl, q _ fr⟩
    refine ⟨?_, ?_, storedAllH [] ps, kt2.keeps fun b ys e => ?_, o, es, ep, h1, h2, h3, h4, h5⟩
    · have z := storedAllH_length ps []
      have z2 : (putAll [] kvs).length = (storedAllH [] ps).length := Paired.length kt2
      rw [z2]
      simp only [List.length_nil, Nat.zero_add] at z
      omega
    · exact beq_eq_false_iff_ne.mpr (Nat.ne_of_gt I.big)
    · rw [upd_ne (ne_of_none e fr)]; exact e
end
end L2
namespace Rx
open PySem L2 Sx
section
variable {G : Gc} {L : Wh} {X : Cx} {σ : St} {H : Hp} {ρ : Rho} {sl : Sl} {h : Hs} {Q : VK}
def pairT : A → Option (List Key × A)
  | .tup [.tup ks, y] => (keysA ks).map fun k => (k, y)
  | _ => none
def pairsT : List A → Option (List (List Key × A))
  | [] => some []
  | x :: xs => (pairT x).bind fun p => (pairsT xs).map fun ps => p :: ps
/-- dict(pairs), the keys tuples -/
def dictP (x : A) (h : Hs) : Out A := match x with
  | .lst ps => need (pairsT ps) fun kvs => .ok (.dt (kvs.foldl (fun acc p => putA acc p.1 p.2) [])) h
  | _ => .bad
theorem pairT_ok {x : A} {v : V} {p : List Key × A} (r : RA G H ρ x v) (e : pairT x = some p) : ∃ (T b : Addr) (u : V), v = .ref T ∧ H T = some (.tup [.ref b, u]) ∧ H b = some (.tup (p.1.map L2.kV)) ∧ RA G H ρ p.2 u := by
  unfold pairT at e
  split at e
  · rename_i ks y
    cases hk : keysA ks with
    | none => rw [hk] at e; cases e
    | some k =>
      rw [hk] at e
      cases e
      cases r with
      | @tup _ T vs hT l rr =>
        have rs : RAs G H ρ [.tup ks, y] vs := ⟨l, rr⟩
        match vs, rs, hT with
        | [v1, u], rs, hT =>
          have r1 : RA G H ρ (.tup ks) v1 := rs.2 0 _ _ rfl rfl
          have r2 : RA G H ρ y u := rs.2 1 _ _ rfl rfl
          cases r1 with
          | @tup _ b us hb l2 rr2 =>
            refine ⟨T, b, u, rfl, hT, ?_, r2⟩
            rw [hb, keysA_ok ⟨l2, rr2⟩ hk]
        | [], rs, _ => exact absurd rs.1 (by simp)
        | [_], rs, _ => exact absurd rs.1 (by simp)
        | _ :: _ :: _ :: _, rs, _ => exact absurd rs.1 (by simp)
  · cases e
theorem pairsT_ok : ∀ {xs : List A} {vs : List V} {ps : List (List Key × A)}, RAs G H ρ xs vs → pairsT xs = some ps → ∃ (Ts : List Addr) (kvs : List (List Key × V)), vs = Ts.map V.ref ∧ PrsAt H kvs Ts ∧ RKs G H ρ ps kvs
  | [], vs, ps, r, e => by
    cases e
    have : vs = [] := List.length_eq_zero_iff.mp r.1.symm
    subst this
    exact ⟨[], [], rfl, .nil, .nil⟩
  | x :: xs, vs, ps, r, e => by
    unfold pairsT at e
    cases hp : pairT x with
    | none => rw [hp] at e; cases e
    | some p =>
      rw [hp] at e
      cases hps : pairsT xs with
      | none => rw [hps] at e; cases e
      | some ps' =>
        rw [hps] at e
        cases e
        cases vs with
        | nil => exact absurd r.1 (by simp)
        | cons v vs =>
          obtain ⟨T, b, u, rfl, e1, e2, e3⟩ := pairT_ok (r.2 0 _ _ rfl rfl) hp
          have r' : RAs G H ρ xs vs := ⟨by simpa using r.1, fun i x v h1 h2 => r.2 (i + 1) x v h1 h2⟩
          obtain ⟨Ts, kvs, rfl, g1, g2⟩ := pairsT_ok r' hps
          refine ⟨T :: Ts, (p.1, u) :: kvs, rfl, .cons ⟨b, e1, e2⟩ g1, ?_⟩
          refine ⟨by rw [List.map_cons, List.map_cons, g2.1], fun i k x k' v h1 h2 => ?_⟩
          cases i with
          | zero => cases h1; cases h2; exact e3
          | succ i => exact g2.2 i k x k' v h1 h2
theorem RKs.putAll : ∀ {ps : List (List Key × A)} {kvs : List (List Key × V)} {acc : List (List Key × A)} {acc' : List (List Key × V)}, RKs G H ρ ps kvs → RKs G H ρ acc acc' → RKs G H ρ (ps.foldl (fun acc p => putA acc p.1 p.2) acc) (L2.putAll acc' kvs)
  | [], kvs, acc, acc', r, z => by
    have l := congrArg List.length r.1
    rw [List.length_map, List.length_map] at l
    have : kvs = [] := List.length_eq_zero_iff.mp l.symm
    subst this
    exact z
  | (k, x) :: ps, kvs, acc, acc', r, z => by
    cases kvs with
    | nil =>
      have l := congrArg List.length r.1
      rw [List.length_map, List.length_map] at l
      simp at l
    | cons q kvs =>
      obtain ⟨k', v⟩ := q
      have e := r.1
      rw [List.map_cons, List.map_cons, List.cons.injEq] at e
      have ek : k = k' := e.1
      subst ek
      have r1 : RA G H ρ x v := r.2 0 _ _ _ _ rfl rfl
      exact RKs.putAll (ps := ps) (kvs := kvs) ⟨e.2, fun i a y a' w h1 h2 => r.2 (i + 1) a y a' w h1 h2⟩ (z.put k r1)
theorem ok_dictP (hc : L.cm = true := by rfl) : OpK G L (.type "dict") (f1 dictP) := by
  refine ⟨fun X xr σ H ρ h xs vs hr rs Q q => ?_⟩
  obtain ⟨x, v, rfl, rfl, ra, q⟩ := ok_one rs q
  unfold dictP at q
  cases ra <;> try exact q.elim
  rename_i a us hH nl l rr qq
  obtain ⟨ps, ep, q⟩ := need_ok q
  obtain ⟨Ts, kvs, rfl, g1, g2⟩ := pairsT_ok ⟨l, rr⟩ ep
  have un := xr.un
  refine .of (.of (call_dict_T (xr.calm hc) (by omega)) ⟨a, Ts, kvs, rfl, hH, g1, fun p np => ?_⟩)
  have rk : RKs G H ρ (ps.foldl (fun acc p => putA acc p.1 p.2) []) (L2.putAll [] kvs) := RKs.putAll g2 .nil
  have rk2 := rk.mono (hr.ext_new (o := .dT (L2.putAll [] kvs)) np)
  exact q _ ρ (hr.ext_new np) (hr.new np) _ (.dt upd_same (hr.nlive np) rk2.1 rk2.2)
end
section
variable {h : Hs} {ke : KE A} {xs : List A}
theorem s_dictP : (dictP (.lst xs) h).sat ke = nd (pairsT xs) fun kvs => ke.q (.dt (kvs.foldl (fun acc p => putA acc p.1 p.2) [])) h := s_need
end
end Rx
set_option Elab.async false
set_option linter.all false
set_option maxRecDepth 100000
set_option maxHeartbeats 4000000
/-! RxDd: walks over what may be a list as it stands or a tuple; defaults of positional parameters. -/
namespace Rx
open PySem L2 Sx
section
variable {G : Gc} {L : Wh} {X : Cx} {σ : St} {H : Hp} {ρ : Rho} {sl : Sl} {h : Hs} {Q : VK} {e tg iter : Expr} {fa : FE} {pos p : Pos}
/-- the items of x, as they stand -/
def wSq (x : A) : Wk := fun i h => (itemsOf x h).map fun xs => xs[i]?
def iSq (fa : FE) : Sl → Hs → Out Wk := fun sl h => (fa sl h).bind fun x h1 => need (itemsOf x h1) fun _ => .ok (wSq x) h1
theorem itg_of {J : It} {xs : List A} {w : Wk} (it : ItS G J H ρ xs) (hw : ∀ i h, w i h = some (xs[i]?)) : ItG G J H ρ w := fun H2 ρ2 h2 k hr i => by
  obtain ⟨i1, i2⟩ := it H2 ρ2 h2 k hr i
  rw [hw]
  exact ⟨fun x e => i1 x (Option.some.inj e), fun e => i2 (List.getElem?_eq_none_iff.mp (Option.some.inj e))⟩
theorem dl_seq (ha : DE G L iter fa) : DL G L tg iter (iSq fa) := by
  refine ⟨fun X xr σ H ρ sl h sr hh R q => ⟨fun pins s I => ?_⟩⟩
  have eK := xr.K
  have z : E X iter σ H fun v H1 => ∀ pins s u, Inv X pins σ H1 s → RelV v u → wpAny (model X.prog X.w) X.A (pyIter u) (PIE X pins σ tg R) X.xe s := by
    refine DE.bind ha xr sr hh q fun x h1 v H1 ρ1 e1 r1 ra s1 q1 => ?_
    obtain ⟨xs, ex, q1⟩ := need_ok q1
    have q9 : ∀ J, ItG G J H1 ρ1 (wSq x) → R J H1 := q1 H1 ρ1 .refl r1
    clear q1 q
    intro pins s u I ru
    cases x with
    | lst ys =>
      cases ra with
      | lst hq nl l r => cases ru; exact pie_list I (.inl (.inl hq)) (by rw [eK]; exact q9 _ (itg_of (its_list hq nl ⟨l, r⟩) fun _ _ => rfl))
    | tup ys =>
      cases ra with
      | tup hq l r => cases ru; exact pie_tup I (.inl (.inl hq)) (by rw [eK]; exact q9 _ (itg_of (its_tup (.inl (.inl hq)) ⟨l, r⟩) fun _ _ => rfl))
    | ctp ys =>
      cases ra with
      | ctp hq l r => cases ru; exact pie_tup I (by rw [eK]; exact hq) (by rw [eK]; exact q9 _ (itg_of (its_tup hq ⟨l, r⟩) fun _ _ => rfl))
    | ref n =>
      have el : listOf (.ref n) h1 = some xs := ex
      obtain ⟨ad, vs, rfl, e2, rl⟩ := list_ok r1 ra el
      cases ru
      refine pie_list I (.inl (.inl e2)) ?_
      rw [eK]
      refine q9 _ fun H2 ρ2 h2 k hr i => ?_
      have key : ∀ o, wSq (.ref n) i h2 = some o → ∃ ys us, listOf (.ref n) h2 = some ys ∧ ys[i]? = o ∧ H2 ad = some (.lst us) ∧ RAs G H2 ρ2 ys us := fun o e => by
        have e : (listOf (.ref n) h2).map (fun xs => xs[i]?) = some o := e
        cases hl : listOf (.ref n) h2 with
        | none => rw [hl] at e; cases e
        | some ys =>
          rw [hl] at e
          cases e
          obtain ⟨ad', us, e3, e4, e5⟩ := list_ok hr (ra.mono' k) hl
          cases e3
          exact ⟨ys, us, rfl, rfl, e4, e5⟩
      refine ⟨fun z hz => ?_, fun hz => ?_⟩
      · obtain ⟨ys, us, _, ey, e4, e5⟩ := key _ hz
        obtain ⟨v, hv, rv⟩ := e5.get ey
        refine ⟨⟨us, v, .inl (.inl e4), hv⟩, fun v' H3 ⟨y1, y2⟩ => ⟨.inl y1, ?_⟩⟩
        have : us[i]? = some v' := y2 us (.inl (.inl e4))
        rw [hv] at this; cases this
        rw [y1]; exact rv
      · obtain ⟨ys, us, _, ey, e4, e5⟩ := key _ hz
        refine ⟨us, .inl (.inl e4), ?_⟩
        rw [← e5.1]
        exact List.getElem?_eq_none_iff.mp ey
    | _ => cases ex
  exact thn (z.run pins s I) fun u s1 ⟨v, H1, I1, r1, q1⟩ => q1 pins s1 u I1 r1
/-! ### defaults of positional parameters -/
/-- n are given; the defaults behind the first j fill up -/
theorem kba_dv {fd : FuncData} {ps : List Str} {n j m : Nat} {T : Addr} {od : Option Addr} {git : Array Value} {slo : Array (Option Value)} {dvs : List V} {das : List A} (lT : G.K.lookup T = some ⟨.type "tuple", od, .seq git m, slo⟩) (rT : Vals dvs git.toList)
    (h : ∀ us its : List Value, us.length = n → its.length = dvs.length → ∃ k, bindArgs fd ⟨us, []⟩ = seqItems? (.ref T) >>= k ∧ k (some its.toArray) = pure (ps.zip (us ++ its.drop j)))
    (ra : ∀ H ρ, RAs G H ρ das (dvs.drop j)) : KbA G fd ps n [] fun xs _ => xs ++ das := by
  refine ⟨fun us _ => us ++ git.toList.drop j, fun vs _ => vs ++ dvs.drop j, ⟨fun s us ws X l1 l2 => ?_, fun r1 _ => r1.append (rT.drop j)⟩, fun H ρ xs zs vs ws r1 _ _ _ => r1.append (ra H ρ)⟩
  have : ws = [] := List.length_eq_zero_iff.mp l2
  subst this
  obtain ⟨k, e1, e2⟩ := h us git.toList l1 rT.length.symm
  refine BindsTo.of_looks fun M => ?_
  show PySem.W.Looks M s.heap (bindArgs fd ⟨us, []⟩) _
  rw [e1]
  exact looks_items X lT (by rw [Array.toArray_toList]) (.of_pure e2)
theorem mk_K0 {xx : Str} {cl j m : Nat} {gA : List A → List A → List A} {f k : F} (D : DcK G xx cl j 0 [] m gA f) (hg : xx ∈ L.GL) (hj : j + 1 ≤ L.k) (hc : L.cm = true)
    (hk : ∀ (σ : St) (H : Hp) (ρ : Rho) (h : Hs) (xs : List A) (R : VK) H2 ρ2 (ad : Addr), Ext H ρ H2 ρ2 → RA G H2 ρ2 (.ref h.length) (.ref ad) → Po G L.W σ H ρ (RQ G R) (k xs h) → Po G L.W σ H2 ρ2 (RQ G fun v H3 => v = .non ∧ R (.ref ad) H3) (f (.ref h.length :: xs) (h ++ [.ins cl []]))) :
    DE G L (.Call (.Name xx p) [] [] pos) (fun _ h => k (gA [] []) h) := by
  refine ⟨fun X xr σ H ρ sl h sr hh Q q => ⟨fun pins s I => ?_⟩⟩
  obtain ⟨fa', fd, ps, Fn, hm, M, g, gV, hb, hrel⟩ := D.ex
  have z := make_okK (k := k) (σ := σ) (ys := gA [] []) (vf := fun x => gV [.ref x] []) D.ar hh (fun x H3 ρ3 e3 ra => hrel H3 ρ3 [.ref h.length] [] _ _ (.cons ra .nil) .nil rfl rfl) q (hk σ H ρ h _)
  have M' : Mk X.K (G.cad cl) fa' := by rw [xr.K]; exact M
  have hb' : KBn X.K fd ps (0 + 1) [] g gV := by rw [xr.K]; exact hb
  refine wpAny_Call_Name_kw (ld_glob I (xr.gl xx hg).1 (by rw [xr.mg]; exact hm) ?_ (xr.gl xx hg).2.1)
  exact PySem.W.callWith_K0 I.kIn M'.kp (run_kwMk (us := []) (kw := []) (Es := WE L.W) M' (xr.fn Fn) ((xr.room hc).mono hj) xr.gd (xr.pass σ) I fun x dx n1 n2 n3 => ⟨g [.ref x] [], gV [.ref x] [], fun s' X' => hb'.to s' [.ref x] [] X' rfl rfl, hb'.rel (.cons rfl .nil) .nil, z x dx n1 n2 n3⟩)
theorem de_mkKF0 {xx : Str} {cl j m : Nat} {gA : List A → List A → List A} {f : F} (D : DcK G xx cl j 0 [] m gA f) (hg : xx ∈ L.GL) (hj : j + 1 ≤ L.k) (hc : L.cm = true := by rfl) : DE G L (.Call (.Name xx p) [] [] pos) (fun _ h => mkF cl f (gA [] []) h) := mk_K0 D hg hj hc fun σ H ρ h xs => mkF_hk
theorem de_mkKT0 {xx : Str} {cl j m : Nat} {gA : List A → List A → List A} {f : F} (D : DcK G xx cl j 0 [] m gA f) (hg : xx ∈ L.GL) (hj : j + 1 ≤ L.k) (hc : L.cm = true := by rfl) : DE G L (.Call (.Name xx p) [] [] pos) (fun _ h => mkT cl f (gA [] []) h) := mk_K0 D hg hj hc fun σ H ρ h xs => mkT_hk
end
/-! ### defs with defaults -/
section
variable {G : Gc} {L : Wh} {X : Cx} {σ : St} {H : Hp} {ρ : Rho} {sl : Sl} {h : Hs} {Q : VK}
structure FunV (K : PySem.W.Frag) (x qual : Str) (st : Stmt) (f : Addr) (fd : FuncData) : Prop where
  ex : ∃ (oc : Value) (od : Option Addr) (dV kV doc pm : Value) (an : Option Addr) (cdv ct : Value) (osl : Array (Option Value)),
    fd = PySem.W.fnOf x qual (defArgs st) (defBody st) (defScope st) dV kV doc pm an cdv ct ∧ K.lookup f = some ⟨oc, od, .func fd, osl⟩ ∧ PySem.W.codeIn K cdv qual = true
theorem fun_mkV {K : PySem.W.Frag} {x qual : Str} {st : Stmt} {f : Addr} {oc : Value} {od an : Option Addr} {osl : Array (Option Value)} {dV kV doc pm cdv ct : Value} (l : K.lookup f = some ⟨oc, od, .func (PySem.W.fnOf x qual (defArgs st) (defBody st) (defScope st) dV kV doc pm an cdv ct), osl⟩)
    (c : PySem.W.codeIn K cdv qual = true) : FunV K x qual st f (PySem.W.fnOf x qual (defArgs st) (defBody st) (defScope st) dV kV doc pm an cdv ct) := ⟨oc, od, dV, kV, doc, pm, an, cdv, ct, osl, rfl, l, c⟩
theorem fn_rxV {x qual : Str} {st : Stmt} {f : Addr} {fd : FuncData} {N ps : List Str} {rd wr : List Nat} {GL : List Str} {k n nl : Nat} {fb : FS} (Fn : FunV G.K x qual st f fd) (S : FnScope N ps (defScope st)) (hok : okN N rd wr GL (defScope st) = true)
    (hn : ps.length = n) (hnl : N.length = nl) (body : ∀ W, DSs G (wh st N rd wr GL k W) (defBody st) fb) (hxi : G.xi = none := by rfl) : FnOk G.P G.w G.K G.mg G.base (L2.CX G.P G.w) (k + 1) f fd ps (spF G n (runF n nl fb)) := by
  obtain ⟨oc, od, dV, kV, doc, pm, an, cdv, ct, osl, rfl, lk, hcd⟩ := Fn.ex
  refine fn_ofG lk hcd S (fun vs H Q E q => by rw [hn]; exact q.1) fun A outer s H vs Q E hr gd q => ⟨_, pss, ?_⟩
  obtain ⟨hl, xs, ρ, h, ra, hh, po⟩ := q
  unfold okN at hok
  simp only [Bool.and_eq_true, List.all_eq_true] at hok
  obtain ⟨⟨o1, o2⟩, o3⟩ := hok
  have xr : Xr G (cxOf (L2.CX G.P G.w) G.P G.w G.K G.mg G.base N qual (defScope st) f cdv A outer s H E) (wh st N rd wr GL k fun c d _ H => E c d H) := by
    refine ⟨rfl, rfl, rfl, rfl, rfl, rfl, S.nd, rfl, fun i hi x hx => ?_, fun i hi x hx => ?_, fun x hx => ?_, fun _ => hr, fun _ => rfl, takes_of rfl rfl rfl rfl, passes_of rfl, fun _ => ⟨_, _, _, _, rfl⟩, fun _ => hxi, fun xi e => (by rw [hxi] at e; cases e), fun _ => ⟨rfl, rfl⟩, Nat.lt_of_le_of_lt (Nat.add_le_add_right (Nat.le_add_right _ _) _) hr.un, gd⟩
    · have z := o1 i hi
      have hx : N[i]? = some x := hx
      rw [hx] at z
      simp only [Bool.and_eq_true, Bool.or_eq_true, decide_eq_true_eq, Bool.not_eq_true'] at z
      exact ⟨z.1.1.elim .inl fun z => .inr (.inl z), z.1.2, z.2⟩
    · have z := o2 i hi
      have hx : N[i]? = some x := hx
      rw [hx] at z
      simp only [Bool.or_eq_true, decide_eq_true_eq] at z
      exact ⟨z, .inl rfl⟩
    · have z := o3 x hx
      simp only [Bool.and_eq_true, decide_eq_true_eq, Bool.not_eq_true'] at z
      exact ⟨z.1.1, z.1.2, z.2⟩
  have len : xs.length = n := by rw [ra.1, hl]
  have sr : SR G H ρ (xs.map some ++ List.replicate (nl - n) none) (L2.start N vs) := by
    unfold L2.start
    refine ⟨by simp [ra.1, hnl, hl], fun i a e => ?_, fun xi e => by rw [hxi] at e; cases e⟩
    by_cases hi : i < xs.length
    · rw [List.getElem?_append_left (by simpa using hi), List.getElem?_map] at e
      have e' : xs[i]? = some a := by
        cases q : xs[i]? with
        | none => rw [q] at e; cases e
        | some z => rw [q] at e; cases e; rfl
      obtain ⟨v, e1, e2⟩ := ra.get e'
      exact ⟨v, by rw [List.getElem?_append_left (by rw [List.length_map, ← ra.1]; exact hi), List.getElem?_map, e1]; rfl, e2⟩
    · rw [List.getElem?_append_right (by simpa using hi), List.getElem?_replicate] at e
      split at e <;> cases e
  refine (body _).run _ xr _ H ρ _ h sr hh _ _ _ _ ?_
  have beq : Nat.beq xs.length n = true := by rw [len]; exact Nat.beq_refl n
  unfold runF at po
  rw [beq] at po
  revert po
  dsimp only
  cases fb (xs.map some ++ List.replicate (nl - n) none) h with
  | nx sl' h' => exact fun po σ' H' ρ' e r _ => po H' ρ' e r _ .non
  | rt a h' => exact fun po v H' ρ' e r ra => po H' ρ' e r v ra
  | bk sl' h' => exact fun po => po.elim
  | ct sl' h' => exact fun po => po.elim
  | ex x' sl' h' => exact fun po c d σ' H' ρ' e r _ rx => po c d H' ρ' e r rx
  | bad => exact fun po => po.elim
end
/-! ### the pure walk -/
section
variable {sl : Sl} {h : Hs} {kw : KE Wk} {fa : FE} {x : A} {xs : List A} {n i : Nat}
def kSq (kw : KE Wk) : KE A := ⟨fun x h => nd (itemsOf x h) fun _ => kw.q (wSq x) h, kw.e⟩
theorem q_sq : (kSq kw).q x h = nd (itemsOf x h) fun _ => kw.q (wSq x) h := (rfl)
theorem e_sq {xc : Xc} : (kSq kw).e xc h = kw.e xc h := (rfl)
theorem s_iSq : (iSq fa sl h).sat kw = (fa sl h).sat (kSq kw) := by
  unfold iSq
  rw [s_bind]
  congr 1
  unfold kSq kW
  congr 1
  funext x h1
  exact s_need
theorem wSq_lst : wSq (.lst xs) i h = some (xs[i]?) := (rfl)
theorem wSq_tup : wSq (.tup xs) i h = some (xs[i]?) := (rfl)
theorem wSq_ctp : wSq (.ctp xs) i h = some (xs[i]?) := (rfl)
theorem wSq_ref (e : h[n]? = some (.lst xs)) : wSq (.ref n) i h = some (xs[i]?) := by
  unfold wSq itemsOf
  dsimp only
  rw [e]; rfl
end
/-! ### locked dicts with tuples as keys -/
section
variable {sl : Sl} {h h1 : Hs} {ke : KE A} {kl : KE (List A)} {x : A} {n i : Nat} {kws : List (List Key × A)}
def kUt (n : Nat) (kws : List (List Key × A)) (ke : KE A) : KE A := ⟨fun x h2 => h2[n]? = some (.fdt kws) ∧ ke.q x (h2.set n (.dt kws)), fun _ _ => False⟩
theorem q_ut : (kUt n kws ke).q x h = (h[n]? = some (.fdt kws) ∧ ke.q x (h.set n (.dt kws))) := (rfl)
theorem lock_dt {f : FE} (e1 : sl[i]? = some (some (.ref n))) (e2 : h[n]? = some (.dt kws)) (s : (f sl (h.set n (.fdt kws))).sat (kUt n kws ke)) : (eLock i f sl h).sat ke := by
  unfold eLock
  rw [e1]
  dsimp only
  rw [e2]
  show (unlk n _).sat ke
  cases hf : f sl (h.set n (.fdt kws)) with
  | ok y h2 =>
    rw [hf] at s
    obtain ⟨s1, s2⟩ := s
    show (match h2[n]? with
    | some (.fdk kvs) => .ok y (h2.set n (.dk kvs))
    | some (.fdt kvs) => .ok y (h2.set n (.dt kvs))
    | _ => .bad : Out A).sat ke
    rw [s1]; exact s2
  | ex x h2 => rw [hf] at s; exact s.elim
  | bad => rw [hf] at s; exact s.elim
theorem kyT (e : h[n]? = some (.fdt kws)) : kyQ (some (.fdt kws)) (.ref n) h kl = kl.q (kws.map fun kv => .tup (kv.1.map keyV)) h := by
  show nd (keysOf (.ref n) h) (fun xs => kl.q xs h) = _
  have : keysOf (.ref n) h = some (kws.map fun kv => .tup (kv.1.map keyV)) := by unfold keysOf; dsimp only; rw [e]
  rw [this]; rfl
end
end Rx
namespace Rx
open PySem L2 Sx
def topS (i : Nat) : Stmt := PySem.Challenge.pw_strayfiles_k29_stages_made.main.body.getD i (.Pass ⟨0, 0, 0, 0⟩)
def c_dv_Stages_init_0 : A := .ctp []
def c_dv_Stages_init : A := .ctp [c_dv_Stages_init_0]
def at_best : Nat → At
  | 0 => .fld 0
  | _ => .no
def at_listed : Nat → At
  | 0 => .fld 1
  | _ => .no
def isa_sub : Nat → Nat → Option Bool
  | 0, 0 => some true
  | _, _ => none
def isa_bt (c : Nat) (n : String) : Option Bool := if Nat.blt c 1 && ["int", "str", "bool"].contains n then some false else none
def isa_tb (n : String) (c : Nat) : Option Bool := if Nat.blt c 1 && ["int", "str", "bool", "NoneType", "list", "tuple"].contains n then some false else none
def isa : Isa := ⟨isa_sub, isa_bt, isa_tb⟩
theorem t_isa_0_0 {xs : List A} {h : Hs} : isaB isa (.ins 0 xs) (.cls 0) h = some true := rfl
def itf : Nat → Option Nat
  | 0 => some 1
  | _ => none
theorem t_at_best_0 : at_best 0 = .fld 0 := rfl
theorem t_at_listed_0 : at_listed 0 = .fld 1 := rfl
theorem t_itf_0 : itf 0 = some 1 := rfl
/-! ### __init__ -/
abbrev s_Stages_init : Stmt := inClass (topS 2) 0
theorem sc_Stages_init : FnScope ["self", "stages", "best", "name", "index", "elapsed", "key"] ["self", "stages"] (defScope s_Stages_init) := ⟨rfl, rfl, rfl, by decide +kernel, rfl, by decide +kernel, by decide +kernel⟩
def b_Stages_init : FS :=
  (sSeq (sSet 2 eDt)
  (sSeq (sForW (iSq (eVar 1)) (gTup 3 (gsCons (gName 3) (gsCons (gName 4) (gsCons (gName 5) gsNil)))) (sIf (tOr (e2t (eTup (aCons (eVar 3) (aCons (eVar 4) aNil))) (eVar 2) notinD) (e2t (eVar 5) (e2 (eVar 2) (eTup (aCons (eVar 3) (aCons (eVar 4) aNil))) ixD) (aCmp (fun i j => decide (i < j))))) (sAsg (eVar 5) (gSub (eVar 2) (eTup (aCons (eVar 3) (aCons (eVar 4) aNil))) setD)) sNx))
  (sSeq (sFld at_best (eVar 0) (eVar 2))
  (sFld at_listed (eVar 0) (eK (aCons (eK (aCons (eLock 2 (eLc (iKeysA (eVar 2)) [6] (gName 6) tYes (eTup (aStar (eVar 6) (aCons (e2 (eVar 2) (eVar 6) ixD) aNil))))) aNil) (f1 sortedA)) aNil) (f1 tupleA))))))
def f_Stages_init : F := runF 2 7 b_Stages_init
theorem r_Stages_init {x0 x1 : A} {h : Hs} {ke : KE A} : (f_Stages_init [x0, x1] h).sat ke = (b_Stages_init [some x0, some x1, none, none, none, none, none] h).sat (kFn ke) := s_run rfl
theorem d_Stages_init {G : Gc} (A_best : AtOk G "best" 0 at_best) (bt_tuple : Bi G.mg "tuple" (.type "tuple")) (bi_sorted : Bi G.mg "sorted" (.builtin "sorted")) (A_listed : AtOk G "listed" 0 at_listed) (W : WX) : DSs G (wh s_Stages_init ["self", "stages", "best", "name", "index", "elapsed", "key"] [0, 1, 2, 3, 4, 5] [0, 1, 2, 3, 4, 5] ["tuple", "sorted"] 0 W) (defBody s_Stages_init) b_Stages_init :=
  (dss_cons (ds_set 2 de_dt)
  (dss_cons (ds_forW (ws := [3, 4, 5]) (dl_seq (de_var 1)) (dg_tup (dgs_cons (dg_name 3) (dgs_cons (dg_name 4) (dgs_cons (dg_name 5) dgs_nil)))) (dss_one (ds_if (dt_or (dt_cmp oc_notinD (de_tup (da_cons (de_var 3) (da_cons (de_var 4) da_nil))) (de_var 2) rfl) (dw_or1 (dt_cmp (oc_int ci_lt) (de_var 5) (de_sub ox_ixD (de_var 2) (de_tup (da_cons (de_var 3) (da_cons (de_var 4) da_nil)))) (nomark _)))) (dss_one (ds_asg (ws := []) (de_var 5) (dg_sub os_dict (de_var 2) (de_tup (da_cons (de_var 3) (da_cons (de_var 4) da_nil)))))) dss_nil)))
  (dss_cons (ds_fld A_best (de_var 0) (de_var 2))
  (dss_one (ds_fld A_listed (de_var 0) (de_callT bt_tuple ok_tuple (List.mem_of_getElem? (i := 0) rfl) (da_cons (de_callB bi_sorted ok_sorted (List.mem_of_getElem? (i := 1) rfl) (da_cons (de_lock 2 (de_lc (own := [("key", 6)]) (rd := [2, 6]) (wr := [6]) (GL := []) (ws := [6]) [6] (di_keys (de_var 2)) (blkOk_by (by kernel_rfl)) (by kernel_rfl) (dg_name 6) dts_nil (de_tup (da_star (de_var 6) (da_cons (de_sub ox_ixD (de_var 2) (de_var 6)) da_nil))))) da_nil)) da_nil)))))))
/-! ### crowd -/
abbrev s_Stages_crowd : Stmt := inClass (topS 2) 1
theorem sc_Stages_crowd : FnScope ["self"] ["self"] (defScope s_Stages_crowd) := ⟨rfl, rfl, rfl, by decide +kernel, rfl, by decide +kernel, by decide +kernel⟩
def b_Stages_crowd : FS :=
  (sRet (eAt at_listed (eVar 0)))
def f_Stages_crowd : F := runF 1 1 b_Stages_crowd
theorem r_Stages_crowd {x0 : A} {h : Hs} {ke : KE A} : (f_Stages_crowd [x0] h).sat ke = (b_Stages_crowd [some x0] h).sat (kFn ke) := s_run rfl
theorem d_Stages_crowd {G : Gc} (A_listed : AtOk G "listed" 0 at_listed) (W : WX) : DSs G (wh s_Stages_crowd ["self"] [0] [0] [] 1 W) (defBody s_Stages_crowd) b_Stages_crowd :=
  (dss_one (ds_ret (de_att A_listed (Nat.le_of_ble_eq_true rfl) (de_var 0))))
def at_crowd : Nat → At
  | 0 => .prp f_Stages_crowd
  | _ => .no
theorem t_at_crowd_0 : at_crowd 0 = .prp f_Stages_crowd := rfl
/-! ### __len__ -/
abbrev s_Stages_len : Stmt := inClass (topS 2) 2
theorem sc_Stages_len : FnScope ["self"] ["self"] (defScope s_Stages_len) := ⟨rfl, rfl, rfl, by decide +kernel, rfl, by decide +kernel, by decide +kernel⟩
def b_Stages_len : FS :=
  (sRet (eK (aCons (eAt at_listed (eVar 0)) aNil) (f1 lenD)))
def f_Stages_len : F := runF 1 1 b_Stages_len
theorem r_Stages_len {x0 : A} {h : Hs} {ke : KE A} : (f_Stages_len [x0] h).sat ke = (b_Stages_len [some x0] h).sat (kFn ke) := s_run rfl
theorem d_Stages_len {G : Gc} (bi_len : Bi G.mg "len" (.builtin "len")) (A_listed : AtOk G "listed" 0 at_listed) (W : WX) : DSs G (wh s_Stages_len ["self"] [0] [0] ["len"] 1 W) (defBody s_Stages_len) b_Stages_len :=
  (dss_one (ds_ret (de_callB bi_len ok_lenD (List.mem_of_getElem? (i := 0) rfl) (da_cons (de_att A_listed (Nat.le_of_ble_eq_true rfl) (de_var 0)) da_nil))))
/-! ### __contains__ -/
abbrev s_Stages_contains : Stmt := inClass (topS 2) 4
theorem sc_Stages_contains : FnScope ["self", "stage", "name", "index", "elapsed"] ["self", "stage"] (defScope s_Stages_contains) := ⟨rfl, rfl, rfl, by decide +kernel, rfl, by decide +kernel, by decide +kernel⟩
def b_Stages_contains : FS :=
  (sSeq (sAsg (eVar 1) (gTup 3 (gsCons (gName 2) (gsCons (gName 3) (gsCons (gName 4) gsNil)))))
  (sRet (eAnd (e2 (eTup (aCons (eVar 2) (aCons (eVar 3) aNil))) (eAt at_best (eVar 0)) inD) (e2 (e2 (eAt at_best (eVar 0)) (eTup (aCons (eVar 2) (aCons (eVar 3) aNil))) ixD) (eVar 4) (aCmp (fun i j => decide (i ≤ j)))))))
def f_Stages_contains : F := runF 2 5 b_Stages_contains
theorem r_Stages_contains {x0 x1 : A} {h : Hs} {ke : KE A} : (f_Stages_contains [x0, x1] h).sat ke = (b_Stages_contains [some x0, some x1, none, none, none] h).sat (kFn ke) := s_run rfl
theorem d_Stages_contains {G : Gc} (A_best : AtOk G "best" 0 at_best) (W : WX) : DSs G (wh s_Stages_contains ["self", "stage", "name", "index", "elapsed"] [0, 1, 2, 3, 4] [0, 1, 2, 3, 4] [] 1 W) (defBody s_Stages_contains) b_Stages_contains :=
  (dss_cons (ds_asg (ws := [2, 3, 4]) (de_var 1) (dg_tup (dgs_cons (dg_name 2) (dgs_cons (dg_name 3) (dgs_cons (dg_name 4) dgs_nil)))))
  (dss_one (ds_ret (de_and (de_cmp oc_inD (de_tup (da_cons (de_var 2) (da_cons (de_var 3) da_nil))) (de_att A_best (Nat.le_of_ble_eq_true rfl) (de_var 0)) rfl) (de_one (de_cmp (oc_int ci_le) (de_sub ox_ixD (de_att A_best (Nat.le_of_ble_eq_true rfl) (de_var 0)) (de_tup (da_cons (de_var 2) (da_cons (de_var 3) da_nil)))) (de_var 4) (nomark _)))))))
/-! ### __repr__ -/
abbrev s_Stages_repr : Stmt := inClass (topS 2) 12
theorem sc_Stages_repr : FnScope ["self"] ["self"] (defScope s_Stages_repr) := ⟨rfl, rfl, rfl, by decide +kernel, rfl, by decide +kernel, by decide +kernel⟩
def b_Stages_repr : FS :=
  (sRet (eJs (jCons (eC (.str "Stages(")) (jCons (fmtR (eAt at_listed (eVar 0))) (jCons (eC (.str ")")) jNil)))))
def f_Stages_repr : F := runF 1 1 b_Stages_repr
theorem r_Stages_repr {x0 : A} {h : Hs} {ke : KE A} : (f_Stages_repr [x0] h).sat ke = (b_Stages_repr [some x0] h).sat (kFn ke) := s_run rfl
theorem d_Stages_repr {G : Gc} (A_listed : AtOk G "listed" 0 at_listed) (W : WX) : DSs G (wh s_Stages_repr ["self"] [0] [0] [] 1 W) (defBody s_Stages_repr) b_Stages_repr :=
  (dss_one (ds_ret (de_joined (dj_cons de_str (dj_cons (de_fmtR (de_att A_listed (Nat.le_of_ble_eq_true rfl) (de_var 0))) (dj_cons de_str dj_nil))))))
def mt_len : Mt
  | 0 => some f_Stages_len
  | _ => none
theorem t_mt_len_0 : mt_len 0 = some f_Stages_len := rfl
def mt_contains : Mt
  | 0 => some f_Stages_contains
  | _ => none
theorem t_mt_contains_0 : mt_contains 0 = some f_Stages_contains := rfl
def mt_repr : Mt
  | 0 => some f_Stages_repr
  | _ => none
theorem t_mt_repr_0 : mt_repr 0 = some f_Stages_repr := rfl
/-! ### _law_bag -/
abbrev s_law_bag : Stmt := topS 4
theorem sc_law_bag : FnScope ["_law_script", "_law_at", "_law_cell"] ["_law_script", "_law_at"] (defScope s_law_bag) := ⟨rfl, rfl, rfl, by decide +kernel, rfl, by decide +kernel, by decide +kernel⟩
def b_law_bag : FS :=
  (sSeq (sSet 2 (eIf (e2t (eVar 1) (eK (aCons (eVar 0) aNil) (f1 (lenG mt_len))) (aCmp (fun i j => decide (i < j)))) (e2 (eVar 0) (eVar 1) ixD) (eVar 1)))
  (sRet (eLstT (aCons (eIf (e2t (eK (aCons (eVar 2) aNil) (f1 absA)) (e2 (eC (.int 10)) (eC (.int 18)) (aInt gPow)) (aCmp (fun i j => decide (j ≤ i)))) (eK (aCons (eVar 2) aNil) (f1 absA)) (eC (.int 0))) (aCons (e2 (e2 (eK (aCons (eVar 2) aNil) (f1 absA)) (eC (.int 2)) (aInt gMulW)) (eK (aCons (e2 (eVar 2) (eC (.int 0)) (aCmp (fun i j => decide (i < j)))) aNil) (f1 intA)) aAdd) (aCons (e2 (e2 (eVar 1) (eC (.int 100)) (aInt gMulW)) (eC (.int 1)) aAdd) aNil))))))
def f_law_bag : F := runF 2 3 b_law_bag
theorem r_law_bag {x0 x1 : A} {h : Hs} {ke : KE A} : (f_law_bag [x0, x1] h).sat ke = (b_law_bag [some x0, some x1, none] h).sat (kFn ke) := s_run rfl
theorem d_law_bag {G : Gc} (bi_len : Bi G.mg "len" (.builtin "len")) (MT_len : MtOk G "__len__" 2 mt_len) (bi_abs : Bi G.mg "abs" (.builtin "abs")) (bt_int : Bi G.mg "int" (.type "int")) (W : WX) : DSs G (wh s_law_bag ["_law_script", "_law_at", "_law_cell"] [0, 1, 2] [0, 1, 2] ["len", "abs", "int"] 3 W) (defBody s_law_bag) b_law_bag :=
  (dss_cons (ds_set 2 (de_if (dt_cmp (oc_int ci_lt) (de_var 1) (de_callB bi_len (ok_lenG MT_len (Nat.le_of_ble_eq_true rfl)) (List.mem_of_getElem? (i := 0) rfl) (da_cons (de_var 0) da_nil)) (nomark _)) (de_sub ox_ixD (de_var 0) (de_var 1)) (de_var 1)))
  (dss_one (ds_ret (de_lstT (da_cons (de_if (dt_cmp (oc_int ci_ge) (de_callB bi_abs ok_abs (List.mem_of_getElem? (i := 1) rfl) (da_cons (de_var 2) da_nil)) (de_bin ob_pow de_int de_int) (nomark _)) (de_callB bi_abs ok_abs (List.mem_of_getElem? (i := 1) rfl) (da_cons (de_var 2) da_nil)) de_int) (da_cons (de_bin ob_add (de_bin ob_mulW (de_callB bi_abs ok_abs (List.mem_of_getElem? (i := 1) rfl) (da_cons (de_var 2) da_nil)) de_int) (de_callT bt_int ok_int (List.mem_of_getElem? (i := 2) rfl) (da_cons (de_cmp (oc_int ci_lt) (de_var 2) de_int (nomark _)) da_nil))) (da_cons (de_bin ob_add (de_bin ob_mulW (de_var 1) de_int) de_int) da_nil)))))))
/-! ### _law_take -/
abbrev s_law_take : Stmt := topS 5
theorem sc_law_take : FnScope ["_law_bag_here", "_law_many", "_law_digit", "_law_mixed"] ["_law_bag_here", "_law_many"] (defScope s_law_take) := ⟨rfl, rfl, rfl, by decide +kernel, rfl, by decide +kernel, by decide +kernel⟩
def b_law_take : FS :=
  (sSeq (sIf (e2t (e2 (eVar 0) (eC (.int 0)) ixD) (eC (.int 0)) (aCmp (fun i j => decide (j < i)))) (sSeq (sSet 2 (e2 (eK (aCons (e2 (eVar 0) (eC (.int 0)) ixD) aNil) (f1 intA)) (eVar 1) (aInt gMod)))
  (sSeq (sAsg (e2 (e2 (eVar 0) (eC (.int 0)) ixD) (eVar 1) (aInt gDivN)) (gSub (eVar 0) (eC (.int 0)) setD))
  (sRet (eVar 2)))) sNx)
  (sSeq (sAsg (e2 (e2 (eVar 0) (eC (.int 2)) ixD) (eC (.int 1)) aAdd) (gSub (eVar 0) (eC (.int 2)) setD))
  (sSeq (sSet 3 (e2 (eK (aCons (e2 (e2 (e2 (e2 (eVar 0) (eC (.int 1)) ixD) (eC (.int 40503)) (aInt gMulW)) (e2 (e2 (eVar 0) (eC (.int 2)) ixD) (eC (.int 7919)) (aInt gMulW)) aAdd) (eC (.int 12345)) aAdd) aNil) (f1 intA)) (eC (.int 2147483647)) (aInt gMod)))
  (sSeq (sSet 3 (e2 (eK (aCons (e2 (e2 (eVar 3) (eVar 3) (aInt gMulW)) (e2 (e2 (eVar 0) (eC (.int 2)) ixD) (eC (.int 104729)) (aInt gMulW)) aAdd) aNil) (f1 intA)) (eC (.int 2147483629)) (aInt gMod)))
  (sSeq (sSet 3 (e2 (eK (aCons (e2 (e2 (eVar 3) (eC (.int 69621)) (aInt gMulW)) (e2 (eVar 0) (eC (.int 1)) ixD) aAdd) aNil) (f1 intA)) (eC (.int 2147483647)) (aInt gMod)))
  (sRet (e2 (eK (aCons (e2 (eVar 3) (eC (.int 97)) (aInt gDivN)) aNil) (f1 intA)) (eVar 1) (aInt gMod))))))))
def f_law_take : F := runF 2 4 b_law_take
theorem r_law_take {x0 x1 : A} {h : Hs} {ke : KE A} : (f_law_take [x0, x1] h).sat ke = (b_law_take [some x0, some x1, none, none] h).sat (kFn ke) := s_run rfl
theorem d_law_take {G : Gc} (bt_int : Bi G.mg "int" (.type "int")) (W : WX) : DSs G (wh s_law_take ["_law_bag_here", "_law_many", "_law_digit", "_law_mixed"] [0, 1, 2, 3] [0, 1, 2, 3] ["int"] 0 W) (defBody s_law_take) b_law_take :=
  (dss_cons (ds_if (dt_cmp (oc_int ci_gt) (de_sub ox_ixD (de_var 0) de_int) de_int (nomark _)) (dss_cons (ds_set 2 (de_bin ob_mod (de_callT bt_int ok_int (List.mem_of_getElem? (i := 0) rfl) (da_cons (de_sub ox_ixD (de_var 0) de_int) da_nil)) (de_var 1)))
  (dss_cons (ds_asg (ws := []) (de_bin ob_divN (de_sub ox_ixD (de_var 0) de_int) (de_var 1)) (dg_sub os_dict (de_var 0) de_int))
  (dss_one (ds_ret (de_var 2))))) dss_nil)
  (dss_cons (ds_asg (ws := []) (de_bin ob_add (de_sub ox_ixD (de_var 0) de_int) de_int) (dg_sub os_dict (de_var 0) de_int))
  (dss_cons (ds_set 3 (de_bin ob_mod (de_callT bt_int ok_int (List.mem_of_getElem? (i := 0) rfl) (da_cons (de_bin ob_add (de_bin ob_add (de_bin ob_mulW (de_sub ox_ixD (de_var 0) de_int) de_int) (de_bin ob_mulW (de_sub ox_ixD (de_var 0) de_int) de_int)) de_int) da_nil)) de_int))
  (dss_cons (ds_set 3 (de_bin ob_mod (de_callT bt_int ok_int (List.mem_of_getElem? (i := 0) rfl) (da_cons (de_bin ob_add (de_bin ob_mulW (de_var 3) (de_var 3)) (de_bin ob_mulW (de_sub ox_ixD (de_var 0) de_int) de_int)) da_nil)) de_int))
  (dss_cons (ds_set 3 (de_bin ob_mod (de_callT bt_int ok_int (List.mem_of_getElem? (i := 0) rfl) (da_cons (de_bin ob_add (de_bin ob_mulW (de_var 3) de_int) (de_sub ox_ixD (de_var 0) de_int)) da_nil)) de_int))
  (dss_one (ds_ret (de_bin ob_mod (de_callT bt_int ok_int (List.mem_of_getElem? (i := 0) rfl) (da_cons (de_bin ob_divN (de_var 3) de_int) da_nil)) (de_var 1)))))))))
/-! ### _law_of -/
abbrev s_law_of : Stmt := topS 6
theorem sc_law_of : FnScope ["_law_bag_here", "_law_some"] ["_law_bag_here", "_law_some"] (defScope s_law_of) := ⟨rfl, rfl, rfl, by decide +kernel, rfl, by decide +kernel, by decide +kernel⟩
def b_law_of : FS :=
  (sRet (e2 (eVar 1) (eK (aCons (eVar 0) (aCons (eK (aCons (eVar 1) aNil) (f1 (lenG mt_len))) aNil)) f_law_take) ixD))
def f_law_of : F := runF 2 2 b_law_of
theorem r_law_of {x0 x1 : A} {h : Hs} {ke : KE A} : (f_law_of [x0, x1] h).sat ke = (b_law_of [some x0, some x1] h).sat (kFn ke) := s_run rfl
theorem d_law_of {G : Gc} (D_law_take : DfR G "_law_take" 1 2 f_law_take) (bi_len : Bi G.mg "len" (.builtin "len")) (MT_len : MtOk G "__len__" 2 mt_len) (W : WX) : DSs G (wh s_law_of ["_law_bag_here", "_law_some"] [0, 1] [0, 1] ["_law_take", "len"] 3 W) (defBody s_law_of) b_law_of :=
  (dss_one (ds_ret (de_sub ox_ixD (de_var 1) (de_call D_law_take (List.mem_of_getElem? (i := 0) rfl) (Nat.le_of_ble_eq_true rfl) (da_cons (de_var 0) (da_cons (de_callB bi_len (ok_lenG MT_len (Nat.le_of_ble_eq_true rfl)) (List.mem_of_getElem? (i := 1) rfl) (da_cons (de_var 1) da_nil)) da_nil))))))
/-! ### _law_word -/
abbrev s_law_word : Stmt := topS 7
theorem sc_law_word : FnScope ["_law_bag_here", "_law_used", "_law_taken", "_law_letters", "_law_word_here", "_law_turn", "_law_letter", "_law_one"] ["_law_bag_here", "_law_used"] (defScope s_law_word) := ⟨rfl, rfl, rfl, by decide +kernel, rfl, by decide +kernel, by decide +kernel⟩
def b_law_word : FS :=
  (sSeq (sSet 2 (e2 (eVar 1) (eLst (aCons (eC (.str "self")) (aCons (eC (.str "age")) (aCons (eC (.str "off")) aNil)))) aAdd))
  (sSeq (sSet 3 (eC (.str "abcdefghijklmnopqrstuvwxyz")))
  (sSeq (sSet 4 (eMs (eC (.str "")) (aCons (eLc (iRange (e2 (eC (.int 1)) (eK (aCons (eVar 0) (aCons (eC (.int 8)) aNil)) f_law_take) aAdd)) [5] (gName 5) tYes (eK (aCons (eVar 0) (aCons (eVar 3) aNil)) f_law_of)) aNil) joinA))
  (sRet (e2 (eLc (iAny itf (e2 (eLst (aCons (eVar 4) aNil)) (eLc (iAny itf (eVar 3)) [6] (gName 6) tYes (e2 (eSl (eVar 4) oNone (oSome (eC (.int 7)))) (eVar 6) aAdd)) aAdd)) [7] (gName 7) (e2t (eVar 7) (eVar 2) (ninGv mt_contains)) (eVar 7)) (eC (.int 0)) ixD)))))
def f_law_word : F := runF 2 8 b_law_word
theorem r_law_word {x0 x1 : A} {h : Hs} {ke : KE A} : (f_law_word [x0, x1] h).sat ke = (b_law_word [some x0, some x1, none, none, none, none, none, none] h).sat (kFn ke) := s_run rfl
theorem d_law_word {G : Gc} (z_range : G.mg "range" = none) (D_law_take : DfR G "_law_take" 1 2 f_law_take) (D_law_of : DfR G "_law_of" 4 2 f_law_of) (ITF : ItOk G itf) (MT_contains : MtOk G "__contains__" 2 mt_contains) (W : WX) : DSs G (wh s_law_word ["_law_bag_here", "_law_used", "_law_taken", "_law_letters", "_law_word_here", "_law_turn", "_law_letter", "_law_one"] [0, 1, 2, 3, 4] [0, 1, 2, 3, 4] ["range", "_law_take"] 4 W) (defBody s_law_word) b_law_word :=
  (dss_cons (ds_set 2 (de_bin ob_add (de_var 1) (de_lst (da_cons de_str (da_cons de_str (da_cons de_str da_nil))))))
  (dss_cons (ds_set 3 de_str)
  (dss_cons (ds_set 4 (de_mstr PySem.F.plainAttrs_str PySem.F.slot_str_join PySem.F.type_str_join om_join de_str (da_cons (de_lc (own := [("_law_turn", 5)]) (rd := [0, 3, 5]) (wr := [5]) (GL := ["_law_of"]) (ws := [5]) [5] (di_range z_range (List.mem_of_getElem? (i := 0) rfl) (de_bin ob_add de_int (de_call D_law_take (List.mem_of_getElem? (i := 1) rfl) (Nat.le_of_ble_eq_true rfl) (da_cons (de_var 0) (da_cons de_int da_nil))))) (blkOk_by (by kernel_rfl)) (by kernel_rfl) (dg_name 5) dts_nil (de_call D_law_of (List.mem_of_getElem? (i := 0) rfl) (Nat.le_of_ble_eq_true rfl) (da_cons (de_var 0) (da_cons (de_var 3) da_nil)))) da_nil)))
  (dss_one (ds_ret (de_sub ox_ixD (de_lc (own := [("_law_one", 7)]) (rd := [2, 7]) (wr := [7]) (GL := []) (ws := [7]) [7] (di_any ITF (de_bin ob_add (de_lst (da_cons (de_var 4) da_nil)) (de_lc (own := [("_law_letter", 6)]) (rd := [4, 6]) (wr := [6]) (GL := []) (ws := [6]) [6] (di_any ITF (de_var 3) (Nat.le_of_ble_eq_true rfl)) (blkOk_by (by kernel_rfl)) (by kernel_rfl) (dg_name 6) dts_nil (de_bin ob_add (de_slice (de_var 4) do_none (do_some de_int)) (de_var 6)))) (Nat.le_of_ble_eq_true rfl)) (blkOk_by (by kernel_rfl)) (by kernel_rfl) (dg_name 7) (dts_one (dt_cmp (oc_ninG MT_contains (Nat.le_of_ble_eq_true rfl)) (de_var 7) (de_var 2) rfl)) (de_var 7)) de_int))))))
/-! ### _law_stages -/
abbrev s_law_stages : Stmt := topS 8
theorem sc_law_stages : FnScope ["_law_bag_here", "_law_many", "_law_words", "_law_turn"] ["_law_bag_here", "_law_many"] (defScope s_law_stages) := ⟨rfl, rfl, rfl, by decide +kernel, rfl, by decide +kernel, by decide +kernel⟩
def b_law_stages : FS :=
  (sSeq (sSet 2 (eLc (iRange (eC (.int 3))) [3] (gName 3) tYes (eK (aCons (eVar 0) (aCons (eLst aNil) aNil)) f_law_word)))
  (sRet (eLc (iRange (eK (aCons (eVar 0) (aCons (eVar 1) aNil)) f_law_take)) [3] (gName 3) tYes (eTup (aCons (eK (aCons (eVar 0) (aCons (eVar 2) aNil)) f_law_of) (aCons (eK (aCons (eVar 0) (aCons (eC (.int 6)) aNil)) f_law_take) (aCons (eK (aCons (eVar 0) (aCons (eC (.int 4)) aNil)) f_law_take) aNil)))))))
def f_law_stages : F := runF 2 4 b_law_stages
theorem r_law_stages {x0 x1 : A} {h : Hs} {ke : KE A} : (f_law_stages [x0, x1] h).sat ke = (b_law_stages [some x0, some x1, none, none] h).sat (kFn ke) := s_run rfl
theorem d_law_stages {G : Gc} (z_range : G.mg "range" = none) (D_law_word : DfR G "_law_word" 5 2 f_law_word) (D_law_take : DfR G "_law_take" 1 2 f_law_take) (D_law_of : DfR G "_law_of" 4 2 f_law_of) (W : WX) : DSs G (wh s_law_stages ["_law_bag_here", "_law_many", "_law_words", "_law_turn"] [0, 1, 2] [0, 1, 2] ["range", "_law_take"] 5 W) (defBody s_law_stages) b_law_stages :=
  (dss_cons (ds_setC 2 (de_lc (own := [("_law_turn", 3)]) (rd := [0, 3]) (wr := [3]) (GL := ["_law_word"]) (ws := [3]) [3] (di_range z_range (List.mem_of_getElem? (i := 0) rfl) de_int) (blkOk_by (by kernel_rfl)) (by kernel_rfl) (dg_name 3) dts_nil (de_call D_law_word (List.mem_of_getElem? (i := 0) rfl) (Nat.le_of_ble_eq_true rfl) (da_cons (de_var 0) (da_cons (de_lst da_nil) da_nil)))) (fun _ _ _ _ => sw_cell rfl))
  (dss_one (ds_ret (de_lc (own := [("_law_turn", 3)]) (rd := [0, 2, 3]) (wr := [3]) (GL := ["_law_take", "_law_of"]) (ws := [3]) [3] (di_range z_range (List.mem_of_getElem? (i := 0) rfl) (de_call D_law_take (List.mem_of_getElem? (i := 1) rfl) (Nat.le_of_ble_eq_true rfl) (da_cons (de_var 0) (da_cons (de_var 1) da_nil)))) (blkOk_by (by kernel_rfl)) (by kernel_rfl) (dg_name 3) dts_nil (de_tup (da_cons (de_call D_law_of (List.mem_of_getElem? (i := 1) rfl) (Nat.le_of_ble_eq_true rfl) (da_cons (de_var 0) (da_cons (de_var 2) da_nil))) (da_cons (de_call D_law_take (List.mem_of_getElem? (i := 0) rfl) (Nat.le_of_ble_eq_true rfl) (da_cons (de_var 0) (da_cons de_int da_nil))) (da_cons (de_call D_law_take (List.mem_of_getElem? (i := 0) rfl) (Nat.le_of_ble_eq_true rfl) (da_cons (de_var 0) (da_cons de_int da_nil))) da_nil))))))))
/-! ### _law_due -/
abbrev s_law_due : Stmt := topS 9
theorem sc_law_due : FnScope ["_law_stages_here", "_law_best", "_law_name", "_law_index", "_law_elapsed", "_law_key"] ["_law_stages_here"] (defScope s_law_due) := ⟨rfl, rfl, rfl, by decide +kernel, rfl, by decide +kernel, by decide +kernel⟩
def b_law_due : FS :=
  (sSeq (sSet 1 eDt)
  (sSeq (sFor (iAny itf (eVar 0)) (gTup 3 (gsCons (gName 2) (gsCons (gName 3) (gsCons (gName 4) gsNil)))) (sIf (tOr (e2t (eTup (aCons (eVar 2) (aCons (eVar 3) aNil))) (eVar 1) (ninGv mt_contains)) (e2t (e2 (eVar 1) (eTup (aCons (eVar 2) (aCons (eVar 3) aNil))) ixD) (eVar 4) (aCmp (fun i j => decide (j < i))))) (sAsg (eVar 4) (gSub (eVar 1) (eTup (aCons (eVar 2) (aCons (eVar 3) aNil))) setD)) sNx))
  (sRet (eK (aCons (eLc (iAny itf (eK (aCons (eK (aCons (eVar 1) aNil) (f1 (listOA mt_len itf))) aNil) (f1 sortedA))) [5] (gName 5) tYes (e2 (eVar 5) (eTup (aCons (e2 (eVar 1) (eVar 5) ixD) aNil)) aAdd)) aNil) (f1 tupleA)))))
def f_law_due : F := runF 1 6 b_law_due
theorem r_law_due {x0 : A} {h : Hs} {ke : KE A} : (f_law_due [x0] h).sat ke = (b_law_due [some x0, none, none, none, none, none] h).sat (kFn ke) := s_run rfl
theorem d_law_due {G : Gc} (ITF : ItOk G itf) (MT_contains : MtOk G "__contains__" 2 mt_contains) (bt_tuple : Bi G.mg "tuple" (.type "tuple")) (bi_sorted : Bi G.mg "sorted" (.builtin "sorted")) (bt_list : Bi G.mg "list" (.type "list")) (MT_len : MtOk G "__len__" 2 mt_len) (W : WX) : DSs G (wh s_law_due ["_law_stages_here", "_law_best", "_law_name", "_law_index", "_law_elapsed", "_law_key"] [0, 1, 2, 3, 4] [0, 1, 2, 3, 4] ["tuple", "sorted", "list"] 6 W) (defBody s_law_due) b_law_due :=
  (dss_cons (ds_set 1 de_dt)
  (dss_cons (ds_for (ws := [2, 3, 4]) (di_any ITF (de_var 0) (Nat.le_of_ble_eq_true rfl)) (dg_tup (dgs_cons (dg_name 2) (dgs_cons (dg_name 3) (dgs_cons (dg_name 4) dgs_nil)))) (dss_one (ds_if (dt_or (dt_cmp (oc_ninG MT_contains (Nat.le_of_ble_eq_true rfl)) (de_tup (da_cons (de_var 2) (da_cons (de_var 3) da_nil))) (de_var 1) rfl) (dw_or1 (dt_cmp (oc_int ci_gt) (de_sub ox_ixD (de_var 1) (de_tup (da_cons (de_var 2) (da_cons (de_var 3) da_nil)))) (de_var 4) (nomark _)))) (dss_one (ds_asg (ws := []) (de_var 4) (dg_sub os_dict (de_var 1) (de_tup (da_cons (de_var 2) (da_cons (de_var 3) da_nil)))))) dss_nil)))
  (dss_one (ds_ret (de_callT bt_tuple ok_tuple (List.mem_of_getElem? (i := 0) rfl) (da_cons (de_lc (own := [("_law_key", 5)]) (rd := [1, 5]) (wr := [5]) (GL := []) (ws := [5]) [5] (di_any ITF (de_callB bi_sorted ok_sorted (List.mem_of_getElem? (i := 1) rfl) (da_cons (de_callT bt_list (ok_listO MT_len ITF (Nat.le_of_ble_eq_true rfl)) (List.mem_of_getElem? (i := 2) rfl) (da_cons (de_var 1) da_nil)) da_nil)) (Nat.le_of_ble_eq_true rfl)) (blkOk_by (by kernel_rfl)) (by kernel_rfl) (dg_name 5) dts_nil (de_bin ob_add (de_var 5) (de_tup (da_cons (de_sub ox_ixD (de_var 1) (de_var 5)) da_nil)))) da_nil))))))
/-! ### law -/
abbrev s_law : Stmt := topS 10
theorem sc_law : FnScope ["_law_script", "_law_at", "_law_bag_here", "_law_stages_here", "_law_due_here", "_law_handed", "_law_stranger", "_law_made", "_law_name", "_law_index", "_law_elapsed", "_law_ticks", "_law_stage", "_law_one"] ["_law_script"] (defScope s_law) := ⟨rfl, rfl, rfl, by decide +kernel, rfl, by decide +kernel, by decide +kernel⟩
def b_law : FS :=
  (sSeq (sFor (iRange (eK (aCons (eC (.int 1)) (aCons (eK (aCons (eC (.int 6)) (aCons (eK (aCons (eVar 0) aNil) (f1 (lenG mt_len))) aNil)) (f2 minA)) aNil)) (f2 maxA))) (gName 1) (sSeq (sSet 2 (eK (aCons (eVar 0) (aCons (eVar 1) aNil)) f_law_bag))
  (sSeq (sSet 3 (eK (aCons (eVar 2) (aCons (eC (.int 61)) aNil)) f_law_stages))
  (sSeq (sPar 4 5 (eK (aCons (eVar 3) aNil) f_law_due) (eK (aCons (eVar 3) aNil) (f1 listTA)))
  (sSeq (sSet 6 (eK (aCons (eVar 2) (aCons (eLc (iAny itf (eVar 3)) [12] (gName 12) tYes (e2 (eVar 12) (eC (.int 0)) ixD)) aNil)) f_law_word))
  (sSeq (sSet 7 (eIf (e2t (eK (aCons (eVar 2) (aCons (eC (.int 2)) aNil)) f_law_take) (eC (.int 0)) eqN) (eKw (aCons (eVar 5) aNil) aNil 1 0 (fun xs _ => xs ++ []) (mkF 0 f_Stages_init)) (eKw (aCons (eK (aCons (eVar 5) aNil) (f1 tupleA)) aNil) aNil 1 0 (fun xs _ => xs ++ []) (mkF 0 f_Stages_init))))
  (sSeq (sExpr (eMl (eVar 5) (aCons (eTup (aCons (eC (.str "zz")) (aCons (eC (.int 0)) (aCons (eC (.int 0)) aNil)))) aNil) appendA))
  (sSeq (sIf (tOr (tNot (t1 (eK (aCons (eAt at_crowd (eVar 7)) (aCons (eC (.ty "tuple")) aNil)) (f2 (isaA isa))) truA)) (tOr (e2t (eAt at_crowd (eVar 7)) (eVar 4) neN) (e2t (eK (aCons (eVar 7) aNil) (f1 (lenG mt_len))) (eK (aCons (eVar 4) aNil) (f1 (lenG mt_len))) neN))) (sRet (eC (.bl false))) sNx)
  (sSeq (sIf (tOr (e2t (eLc (iAny itf (eVar 7)) [12] (gName 12) tYes (eVar 12)) (eK (aCons (eVar 4) aNil) (f1 (listOA mt_len itf))) neN) (tOr (e2t (eK (aCons (eVar 7) aNil) (f1 (listOA mt_len itf))) (eK (aCons (eVar 4) aNil) (f1 (listOA mt_len itf))) neN) (e2t (eK (aCons (eVar 7) aNil) (f1 (reprG mt_repr))) (e2 (e2 (eC (.str "Stages(")) (eK (aCons (eVar 4) aNil) (f1 (reprG mt_repr))) aAdd) (eC (.str ")")) aAdd) neN))) (sRet (eC (.bl false))) sNx)
  (sSeq (sFor (iAny itf (eVar 3)) (gTup 3 (gsCons (gName 8) (gsCons (gName 9) (gsCons (gName 10) gsNil)))) (sSeq (sFor (iRange (eC (.int 4))) (gName 11) (sIf (e2t (e2 (eTup (aCons (eVar 8) (aCons (eVar 9) (aCons (eVar 11) aNil)))) (eVar 7) (inGv mt_contains)) (e2 (e2 (eK (aCons (eLc (iAny itf (eVar 4)) [13] (gName 13) tYes (eTup (aCons (eSl (eVar 13) oNone (oSome (eC (.int 2)))) (aCons (e2 (eVar 13) (eC (.int 2)) ixD) aNil)))) aNil) (f1 dictP)) (eTup (aCons (eVar 8) (aCons (eVar 9) aNil))) ixD) (eVar 11) (aCmp (fun i j => decide (i ≤ j)))) neN) (sRet (eC (.bl false))) sNx))
  (sIf (tOr (e2t (eTup (aCons (eVar 8) (aCons (e2 (eVar 9) (eC (.int 6)) aAdd) (aCons (eVar 10) aNil)))) (eVar 7) (inGv mt_contains)) (e2t (eTup (aCons (eVar 6) (aCons (eVar 9) (aCons (eC (.int 3)) aNil)))) (eVar 7) (inGv mt_contains))) (sRet (eC (.bl false))) sNx)))
  (sIf (tOr (e2t (eK (aCons (fun _ h => mkF 0 f_Stages_init [c_dv_Stages_init_0] h) aNil) (f1 (lenG mt_len))) (eC (.int 0)) neN) (tOr (e2t (eAt at_crowd (fun _ h => mkF 0 f_Stages_init [c_dv_Stages_init_0] h)) (eTup aNil) neN) (e2t (eAt at_crowd (fun _ h => mkF 0 f_Stages_init [c_dv_Stages_init_0] h)) (eAt at_crowd (eKw (aCons (eLst aNil) aNil) aNil 1 0 (fun xs _ => xs ++ []) (mkF 0 f_Stages_init))) neN))) (sRet (eC (.bl false))) sNx)))))))))))
  (sRet (eC (.bl true))))
def f_law : F := runF 1 14 b_law
theorem r_law {x0 : A} {h : Hs} {ke : KE A} : (f_law [x0] h).sat ke = (b_law [some x0, none, none, none, none, none, none, none, none, none, none, none, none, none] h).sat (kFn ke) := s_run rfl
theorem d_law {G : Gc} (z_range : G.mg "range" = none) (bi_max : Bi G.mg "max" (.builtin "max")) (bi_min : Bi G.mg "min" (.builtin "min")) (bi_len : Bi G.mg "len" (.builtin "len")) (MT_len : MtOk G "__len__" 2 mt_len) (D_law_bag : DfR G "_law_bag" 4 2 f_law_bag) (D_law_stages : DfR G "_law_stages" 6 2 f_law_stages) (D_law_due : DfR G "_law_due" 7 1 f_law_due) (bt_list : Bi G.mg "list" (.type "list")) (D_law_word : DfR G "_law_word" 5 2 f_law_word) (ITF : ItOk G itf) (D_law_take : DfR G "_law_take" 1 2 f_law_take) (DK_Stages_1_ : DcK G "Stages" 0 1 1 [] 1 (fun xs _ => xs ++ []) f_Stages_init) (bt_tuple : Bi G.mg "tuple" (.type "tuple")) (A_crowd : AtOk G "crowd" 2 at_crowd) (bi_isinstance : Bi G.mg "isinstance" (.builtin "isinstance")) (IO : IsaOk G isa) (bi_repr : Bi G.mg "repr" (.builtin "repr")) (MT_repr : MtOk G "__repr__" 2 mt_repr) (MT_contains : MtOk G "__contains__" 2 mt_contains) (bt_dict : Bi G.mg "dict" (.type "dict")) (DK_Stages_0_ : DcK G "Stages" 0 1 0 [] 1 (fun xs _ => xs ++ [c_dv_Stages_init_0]) f_Stages_init) (W : WX) : DSs G (wh s_law ["_law_script", "_law_at", "_law_bag_here", "_law_stages_here", "_law_due_here", "_law_handed", "_law_stranger", "_law_made", "_law_name", "_law_index", "_law_elapsed", "_law_ticks", "_law_stage", "_law_one"] [0, 1, 2, 3, 4, 5, 6, 7, 8, 9, 10, 11] [0, 1, 2, 3, 4, 5, 6, 7, 8, 9, 10, 11] ["range", "max", "min", "len", "_law_bag", "_law_stages", "_law_due", "list", "_law_word", "_law_take", "Stages", "tuple", "isinstance", "repr", "dict"] 7 W) (defBody s_law) b_law :=
  (dss_cons (ds_for (ws := [1]) (di_range z_range (List.mem_of_getElem? (i := 0) rfl) (de_callB bi_max ok_max (List.mem_of_getElem? (i := 1) rfl) (da_cons de_int (da_cons (de_callB bi_min ok_min (List.mem_of_getElem? (i := 2) rfl) (da_cons de_int (da_cons (de_callB bi_len (ok_lenG MT_len (Nat.le_of_ble_eq_true rfl)) (List.mem_of_getElem? (i := 3) rfl) (da_cons (de_var 0) da_nil)) da_nil))) da_nil)))) (dg_name 1) (dss_cons (ds_set 2 (de_call D_law_bag (List.mem_of_getElem? (i := 4) rfl) (Nat.le_of_ble_eq_true rfl) (da_cons (de_var 0) (da_cons (de_var 1) da_nil))))
  (dss_cons (ds_set 3 (de_call D_law_stages (List.mem_of_getElem? (i := 5) rfl) (Nat.le_of_ble_eq_true rfl) (da_cons (de_var 2) (da_cons de_int da_nil))))
  (dss_cons (ds_par 4 5 (de_call D_law_due (List.mem_of_getElem? (i := 6) rfl) (Nat.le_of_ble_eq_true rfl) (da_cons (de_var 3) da_nil)) (de_callT bt_list ok_listT (List.mem_of_getElem? (i := 7) rfl) (da_cons (de_var 3) da_nil)) (fun _ _ _ _ => rfl) (by kernel_rfl) (by kernel_rfl))
  (dss_cons (ds_set 6 (de_call D_law_word (List.mem_of_getElem? (i := 8) rfl) (Nat.le_of_ble_eq_true rfl) (da_cons (de_var 2) (da_cons (de_lc (own := [("_law_stage", 12)]) (rd := [12]) (wr := [12]) (GL := []) (ws := [12]) [12] (di_any ITF (de_var 3) (Nat.le_of_ble_eq_true rfl)) (blkOk_by (by kernel_rfl)) (by kernel_rfl) (dg_name 12) dts_nil (de_sub ox_ixD (de_var 12) de_int)) da_nil))))
  (dss_cons (ds_set 7 (de_if (dt_cmp oc_eqN (de_call D_law_take (List.mem_of_getElem? (i := 9) rfl) (Nat.le_of_ble_eq_true rfl) (da_cons (de_var 2) (da_cons de_int da_nil))) de_int (nomark _)) (de_mkKF DK_Stages_1_ (List.mem_of_getElem? (i := 10) rfl) (Nat.le_of_ble_eq_true rfl) (da_cons (de_var 5) da_nil) dk_nil) (de_mkKF DK_Stages_1_ (List.mem_of_getElem? (i := 10) rfl) (Nat.le_of_ble_eq_true rfl) (da_cons (de_callT bt_tuple ok_tuple (List.mem_of_getElem? (i := 11) rfl) (da_cons (de_var 5) da_nil)) da_nil) dk_nil)))
  (dss_cons (ds_expr (de_mlst PySem.F.plainAttrs_list PySem.F.slot_list_append PySem.F.type_list_append om_append (de_var 5) (da_cons (de_tup (da_cons de_str (da_cons de_int (da_cons de_int da_nil)))) da_nil)))
  (dss_cons (ds_if (dt_or (dt_not (dt_val ot_tru (de_callB bi_isinstance (ok_isa IO) (List.mem_of_getElem? (i := 12) rfl) (da_cons (de_att A_crowd (Nat.le_of_ble_eq_true rfl) (de_var 7)) (da_cons (de_bty bt_tuple (List.mem_of_getElem? (i := 11) rfl)) da_nil))))) (dw_or (dt_cmp oc_neN (de_att A_crowd (Nat.le_of_ble_eq_true rfl) (de_var 7)) (de_var 4) (nomark _)) (dw_or1 (dt_cmp oc_neN (de_callB bi_len (ok_lenG MT_len (Nat.le_of_ble_eq_true rfl)) (List.mem_of_getElem? (i := 3) rfl) (da_cons (de_var 7) da_nil)) (de_callB bi_len (ok_lenG MT_len (Nat.le_of_ble_eq_true rfl)) (List.mem_of_getElem? (i := 3) rfl) (da_cons (de_var 4) da_nil)) (nomark _))))) (dss_one (ds_ret de_bl)) dss_nil)
  (dss_cons (ds_if (dt_or (dt_cmp oc_neN (de_lc (own := [("_law_stage", 12)]) (rd := [12]) (wr := [12]) (GL := []) (ws := [12]) [12] (di_any ITF (de_var 7) (Nat.le_of_ble_eq_true rfl)) (blkOk_by (by kernel_rfl)) (by kernel_rfl) (dg_name 12) dts_nil (de_var 12)) (de_callT bt_list (ok_listO MT_len ITF (Nat.le_of_ble_eq_true rfl)) (List.mem_of_getElem? (i := 7) rfl) (da_cons (de_var 4) da_nil)) (nomark _)) (dw_or (dt_cmp oc_neN (de_callT bt_list (ok_listO MT_len ITF (Nat.le_of_ble_eq_true rfl)) (List.mem_of_getElem? (i := 7) rfl) (da_cons (de_var 7) da_nil)) (de_callT bt_list (ok_listO MT_len ITF (Nat.le_of_ble_eq_true rfl)) (List.mem_of_getElem? (i := 7) rfl) (da_cons (de_var 4) da_nil)) (nomark _)) (dw_or1 (dt_cmp oc_neN (de_callB bi_repr (ok_reprG MT_repr (Nat.le_of_ble_eq_true rfl)) (List.mem_of_getElem? (i := 13) rfl) (da_cons (de_var 7) da_nil)) (de_bin ob_add (de_bin ob_add de_str (de_callB bi_repr (ok_reprG MT_repr (Nat.le_of_ble_eq_true rfl)) (List.mem_of_getElem? (i := 13) rfl) (da_cons (de_var 4) da_nil))) de_str) (nomark _))))) (dss_one (ds_ret de_bl)) dss_nil)
  (dss_cons (ds_for (ws := [8, 9, 10]) (di_any ITF (de_var 3) (Nat.le_of_ble_eq_true rfl)) (dg_tup (dgs_cons (dg_name 8) (dgs_cons (dg_name 9) (dgs_cons (dg_name 10) dgs_nil)))) (dss_cons (ds_for (ws := [11]) (di_range z_range (List.mem_of_getElem? (i := 0) rfl) de_int) (dg_name 11) (dss_one (ds_if (dt_cmp oc_neN (de_cmp (oc_inG MT_contains (Nat.le_of_ble_eq_true rfl)) (de_tup (da_cons (de_var 8) (da_cons (de_var 9) (da_cons (de_var 11) da_nil)))) (de_var 7) rfl) (de_cmp (oc_int ci_le) (de_sub ox_ixD (de_callT bt_dict ok_dictP (List.mem_of_getElem? (i := 14) rfl) (da_cons (de_lc (own := [("_law_one", 13)]) (rd := [13]) (wr := [13]) (GL := []) (ws := [13]) [13] (di_any ITF (de_var 4) (Nat.le_of_ble_eq_true rfl)) (blkOk_by (by kernel_rfl)) (by kernel_rfl) (dg_name 13) dts_nil (de_tup (da_cons (de_slice (de_var 13) do_none (do_some de_int)) (da_cons (de_sub ox_ixD (de_var 13) de_int) da_nil)))) da_nil)) (de_tup (da_cons (de_var 8) (da_cons (de_var 9) da_nil)))) (de_var 11) (nomark _)) (nomark _)) (dss_one (ds_ret de_bl)) dss_nil)))
  (dss_one (ds_if (dt_or (dt_cmp (oc_inG MT_contains (Nat.le_of_ble_eq_true rfl)) (de_tup (da_cons (de_var 8) (da_cons (de_bin ob_add (de_var 9) de_int) (da_cons (de_var 10) da_nil)))) (de_var 7) rfl) (dw_or1 (dt_cmp (oc_inG MT_contains (Nat.le_of_ble_eq_true rfl)) (de_tup (da_cons (de_var 6) (da_cons (de_var 9) (da_cons de_int da_nil)))) (de_var 7) rfl))) (dss_one (ds_ret de_bl)) dss_nil))))
  (dss_one (ds_if (dt_or (dt_cmp oc_neN (de_callB bi_len (ok_lenG MT_len (Nat.le_of_ble_eq_true rfl)) (List.mem_of_getElem? (i := 3) rfl) (da_cons (de_mkKF0 DK_Stages_0_ (List.mem_of_getElem? (i := 10) rfl) (Nat.le_of_ble_eq_true rfl)) da_nil)) de_int (nomark _)) (dw_or (dt_cmp oc_neN (de_att A_crowd (Nat.le_of_ble_eq_true rfl) (de_mkKF0 DK_Stages_0_ (List.mem_of_getElem? (i := 10) rfl) (Nat.le_of_ble_eq_true rfl))) (de_tup da_nil) (nomark _)) (dw_or1 (dt_cmp oc_neN (de_att A_crowd (Nat.le_of_ble_eq_true rfl) (de_mkKF0 DK_Stages_0_ (List.mem_of_getElem? (i := 10) rfl) (Nat.le_of_ble_eq_true rfl))) (de_att A_crowd (Nat.le_of_ble_eq_true rfl) (de_mkKF DK_Stages_1_ (List.mem_of_getElem? (i := 10) rfl) (Nat.le_of_ble_eq_true rfl) (da_cons (de_lst da_nil) da_nil) dk_nil)) (nomark _))))) (dss_one (ds_ret de_bl)) dss_nil))))))))))))
  (dss_one (ds_ret de_bl)))
/-! the words by which a text of combinators is walked -/
local macro_rules | `(tactic| wtm_at "ev") => `(tactic| simp only [↓s_ok, ↓s_ex, ↓s_bad, ↓s_Nx, ↓s_Rt, ↓n_seq, ↓r_seq, ↓b_seq, ↓c_seq, ↓e_seq, ↓s_seq, ↓s_nx, ↓s_bk, ↓s_ct, ↓s_retN, ↓q_expr, ↓e_expr, ↓s_expr, ↓q_ret, ↓e_ret, ↓s_ret, ↓q_set, ↓e_set, ↓s_set, ↓q_if, ↓e_if, ↓s_if, ↓q_parb, ↓e_parb, ↓q_par, ↓e_par, ↓s_par, ↓q_par3c, ↓e_par3c, ↓q_par3b, ↓e_par3b, ↓q_par3, ↓e_par3, ↓s_par3, ↓n_no, ↓e_no, ↓q_as, ↓e_as, ↓s_asg, ↓s_gname, ↓q_gu, ↓e_gu, ↓q_gi, ↓e_gi, ↓q_go, ↓e_go, ↓s_gsub, ↓s_gtup2, ↓s_gtup3, ↓s_gtup1, ↓s_gtup4, ↓s_gsnil, ↓n_gs, ↓e_gs, ↓s_gscons, ↓q_au, ↓e_au, ↓s_aug, ↓q_fo, ↓e_fo, ↓q_fv, ↓e_fv, ↓s_fld, ↓s_yes, ↓s_no, ↓q_w, ↓e_w, ↓s_var, ↓s_getV, ↓s_c, ↓s_e1, ↓q_o1, ↓e_o1, ↓s_e2, ↓q_bl, ↓e_bl, ↓s_isB, ↓s_e2t, ↓s_t1, ↓q_nt, ↓e_nt, ↓s_tnot, ↓q_an, ↓e_an, ↓s_tand, ↓q_oo, ↓e_oo, ↓s_tor, ↓q_ie, ↓e_ie, ↓s_eif, ↓q_ea, ↓e_ea, ↓s_eand, ↓q_eo, ↓e_eo, ↓s_eor, ↓q_en, ↓e_en, ↓s_enot, ↓s_anil, ↓q_ac2, ↓e_ac2, ↓q_ac, ↓e_ac, ↓s_acons, ↓q_tp, ↓q_ls, ↓q_lt, ↓e_tp, ↓e_ls, ↓e_lt, ↓s_chk, ↓s_tup, ↓s_lst, ↓s_lstT, ↓s_k, ↓s_at, ↓s_f1, ↓s_f2, ↓q_ml, ↓e_ml, ↓s_ml, ↓q_ms, ↓e_ms, ↓s_ms, ↓s_int, ↓s_cmp, ↓s_addI, ↓s_addS, ↓s_addT, ↓s_addL, ↓s_neg, ↓s_intI, ↓s_intB, ↓s_abs, ↓s_max, ↓s_min, ↓s_truB, ↓s_truI, ↓s_truN, ↓s_truL, ↓s_truT, ↓s_lenL, ↓s_lenT, ↓s_lenC, ↓s_lenS, ↓s_isNn, ↓s_notNn, ↓s_isNi, ↓s_notNi, ↓s_isNs, ↓s_notNs, ↓s_eqI, ↓s_neI, ↓s_ixR, ↓s_ixL, ↓s_ixT, ↓s_ixC, ↓s_setR, ↓s_append, ↓s_truR, ↓s_lenR, ↓s_getAt, ↓s_setAt, ↓n_fn, ↓r_fn, ↓e_fn, ↓q_mk, ↓e_mk, ↓q_mkT, ↓e_mkT, ↓s_frz, ↓s_isa, ↓s_ownBi, ↓s_ownMi, ↓s_ownUi, ↓n_b1, ↓c_b1, ↓b_b1, ↓r_b1, ↓e_b1, ↓q_lf, ↓q_lg, ↓n_lh, ↓q_lc, ↓e_lc, ↓q_lcT, ↓e_lcT, ↓s_lc, ↓s_lcT, ↓s_lcW, ↓s_lcWT, ↓q_ir, ↓e_ir, ↓s_iRange, ↓q_il, ↓e_il, ↓s_iLst, ↓q_it, ↓e_it, ↓s_iTup, ↓q_iL, ↓e_iL, ↓s_iL, ↓q_iZ2, ↓e_iZ2, ↓q_iZ, ↓e_iZ, ↓s_iZ, ↓q_V, ↓e_V, ↓s_chkS, ↓s_exS, ↓s_raise, ↓n_end, ↓r_end, ↓b_end, ↓c_end, ↓n_try, ↓r_try, ↓b_try, ↓c_try, ↓e_try, ↓s_endT, ↓s_try, ↓n_endO, ↓r_endO, ↓b_endO, ↓c_endO, ↓n_tryO, ↓r_tryO, ↓b_tryO, ↓c_tryO, ↓e_tryO, ↓s_endO, ↓s_tryO, ↓s_xf, ↓q_xs, ↓e_xs, ↓s_xis, ↓s_dk, ↓s_dt, ↓s_ixCt, ↓s_setD, ↓s_delD, ↓s_del, ↓s_bS, ↓s_inA, ↓q_bvF, ↓q_bvT, ↓e_bv, ↓s_inD, ↓s_notinD, ↓s_inGv, ↓s_ninGv, ↓s_lenD, ↓s_lenCt, ↓s_lenBk, ↓s_listDA, ↓q_un, ↓e_un, ↓s_mb, ↓s_mb0, ↓s_nd, ↓s_bnd, ↓s_popD, ↓s_star, ↓s_iAny, ↓s_augS, ↓s_gtD, ↓s_addI, ↓s_nxS, ↓s_okO, ↓s_m, ↓s_m0, ↓s_addIn, ↓q_lo, ↓s_listOA, ↓s_ixGr, ↓s_ixGl, ↓s_ixGt, ↓s_ixGc, ↓s_ixGn, ↓s_ixGs, ↓s_ixGi, ↓s_lenGr, ↓s_lenGl, ↓s_lenGt, ↓s_lenGc, ↓s_lenGn, ↓s_lenGs, ↓s_lenGi, ↓s_setGr, ↓s_setGi, ↓s_inGr, ↓s_inGl, ↓s_inGt, ↓s_inGc, ↓s_inGs, ↓s_inGw, ↓s_inGi, ↓s_addRl, ↓s_slS, ↓s_sl, ↓s_oNone, ↓q_os, ↓s_oSome, ↓s_kw, ↓s_eqC, ↓s_eqG, ↓s_neG, ↓s_reprB, ↓s_reprN, ↓s_isSt, ↓s_strG, ↓s_strS, ↓s_dd, ↓q_dd, ↓s_pNil, ↓s_pCons, ↓s_ixDr, ↓s_ixDl, ↓s_ixDt, ↓s_ixDc, ↓s_ixDn, ↓s_ixDs, ↓s_ixDw, ↓s_ixDk, ↓s_extend, ↓q_ms0, ↓s_ms0, ↓s_upper, ↓q_repl, ↓s_repl, ↓s_reprD, ↓s_eqNs, ↓s_neNs, ↓s_eqNi, ↓s_neNi, ↓s_eqNb, ↓s_neNb, ↓s_eqNn, ↓s_neNn, ↓s_eqNt, ↓s_neNt, ↓s_eqNl, ↓s_neNl, ↓s_eqNc, ↓s_neNc, ↓s_eqNr, ↓s_neNr, ↓s_eqN0, ↓q_uk, ↓q_ky, ↓e_ky, ↓q_eu, ↓s_iEnum, ↓s_slL, ↓q_dc, ↓s_dcT, ↓q_dz, ↓q_df, ↓q_dg, ↓n_dh, ↓q_fmS, ↓q_fmI, ↓e_fm, ↓s_fmt, ↓s_reprG, ↓s_fmtR, ↓q_js, ↓e_js, ↓s_jNil, ↓s_jCons, ↓q_jo, ↓e_jo, ↓s_joined, ↓s_dictP, ↓q_sq, ↓e_sq, ↓s_iSq, ↓q_ut, getV_some, augV_some, nd_some, qO_some, qB_some, qF_some, setJ_some, ixl_0, ixl_1, ixl_2, qEm_some, atP_some, stQ_some, stP_some, g_mulW_r, gMul_r, nQ_some, ixO_lst, setO_lst, apO_lst, liO_lst, listOf_ref, itemsOf_ref, listOf_lst, inO_ins, instOf_ref, instOf_ins, lenO_lst, lenO_dk, atF_fld, atF_con, stF_fld, finO_ins, frO_lst, frV_ref, cond_true, cond_false, cds_t, cds_f, cde_t, cde_f, cds_not, cde_not, g_sub, at_0, at_1, at_2, at_3, Option.isSome_some, rv1, rv2, lb1, lb2, tryQ_t, tryQ_f, tryO_t, tryO_f, xfQ_n, xis_c, xis_t, xsQ_n, ddO_dk, ddO_dt, ddO_lst, ddO_ins, ddOf_ref, ddOf_lst, ddOf_tup, ddOf_ctp, ddOf_str, ddOf_int, ddOf_scr, ddOf_dk, ddOf_dt, ddOf_wdk, ddOf_ins, ddQ_ks, ddQ_ki, ddQ_t, kA_si, kA_ss, ixQ_some, ixQ_lst, ixQ_tup, ixQ_ctp, ixQ_str, ixQ_scr, ixQ_wdk, sdQ_ks, sdQ_ki, sdQ_t, dlQ_ks, dlQ_t, inQ_ks, inQ_ki, inQ_t, inQ_wdk, inGQ_s, inGQ_n, ldQ_t, ldQ_k, ldQ_n, lnQ_s, lnQ_n, lsQ_k, lsQ_t, lsQ_n, itemsOf_lst, itemsOf_tup, itemsOf_ctp, igQ_s, igQ_n, sgQ_s, sgQ_n, inO_lst, inO_dk, inO_dt, instOf_lst, instOf_tup, instOf_ctp, instOf_str, instOf_int, instOf_scr, instOf_wdk, instOf_non, instOf_bl, kiO_lst, kiO_dk, kiO_dt, kindB_ref, kindB_lst, kindB_str, pdQ_ks, pdQ_ki, pdQ_t, walk_lst, walk_tup, walk_ctp, walk_str, wkF_lst, wkF_tup, wkJ_some, wkP_some, walk_ref, walk_ins, loQ_s, loQ_n, owF_lst, owF_tup, owJ_some, owP_some, ownW_ref, ownW_ins, pt_n0, pt_s0, pt_n1, pt_s1, pt_n2, pt_n3, pt_n4, fl_0, fl_1, fl_2, fl_3, fl_4, tl_0, tl_1, tl_2, tl_3, igR_l, igR_i, igR_k, igR_t, lnR_l, lnR_i, lnR_k, lnR_t, sgR_l, sgR_i, sgR_k, sgR_t, inR_i, inR_k, inR_t, adR_l, isb_i, isb_b, isb_s, isb_t, isb_l, isb_n, kb_ii, kb_ib, kb_tb, kb_sb, kb_bb, kb_ss, kb_si, kb_is, inQ_sL, igR_btp, igR_bta, lb0, lb3, eqT_s, eqQ_s, eqQ_n, neQ_s, neQ_n, rTy_ins, rTy_str, rTy_int, rTy_bl, rTy_non, rTy_tup, rTy_lst, stG_s, stG_n, keyP_n, keyP_s, idR_l, idR_k, idR_fk, idR_ft, idR_t, sdQ_ll, exO_lst, tl_4, tl_5, tl_6, tl_7, tl_8, tl_9, tl_10, tl_11, tl_12, tl_13, tl_14, tl_15, tl_44, walk_of, kyQ_fk, keyA_i, keyA_s, rpG_s, rpG_n, wSq_lst, wSq_tup, wSq_ctp, wSq_ref, t_isa_0_0, t_at_best_0, t_at_listed_0, t_itf_0, t_at_crowd_0, t_mt_len_0, t_mt_contains_0, t_mt_repr_0, List.set_cons_zero, List.set_cons_succ, List.getElem?_cons_zero, List.getElem?_cons_succ, true_and, and_true, Bool.not_true, Bool.not_false, Int.reduceLT, Int.reduceLE, Int.reduceNeg, Int.reduceAdd, Int.reduceSub, Int.reduceMul, Int.reducePow, Int.reduceToNat, Int.reduceBEq, Int.reduceBNe, Nat.reduceAdd, Nat.reduceSub, Nat.reduceMul, Nat.reduceLT, Nat.reduceLeDiff, Nat.reduceBEq, decide_true, decide_false, and_self])
local macro_rules | `(tactic| simp_arith [$ls,*]) => `(tactic| simp only [↓s_ok, ↓s_ex, ↓s_bad, ↓s_Nx, ↓s_Rt, ↓n_seq, ↓r_seq, ↓b_seq, ↓c_seq, ↓e_seq, ↓s_seq, ↓s_nx, ↓s_bk, ↓s_ct, ↓s_retN, ↓q_expr, ↓e_expr, ↓s_expr, ↓q_ret, ↓e_ret, ↓s_ret, ↓q_set, ↓e_set, ↓s_set, ↓q_if, ↓e_if, ↓s_if, ↓q_parb, ↓e_parb, ↓q_par, ↓e_par, ↓s_par, ↓q_par3c, ↓e_par3c, ↓q_par3b, ↓e_par3b, ↓q_par3, ↓e_par3, ↓s_par3, ↓n_no, ↓e_no, ↓q_as, ↓e_as, ↓s_asg, ↓s_gname, ↓q_gu, ↓e_gu, ↓q_gi, ↓e_gi, ↓q_go, ↓e_go, ↓s_gsub, ↓s_gtup2, ↓s_gtup3, ↓s_gtup1, ↓s_gtup4, ↓s_gsnil, ↓n_gs, ↓e_gs, ↓s_gscons, ↓q_au, ↓e_au, ↓s_aug, ↓q_fo, ↓e_fo, ↓q_fv, ↓e_fv, ↓s_fld, ↓s_yes, ↓s_no, ↓q_w, ↓e_w, ↓s_var, ↓s_getV, ↓s_c, ↓s_e1, ↓q_o1, ↓e_o1, ↓s_e2, ↓q_bl, ↓e_bl, ↓s_isB, ↓s_e2t, ↓s_t1, ↓q_nt, ↓e_nt, ↓s_tnot, ↓q_an, ↓e_an, ↓s_tand, ↓q_oo, ↓e_oo, ↓s_tor, ↓q_ie, ↓e_ie, ↓s_eif, ↓q_ea, ↓e_ea, ↓s_eand, ↓q_eo, ↓e_eo, ↓s_eor, ↓q_en, ↓e_en, ↓s_enot, ↓s_anil, ↓q_ac2, ↓e_ac2, ↓q_ac, ↓e_ac, ↓s_acons, ↓q_tp, ↓q_ls, ↓q_lt, ↓e_tp, ↓e_ls, ↓e_lt, ↓s_chk, ↓s_tup, ↓s_lst, ↓s_lstT, ↓s_k, ↓s_at, ↓s_f1, ↓s_f2, ↓q_ml, ↓e_ml, ↓s_ml, ↓q_ms, ↓e_ms, ↓s_ms, ↓s_int, ↓s_cmp, ↓s_addI, ↓s_addS, ↓s_addT, ↓s_addL, ↓s_neg, ↓s_intI, ↓s_intB, ↓s_abs, ↓s_max, ↓s_min, ↓s_truB, ↓s_truI, ↓s_truN, ↓s_truL, ↓s_truT, ↓s_lenL, ↓s_lenT, ↓s_lenC, ↓s_lenS, ↓s_isNn, ↓s_notNn, ↓s_isNi, ↓s_notNi, ↓s_isNs, ↓s_notNs, ↓s_eqI, ↓s_neI, ↓s_ixR, ↓s_ixL, ↓s_ixT, ↓s_ixC, ↓s_setR, ↓s_append, ↓s_truR, ↓s_lenR, ↓s_getAt, ↓s_setAt, ↓n_fn, ↓r_fn, ↓e_fn, ↓q_mk, ↓e_mk, ↓q_mkT, ↓e_mkT, ↓s_frz, ↓s_isa, ↓s_ownBi, ↓s_ownMi, ↓s_ownUi, ↓n_b1, ↓c_b1, ↓b_b1, ↓r_b1, ↓e_b1, ↓q_lf, ↓q_lg, ↓n_lh, ↓q_lc, ↓e_lc, ↓q_lcT, ↓e_lcT, ↓s_lc, ↓s_lcT, ↓s_lcW, ↓s_lcWT, ↓q_ir, ↓e_ir, ↓s_iRange, ↓q_il, ↓e_il, ↓s_iLst, ↓q_it, ↓e_it, ↓s_iTup, ↓q_iL, ↓e_iL, ↓s_iL, ↓q_iZ2, ↓e_iZ2, ↓q_iZ, ↓e_iZ, ↓s_iZ, ↓q_V, ↓e_V, ↓s_chkS, ↓s_exS, ↓s_raise, ↓n_end, ↓r_end, ↓b_end, ↓c_end, ↓n_try, ↓r_try, ↓b_try, ↓c_try, ↓e_try, ↓s_endT, ↓s_try, ↓n_endO, ↓r_endO, ↓b_endO, ↓c_endO, ↓n_tryO, ↓r_tryO, ↓b_tryO, ↓c_tryO, ↓e_tryO, ↓s_endO, ↓s_tryO, ↓s_xf, ↓q_xs, ↓e_xs, ↓s_xis, ↓s_dk, ↓s_dt, ↓s_ixCt, ↓s_setD, ↓s_delD, ↓s_del, ↓s_bS, ↓s_inA, ↓q_bvF, ↓q_bvT, ↓e_bv, ↓s_inD, ↓s_notinD, ↓s_inGv, ↓s_ninGv, ↓s_lenD, ↓s_lenCt, ↓s_lenBk, ↓s_listDA, ↓q_un, ↓e_un, ↓s_mb, ↓s_mb0, ↓s_nd, ↓s_bnd, ↓s_popD, ↓s_star, ↓s_iAny, ↓s_augS, ↓s_gtD, ↓s_addI, ↓s_nxS, ↓s_okO, ↓s_m, ↓s_m0, ↓s_addIn, ↓q_lo, ↓s_listOA, ↓s_ixGr, ↓s_ixGl, ↓s_ixGt, ↓s_ixGc, ↓s_ixGn, ↓s_ixGs, ↓s_ixGi, ↓s_lenGr, ↓s_lenGl, ↓s_lenGt, ↓s_lenGc, ↓s_lenGn, ↓s_lenGs, ↓s_lenGi, ↓s_setGr, ↓s_setGi, ↓s_inGr, ↓s_inGl, ↓s_inGt, ↓s_inGc, ↓s_inGs, ↓s_inGw, ↓s_inGi, ↓s_addRl, ↓s_slS, ↓s_sl, ↓s_oNone, ↓q_os, ↓s_oSome, ↓s_kw, ↓s_eqC, ↓s_eqG, ↓s_neG, ↓s_reprB, ↓s_reprN, ↓s_isSt, ↓s_strG, ↓s_strS, ↓s_dd, ↓q_dd, ↓s_pNil, ↓s_pCons, ↓s_ixDr, ↓s_ixDl, ↓s_ixDt, ↓s_ixDc, ↓s_ixDn, ↓s_ixDs, ↓s_ixDw, ↓s_ixDk, ↓s_extend, ↓q_ms0, ↓s_ms0, ↓s_upper, ↓q_repl, ↓s_repl, ↓s_reprD, ↓s_eqNs, ↓s_neNs, ↓s_eqNi, ↓s_neNi, ↓s_eqNb, ↓s_neNb, ↓s_eqNn, ↓s_neNn, ↓s_eqNt, ↓s_neNt, ↓s_eqNl, ↓s_neNl, ↓s_eqNc, ↓s_neNc, ↓s_eqNr, ↓s_neNr, ↓s_eqN0, ↓q_uk, ↓q_ky, ↓e_ky, ↓q_eu, ↓s_iEnum, ↓s_slL, ↓q_dc, ↓s_dcT, ↓q_dz, ↓q_df, ↓q_dg, ↓n_dh, ↓q_fmS, ↓q_fmI, ↓e_fm, ↓s_fmt, ↓s_reprG, ↓s_fmtR, ↓q_js, ↓e_js, ↓s_jNil, ↓s_jCons, ↓q_jo, ↓e_jo, ↓s_joined, ↓s_dictP, ↓q_sq, ↓e_sq, ↓s_iSq, ↓q_ut, getV_some, augV_some, nd_some, qO_some, qB_some, qF_some, setJ_some, ixl_0, ixl_1, ixl_2, qEm_some, atP_some, stQ_some, stP_some, g_mulW_r, gMul_r, nQ_some, ixO_lst, setO_lst, apO_lst, liO_lst, listOf_ref, itemsOf_ref, listOf_lst, inO_ins, instOf_ref, instOf_ins, lenO_lst, lenO_dk, atF_fld, atF_con, stF_fld, finO_ins, frO_lst, frV_ref, cond_true, cond_false, cds_t, cds_f, cde_t, cde_f, cds_not, cde_not, g_sub, at_0, at_1, at_2, at_3, Option.isSome_some, rv1, rv2, lb1, lb2, tryQ_t, tryQ_f, tryO_t, tryO_f, xfQ_n, xis_c, xis_t, xsQ_n, ddO_dk, ddO_dt, ddO_lst, ddO_ins, ddOf_ref, ddOf_lst, ddOf_tup, ddOf_ctp, ddOf_str, ddOf_int, ddOf_scr, ddOf_dk, ddOf_dt, ddOf_wdk, ddOf_ins, ddQ_ks, ddQ_ki, ddQ_t, kA_si, kA_ss, ixQ_some, ixQ_lst, ixQ_tup, ixQ_ctp, ixQ_str, ixQ_scr, ixQ_wdk, sdQ_ks, sdQ_ki, sdQ_t, dlQ_ks, dlQ_t, inQ_ks, inQ_ki, inQ_t, inQ_wdk, inGQ_s, inGQ_n, ldQ_t, ldQ_k, ldQ_n, lnQ_s, lnQ_n, lsQ_k, lsQ_t, lsQ_n, itemsOf_lst, itemsOf_tup, itemsOf_ctp, igQ_s, igQ_n, sgQ_s, sgQ_n, inO_lst, inO_dk, inO_dt, instOf_lst, instOf_tup, instOf_ctp, instOf_str, instOf_int, instOf_scr, instOf_wdk, instOf_non, instOf_bl, kiO_lst, kiO_dk, kiO_dt, kindB_ref, kindB_lst, kindB_str, pdQ_ks, pdQ_ki, pdQ_t, walk_lst, walk_tup, walk_ctp, walk_str, wkF_lst, wkF_tup, wkJ_some, wkP_some, walk_ref, walk_ins, loQ_s, loQ_n, owF_lst, owF_tup, owJ_some, owP_some, ownW_ref, ownW_ins, pt_n0, pt_s0, pt_n1, pt_s1, pt_n2, pt_n3, pt_n4, fl_0, fl_1, fl_2, fl_3, fl_4, tl_0, tl_1, tl_2, tl_3, igR_l, igR_i, igR_k, igR_t, lnR_l, lnR_i, lnR_k, lnR_t, sgR_l, sgR_i, sgR_k, sgR_t, inR_i, inR_k, inR_t, adR_l, isb_i, isb_b, isb_s, isb_t, isb_l, isb_n, kb_ii, kb_ib, kb_tb, kb_sb, kb_bb, kb_ss, kb_si, kb_is, inQ_sL, igR_btp, igR_bta, lb0, lb3, eqT_s, eqQ_s, eqQ_n, neQ_s, neQ_n, rTy_ins, rTy_str, rTy_int, rTy_bl, rTy_non, rTy_tup, rTy_lst, stG_s, stG_n, keyP_n, keyP_s, idR_l, idR_k, idR_fk, idR_ft, idR_t, sdQ_ll, exO_lst, tl_4, tl_5, tl_6, tl_7, tl_8, tl_9, tl_10, tl_11, tl_12, tl_13, tl_14, tl_15, tl_44, walk_of, kyQ_fk, keyA_i, keyA_s, rpG_s, rpG_n, wSq_lst, wSq_tup, wSq_ctp, wSq_ref, t_isa_0_0, t_at_best_0, t_at_listed_0, t_itf_0, t_at_crowd_0, t_mt_len_0, t_mt_contains_0, t_mt_repr_0, List.set_cons_zero, List.set_cons_succ, List.getElem?_cons_zero, List.getElem?_cons_succ, true_and, and_true, Bool.not_true, Bool.not_false, Int.reduceLT, Int.reduceLE, Int.reduceNeg, Int.reduceAdd, Int.reduceSub, Int.reduceMul, Int.reducePow, Int.reduceToNat, Int.reduceBEq, Int.reduceBNe, Nat.reduceAdd, Nat.reduceSub, Nat.reduceMul, Nat.reduceLT, Nat.reduceLeDiff, Nat.reduceBEq, decide_true, decide_false, and_self, $ls,*])
local macro_rules | `(tactic| simp_all_arith [$ls,*]) => `(tactic| simp only [↓s_ok, ↓s_ex, ↓s_bad, ↓s_Nx, ↓s_Rt, ↓n_seq, ↓r_seq, ↓b_seq, ↓c_seq, ↓e_seq, ↓s_seq, ↓s_nx, ↓s_bk, ↓s_ct, ↓s_retN, ↓q_expr, ↓e_expr, ↓s_expr, ↓q_ret, ↓e_ret, ↓s_ret, ↓q_set, ↓e_set, ↓s_set, ↓q_if, ↓e_if, ↓s_if, ↓q_parb, ↓e_parb, ↓q_par, ↓e_par, ↓s_par, ↓q_par3c, ↓e_par3c, ↓q_par3b, ↓e_par3b, ↓q_par3, ↓e_par3, ↓s_par3, ↓n_no, ↓e_no, ↓q_as, ↓e_as, ↓s_asg, ↓s_gname, ↓q_gu, ↓e_gu, ↓q_gi, ↓e_gi, ↓q_go, ↓e_go, ↓s_gsub, ↓s_gtup2, ↓s_gtup3, ↓s_gtup1, ↓s_gtup4, ↓s_gsnil, ↓n_gs, ↓e_gs, ↓s_gscons, ↓q_au, ↓e_au, ↓s_aug, ↓q_fo, ↓e_fo, ↓q_fv, ↓e_fv, ↓s_fld, ↓s_yes, ↓s_no, ↓q_w, ↓e_w, ↓s_var, ↓s_getV, ↓s_c, ↓s_e1, ↓q_o1, ↓e_o1, ↓s_e2, ↓q_bl, ↓e_bl, ↓s_isB, ↓s_e2t, ↓s_t1, ↓q_nt, ↓e_nt, ↓s_tnot, ↓q_an, ↓e_an, ↓s_tand, ↓q_oo, ↓e_oo, ↓s_tor, ↓q_ie, ↓e_ie, ↓s_eif, ↓q_ea, ↓e_ea, ↓s_eand, ↓q_eo, ↓e_eo, ↓s_eor, ↓q_en, ↓e_en, ↓s_enot, ↓s_anil, ↓q_ac2, ↓e_ac2, ↓q_ac, ↓e_ac, ↓s_acons, ↓q_tp, ↓q_ls, ↓q_lt, ↓e_tp, ↓e_ls, ↓e_lt, ↓s_chk, ↓s_tup, ↓s_lst, ↓s_lstT, ↓s_k, ↓s_at, ↓s_f1, ↓s_f2, ↓q_ml, ↓e_ml, ↓s_ml, ↓q_ms, ↓e_ms, ↓s_ms, ↓s_int, ↓s_cmp, ↓s_addI, ↓s_addS, ↓s_addT, ↓s_addL, ↓s_neg, ↓s_intI, ↓s_intB, ↓s_abs, ↓s_max, ↓s_min, ↓s_truB, ↓s_truI, ↓s_truN, ↓s_truL, ↓s_truT, ↓s_lenL, ↓s_lenT, ↓s_lenC, ↓s_lenS, ↓s_isNn, ↓s_notNn, ↓s_isNi, ↓s_notNi, ↓s_isNs, ↓s_notNs, ↓s_eqI, ↓s_neI, ↓s_ixR, ↓s_ixL, ↓s_ixT, ↓s_ixC, ↓s_setR, ↓s_append, ↓s_truR, ↓s_lenR, ↓s_getAt, ↓s_setAt, ↓n_fn, ↓r_fn, ↓e_fn, ↓q_mk, ↓e_mk, ↓q_mkT, ↓e_mkT, ↓s_frz, ↓s_isa, ↓s_ownBi, ↓s_ownMi, ↓s_ownUi, ↓n_b1, ↓c_b1, ↓b_b1, ↓r_b1, ↓e_b1, ↓q_lf, ↓q_lg, ↓n_lh, ↓q_lc, ↓e_lc, ↓q_lcT, ↓e_lcT, ↓s_lc, ↓s_lcT, ↓s_lcW, ↓s_lcWT, ↓q_ir, ↓e_ir, ↓s_iRange, ↓q_il, ↓e_il, ↓s_iLst, ↓q_it, ↓e_it, ↓s_iTup, ↓q_iL, ↓e_iL, ↓s_iL, ↓q_iZ2, ↓e_iZ2, ↓q_iZ, ↓e_iZ, ↓s_iZ, ↓q_V, ↓e_V, ↓s_chkS, ↓s_exS, ↓s_raise, ↓n_end, ↓r_end, ↓b_end, ↓c_end, ↓n_try, ↓r_try, ↓b_try, ↓c_try, ↓e_try, ↓s_endT, ↓s_try, ↓n_endO, ↓r_endO, ↓b_endO, ↓c_endO, ↓n_tryO, ↓r_tryO, ↓b_tryO, ↓c_tryO, ↓e_tryO, ↓s_endO, ↓s_tryO, ↓s_xf, ↓q_xs, ↓e_xs, ↓s_xis, ↓s_dk, ↓s_dt, ↓s_ixCt, ↓s_setD, ↓s_delD, ↓s_del, ↓s_bS, ↓s_inA, ↓q_bvF, ↓q_bvT, ↓e_bv, ↓s_inD, ↓s_notinD, ↓s_inGv, ↓s_ninGv, ↓s_lenD, ↓s_lenCt, ↓s_lenBk, ↓s_listDA, ↓q_un, ↓e_un, ↓s_mb, ↓s_mb0, ↓s_nd, ↓s_bnd, ↓s_popD, ↓s_star, ↓s_iAny, ↓s_augS, ↓s_gtD, ↓s_addI, ↓s_nxS, ↓s_okO, ↓s_m, ↓s_m0, ↓s_addIn, ↓q_lo, ↓s_listOA, ↓s_ixGr, ↓s_ixGl, ↓s_ixGt, ↓s_ixGc, ↓s_ixGn, ↓s_ixGs, ↓s_ixGi, ↓s_lenGr, ↓s_lenGl, ↓s_lenGt, ↓s_lenGc, ↓s_lenGn, ↓s_lenGs, ↓s_lenGi, ↓s_setGr, ↓s_setGi, ↓s_inGr, ↓s_inGl, ↓s_inGt, ↓s_inGc, ↓s_inGs, ↓s_inGw, ↓s_inGi, ↓s_addRl, ↓s_slS, ↓s_sl, ↓s_oNone, ↓q_os, ↓s_oSome, ↓s_kw, ↓s_eqC, ↓s_eqG, ↓s_neG, ↓s_reprB, ↓s_reprN, ↓s_isSt, ↓s_strG, ↓s_strS, ↓s_dd, ↓q_dd, ↓s_pNil, ↓s_pCons, ↓s_ixDr, ↓s_ixDl, ↓s_ixDt, ↓s_ixDc, ↓s_ixDn, ↓s_ixDs, ↓s_ixDw, ↓s_ixDk, ↓s_extend, ↓q_ms0, ↓s_ms0, ↓s_upper, ↓q_repl, ↓s_repl, ↓s_reprD, ↓s_eqNs, ↓s_neNs, ↓s_eqNi, ↓s_neNi, ↓s_eqNb, ↓s_neNb, ↓s_eqNn, ↓s_neNn, ↓s_eqNt, ↓s_neNt, ↓s_eqNl, ↓s_neNl, ↓s_eqNc, ↓s_neNc, ↓s_eqNr, ↓s_neNr, ↓s_eqN0, ↓q_uk, ↓q_ky, ↓e_ky, ↓q_eu, ↓s_iEnum, ↓s_slL, ↓q_dc, ↓s_dcT, ↓q_dz, ↓q_df, ↓q_dg, ↓n_dh, ↓q_fmS, ↓q_fmI, ↓e_fm, ↓s_fmt, ↓s_reprG, ↓s_fmtR, ↓q_js, ↓e_js, ↓s_jNil, ↓s_jCons, ↓q_jo, ↓e_jo, ↓s_joined, ↓s_dictP, ↓q_sq, ↓e_sq, ↓s_iSq, ↓q_ut, getV_some, augV_some, nd_some, qO_some, qB_some, qF_some, setJ_some, ixl_0, ixl_1, ixl_2, qEm_some, atP_some, stQ_some, stP_some, g_mulW_r, gMul_r, nQ_some, ixO_lst, setO_lst, apO_lst, liO_lst, listOf_ref, itemsOf_ref, listOf_lst, inO_ins, instOf_ref, instOf_ins, lenO_lst, lenO_dk, atF_fld, atF_con, stF_fld, finO_ins, frO_lst, frV_ref, cond_true, cond_false, cds_t, cds_f, cde_t, cde_f, cds_not, cde_not, g_sub, at_0, at_1, at_2, at_3, Option.isSome_some, rv1, rv2, lb1, lb2, tryQ_t, tryQ_f, tryO_t, tryO_f, xfQ_n, xis_c, xis_t, xsQ_n, ddO_dk, ddO_dt, ddO_lst, ddO_ins, ddOf_ref, ddOf_lst, ddOf_tup, ddOf_ctp, ddOf_str, ddOf_int, ddOf_scr, ddOf_dk, ddOf_dt, ddOf_wdk, ddOf_ins, ddQ_ks, ddQ_ki, ddQ_t, kA_si, kA_ss, ixQ_some, ixQ_lst, ixQ_tup, ixQ_ctp, ixQ_str, ixQ_scr, ixQ_wdk, sdQ_ks, sdQ_ki, sdQ_t, dlQ_ks, dlQ_t, inQ_ks, inQ_ki, inQ_t, inQ_wdk, inGQ_s, inGQ_n, ldQ_t, ldQ_k, ldQ_n, lnQ_s, lnQ_n, lsQ_k, lsQ_t, lsQ_n, itemsOf_lst, itemsOf_tup, itemsOf_ctp, igQ_s, igQ_n, sgQ_s, sgQ_n, inO_lst, inO_dk, inO_dt, instOf_lst, instOf_tup, instOf_ctp, instOf_str, instOf_int, instOf_scr, instOf_wdk, instOf_non, instOf_bl, kiO_lst, kiO_dk, kiO_dt, kindB_ref, kindB_lst, kindB_str, pdQ_ks, pdQ_ki, pdQ_t, walk_lst, walk_tup, walk_ctp, walk_str, wkF_lst, wkF_tup, wkJ_some, wkP_some, walk_ref, walk_ins, loQ_s, loQ_n, owF_lst, owF_tup, owJ_some, owP_some, ownW_ref, ownW_ins, pt_n0, pt_s0, pt_n1, pt_s1, pt_n2, pt_n3, pt_n4, fl_0, fl_1, fl_2, fl_3, fl_4, tl_0, tl_1, tl_2, tl_3, igR_l, igR_i, igR_k, igR_t, lnR_l, lnR_i, lnR_k, lnR_t, sgR_l, sgR_i, sgR_k, sgR_t, inR_i, inR_k, inR_t, adR_l, isb_i, isb_b, isb_s, isb_t, isb_l, isb_n, kb_ii, kb_ib, kb_tb, kb_sb, kb_bb, kb_ss, kb_si, kb_is, inQ_sL, igR_btp, igR_bta, lb0, lb3, eqT_s, eqQ_s, eqQ_n, neQ_s, neQ_n, rTy_ins, rTy_str, rTy_int, rTy_bl, rTy_non, rTy_tup, rTy_lst, stG_s, stG_n, keyP_n, keyP_s, idR_l, idR_k, idR_fk, idR_ft, idR_t, sdQ_ll, exO_lst, tl_4, tl_5, tl_6, tl_7, tl_8, tl_9, tl_10, tl_11, tl_12, tl_13, tl_14, tl_15, tl_44, walk_of, kyQ_fk, keyA_i, keyA_s, rpG_s, rpG_n, wSq_lst, wSq_tup, wSq_ctp, wSq_ref, t_isa_0_0, t_at_best_0, t_at_listed_0, t_itf_0, t_at_crowd_0, t_mt_len_0, t_mt_contains_0, t_mt_repr_0, List.set_cons_zero, List.set_cons_succ, List.getElem?_cons_zero, List.getElem?_cons_succ, true_and, and_true, Bool.not_true, Bool.not_false, Int.reduceLT, Int.reduceLE, Int.reduceNeg, Int.reduceAdd, Int.reduceSub, Int.reduceMul, Int.reducePow, Int.reduceToNat, Int.reduceBEq, Int.reduceBNe, Nat.reduceAdd, Nat.reduceSub, Nat.reduceMul, Nat.reduceLT, Nat.reduceLeDiff, Nat.reduceBEq, decide_true, decide_false, and_self, List.getElem?_set_ne, List.getElem?_set_self, List.getElem?_append_left, List.length_set, List.length_append, List.length_cons, List.length_nil, Nat.lt_add_right, List.set_set, $ls,*])
local macro_rules | `(tactic| wtm_at "look") => `(tactic| first | assumption | exact hp_new | exact hp_set (by wtm_at "look") | exact hp_app (by wtm_at "look") | exact hp_ne (by omega) (by wtm_at "look") | fail)
/-! small laws that many parts need (for laws behind k16; P16a.. have their own) -/
theorem sz_lt {n : Nat} (h : n ≤ 100) : Nat.blt n sizeLine = true := Nat.ble_eq_true_of_le (by show n + 1 ≤ sizeLine; exact Nat.le_trans (Nat.succ_le_succ h) (by decide))
theorem sz_le {n : Nat} (h : n ≤ 1000) : Nat.ble n sizeLine = true := Nat.ble_eq_true_of_le (Nat.le_trans h (by decide))
theorem strL_app {ss tt : List Str} : strL ss ++ strL tt = strL (ss ++ tt) := by unfold strL; rw [List.map_append]
theorem strL_len {ss : List Str} : (strL ss).length = ss.length := by unfold strL; rw [List.length_map]
theorem set_self {α : Type} {l : List α} {i : Nat} {a : α} (e : l[i]? = some a) : l.set i a = l := by
  obtain ⟨h1, e1⟩ := List.getElem?_eq_some_iff.mp e
  rw [← e1, List.set_getElem_self]
theorem take_snoc {α : Type} {l : List α} {i : Nat} {x : α} (e : l[i]? = some x) : l.take (i + 1) = l.take i ++ [x] := by
  rw [List.take_succ, e]; rfl
theorem gt1 {h : Hs} {a : O} : (h ++ [a])[h.length]? = some a := by rw [List.getElem?_append_right (Nat.le_refl _), Nat.sub_self]; rfl
theorem st1 {h : Hs} {a x : O} : (h ++ [a]).set h.length x = h ++ [x] := by rw [List.set_append_right _ _ (Nat.le_refl _), Nat.sub_self]; rfl
theorem sat_true {m : Out A} (s : m.sat ⟨fun a _ => a = .bl true, fun _ _ => False⟩) : ∃ h', m = .ok (.bl true) h' := by
  cases m with
  | ok a h => exact ⟨h, by rw [show a = .bl true from s]⟩
  | ex x h => exact s.elim
  | bad => exact s.elim
theorem cut_seqS {m : OutS} {k : KS} (P : Sl → Hs → Prop) (s : m.sat ⟨P, fun _ _ => False, fun _ _ => False, fun _ _ => False, fun _ _ _ => False⟩) (c : ∀ sl h, P sl h → k.n sl h) : m.sat k :=
  OutS.sat_mono s c (fun _ _ z => z.elim) (fun _ _ z => z.elim) (fun _ _ z => z.elim) fun _ _ _ z => z.elim
/-! the bag: draws -/
abbrev bagO (a b c : Int) : O := .lst [.int a, .int b, .int c]
theorem take_ok {h : Hs} {n : Nat} {a b c m : Int} {k : KE A} (hn : h[n]? = some (bagO a b c)) (hm : 0 < m) (hl : m.natAbs.log2 < 9000)
    (q : ∀ d a' c', 0 ≤ d → d < m → k.q (.int d) (h.set n (bagO a' b c'))) : (f_law_take [.ref n, .int m] h).sat k := by
  rw [r_law_take]
  unfold b_law_take
  have hs : ∀ o, (h.set n o)[n]? = some o := fun o => hp_set hn
  have d1 : ∀ i : Int, gMod i m = some (i % m) := fun i => gMod_int hm
  have d2 : ∀ i : Int, gMod i 2147483647 = some (i % 2147483647) := fun i => gMod_int (by decide)
  have d3 : ∀ i : Int, gMod i 2147483629 = some (i % 2147483629) := fun i => gMod_int (by decide)
  have d4 : ∀ i : Int, gMulW (i % 2147483647) (i % 2147483647) = some (i % 2147483647 * (i % 2147483647)) := fun i => g_mulW_r (by omega)
  have d5 : ∀ i : Int, gDivN i 97 = some (i.fdiv 97) := fun i => g_divN (by decide) (by decide)
  simp_arith [hn, hs]
  refine cds_d (fun _ => ?_) fun _ => ?_
  · simp_arith [hn, hs, d1, g_divN (Int.ne_of_gt hm) hl]
    exact q _ _ _ (Int.emod_nonneg _ (by omega)) (Int.emod_lt_of_pos _ hm)
  · simp_arith [hn, hs, d1, d2, d3, d4, d5]
    exact q _ _ _ (Int.emod_nonneg _ (by omega)) (Int.emod_lt_of_pos _ hm)
theorem bag_ok {h : Hs} {ns : List Int} {at_ : Int} {k : KE A} (h0 : 0 ≤ at_) (q : ∀ a b c, k.q (.ref h.length) (h ++ [bagO a b c])) : (f_law_bag [.scr ns, .int at_] h).sat k := by
  rw [r_law_bag]
  unfold b_law_bag
  have d1 : gPow 10 18 = some 1000000000000000000 := by decide
  have sz : Nat.ble 3 sizeLine = true := by decide
  simp_arith []
  refine cde_d (fun hl => ?_) fun hl => ?_
  · have e : atI ns at_ = some (ns[at_.toNat]'(by have : at_ < (ns.length : Int) := hl; omega)) := by
      rw [at_nn h0 (by exact hl)]
      exact List.getElem?_eq_getElem _
    simp_arith [e, d1]
    refine cde_d (fun _ => ?_) fun _ => ?_
    · simp_arith [d1]
      first | exact ⟨sz, q _ _ _⟩ | exact q _ _ _
    · simp_arith [d1]
      first | exact ⟨sz, q _ _ _⟩ | exact q _ _ _
  · simp_arith [d1]
    refine cde_d (fun _ => ?_) fun _ => ?_
    · simp_arith [d1]
      first | exact ⟨sz, q _ _ _⟩ | exact q _ _ _
    · simp_arith [d1]
      first | exact ⟨sz, q _ _ _⟩ | exact q _ _ _
/-! the freshest stage of each place -/
abbrev BM := List ((Str × Int) × Int)
abbrev Stg := Str × Int × Int
def kRw (p : Str × Int) : List Key := [.inr p.1, .inl p.2]
theorem kRwInj : ∀ a b : Str × Int, kRw a = kRw b → a = b := fun a b e => by
  unfold kRw at e
  simp only [List.cons.injEq, Sum.inr.injEq, Sum.inl.injEq, and_true] at e
  exact Prod.ext e.1 e.2
def bStep (m : BM) (s : Stg) : BM := if hasM m (s.1, s.2.1) = false ∨ s.2.2 < (getM m (s.1, s.2.1)).getD 0 then putM m (s.1, s.2.1) s.2.2 else m
def best (ss : List Stg) : BM := ss.foldl bStep []
def trip (p : (Str × Int) × Int) : Stg := (p.1.1, p.1.2, p.2)
def keysB (m : BM) : List (Str × Int) := m.map (·.1)
def listed (m : BM) : List Stg := kSII.srt (m.map trip)
theorem best_snoc {ss : List Stg} {s : Stg} : best (ss ++ [s]) = bStep (best ss) s := by unfold best; rw [List.foldl_append]; rfl
theorem bStep_nd {m : BM} {s : Stg} (nd : (keysB m).Nodup) : (keysB (bStep m s)).Nodup := by
  unfold bStep
  split
  · unfold keysB at *
    cases hh : hasM m (s.1, s.2.1) with
    | true => rw [keys_put_old hh]; exact nd
    | false =>
      rw [keys_put_new hh]
      refine List.nodup_append.mpr ⟨nd, by simp, fun a ha b hb e => ?_⟩
      rw [List.mem_singleton.mp hb] at e
      obtain ⟨u, hu⟩ := has_get ha
      rw [← e, ← get_has, hu] at hh
      cases hh
  · exact nd
theorem best_nd {ss : List Stg} : (keysB (best ss)).Nodup := by
  have gen : ∀ (ss : List Stg) (m : BM), (keysB m).Nodup → (keysB (ss.foldl bStep m)).Nodup := by
    intro ss
    induction ss with
    | nil => intro m h; exact h
    | cons s ss ih => intro m h; exact ih _ (bStep_nd h)
  exact gen ss [] List.nodup_nil
theorem bStep_len {m : BM} {s : Stg} : (bStep m s).length ≤ m.length + 1 := by
  unfold bStep
  split
  · unfold putM
    split
    · rw [List.length_map]; omega
    · simp
  · omega
theorem best_len {ss : List Stg} : (best ss).length ≤ ss.length := by
  have gen : ∀ (ss : List Stg) (m : BM), (ss.foldl bStep m).length ≤ m.length + ss.length := by
    intro ss
    induction ss with
    | nil => intro m; exact Nat.le_refl _
    | cons s ss ih =>
      intro m
      have h1 := ih (bStep m s)
      have h2 := bStep_len (m := m) (s := s)
      show (ss.foldl bStep (bStep m s)).length ≤ _
      simp only [List.length_cons]
      omega
  have := gen ss []
  simp only [List.length_nil, Nat.zero_add] at this
  exact this
section
variable {m : BM} {a : Str} {b v : Int}
theorem valB : valA (encK kRw A.int m) [.inr a, .inl b] = (getM m (a, b)).map A.int := val_enc kRwInj (w := (a, b))
theorem putB : putA (encK kRw A.int m) [.inr a, .inl b] (.int v) = encK kRw A.int (putM m (a, b) v) := put_enc kRwInj (w := (a, b))
theorem keysBT : (encK kRw A.int m).map (fun kv => A.tup (kv.1.map keyV)) = kSI.L (keysB m) := by
  unfold encK SK.L keysB
  rw [List.map_map, List.map_map]
  rfl
theorem keysB_len : (keysB m).length = m.length := by unfold keysB; rw [List.length_map]
end
theorem encSI {p : Str × Int} : kSI.enc p = .tup [.str p.1, .int p.2] := rfl
theorem encSII {p : Stg} : kSII.enc p = .tup [.str p.1, .int p.2.1, .int p.2.2] := rfl
/-! ordered by the key -/
theorem lex_app {O : PyProof.Rows.KeyOrd} {ys ys' : List O.α} : ∀ {xs xs' : List O.α}, xs.length = xs'.length → PyProof.Rows.lexLt O (xs ++ ys) (xs' ++ ys') = true → xs = xs' ∨ ∀ zs zs' : List O.α, PyProof.Rows.lexLt O (xs ++ zs) (xs' ++ zs') = true
  | [], [], _, _ => .inl rfl
  | [], _ :: _, e, _ => by simp at e
  | _ :: _, [], e, _ => by simp at e
  | x :: xs, y :: xs', e, h => by
    rcases PyProof.Rows.lex_true.mp h with h | ⟨h1, h2⟩
    · exact .inr fun zs zs' => PyProof.Rows.lex_true.mpr (.inl h)
    · rcases lex_app (by simpa using e) h2 with rfl | z
      · cases hxy : O.blt x y with
        | true => exact .inr fun zs zs' => PyProof.Rows.lex_true.mpr (.inl hxy)
        | false => exact .inl (by rw [O.total x y hxy h1])
      · exact .inr fun zs zs' => PyProof.Rows.lex_true.mpr (.inr ⟨h1, z zs zs'⟩)
theorem trip_le {p q : Str × Int} {u v : Int} (ne : p ≠ q) (h : kSI.le p q = true) : kSII.le (p.1, p.2, u) (q.1, q.2, v) = true := by
  have h' : (!PyProof.Rows.lexLt PyProof.Rows.itemOrd ([.inl (1 : Int), .inr q.1.cps.toList, .inl 1, .inl q.2] ++ [.inl 0]) ([.inl (1 : Int), .inr p.1.cps.toList, .inl 1, .inl p.2] ++ [.inl 0])) = true := h
  show (!PyProof.Rows.lexLt PyProof.Rows.itemOrd ([.inl (1 : Int), .inr q.1.cps.toList, .inl 1, .inl q.2] ++ [.inl 1, .inl v, .inl 0]) ([.inl (1 : Int), .inr p.1.cps.toList, .inl 1, .inl p.2] ++ [.inl 1, .inl u, .inl 0])) = true
  cases hz : PyProof.Rows.lexLt PyProof.Rows.itemOrd ([.inl (1 : Int), .inr q.1.cps.toList, .inl 1, .inl q.2] ++ [.inl 1, .inl v, .inl 0]) ([.inl (1 : Int), .inr p.1.cps.toList, .inl 1, .inl p.2] ++ [.inl 1, .inl u, .inl 0]) with
  | false => rfl
  | true =>
    rcases lex_app (O := PyProof.Rows.itemOrd) (by rfl) hz with e | z
    · exfalso
      simp only [List.cons.injEq, Sum.inr.injEq, Sum.inl.injEq, true_and, and_true] at e
      exact ne (Prod.ext (cps_inj e.1).symm e.2.symm)
    · rw [z] at h'; cases h'
/-- the value of a key -/
def eOf (m : BM) (p : Str × Int) : Int := (getM m p).getD 0
theorem eOf_get {m : BM} {p : Str × Int} (hp : p ∈ keysB m) : getM m p = some (eOf m p) := by
  obtain ⟨v, e⟩ := has_get hp
  unfold eOf
  rw [e]; rfl
/-- sorted by the keys alone -/
theorem listed_keys {m : BM} (nd : (keysB m).Nodup) : (kSI.srt (keysB m)).map (fun p => (p.1, p.2, eOf m p)) = listed m := by
  unfold listed
  refine pw_uniq (fun _ _ => kSII.le_anti) ?_ ?_ SK.pw
  · refine List.Perm.trans ?_ SK.perm.symm
    refine List.Perm.trans (SK.perm.map _) ?_
    unfold keysB
    rw [List.map_map]
    refine List.Perm.of_eq (List.map_congr_left fun p hp => ?_)
    have e : getM m p.1 = some p.2 := get_mem nd hp
    show (p.1.1, p.1.2, eOf m p.1) = trip p
    unfold eOf trip
    rw [e]; rfl
  · rw [List.pairwise_map]
    have n : (kSI.srt (keysB m)).Nodup := SK.nodup nd
    rw [List.nodup_iff_pairwise_ne] at n
    exact (SK.pw.and n).imp fun ⟨h1, h2⟩ => trip_le h2 h1
theorem listed_len {m : BM} : (listed m).length = m.length := by unfold listed; rw [SK.len, List.length_map]
theorem s_tupL {h : Hs} {ke : KE A} {xs : List A} : (tupleA (.lst xs) h).sat ke = ke.q (.tup xs) h := (rfl)
theorem s_tupR {h : Hs} {ke : KE A} {n : Nat} : (tupleA (.ref n) h).sat ke = nd (listOf (.ref n) h) fun xs => ke.q (.tup xs) h := s_need
theorem s_listTl {h : Hs} {ke : KE A} {xs : List A} : (listTA (.lst xs) h).sat ke = ke.q (.ref h.length) (h ++ [.lst xs]) := (rfl)
/-! a set of stages is made -/
theorem init_ok {h : Hs} {x : A} {ss : List Stg} {k : KE A} (hx : ∀ l, itemsOf x (h ++ l) = some (kSII.L ss)) (hl : ss.length ≤ 100)
    (q : ∀ l d, (h ++ l)[d]? = some (.dt (encK kRw A.int (best ss))) → k.q (.ins 0 [.ref d, .tup (kSII.L (listed (best ss)))]) (h ++ l)) : (mkF 0 f_Stages_init [x] h).sat k := by
  rw [s_mkF, r_Stages_init]; unfold b_Stages_init
  simp_arith []
  refine w_forW ss.length (fuel_gt (by omega)) (fun i sl h1 => i ≤ ss.length ∧ ∃ v3 v4 v5, sl = [some (.ref h.length), some x, some (.ref (h ++ [O.ins 0 []]).length), v3, v4, v5, none] ∧ h1 = (h ++ [O.ins 0 []]) ++ [.dt (encK kRw A.int (best (ss.take i)))]) (fun _ _ _ z => z.1) ?_
  have hx2 : ∀ o, itemsOf x ((h ++ [O.ins 0 []]) ++ [o]) = some (kSII.L ss) := fun o => by rw [List.append_assoc]; exact hx _
  simp_arith [hx2]
  refine ⟨⟨Nat.zero_le _, _, _, _, rfl, by rw [List.take_zero]; rfl⟩, ?_⟩
  rintro i sl h1 ⟨hi, v3, v4, v5, rfl, rfl⟩
  have hw : wSq x i ((h ++ [O.ins 0 []]) ++ [.dt (encK kRw A.int (best (ss.take i)))]) = some ((kSII.L ss)[i]?) := by unfold wSq; rw [hx2]; rfl
  rw [hw]
  have hlen : (best (ss.take i)).length ≤ 100 := Nat.le_trans best_len (by rw [List.length_take]; omega)
  cases hs : (kSII.L ss)[i]? with
  | some y =>
    obtain ⟨s, hs', rfl⟩ := SK.L_get hs
    have hlt : i < ss.length := (List.getElem?_eq_some_iff.mp hs').1
    refine .inl ⟨_, rfl, ?_⟩
    have nx : best (ss.take (i + 1)) = bStep (best (ss.take i)) s := by rw [take_snoc hs', best_snoc]
    rw [nx]
    cases hh : hasM (best (ss.take i)) (s.1, s.2.1) with
    | false =>
      have e : bStep (best (ss.take i)) s = putM (best (ss.take i)) (s.1, s.2.1) s.2.2 := by unfold bStep; rw [if_pos (.inl hh)]
      simp_arith [encSII, gt1, st1, ddOf_ref, valB, Option.isSome_map, get_has, hh, putB, enc_len, e]
      exact ⟨sz_lt hlen, hlt, _, _, _, rfl⟩
    | true =>
      obtain ⟨v, hv⟩ : ∃ v, getM (best (ss.take i)) (s.1, s.2.1) = some v := Option.isSome_iff_exists.mp (by rw [get_has]; exact hh)
      cases hd : decide (s.2.2 < v) with
      | true =>
        have e : bStep (best (ss.take i)) s = putM (best (ss.take i)) (s.1, s.2.1) s.2.2 := by
          unfold bStep; rw [if_pos (.inr (by rw [hv]; exact of_decide_eq_true hd))]
        simp_arith [encSII, gt1, st1, ddOf_ref, valB, Option.isSome_map, get_has, hh, hv, Option.map_some, hd, putB, enc_len, e]
        exact ⟨sz_lt hlen, hlt, _, _, _, rfl⟩
      | false =>
        have e : bStep (best (ss.take i)) s = best (ss.take i) := by
          unfold bStep
          rw [if_neg]
          rintro (z | z)
          · rw [hh] at z; cases z
          · rw [hv] at z; exact of_decide_eq_false hd z
        simp_arith [encSII, gt1, st1, ddOf_ref, valB, Option.isSome_map, get_has, hh, hv, Option.map_some, hd, e]
        exact ⟨hlt, _, _, _, rfl⟩
  | none =>
    refine .inr ⟨rfl, ?_⟩
    have hge : ss.length ≤ i := by
      have := List.getElem?_eq_none_iff.mp hs
      rw [SK.L_len] at this
      exact this
    rw [List.take_of_length_le hge]
    have hlen : (best ss).length ≤ 100 := Nat.le_trans best_len hl
    have g0 : ∀ {o o' : O}, ((h ++ [o]) ++ [o'])[h.length]? = some o := fun {o o'} => by rw [List.getElem?_append_left (by simp), gt1]
    have s0 : ∀ {o o' u : O}, ((h ++ [o]) ++ [o']).set h.length u = (h ++ [u]) ++ [o'] := fun {o o' u} => by rw [List.set_append_left _ _ (by simp), st1]
    simp_arith [g0, s0]
    obtain ⟨d, hdd⟩ : ∃ d, d = (h ++ [O.ins 0 []]).length := ⟨_, rfl⟩
    rw [← hdd]
    have hd1 : d = h.length + 1 := by rw [hdd]; simp
    have gd : ∀ {o o' : O}, ((h ++ [o]) ++ [o'])[d]? = some o' := fun {o o'} => by
      have : d = (h ++ [o]).length := by rw [hd1]; simp
      rw [this]; exact gt1
    have sd : ∀ {o o' u : O}, ((h ++ [o]) ++ [o']).set d u = (h ++ [o]) ++ [u] := fun {o o' u} => by
      have : d = (h ++ [o]).length := by rw [hd1]; simp
      rw [this]; exact st1
    refine lock_dt (i := 2) rfl gd ?_
    rw [sd]
    simp_arith []
    generalize hm : best ss = m at q hlen ⊢
    have nd : (keysB m).Nodup := by rw [← hm]; exact best_nd
    refine w_lc (fun xs j acc h3 => h3 = (h ++ [O.ins 0 [A.ref d]]) ++ [.fdt (encK kRw A.int m)] ∧ xs = kSI.L (keysB m) ∧ acc = kSII.L (((keysB m).take j).map fun p => (p.1, p.2, eOf m p))) ?_
    refine w_keys ?_
    simp_arith [gd, kyT gd, keysBT]
    refine ⟨?_, ?_, ?_, ?_⟩
    · rw [SK.L_len, keysB_len]; exact Nat.le_trans hlen (by decide)
    · first | exact ⟨rfl, rfl, rfl⟩ | exact ⟨rfl, rfl⟩ | rfl
    · rintro j y acc h3 hy ⟨rfl, _, rfl⟩
      obtain ⟨p, hp, rfl⟩ := SK.L_get hy
      have eg : getM m (p.1, p.2) = some (eOf m p) := eOf_get (List.mem_of_getElem? hp)
      simp_arith [wipeA, encSI, gd, valB, eg, Option.map_some, List.cons_append, List.nil_append]
      first | refine ⟨rfl, rfl, ?_⟩ | refine ⟨rfl, ?_⟩ | skip
      rw [take_snoc hp, List.map_append, ← SK.L_app]
      rfl
    rintro acc h3 ⟨rfl, _, rfl⟩
    have el : (kSI.L (keysB m)).length = (keysB m).length := SK.L_len
    rw [el, List.take_length]
    have es : kSII.srt ((keysB m).map fun p => (p.1, p.2, eOf m p)) = listed m := by
      unfold listed
      congr 1
      unfold keysB
      rw [List.map_map]
      refine List.map_congr_left fun p hp => ?_
      have e : getM m p.1 = some p.2 := get_mem nd hp
      show (p.1.1, p.1.2, eOf m p.1) = trip p
      unfold eOf trip
      rw [e]; rfl
    have sz : ((keysB m).map fun p => (p.1, p.2, eOf m p)).length ≤ sizeLine := by rw [List.length_map, keysB_len]; exact Nat.le_trans hlen (by decide)
    simp_arith [gd, sd, SK.sorted sz, es, ↓s_tupL, g0, s0]
    have g1 : ∀ {o o' : O}, ((h ++ [o]) ++ [o']).set h.length .dead = (h ++ [.dead]) ++ [o'] := s0
    have z := q [.dead, .dt (encK kRw A.int m)] d (by rw [show h ++ [O.dead, O.dt (encK kRw A.int m)] = (h ++ [O.dead]) ++ [O.dt (encK kRw A.int m)] by simp]; exact gd)
    rw [show h ++ [O.dead, O.dt (encK kRw A.int m)] = (h ++ [O.dead]) ++ [O.dt (encK kRw A.int m)] by simp] at z
    exact z
def stgA (d : Nat) (m : BM) : A := .ins 0 [.ref d, .tup (kSII.L (listed m))]
section
variable {h : Hs} {d : Nat} {m : BM} {k : KE A} {a : Str} {b c : Int}
theorem len_ok : (f_Stages_len [stgA d m] h).sat k = k.q (.int (Int.ofNat m.length)) h := by
  rw [r_Stages_len]; unfold b_Stages_len stgA
  have e : (kSII.L (listed m)).length = m.length := by rw [SK.L_len, listed_len]
  simp_arith [e]
theorem crowd_ok : (f_Stages_crowd [stgA d m] h).sat k = k.q (.tup (kSII.L (listed m))) h := by
  rw [r_Stages_crowd]; unfold b_Stages_crowd stgA
  simp_arith []
def hasE (m : BM) (p : Str × Int) (e : Int) : Bool := match getM m p with | some v => decide (v ≤ e) | none => false
theorem has_ok (x : h[d]? = some (.dt (encK kRw A.int m))) : (f_Stages_contains [stgA d m, .tup [.str a, .int b, .int c]] h).sat k = k.q (.bl (hasE m (a, b) c)) h := by
  rw [r_Stages_contains]; unfold b_Stages_contains stgA hasE
  cases hv : getM m (a, b) with
  | none => simp_arith [x, ddOf_ref, valB, Option.isSome_map, hv, Option.map_none, Option.isSome_none]
  | some v => simp_arith [x, ddOf_ref, valB, Option.isSome_map, hv, Option.map_some]
end
theorem due_ok {h : Hs} {ss : List Stg} {k : KE A} (hl : ss.length ≤ 100) (q : ∀ l, k.q (.tup (kSII.L (listed (best ss)))) (h ++ l)) : (f_law_due [.lst (kSII.L ss)] h).sat k := by
  rw [r_law_due]; unfold b_law_due
  simp_arith []
  refine w_for (fun xs i sl h1 => xs = kSII.L ss ∧ ∃ v2 v3 v4, sl = [some (.lst (kSII.L ss)), some (.ref h.length), v2, v3, v4, none] ∧ h1 = h ++ [.dt (encK kRw A.int (best (ss.take i)))]) ?_
  simp_arith []
  refine ⟨?_, ?_, ?_⟩
  · first | exact ⟨rfl, _, _, _, rfl, by rw [List.take_zero]; rfl⟩ | exact ⟨_, _, _, rfl, by rw [List.take_zero]; rfl⟩
  · rintro i y sl h1 hs ⟨v2, v3, v4, rfl, rfl⟩
    obtain ⟨s, hs', rfl⟩ := SK.L_get hs
    have hlt : i < ss.length := (List.getElem?_eq_some_iff.mp hs').1
    have hlen : (best (ss.take i)).length ≤ 100 := Nat.le_trans best_len (by rw [List.length_take]; omega)
    have nx : best (ss.take (i + 1)) = bStep (best (ss.take i)) s := by rw [take_snoc hs', best_snoc]
    rw [nx]
    cases hh : hasM (best (ss.take i)) (s.1, s.2.1) with
    | false =>
      have e : bStep (best (ss.take i)) s = putM (best (ss.take i)) (s.1, s.2.1) s.2.2 := by unfold bStep; rw [if_pos (.inl hh)]
      simp_arith [encSII, gt1, st1, ddOf_ref, valB, Option.isSome_map, get_has, hh, putB, enc_len, e]
      exact ⟨sz_lt hlen, _, _, _, rfl⟩
    | true =>
      obtain ⟨v, hv⟩ : ∃ v, getM (best (ss.take i)) (s.1, s.2.1) = some v := Option.isSome_iff_exists.mp (by rw [get_has]; exact hh)
      cases hd : decide (s.2.2 < v) with
      | true =>
        have e : bStep (best (ss.take i)) s = putM (best (ss.take i)) (s.1, s.2.1) s.2.2 := by
          unfold bStep; rw [if_pos (.inr (by rw [hv]; exact of_decide_eq_true hd))]
        simp_arith [encSII, gt1, st1, ddOf_ref, valB, Option.isSome_map, get_has, hh, hv, Option.map_some, hd, putB, enc_len, e]
        exact ⟨sz_lt hlen, _, _, _, rfl⟩
      | false =>
        have e : bStep (best (ss.take i)) s = best (ss.take i) := by
          unfold bStep
          rw [if_neg]
          rintro (z | z)
          · rw [hh] at z; cases z
          · rw [hv] at z; exact of_decide_eq_false hd z
        simp_arith [encSII, gt1, st1, ddOf_ref, valB, Option.isSome_map, get_has, hh, hv, Option.map_some, hd, e]
        exact ⟨_, _, _, rfl⟩
  · rintro sl h1 ⟨v2, v3, v4, rfl, rfl⟩
    rw [SK.L_len, List.take_length]
    have hlen : (best ss).length ≤ 100 := Nat.le_trans best_len hl
    have q' := q [.dt (encK kRw A.int (best ss))]
    have nd : (keysB (best ss)).Nodup := best_nd
    generalize best ss = m at q' hlen nd ⊢
    have hls : (keysB m).length ≤ sizeLine := by rw [keysB_len]; exact Nat.le_trans hlen (by decide)
    refine w_lc (fun xs j acc h3 => h3 = h ++ [.dt (encK kRw A.int m)] ∧ xs = kSI.L (kSI.srt (keysB m)) ∧ acc = kSII.L (((kSI.srt (keysB m)).take j).map fun p => (p.1, p.2, eOf m p))) ?_
    simp_arith [gt1, ddOf_ref, keysBT, SK.sorted hls]
    refine ⟨?_, ?_, ?_, ?_⟩
    · rw [SK.L_len, SK.len]; exact hls
    · first | exact ⟨rfl, rfl, rfl⟩ | exact ⟨rfl, rfl⟩ | rfl
    · rintro j y acc h3 hy ⟨rfl, rfl⟩
      obtain ⟨p, hp, rfl⟩ := SK.L_get hy
      have eg : getM m (p.1, p.2) = some (eOf m p) := eOf_get (SK.mem.mp (List.mem_of_getElem? hp))
      simp_arith [wipeA, encSI, gt1, ddOf_ref, valB, eg, Option.map_some, List.cons_append, List.nil_append]
      first | refine ⟨rfl, rfl, ?_⟩ | refine ⟨rfl, ?_⟩ | skip
      rw [take_snoc hp, List.map_append, ← SK.L_app]
      rfl
    · rintro acc h3 ⟨rfl, rfl⟩
      rw [SK.L_len, List.take_length, listed_keys nd]
      simp_arith [↓s_tupL]
      exact q'
/-! what is shown -/
/-- a good stage -/
structure OkS (s : Stg) : Prop where
  ok : PyData.strOk s.1 = true
  le : s.1.length ≤ 8
  i0 : 0 ≤ s.2.1
  i1 : s.2.1 < 6
  e0 : 0 ≤ s.2.2
  e1 : s.2.2 < 4
theorem ten_cases {P : Int → Prop} {i : Int} (h0 : 0 ≤ i) (h1 : i < 6) (a0 : P 0) (a1 : P 1) (a2 : P 2) (a3 : P 3) (a4 : P 4) (a5 : P 5) : P i := by
  have : i = 0 ∨ i = 1 ∨ i = 2 ∨ i = 3 ∨ i = 4 ∨ i = 5 := by omega
  rcases this with rfl | rfl | rfl | rfl | rfl | rfl <;> assumption
theorem int_sh {i : Int} (h0 : 0 ≤ i) (h1 : i < 6) : (PyData.int i).shown.length ≤ 13 ∧ i.natAbs.log2 < 1920 ∧ (PyData.int i).weight ≤ 20 :=
  ten_cases (P := fun i => (PyData.int i).shown.length ≤ 13 ∧ i.natAbs.log2 < 1920 ∧ (PyData.int i).weight ≤ 20) h0 h1 (by decide +kernel) (by decide +kernel) (by decide +kernel) (by decide +kernel) (by decide +kernel) (by decide +kernel)
theorem stg_sh {s : Stg} (o : OkS s) : (kSII.dat s).canLay0 = true ∧ (kSII.dat s).depth ≤ 2 ∧ (kSII.dat s).weight ≤ 100 ∧ (kSII.dat s).intsShort 13 = true ∧ (kSII.dat s).showable = true := by
  have e : kSII.dat s = .tuple [.str s.1, .int s.2.1, .int s.2.2] := rfl
  obtain ⟨a1, a2, a3⟩ := int_sh o.i0 o.i1
  obtain ⟨b1, b2, b3⟩ := int_sh o.e0 (Int.lt_trans o.e1 (by decide))
  have hw : (PyData.str s.1).weight ≤ 8 := by simp only [PyData.weight]; exact o.le
  rw [e]
  refine ⟨by simp [PyData.canLay0, PyData.canLayAll0, o.ok], by simp [PyData.depth, PyData.depthAll], ?_, ?_, ?_⟩
  · have : (PyData.tuple [.str s.1, .int s.2.1, .int s.2.2]).weight = (PyData.str s.1).weight + 1 + ((PyData.int s.2.1).weight + 1 + ((PyData.int s.2.2).weight + 1 + 0)) := rfl
    omega
  · simp [PyData.intsShort, PyData.intsShortAll, a1, b1]
  · simp [PyData.showable, PyData.showableAll, a2, b2]
theorem list_sh : ∀ {ls : List Stg}, (∀ s ∈ ls, OkS s) → PyData.canLayAll0 (ls.map kSII.dat) = true ∧ PyData.depthAll (ls.map kSII.dat) ≤ 3 ∧ PyData.weightAll (ls.map kSII.dat) ≤ ls.length * 101 ∧ PyData.intsShortAll 13 (ls.map kSII.dat) = true ∧ PyData.showableAll (ls.map kSII.dat) = true
  | [], _ => by simp [PyData.canLayAll0, PyData.depthAll, PyData.weightAll, PyData.intsShortAll, PyData.showableAll]
  | s :: ls, k => by
    obtain ⟨h1, h2, h3, h4, h5⟩ := list_sh (ls := ls) fun x hx => k x (List.mem_cons_of_mem _ hx)
    obtain ⟨g1, g2, g3, g4, g5⟩ := stg_sh (k s List.mem_cons_self)
    rw [List.map_cons]
    refine ⟨by simp [PyData.canLayAll0, h1, g1], ?_, ?_, by simp [PyData.intsShortAll, h4, g4], by simp [PyData.showableAll, h5, g5]⟩
    · simp only [PyData.depthAll]; omega
    · simp only [PyData.weightAll, List.length_cons]; omega
theorem sh_list {ls : List Stg} (k : ∀ s ∈ ls, OkS s) (hl : ls.length ≤ 100) : shOk (.tuple (ls.map kSII.dat)) = true ∧ (PyData.tuple (ls.map kSII.dat)).shown.length ≤ 15728653 := by
  obtain ⟨h1, h2, h3, h4, h5⟩ := list_sh k
  have c : (PyData.tuple (ls.map kSII.dat)).canLay0 = true := by simp [PyData.canLay0, h1]
  have dp : (PyData.tuple (ls.map kSII.dat)).depth ≤ 10 := by simp only [PyData.depth]; omega
  have w : (PyData.tuple (ls.map kSII.dat)).weight ≤ 2 ^ 20 := by
    have : (PyData.tuple (ls.map kSII.dat)).weight = PyData.weightAll (ls.map kSII.dat) := by simp only [PyData.weight]
    rw [this]
    have e : (2 : Nat) ^ 20 = 1048576 := by decide
    omega
  have lay : PyData.layable0 (.tuple (ls.map kSII.dat)) = true := by
    unfold PyData.layable0
    rw [c, decide_eq_true (Nat.le_trans dp (by decide)), decide_eq_true w]; rfl
  have sl := PyProof.Rows.shown_le13 lay (by simp only [PyData.intsShort]; exact h4)
  have hd : (PyData.tuple (ls.map kSII.dat)).hasDict = false := PyData.hasDict_of_canLay _ c
  have sh : (PyData.tuple (ls.map kSII.dat)).showable = true := by simp only [PyData.showable]; exact h5
  refine ⟨?_, sl⟩
  show ((PyData.tuple (ls.map kSII.dat)).showable && !(PyData.tuple (ls.map kSII.dat)).hasDict && Nat.ble (PyData.tuple (ls.map kSII.dat)).depth 100 && Nat.ble (PyData.tuple (ls.map kSII.dat)).shown.length sizeLine) = true
  rw [sh, hd, Nat.ble_eq_true_of_le (Nat.le_trans dp (by decide)), Nat.ble_eq_true_of_le (Nat.le_trans sl (by decide))]
  rfl
theorem dat_list {ls : List Stg} {h : Hs} : datH (.tup (kSII.L ls)) h = some (.tuple (ls.map kSII.dat)) := by
  show (datAll (kSII.L ls)).map PyData.tuple = _
  rw [SK.datAll]; rfl
theorem empty_app {w : Str} : Str.empty ++ w = w := by
  apply cps_inj
  show (#[] ++ w.cps).toList = w.cps.toList
  simp
def shS (m : BM) : Str := (PyData.tuple ((listed m).map kSII.dat)).shown
def repS (m : BM) : Str := ("Stages(" : Str) ++ shS m ++ (")" : Str)
theorem app_le {a b : Str} {n k : Nat} (h1 : a.length ≤ n) (h2 : b.length ≤ k) : (a ++ b).length ≤ n + k := by rw [app_len]; omega
theorem repr_ok {h : Hs} {d : Nat} {m : BM} {k : KE A} (ok : ∀ s ∈ listed m, OkS s) (hl : m.length ≤ 100) (q : k.q (.str (repS m)) h) : (f_Stages_repr [stgA d m] h).sat k := by
  rw [r_Stages_repr]; unfold b_Stages_repr stgA
  obtain ⟨s1, s2⟩ := sh_list ok (by rw [listed_len]; exact hl)
  have l1 : (("Stages(" : Str)).length ≤ 7 := by decide +kernel
  have l2 : ((")" : Str)).length ≤ 1 := by decide +kernel
  have t1 : (("Stages(" : Str) ++ shS m).length ≤ 15728660 := by have := app_le l1 s2; exact this
  have t2 : (("Stages(" : Str) ++ shS m ++ (")" : Str)).length ≤ 15728661 := app_le t1 l2
  simp_arith [empty_app, dat_list, s1]
  exact ⟨Nat.ble_eq_true_of_le (Nat.le_trans l1 (by decide)), Nat.ble_eq_true_of_le (Nat.le_trans t1 (by decide)), Nat.ble_eq_true_of_le (Nat.le_trans t2 (by decide)), q⟩
theorem filter_take {α : Type} {p : α → Bool} {l : List α} {i : Nat} {x : α} (e : l[i]? = some x) : (l.take (i + 1)).filter p = (l.take i).filter p ++ (if p x then [x] else []) := by
  rw [List.take_succ, e, List.filter_append]
  show _ ++ List.filter p [x] = _
  rw [List.filter_cons, List.filter_nil]
/-! one of some; a word -/
theorem of_ref {h : Hs} {nb nc : Nat} {a b c : Int} {ws : List Str} {k : KE A} (hb : h[nb]? = some (bagO a b c)) (hc : h[nc]? = some (.lst (strL ws))) (hne : nb ≠ nc) (h0 : 0 < ws.length) (hl : ws.length ≤ 100)
    (q : ∀ w ∈ ws, ∀ a' c', k.q (.str w) (h.set nb (bagO a' b c'))) : (f_law_of [.ref nb, .ref nc] h).sat k := by
  rw [r_law_of]; unfold b_law_of
  simp_arith [hc, strL_len]
  refine take_ok hb (by show 0 < (ws.length : Int); omega) (by show ((ws.length : Int)).natAbs.log2 < 9000; rw [Int.natAbs_natCast]; exact Nat.lt_of_le_of_lt (Nat.log2_le_self _) (by omega)) fun d a' c' hd1 hd2 => ?_
  have hc' : (h.set nb (bagO a' b c'))[nc]? = some (.lst (strL ws)) := hp_ne hne hc
  have hd2 : d < (ws.length : Int) := hd2
  have hlt : d.toNat < ws.length := by omega
  have e : atI (strL ws) d = some (.str ws[d.toNat]) := by
    rw [at_nn hd1 (by rw [strL_len]; exact hd2)]
    unfold strL
    rw [List.getElem?_map, List.getElem?_eq_getElem hlt]; rfl
  simp_arith [hc', e]
  exact q _ (List.getElem_mem _) _ _
theorem of_lst {h : Hs} {nb : Nat} {a b c : Int} {xs : List A} {k : KE A} (hb : h[nb]? = some (bagO a b c)) (h0 : 0 < xs.length) (hl : xs.length ≤ 100)
    (q : ∀ x ∈ xs, ∀ a' c', k.q x (h.set nb (bagO a' b c'))) : (f_law_of [.ref nb, .lst xs] h).sat k := by
  rw [r_law_of]; unfold b_law_of
  simp_arith []
  refine take_ok hb (by show 0 < (xs.length : Int); omega) (by show ((xs.length : Int)).natAbs.log2 < 9000; rw [Int.natAbs_natCast]; exact Nat.lt_of_le_of_lt (Nat.log2_le_self _) (by omega)) fun d a' c' hd1 hd2 => ?_
  have hd2 : d < (xs.length : Int) := hd2
  have hlt : d.toNat < xs.length := by omega
  have e : atI xs d = some xs[d.toNat] := by
    rw [at_nn hd1 hd2]
    exact List.getElem?_eq_getElem hlt
  simp_arith [e]
  exact q _ (List.getElem_mem _) _ _
def abc : Str := "abcdefghijklmnopqrstuvwxyz"
theorem abc_list : abc.cps.toList = (List.range 26).map (· + 97) := by decide +kernel
theorem abc_len : abc.length = 26 := by decide +kernel
theorem abc_ok {x : Nat} (h : x ∈ abc.cps.toList) : x < 0x110000 := by
  rw [abc_list] at h
  obtain ⟨y, hy, rfl⟩ := List.mem_map.mp h
  have := List.mem_range.mp hy
  omega
theorem one_ok {x : Nat} (h : x < 0x110000) : PyData.strOk ⟨#[x]⟩ = true := by
  unfold PyData.strOk
  simp [h]
theorem of_abc {h : Hs} {nb : Nat} {a b c : Int} {k : KE A} (hb : h[nb]? = some (bagO a b c))
    (q : ∀ x ∈ abc.cps.toList, ∀ a' c', k.q (.str ⟨#[x]⟩) (h.set nb (bagO a' b c'))) : (f_law_of [.ref nb, .str abc] h).sat k := by
  rw [r_law_of]; unfold b_law_of
  simp_arith [abc_len]
  refine ⟨by decide, ?_⟩
  refine take_ok hb (by decide) (by decide) fun d a' c' hd1 hd2 => ?_
  have hl : abc.cps.toList.length = 26 := by rw [abc_list]; simp
  have hd2 : d < 26 := hd2
  have hlt : d.toNat < abc.cps.toList.length := by omega
  have e : atI abc.cps.toList d = some abc.cps.toList[d.toNat] := by
    rw [at_nn hd1 (by rw [hl]; exact hd2)]
    exact List.getElem?_eq_getElem hlt
  simp_arith [e, abc_len]
  exact ⟨by decide, q _ (List.getElem_mem _) _ _⟩
theorem cut7 {w : Str} : (cutS w none (some 7)).length ≤ 7 := by
  show (List.toArray _).size ≤ 7
  rw [List.size_toArray]
  refine Nat.le_trans (List.length_take_le _ _) ?_
  have e : HT.sIx w.length w.length (some 7) = min 7 w.length := HT.sIx_nat _ _ 7
  have e0 : HT.sIx w.length 0 none = 0 := rfl
  first
    | (rw [e, e0]; omega)
    | (rw [e]; omega)
    | omega
theorem word_ok {h : Hs} {nb : Nat} {a b c : Int} {ws us : List Str} {k : KE A} (hb : h[nb]? = some (bagO a b c)) (hl : ws.length ≤ 100) (hu : us.length ≤ 10) (hus : ∀ s ∈ ws, s ∈ us)
    (q : ∀ w a' c', PyData.strOk w = true → w.length ≤ 8 → w ∉ ws → k.q (.str w) (h.set nb (bagO a' b c'))) : (f_law_word [.ref nb, .lst (strL ws)] h).sat k := by
  rw [r_law_word]; unfold b_law_word
  have e0 : strL ws ++ [.str "self", .str "age", .str "off"] = strL (ws ++ ([("self" : Str), ("age" : Str), ("off" : Str)] : List Str)) := by unfold strL; rw [List.map_append]; rfl
  simp_arith [e0]
  refine ⟨sz_le (by rw [strL_len]; simp; omega), ?_⟩
  refine w_lc (fun xs i acc h1 => ∃ ys a' c', acc = strL ys ∧ ys.length = i ∧ (∀ y ∈ ys, y.length = 1 ∧ PyData.strOk y = true) ∧ h1 = h.set nb (bagO a' b c') ∧ xs.length ≤ 8) ?_
  simp_arith []
  refine take_ok hb (by decide) (by decide) fun d a' c' hd1 hd2 => ?_
  simp_arith []
  have hR : (rangeA (1 + d).toNat).length ≤ 8 := by rw [rng_len]; omega
  refine ⟨⟨by omega, by omega⟩, Nat.le_trans hR (by decide), ⟨[], a', c', rfl, rfl, (fun _ z => nomatch z), rfl, hR⟩, ?_, ?_⟩
  · rintro i x acc h1 hx ⟨ys, a1, c1, rfl, rfl, hy, rfl, h8⟩
    simp_arith [wipeA]
    refine of_abc (hp_set hb) fun x hx a2 c2 => ?_
    simp_arith [List.set_set]
    refine ⟨ys ++ [⟨#[x]⟩], a2, c2, by unfold strL; rw [List.map_append]; rfl, by simp, fun y hm => ?_, rfl, h8⟩
    rcases List.mem_append.mp hm with hm | hm
    · exact hy y hm
    · rw [List.mem_singleton.mp hm]; exact ⟨rfl, one_ok (abc_ok hx)⟩
  rintro acc h1 ⟨ys, a1, c1, rfl, hlen, hy, rfl, h8⟩
  have l1 := sum_le (n := 1) fun y hm => Nat.le_of_eq (hy y hm).1
  have l2 := len_join (g := ("" : Str)) (ys := ys) (by decide)
  have ok := strOk_join (g := ("" : Str)) (by decide +kernel) fun y hm => (hy y hm).2
  have l0 : (("" : Str)).length = 0 := by decide
  rw [join_strL]
  refine ⟨Nat.ble_eq_true_of_le (by rw [l0]; omega), ?_⟩
  have l3 : (Txt.join ("" : Str) ys).length ≤ 8 := by omega
  generalize Txt.join ("" : Str) ys = w at ok l3
  clear l1 l2
  generalize hH : h.set nb (bagO a1 b c1) = hh
  obtain ⟨cs, hcs⟩ : ∃ cs, cs = w :: abc.cps.toList.map fun c => cutS w none (some 7) ++ (⟨#[c]⟩ : Str) := ⟨_, rfl⟩
  obtain ⟨tk, htk⟩ : ∃ tk, tk = ws ++ ([("self" : Str), ("age" : Str), ("off" : Str)] : List Str) := ⟨_, rfl⟩
  rw [← htk]
  simp_arith []
  refine w_lc (fun xs i acc h1 => h1 = hh ∧ xs = strL cs ∧ acc = strL ((cs.take i).filter fun s => !tk.contains s)) ?_
  simp_arith []
  refine w_lc (fun xs i acc h1 => h1 = hh ∧ xs = signs abc ∧ acc = strL ((abc.cps.toList.take i).map fun c => cutS w none (some 7) ++ (⟨#[c]⟩ : Str))) ?_
  simp_arith []
  have lab : (signs abc).length = 26 := by unfold signs; rw [List.length_map, abc_list]; simp
  have lal : abc.cps.toList.length = 26 := by rw [abc_list]; simp
  refine ⟨by show (signs abc).length ≤ sizeLine; rw [lab]; decide, by first | exact ⟨rfl, rfl, rfl⟩ | exact ⟨rfl, rfl⟩, ?_, ?_⟩
  · rintro i x acc h1 hx ⟨rfl, _, rfl⟩
    have hx : (signs abc)[i]? = some x := hx
    unfold signs at hx
    rw [List.getElem?_map] at hx
    cases hc : abc.cps.toList[i]? with
    | none => rw [hc] at hx; cases hx
    | some c =>
      rw [hc] at hx
      cases hx
      have l4 := cut_len (a := w) (lo := none) (hi := some 7)
      have l5 : (⟨#[c]⟩ : Str).length = 1 := rfl
      simp_arith [wipeA]
      refine ⟨Nat.ble_eq_true_of_le (Nat.le_trans l3 (by decide)), Nat.ble_eq_true_of_le (by rw [l5]; exact Nat.le_trans (show _ ≤ 9 by omega) (by decide)), ?_⟩
      first | refine ⟨rfl, rfl, ?_⟩ | refine ⟨rfl, ?_⟩ | skip
      rw [take_snoc hc, List.map_append, ← strL_app]
      first | done | rfl
  rintro acc h1 ⟨rfl, _, rfl⟩
  have eL : (signs ("abcdefghijklmnopqrstuvwxyz" : Str)).length = 26 := lab
  rw [eL, List.take_of_length_le (by rw [lal]; exact Nat.le_refl _)]
  have ecs : [A.str w] ++ strL (abc.cps.toList.map fun c => cutS w none (some 7) ++ (⟨#[c]⟩ : Str)) = strL cs := by rw [hcs]; rfl
  have lcs : (strL cs).length = 27 := by rw [← ecs]; simp [strL, lal]
  have lsm : (strL (abc.cps.toList.map fun c => cutS w none (some 7) ++ (⟨#[c]⟩ : Str))).length = 26 := by rw [strL_len, List.length_map, lal]
  rw [lsm, ecs, lcs]
  have okc : ∀ s ∈ cs, PyData.strOk s = true := by
    intro s hs
    rw [hcs] at hs
    rcases List.mem_cons.mp hs with rfl | hs
    · exact ok
    · obtain ⟨c, hc, rfl⟩ := List.mem_map.mp hs
      exact strOk_app (strOk_cut ok) (one_ok (abc_ok hc))
  refine ⟨by show Nat.ble 27 sizeLine = true; decide, by decide, by first | exact ⟨rfl, rfl, rfl⟩ | exact ⟨rfl, rfl⟩ | rfl, ?_, ?_⟩
  · rintro i x acc h2 hx ⟨rfl, _, rfl⟩
    obtain ⟨s, hs, rfl⟩ := strL_get hx
    simp_arith [wipeA]
    cases hk : tk.contains s with
    | true =>
      simp_arith []
      rw [filter_take hs, hk]
      simp
    | false =>
      simp_arith []
      rw [filter_take hs, hk, ← strL_app]
      rfl
  rintro acc h2 ⟨rfl, _, rfl⟩
  have l27 : cs.length = 27 := by rw [← lcs, strL_len]
  rw [List.take_of_length_le (Nat.le_of_eq l27)]
  have lenc : ∀ s ∈ cs, s.length ≤ 8 := by
    intro s hs
    rw [hcs] at hs
    rcases List.mem_cons.mp hs with rfl | hs
    · exact l3
    · obtain ⟨c, hc, rfl⟩ := List.mem_map.mp hs
      have z1 : (cutS w none (some 7)).length ≤ 7 := cut7
      have z2 : (⟨#[c]⟩ : Str).length = 1 := rfl
      rw [app_len]; omega
  cases hf : cs.filter fun s => !tk.contains s with
  | nil =>
    exfalso
    have nd : (abc.cps.toList.map fun c => cutS w none (some 7) ++ (⟨#[c]⟩ : Str)).Nodup := by
      have n0 : abc.cps.toList.Nodup := by decide +kernel
      exact List.Pairwise.map _ (fun a b hab e => hab (app_inj e)) n0
    have sub : (abc.cps.toList.map fun c => cutS w none (some 7) ++ (⟨#[c]⟩ : Str)) ⊆ tk := by
      intro s hs
      have hs' : s ∈ cs := by rw [hcs]; exact List.mem_cons_of_mem _ hs
      have := List.filter_eq_nil_iff.mp hf s hs'
      simpa using this
    have sub : (abc.cps.toList.map fun c => cutS w none (some 7) ++ (⟨#[c]⟩ : Str)) ⊆ us ++ ([("self" : Str), ("age" : Str), ("off" : Str)] : List Str) := by
      intro s hs
      have := sub hs
      rw [htk] at this
      rcases List.mem_append.mp this with z | z
      · exact List.mem_append_left _ (hus s z)
      · exact List.mem_append_right _ z
    have := nd.length_le_of_subset sub
    rw [List.length_append, List.length_cons, List.length_cons, List.length_cons, List.length_nil] at this
    rw [List.length_map, lal] at this
    omega
  | cons v r =>
    have hv : v ∈ cs := by
      have : v ∈ cs.filter fun s => !tk.contains s := by rw [hf]; exact List.mem_cons_self
      exact (List.mem_filter.mp this).1
    show qO (atI (.str v :: strL r) 0) _ _
    simp_arith []
    rw [← hH]
    refine q v a1 c1 (okc v hv) (lenc v hv) fun z => ?_
    have hm : v ∈ cs.filter fun s => !tk.contains s := by rw [hf]; exact List.mem_cons_self
    have z2 := (List.mem_filter.mp hm).2
    have z3 : tk.contains v = true := List.contains_iff_mem.mpr (by rw [htk]; exact List.mem_append_left _ z)
    rw [z3] at z2
    cases z2
/-! drawn stages -/
theorem stages_ok {h : Hs} {nb : Nat} {a b c : Int} {k : KE A} (hb : h[nb]? = some (bagO a b c))
    (q : ∀ (ss : List Stg) (us : List Str) (a' c' : Int), ss.length ≤ 60 → (∀ s ∈ ss, OkS s) → us.length ≤ 3 → (∀ s ∈ ss, s.1 ∈ us) → k.q (.lst (kSII.L ss)) (h.set nb (bagO a' b c'))) : (f_law_stages [.ref nb, .int 61] h).sat k := by
  rw [r_law_stages]; unfold b_law_stages
  simp_arith []
  refine w_lc (fun xs i acc h1 => xs.length = 3 ∧ ∃ us a' c', acc = strL us ∧ us.length = i ∧ (∀ w ∈ us, PyData.strOk w = true ∧ w.length ≤ 8) ∧ h1 = h.set nb (bagO a' b c')) ?_
  simp_arith []
  refine ⟨by rw [rng_len]; decide, ⟨by rw [rng_len], [], a, c, rfl, rfl, (fun _ z => nomatch z), (set_self hb).symm⟩, ?_, ?_⟩
  · rintro i x acc h1 hx ⟨h3, us, a1, c1, rfl, hlen, hok, rfl⟩
    simp_arith [wipeA]
    refine word_ok (ws := []) (us := []) (hp_set hb) (by simp) (by simp) (fun _ z => nomatch z) fun w a2 c2 okw lw _ => ?_
    simp_arith [List.set_set]
    refine ⟨h3, us ++ [w], a2, c2, by rw [← strL_app]; rfl, by simp [hlen], fun y hy => ?_, rfl⟩
    rcases List.mem_append.mp hy with hy | hy
    · exact hok y hy
    · rw [List.mem_singleton.mp hy]; exact ⟨okw, lw⟩
  rintro acc h1 ⟨h3, us, a1, c1, rfl, hlen, hok, rfl⟩
  have hus : us.length = 3 := hlen.trans h3
  refine w_lc (fun xs i acc h1 => xs.length ≤ 60 ∧ ∃ ss a' c', acc = kSII.L ss ∧ ss.length = i ∧ (∀ s ∈ ss, OkS s ∧ s.1 ∈ us) ∧ h1 = h.set nb (bagO a' b c')) ?_
  simp_arith []
  refine take_ok (hp_set hb) (by decide) (by decide) fun d a2 c2 hd1 hd2 => ?_
  rw [List.set_set]
  simp_arith []
  have hR : (rangeA d.toNat).length ≤ 60 := by rw [rng_len]; omega
  refine ⟨by omega, Nat.le_trans hR (by decide), ⟨hR, [], a2, c2, rfl, rfl, (fun _ z => nomatch z), rfl⟩, ?_, ?_⟩
  · rintro i x acc h1 hx ⟨h60, ss, a3, c3, rfl, hl, hok2, rfl⟩
    simp_arith [wipeA]
    have hnn : (strL us).length = 3 := by rw [strL_len, hus]
    refine of_lst (hp_set hb) (by omega) (by omega) fun y hy a4 c4 => ?_
    obtain ⟨w, hw, rfl⟩ := List.mem_map.mp (show y ∈ us.map A.str from hy)
    rw [List.set_set]
    simp_arith []
    refine take_ok (hp_set hb) (by decide) (by decide) fun d5 a5 c5 h50 h51 => ?_
    rw [List.set_set]
    simp_arith []
    refine take_ok (hp_set hb) (by decide) (by decide) fun d6 a6 c6 h60' h61 => ?_
    rw [List.set_set]
    simp_arith []
    refine ⟨h60, ss ++ [(w, d5, d6)], a6, c6, by rw [← SK.L_app]; rfl, by simp [hl], fun s hs => ?_, rfl⟩
    rcases List.mem_append.mp hs with hs | hs
    · exact hok2 s hs
    · rw [List.mem_singleton.mp hs]
      exact ⟨⟨(hok w hw).1, (hok w hw).2, h50, h51, h60', h61⟩, hw⟩
  rintro acc h1 ⟨h60, ss, a3, c3, rfl, hl, hok2, rfl⟩
  have z := q ss us a3 c3 (by omega) (fun s hs => (hok2 s hs).1) (by omega) fun s hs => (hok2 s hs).2
  first | exact z | (simp_arith []; exact z)
/-! what is listed was handed in -/
theorem put_sub {m : BM} {w : Str × Int} {v : Int} {p : (Str × Int) × Int} (h : p ∈ putM m w v) : p ∈ m ∨ p = (w, v) := by
  unfold putM at h
  split at h
  · obtain ⟨q, hq, e⟩ := List.mem_map.mp h
    split at e
    · rename_i z; right; rw [← e, z]
    · left; rw [← e]; exact hq
  · rcases List.mem_append.mp h with h | h
    · exact .inl h
    · exact .inr (List.mem_singleton.mp h)
theorem best_sub {ss : List Stg} {p : (Str × Int) × Int} (h : p ∈ best ss) : trip p ∈ ss := by
  have gen : ∀ (rs : List Stg) (m : BM), (∀ p ∈ m, trip p ∈ ss) → (∀ s ∈ rs, s ∈ ss) → ∀ p ∈ rs.foldl bStep m, trip p ∈ ss := by
    intro rs
    induction rs with
    | nil => intro m h1 _ p hp; exact h1 p hp
    | cons s rs ih =>
      intro m h1 h2
      refine ih (bStep m s) (fun p hp => ?_) fun x hx => h2 x (List.mem_cons_of_mem _ hx)
      unfold bStep at hp
      split at hp
      · rcases put_sub hp with hp | rfl
        · exact h1 p hp
        · exact h2 s List.mem_cons_self
      · exact h1 p hp
  exact gen ss [] (fun _ z => nomatch z) (fun _ z => z) p h
theorem listed_sub {ss : List Stg} {s : Stg} (h : s ∈ listed (best ss)) : s ∈ ss := by
  unfold listed at h
  obtain ⟨p, hp, rfl⟩ := List.mem_map.mp (SK.mem.mp h)
  exact best_sub hp
theorem len1 {h : Hs} {a : O} : (h ++ [a]).length = h.length + 1 := by simp
theorem crowdAt {h : Hs} {d : Nat} {m : BM} {k : KE A} : atP (instOf (stgA d m) h) at_crowd (stgA d m) k h = k.q (.tup (kSII.L (listed m))) h := by
  show (f_Stages_crowd [stgA d m] h).sat k = _
  exact crowd_ok
theorem kb_tt : kitB "tuple" "tuple" = some true := by decide +kernel
theorem flat_stgs {ls : List Stg} (k : ∀ s ∈ ls, OkS s) : Flat 12 (.tuple (ls.map kSII.dat)) := Flat.mono (n := 4) (flat_tup (n := 2) fun d hd => by
  obtain ⟨s, hs, rfl⟩ := List.mem_map.mp hd
  refine flat_tup (n := 0) fun d hd => ?_
  simp only [List.mem_cons, List.not_mem_nil, or_false] at hd
  rcases hd with rfl | rfl | rfl
  · exact flat_str (k s hs).ok
  · exact flat_int
  · exact flat_int) (by decide)
theorem ne_stgs {ls : List Stg} {h : Hs} {ke : KE A} (k : ∀ s ∈ ls, OkS s) : (aNe (.tup (kSII.L ls)) (.tup (kSII.L ls)) h).sat ke = ke.q (.bl false) h := ne_flat dat_list (Flat.mono (flat_stgs k) (by decide))
theorem lenAt {h : Hs} {d : Nat} {m : BM} {k : KE A} (hl : m.length ≤ 100) : (lenG mt_len (stgA d m) h).sat k = k.q (.int (Int.ofNat m.length)) h := by
  have z : (decide (0 ≤ Int.ofNat m.length ∧ Int.ofNat m.length < 9223372036854775808)) = true := decide_eq_true (by simp only [Int.ofNat_eq_natCast]; omega)
  have l := len_ok (h := h) (d := d) (m := m) (k := kW lenBk k)
  unfold stgA at *
  simp_arith [l, z]
/-! the last checks: what is listed, as a walk, a list, a text, a dict; what is in -/
section
variable {h : Hs} {d : Nat} {m : BM} {k : KE A} {a : Str} {b c : Int}
theorem walkAt : walkA itf (stgA d m) h = some (kSII.L (listed m)) := by
  unfold stgA
  simp_arith []
theorem listAt (hl : m.length ≤ 100) : (listOA mt_len itf (stgA d m) h).sat k = k.q (.lst (kSII.L (listed m))) h := by
  have z : (decide (0 ≤ Int.ofNat m.length ∧ (Int.ofNat m.length).toNat ≤ sizeLine)) = true := decide_eq_true ⟨Int.ofNat_zero_le _, Nat.le_trans hl (by decide)⟩
  have l := len_ok (h := h) (d := d) (m := m) (k := kLo (kSII.L (listed m)) k)
  unfold stgA at *
  simp_arith [l, z]
theorem reprAt (ok : ∀ s ∈ listed m, OkS s) (hl : m.length ≤ 100) (q : k.q (.str (repS m)) h) : (reprG mt_repr (stgA d m) h).sat k := by
  have l := repr_ok (h := h) (d := d) (m := m) (k := kW isSt k) ok hl (by simp_arith []; exact q)
  unfold stgA at *
  simp_arith []
  exact l
theorem inAt {kt : KE Bool} (x : h[d]? = some (.dt (encK kRw A.int m))) : (inG mt_contains (.tup [.str a, .int b, .int c]) (stgA d m) h).sat kt = kt.q (hasE m (a, b) c) h := by
  have l := has_ok (a := a) (b := b) (c := c) (k := kBl kt) x
  unfold stgA at *
  simp_arith [l]
theorem ne_stgsL {ls : List Stg} (k1 : ∀ s ∈ ls, OkS s) : (aNe (.lst (kSII.L ls)) (.lst (kSII.L ls)) h).sat k = k.q (.bl false) h := by
  refine ne_flat (d := .list (ls.map kSII.dat)) ?_ (Flat.mono (n := 4) (flat_lst (n := 2) fun d hd => ?_) (by decide))
  · show (datAll (kSII.L ls)).map PyData.list = _
    rw [SK.datAll]; rfl
  · obtain ⟨s, hs, rfl⟩ := List.mem_map.mp hd
    refine flat_tup (n := 0) fun d hd => ?_
    simp only [List.mem_cons, List.not_mem_nil, or_false] at hd
    rcases hd with rfl | rfl | rfl
    · exact flat_str (k1 s hs).ok
    · exact flat_int
    · exact flat_int
end
/-! the dict of what is due -/
def pr (s : Stg) : A := .tup [.tup [.str s.1, .int s.2.1], .int s.2.2]
def prK (s : Stg) : List Key × A := (kRw (s.1, s.2.1), .int s.2.2)
def unt (s : Stg) : (Str × Int) × Int := ((s.1, s.2.1), s.2.2)
theorem pairs_pr : ∀ {ls : List Stg}, pairsT (ls.map pr) = some (ls.map prK)
  | [] => rfl
  | s :: ls => by
    rw [List.map_cons, pairsT]
    have e : pairT (pr s) = some (prK s) := rfl
    rw [e, pairs_pr]; rfl
theorem fold_enc : ∀ {ls : List Stg} {M : BM}, (ls.map prK).foldl (fun acc p => putA acc p.1 p.2) (encK kRw A.int M) = encK kRw A.int (ls.foldl (fun M s => putM M (s.1, s.2.1) s.2.2) M)
  | [], _ => rfl
  | s :: ls, M => by
    rw [List.map_cons, List.foldl_cons, List.foldl_cons, ← fold_enc]
    congr 1
    exact putB
theorem hasM_mem {κ ν : Type} [DecidableEq κ] {m : List (κ × ν)} {w : κ} (h : hasM m w = true) : w ∈ m.map (·.1) := by
  unfold hasM at h
  exact List.contains_iff_mem.mp h
theorem has_no {M : BM} {p : Str × Int} (h : p ∉ keysB M) : hasM M p = false := by
  cases e : hasM M p with
  | false => rfl
  | true => exact absurd (hasM_mem e) h
theorem get_no {M : BM} {p : Str × Int} (h : p ∉ keysB M) : getM M p = none := by
  have z : (getM M p).isSome = false := by rw [get_has]; exact has_no h
  cases e : getM M p with
  | none => rfl
  | some v => rw [e] at z; cases z
theorem fold_new : ∀ {ls : List Stg} {M : BM}, (keysB (M ++ ls.map unt)).Nodup → ls.foldl (fun M s => putM M (s.1, s.2.1) s.2.2) M = M ++ ls.map unt
  | [], M, _ => by simp
  | s :: ls, M, n => by
    have hn : (s.1, s.2.1) ∉ keysB M := by
      intro z
      unfold keysB at n z
      rw [List.map_append, List.nodup_append] at n
      exact n.2.2 _ z (s.1, s.2.1) (by rw [List.map_cons, List.map_cons]; exact List.mem_cons_self) rfl
    have e : M ++ (s :: ls).map unt = (M ++ [((s.1, s.2.1), s.2.2)]) ++ ls.map unt := by rw [List.append_assoc]; rfl
    rw [List.foldl_cons, putM_new (has_no hn), fold_new (by rw [← e]; exact n), e]
theorem unt_perm {m : BM} : ((listed m).map unt).Perm m := by
  unfold listed
  refine List.Perm.trans (SK.perm.map _) ?_
  rw [List.map_map]
  refine List.Perm.of_eq ?_
  have : (unt ∘ trip) = id := rfl
  rw [this, List.map_id]
theorem unt_nd {m : BM} (nd : (keysB m).Nodup) : (keysB ((listed m).map unt)).Nodup := (List.Perm.nodup_iff (unt_perm.map _)).mpr nd
theorem fold_due {m : BM} (nd : (keysB m).Nodup) : ((listed m).map prK).foldl (fun acc p => putA acc p.1 p.2) [] = encK kRw A.int ((listed m).map unt) := by
  have z := fold_enc (ls := listed m) (M := [])
  rw [fold_new (by rw [List.nil_append]; exact unt_nd nd), List.nil_append] at z
  exact z
theorem get_mem2 {M : BM} {p : Str × Int} {v : Int} (e : getM M p = some v) : (p, v) ∈ M := by
  unfold getM at e
  cases hf : M.find? (fun q => decide (q.1 = p)) with
  | none => rw [hf] at e; cases e
  | some q =>
    rw [hf] at e
    have h1 := List.find?_some hf
    have h2 := List.mem_of_find?_eq_some hf
    have h3 : q.1 = p := of_decide_eq_true h1
    have h4 : q.2 = v := by simpa using e
    rw [← h3, ← h4]; exact h2
theorem get_due {m : BM} (nd : (keysB m).Nodup) {p : Str × Int} {v : Int} (e : getM m p = some v) : getM ((listed m).map unt) p = some v :=
  get_mem (unt_nd nd) ((unt_perm.mem_iff).mpr (get_mem2 e))
/-! the keys -/
theorem best_has {ss : List Stg} : ∀ s ∈ ss, (s.1, s.2.1) ∈ keysB (best ss) := by
  have step : ∀ (m : BM) (s : Stg) (p : Str × Int), p ∈ keysB m ∨ p = (s.1, s.2.1) → p ∈ keysB (bStep m s) := by
    intro m s p hp
    unfold bStep
    cases hh : hasM m (s.1, s.2.1) with
    | true =>
      have hk : (s.1, s.2.1) ∈ keysB m := hasM_mem hh
      have hp' : p ∈ keysB m := by rcases hp with hp | rfl <;> assumption
      split
      · unfold keysB at *; rw [keys_put_old hh]; exact hp'
      · exact hp'
    | false =>
      rw [if_pos (.inl rfl)]
      unfold keysB at *
      rw [keys_put_new hh]
      rcases hp with hp | rfl
      · exact List.mem_append_left _ hp
      · exact List.mem_append_right _ (List.mem_singleton.mpr rfl)
  have gen : ∀ (rs : List Stg) (m : BM) (p : Str × Int), (p ∈ keysB m ∨ ∃ s ∈ rs, p = (s.1, s.2.1)) → p ∈ keysB (rs.foldl bStep m) := by
    intro rs
    induction rs with
    | nil =>
      intro m p hp
      rcases hp with hp | ⟨_, z, _⟩
      · exact hp
      · exact nomatch z
    | cons s rs ih =>
      intro m p hp
      refine ih (bStep m s) p ?_
      rcases hp with hp | ⟨x, hx, e⟩
      · exact .inl (step m s p (.inl hp))
      · rcases List.mem_cons.mp hx with rfl | hx
        · exact .inl (step m x p (.inr e))
        · exact .inr ⟨x, hx, e⟩
  exact fun s hs => gen ss [] _ (.inr ⟨s, hs, rfl⟩)
theorem key_sub {ss : List Stg} {p : Str × Int} (h : p ∈ keysB (best ss)) : ∃ s ∈ ss, p = (s.1, s.2.1) := by
  unfold keysB at h
  obtain ⟨q, hq, rfl⟩ := List.mem_map.mp h
  exact ⟨_, best_sub hq, rfl⟩
theorem hasE_no {m : BM} {p : Str × Int} {e : Int} (h : p ∉ keysB m) : hasE m p e = false := by unfold hasE; rw [get_no h]
theorem s_slT {h : Hs} {ke : KE A} {xs : List A} {lo hi : Option Int} : (slA (.tup xs) lo hi h).sat ke = ke.q (.tup (cutA xs lo hi)) h := (rfl)
theorem s_ixDdt {h : Hs} {ke : KE A} {kvs : List (List Key × A)} {y : A} : (ixD (.dt kvs) y h).sat ke = ddQ (.t kvs) y h ke := s_ixD
theorem mk0 {h : Hs} {k : KE A} (q : ∀ l d, k.q (stgA d []) (h ++ l)) : (mkF 0 f_Stages_init [c_dv_Stages_init_0] h).sat k :=
  init_ok (ss := []) (fun l => rfl) (by decide) fun l d _ => q l d
theorem mkL {h : Hs} {k : KE A} (q : ∀ l d, k.q (stgA d []) (h ++ l)) : (mkF 0 f_Stages_init [.lst []] h).sat k :=
  init_ok (ss := []) (fun l => rfl) (by decide) fun l d _ => q l d
theorem listed_nil : kSII.L (listed []) = [] := by
  unfold listed SK.srt SK.L
  simp
theorem eqB (b : Bool) : (PyData.bool b).eqv (PyData.bool b) = true := (flat_bool (b := b)).2.2
theorem of0 : (Int.ofNat 0 == 0) = true := rfl
theorem ne_nil {h : Hs} {k : KE A} : (aNe (.tup []) (.tup []) h).sat k = k.q (.bl false) h := ne_flat (d := .tuple []) rfl (Flat.mono (flat_tup (n := 0) (fun _ z => nomatch z)) (by decide))
theorem law_ok : ∀ ns : List Int, ns.length ≤ 63 → ∃ h', f_law [.scr ns] [] = .ok (.bl true) h' := by
  intro ns hns
  refine sat_true ?_
  rw [r_law]; unfold b_law
  simp_arith []
  refine w_for (fun xs i sl h => ∃ v1 v2 v3 v4 v5 v6 v7 v8 v9 v10 v11 v12 v13, sl = [some (.scr ns), v1, v2, v3, v4, v5, v6, v7, v8, v9, v10, v11, v12, v13]) ?_
  simp_arith []
  refine ⟨?_, ⟨_, _, _, _, _, _, _, _, _, _, _, _, _, rfl⟩, ?_, ?_⟩
  · have : Int.ofNat ns.length = (ns.length : Int) := rfl
    split <;> split <;> omega
  · rintro i x sl h hx ⟨v1, v2, v3, v4, v5, v6, v7, v8, v9, v10, v11, v12, v13, rfl⟩
    obtain ⟨hi, rfl⟩ := rng_get hx
    simp_arith []
    refine bag_ok (Int.ofNat_zero_le i) fun a e c => ?_
    simp_arith []
    refine stages_ok gt1 fun ss us a1 c1 h60 hok hus hmem => ?_
    rw [st1]
    simp_arith []
    refine due_ok (by omega) fun l => ?_
    simp_arith [↓s_listTl]
    obtain ⟨nb, enb⟩ : ∃ nb, nb = h.length := ⟨_, rfl⟩
    obtain ⟨hn, ehn⟩ : ∃ hn, hn = (h ++ [bagO a1 e c1] ++ l).length := ⟨_, rfl⟩
    have hb : (h ++ [bagO a1 e c1] ++ l ++ [O.lst (kSII.L ss)])[nb]? = some (bagO a1 e c1) := by rw [enb]; exact hp_app (hp_app gt1)
    have hh : (h ++ [bagO a1 e c1] ++ l ++ [O.lst (kSII.L ss)])[hn]? = some (.lst (kSII.L ss)) := by rw [ehn]; exact gt1
    have ne : nb ≠ hn := by rw [enb, ehn]; simp
    rw [← ehn, ← enb]
    generalize (h ++ [bagO a1 e c1] ++ l ++ [O.lst (kSII.L ss)]) = h2 at hb hh ⊢
    clear enb ehn
    refine w_lc (fun xs j acc h' => h' = h2 ∧ xs = kSII.L ss ∧ acc = strL ((ss.take j).map (·.1))) ?_
    simp_arith []
    refine ⟨?_, ?_, ?_, ?_⟩
    · rw [SK.L_len]; exact Nat.le_trans h60 (by decide)
    · first | exact ⟨rfl, rfl, rfl⟩ | exact ⟨rfl, rfl⟩ | rfl
    · rintro j y acc h' hy ⟨rfl, rfl⟩
      obtain ⟨s, hs, rfl⟩ := SK.L_get hy
      simp_arith [wipeA, encSII]
      rw [take_snoc hs, List.map_append, ← strL_app]
      rfl
    rintro acc h' ⟨rfl, rfl⟩
    rw [SK.L_len, List.take_length]
    have hus2 : ∀ s ∈ ss.map (·.1), s ∈ us := fun s hs => by obtain ⟨p, hp, rfl⟩ := List.mem_map.mp hs; exact hmem p hp
    refine word_ok hb (by rw [List.length_map]; omega) (by omega) hus2 fun w a2 c2 okw lw nin => ?_
    have hh2 : (h'.set nb (bagO a2 e c2))[hn]? = some (.lst (kSII.L ss)) := hp_ne ne hh
    have hb2 : (h'.set nb (bagO a2 e c2))[nb]? = some (bagO a2 e c2) := hp_set hb
    generalize h'.set nb (bagO a2 e c2) = h3 at hh2 hb2 ⊢
    simp_arith [-s_eif]
    refine Out.sat_mono (k := ⟨fun x h' => ∃ dd, x = stgA dd (best ss) ∧ h'[dd]? = some (.dt (encK kRw A.int (best ss))) ∧ h'[hn]? = some (.lst (kSII.L ss)), fun _ _ => False⟩) ?_ (fun x h4 q => ?_) fun _ _ z => z.elim
    · simp_arith []
      refine take_ok hb2 (by decide) (by decide) fun d a3 c3 hd0 hd1 => ?_
      have hh3 : (h3.set nb (bagO a3 e c3))[hn]? = some (.lst (kSII.L ss)) := hp_ne ne hh2
      generalize h3.set nb (bagO a3 e c3) = h4 at hh3 ⊢
      simp_arith []
      refine cde_d (fun _ => ?_) fun _ => ?_
      · simp_arith [List.cons_append, List.nil_append, List.append_nil]
        refine ⟨rfl, init_ok (ss := ss) (fun l => ?_) (by omega) fun l dd hdd => ?_⟩
        · show (match (h4 ++ l)[hn]? with | some (.lst xs) => some xs | _ => none) = _
          rw [hp_app hh3]
        · exact ⟨dd, rfl, hdd, hp_app hh3⟩
      · simp_arith [↓s_tupR, listOf_ref, hh3, List.cons_append, List.nil_append, List.append_nil]
        refine ⟨rfl, init_ok (ss := ss) (x := .tup (kSII.L ss)) (fun l => rfl) (by omega) fun l dd hdd => ?_⟩
        exact ⟨dd, rfl, hdd, hp_app hh3⟩
    obtain ⟨dd, rfl, hd, hh4⟩ := q
    simp_arith []
    generalize hm : best ss = m at hd ⊢
    have hmlen : m.length ≤ 60 := by rw [← hm]; exact Nat.le_trans best_len h60
    have hd6 : ∀ o, (h4.set hn o)[dd]? = some (.dt (encK kRw A.int m)) := fun o => by
      refine hp_ne (fun z => ?_) hd
      rw [z, hd] at hh4
      cases hh4
    simp_arith [hh4]
    refine ⟨sz_lt (by rw [SK.L_len]; omega), ?_⟩
    have hd7 := hd6 (.lst (kSII.L ss ++ [A.tup [A.str "zz", A.int 0, A.int 0]]))
    generalize h4.set hn (.lst (kSII.L ss ++ [A.tup [A.str "zz", A.int 0, A.int 0]])) = h5 at hd7 ⊢
    clear hd6 hd hh4
    have okl : ∀ s ∈ listed m, OkS s := fun s hs => hok s (listed_sub (hm ▸ hs))
    simp_arith [↓crowdAt, kb_tt]
    rw [ne_stgs okl]
    simp_arith [↓lenAt (Nat.le_trans hmlen (by decide)), SK.L_len, listed_len, beq_self_eq_true]
    refine w_lc (fun xs j acc h' => h' = h5 ∧ xs = kSII.L (listed m) ∧ acc = kSII.L ((listed m).take j)) ?_
    simp_arith [walkAt]
    refine ⟨?_, ?_, ?_, ?_⟩
    · rw [SK.L_len, listed_len]; exact Nat.le_trans hmlen (by decide)
    · first | exact ⟨rfl, rfl, rfl⟩ | exact ⟨rfl, rfl⟩ | rfl
    · rintro j y acc h' hy ⟨rfl, rfl⟩
      obtain ⟨s, hs, rfl⟩ := SK.L_get hy
      simp_arith [wipeA]
      rw [take_snoc hs, ← SK.L_app]
      rfl
    rintro acc h' ⟨rfl, rfl⟩
    rw [SK.L_len, List.take_length]
    rw [ne_stgsL okl]
    simp_arith [↓listAt (Nat.le_trans hmlen (by decide))]
    rw [ne_stgsL okl]
    simp_arith [-s_reprG]
    refine reprAt okl (Nat.le_trans hmlen (by decide)) ?_
    obtain ⟨s1, s2⟩ := sh_list okl (by rw [listed_len]; exact Nat.le_trans hmlen (by decide))
    have l1 : (("Stages(" : Str)).length ≤ 7 := by decide +kernel
    have l2 : ((")" : Str)).length ≤ 1 := by decide +kernel
    have t1 : (("Stages(" : Str) ++ (PyData.tuple ((listed m).map kSII.dat)).shown).length ≤ 15728660 := by have := app_le l1 s2; exact this
    have b1 : Nat.ble (("Stages(" : Str).length + (PyData.tuple ((listed m).map kSII.dat)).shown.length) sizeLine = true := Nat.ble_eq_true_of_le (Nat.le_trans (Nat.add_le_add l1 s2) (by decide))
    have b2 : Nat.ble ((("Stages(" : Str) ++ (PyData.tuple ((listed m).map kSII.dat)).shown).length + (")" : Str).length) sizeLine = true := Nat.ble_eq_true_of_le (Nat.le_trans (Nat.add_le_add t1 l2) (by decide))
    have ne1 : (repS m == ("Stages(" : Str) ++ (PyData.tuple ((listed m).map kSII.dat)).shown ++ (")" : Str)) = true := by
      show (repS m == repS m) = true
      exact beq_self_eq_true _
    simp_arith [dat_list, s1, b1, b2, ne1]
    refine w_for (fun xs j sl h1 => xs = kSII.L ss ∧ h1 = h' ∧ ∃ v8 v9 v10 v11, sl = [some (.scr ns), some (.int (Int.ofNat i)), some (.ref nb), some (.lst (kSII.L ss)), some (.tup (kSII.L (listed m))), some (.ref hn), some (.str w), some (stgA dd m), v8, v9, v10, v11, v12, v13]) ?_
    simp_arith []
    refine ⟨?_, ?_, ?_⟩
    · first | exact ⟨rfl, rfl, _, _, _, _, rfl⟩ | exact ⟨rfl, _, _, _, _, rfl⟩ | exact ⟨_, _, _, _, rfl⟩
    · rintro j y sl h1 hy ⟨rfl, v8, v9, v10, v11, rfl⟩
      obtain ⟨s, hs, rfl⟩ := SK.L_get hy
      have hss : s ∈ ss := List.mem_of_getElem? hs
      have hkey : (s.1, s.2.1) ∈ keysB m := hm ▸ best_has s hss
      obtain ⟨v, hv⟩ := has_get hkey
      have nd : (keysB m).Nodup := hm ▸ best_nd
      have hE : ∀ t, hasE m (s.1, s.2.1) t = decide (v ≤ t) := fun t => by unfold hasE; rw [hv]
      have hD := get_due nd hv
      simp_arith [encSII]
      refine w_for (fun xs j sl h2 => h2 = h1 ∧ ∃ v11, sl = [some (.scr ns), some (.int (Int.ofNat i)), some (.ref nb), some (.lst (kSII.L ss)), some (.tup (kSII.L (listed m))), some (.ref hn), some (.str w), some (stgA dd m), some (.str s.1), some (.int s.2.1), some (.int s.2.2), v11, v12, v13]) ?_
      simp_arith []
      refine ⟨?_, ?_, ?_⟩
      · first | exact ⟨_, rfl⟩ | exact ⟨rfl, _, rfl⟩
      · rintro t y sl h2 hy ⟨rfl, v11, rfl⟩
        obtain ⟨ht, rfl⟩ := rng_get hy
        simp_arith [↓inAt hd7, hE]
        refine w_lc (fun xs j acc h1 => h1 = h2 ∧ xs = kSII.L (listed m) ∧ acc = ((listed m).take j).map pr) ?_
        simp_arith []
        refine ⟨?_, ?_, ?_, ?_⟩
        · rw [SK.L_len, listed_len]; exact Nat.le_trans hmlen (by decide)
        · first | exact ⟨rfl, rfl, rfl⟩ | exact ⟨rfl, rfl⟩ | rfl
        · rintro j y acc h1 hy ⟨rfl, rfl⟩
          obtain ⟨u, hu, rfl⟩ := SK.L_get hy
          simp_arith [wipeA, encSII, s_slT]
          rw [take_snoc hu, List.map_append]
          rfl
        rintro acc h1 ⟨rfl, rfl⟩
        rw [SK.L_len, List.take_length]
        simp_arith [pairs_pr, fold_due nd, s_ixDdt, valB, hD, Option.map_some, eqB]
        refine ⟨fun z => absurd z (by rw [eqB]; decide), fun _ => ?_⟩
        simp_arith []
        exact ⟨_, rfl⟩
      · rintro sl h2 ⟨rfl, v11, rfl⟩
        have n1 : ∀ t, hasE m (s.1, s.2.1 + 6) t = false := fun t => hasE_no fun z => by
          obtain ⟨u, hu, e⟩ := key_sub (hm ▸ z)
          have h1 := (hok u hu).i1
          have h0 := (hok s hss).i0
          have := congrArg Prod.snd e
          simp only at this
          omega
        have n2 : ∀ t, hasE m (w, s.2.1) t = false := fun t => hasE_no fun z => by
          obtain ⟨u, hu, e⟩ := key_sub (hm ▸ z)
          have : w = u.1 := congrArg Prod.fst e
          exact nin (this ▸ List.mem_map_of_mem hu)
        simp_arith [↓inAt hd7, n1, n2]
        exact ⟨_, _, _, _, rfl⟩
    rintro sl h1 ⟨rfl, v8, v9, v10, v11, rfl⟩
    refine mk0 fun l1 d1 => ?_
    simp_arith [↓lenAt (m := []) (by decide), List.length_nil, of0]
    refine mk0 fun l2 d2 => ?_
    simp_arith [↓crowdAt, listed_nil]
    rw [ne_nil]
    simp_arith []
    refine mk0 fun l3 d3 => ?_
    simp_arith [↓crowdAt, listed_nil, List.append_nil]
    refine ⟨rfl, mkL fun l4 d4 => ?_⟩
    simp_arith [↓crowdAt, listed_nil]
    rw [ne_nil]
    simp_arith []
    exact ⟨_, _, _, _, _, _, _, _, _, _, _, _, _, rfl⟩
  · rintro sl h ⟨v1, v2, v3, v4, v5, v6, v7, v8, v9, v10, v11, v12, v13, rfl⟩
    simp_arith []
theorem cx_false {P : Program} {w : World} (H : Hp) (s : Shared) (e : Value) (s' : Shared) (h : L2.CX P w [] H s (fun _ _ _ => False) e s') : False := by
  obtain ⟨_, _, _, _, _, _, _, _, _, _, _, _, z⟩ := h
  exact z.elim
abbrev s_Stages_iter : Stmt := inClass (topS 2) 3
theorem sc_Stages_iter : FnScope ["self"] ["self"] (defScope s_Stages_iter) := ⟨rfl, rfl, rfl, by decide +kernel, rfl, by decide +kernel, by decide +kernel⟩
theorem kbx_DK_Stages_1_ {G : Gc} {kV : Value} {dc pm cd ct : Value} {an : Option Addr} {T : Addr} {od : Option Addr} {git : Array Value} {m : Nat} {slo : Array (Option Value)} {E0 : Addr} (lT : G.K.lookup T = some ⟨.type "tuple", od, .seq git m, slo⟩) (rT : Vals [(V.ref E0)] git.toList) (rE0 : ∀ H ρ, RA G H ρ c_dv_Stages_init_0 (.ref E0)) : KbA G (PySem.W.fnOf "__init__" "Stages.__init__" (defArgs s_Stages_init) (defBody s_Stages_init) (defScope s_Stages_init) (.ref T) kV dc pm an cd ct) ["self", "stages"] 2 [] (fun xs zs => xs.take 1 ++ (fun xs _ => xs ++ []) (xs.drop 1) zs) :=
  kba_mk (kba_dv (j := 1) lT rT (fun us its l1 l2 => match us, l1, its, l2 with | [_, _], _, [_], _ => ⟨_, rfl, rfl⟩) (fun H ρ => .nil)) (fun xs _ => xs ++ []) fun _ _ _ _ _ => rfl
theorem kbx_DK_Stages_0_ {G : Gc} {kV : Value} {dc pm cd ct : Value} {an : Option Addr} {T : Addr} {od : Option Addr} {git : Array Value} {m : Nat} {slo : Array (Option Value)} {E0 : Addr} (lT : G.K.lookup T = some ⟨.type "tuple", od, .seq git m, slo⟩) (rT : Vals [(V.ref E0)] git.toList) (rE0 : ∀ H ρ, RA G H ρ c_dv_Stages_init_0 (.ref E0)) : KbA G (PySem.W.fnOf "__init__" "Stages.__init__" (defArgs s_Stages_init) (defBody s_Stages_init) (defScope s_Stages_init) (.ref T) kV dc pm an cd ct) ["self", "stages"] 1 [] (fun xs zs => xs.take 1 ++ (fun xs _ => xs ++ [c_dv_Stages_init_0]) (xs.drop 1) zs) :=
  kba_mk (kba_dv (j := 0) lT rT (fun us its l1 l2 => match us, l1, its, l2 with | [_], _, [_], _ => ⟨_, rfl, rfl⟩) (fun H ρ => (.cons (rE0 H ρ) .nil))) (fun xs _ => xs ++ [c_dv_Stages_init_0]) fun _ _ _ _ _ => rfl
theorem all_mk {l : PySem.W.OpenLaw} {w : World} {K : PySem.W.Frag} {h : Heap} {mg : Str → Option Value} {fa C_0 f_Stages_init_ f_Stages_crowd_ p_Stages_crowd_ f_Stages_len_ f_Stages_contains_ f_Stages_repr_ f_law_bag_ f_law_take_ f_law_of_ f_law_word_ f_law_stages_ f_law_due_ f_law_ f_Stages_iter_ kc_dv_Stages_init kc_dv_Stages_init_0 : Addr} (X : K.In h) (Gn : h.Ns mainGlobals mg) (hfa : mg "law" = some (.ref fa))
    {od_Stages_init an_Stages_init od_Stages_crowd an_Stages_crowd od_Stages_len an_Stages_len od_Stages_contains an_Stages_contains od_Stages_repr an_Stages_repr od_law_bag an_law_bag od_law_take an_law_take od_law_of an_law_of od_law_word an_law_word od_law_stages an_law_stages od_law_due an_law_due od_law an_law od_Stages_iter an_Stages_iter : Option Addr} {sl_Stages_init sl_Stages_crowd sl_Stages_len sl_Stages_contains sl_Stages_repr sl_law_bag sl_law_take sl_law_of sl_law_word sl_law_stages sl_law_due sl_law sl_Stages_iter : Array (Option Value)} {oc_Stages_init dc_Stages_init pm_Stages_init cd_Stages_init ct_Stages_init kV_Stages_init oc_Stages_crowd dc_Stages_crowd pm_Stages_crowd cd_Stages_crowd ct_Stages_crowd kV_Stages_crowd oc_Stages_len dc_Stages_len pm_Stages_len cd_Stages_len ct_Stages_len kV_Stages_len oc_Stages_contains dc_Stages_contains pm_Stages_contains cd_Stages_contains ct_Stages_contains kV_Stages_contains oc_Stages_repr dc_Stages_repr pm_Stages_repr cd_Stages_repr ct_Stages_repr kV_Stages_repr oc_law_bag dc_law_bag pm_law_bag cd_law_bag ct_law_bag kV_law_bag oc_law_take dc_law_take pm_law_take cd_law_take ct_law_take kV_law_take oc_law_of dc_law_of pm_law_of cd_law_of ct_law_of kV_law_of oc_law_word dc_law_word pm_law_word cd_law_word ct_law_word kV_law_word oc_law_stages dc_law_stages pm_law_stages cd_law_stages ct_law_stages kV_law_stages oc_law_due dc_law_due pm_law_due cd_law_due ct_law_due kV_law_due oc_law dc_law pm_law cd_law ct_law kV_law oc_Stages_iter dc_Stages_iter pm_Stages_iter cd_Stages_iter ct_Stages_iter kV_Stages_iter : Value}
    {cD_0 : ClassData}
    {rest_Stages_crowd : List Value}
    {god_dv_Stages_init : Option Addr} {git_dv_Stages_init : Array Value} {gn_dv_Stages_init : Nat} {gsl_dv_Stages_init : Array (Option Value)}
    {god_dv_Stages_init_0 : Option Addr} {git_dv_Stages_init_0 : Array Value} {gn_dv_Stages_init_0 : Nat} {gsl_dv_Stages_init_0 : Array (Option Value)}
    (aC_0 : PySem.W.nsIn K mainGlobals "Stages" = some (some (.ref C_0)))
    (pg_0 : PySem.W.plainGet K C_0 Str.empty = true)
    (hd_0 : PySem.W.hasDictIn K C_0 = true)
    (po_0 : PySem.W.plainOver K C_0 = true)
    (sa_0 : PySem.W.findIn K (.ref C_0) "__setattr__" = some (some (.builtin "object.__setattr__")))
    (mk_0 : PySem.W.makesIn K C_0 = true)
    (kc_0 : PySem.W.keepIn K (.ref C_0) = true)
    (ha_0 : PySem.W.findIn K (.ref C_0) "__class__" = some (some (.builtin "object.__class__")))
    (hm_0 : PySem.W.mroIn K C_0 (.type "object") = some true)
    (tc_0 : PySem.W.typeIn K (.ref C_0) = some (.type "type"))
    (sf_0 : PySem.W.selfFirst K C_0 = true)
    (cl_0 : PySem.W.clsIn K C_0 = some cD_0)
    (na_0_best : PySem.W.findIn K (.ref C_0) "best" = some none)
    (na_0_listed : PySem.W.findIn K (.ref C_0) "listed" = some none)
    (st_0_int : PySem.W.subIn K (.ref C_0) (.type "int") = some false)
    (st_0_str : PySem.W.subIn K (.ref C_0) (.type "str") = some false)
    (st_0_bool : PySem.W.subIn K (.ref C_0) (.type "bool") = some false)
    (ts_int_0 : PySem.W.subIn K (.type "int") (.ref C_0) = some false)
    (ts_str_0 : PySem.W.subIn K (.type "str") (.ref C_0) = some false)
    (ts_bool_0 : PySem.W.subIn K (.type "bool") (.ref C_0) = some false)
    (ts_NoneType_0 : PySem.W.subIn K (.type "NoneType") (.ref C_0) = some false)
    (ts_list_0 : PySem.W.subIn K (.type "list") (.ref C_0) = some false)
    (ts_tuple_0 : PySem.W.subIn K (.type "tuple") (.ref C_0) = some false)
    (sub_0_0 : PySem.W.subIn K (.ref C_0) (.ref C_0) = some true)
    (hn : PySem.W.specialIn K (.builtin "object.__class__") "__get__" = some (some (.builtin "getset_descriptor.__get__")))
    (htk : PySem.W.takesIn K (.builtin "object.__class__") = some true)
    (a_Stages_init : PySem.W.findIn K (.ref C_0) "__init__" = some (some (.ref f_Stages_init_)))
    (i_Stages_init : PySem.W.isFn K (.ref f_Stages_init_) = true)
    (l_Stages_init : K.lookup f_Stages_init_ = some ⟨oc_Stages_init, od_Stages_init, .func (PySem.W.fnOf "__init__" "Stages.__init__" (defArgs s_Stages_init) (defBody s_Stages_init) (defScope s_Stages_init) (.ref kc_dv_Stages_init) kV_Stages_init dc_Stages_init pm_Stages_init an_Stages_init cd_Stages_init ct_Stages_init), sl_Stages_init⟩)
    (c_Stages_init : PySem.W.codeIn K cd_Stages_init "Stages.__init__" = true)
    (k_Stages_init : PySem.W.keepIn K (.ref f_Stages_init_) = true)
    (a_Stages_crowd : PySem.W.findIn K (.ref C_0) "crowd" = some (some (.ref p_Stages_crowd_)))
    (pg_Stages_crowd : PySem.W.specialIn K (.ref p_Stages_crowd_) "__get__" = some (some (.builtin "property.__get__")))
    (pt_Stages_crowd : PySem.W.takesIn K (.ref p_Stages_crowd_) = some true)
    (pr_Stages_crowd : PySem.W.recIn K p_Stages_crowd_ "property" = some (.ref f_Stages_crowd_ :: rest_Stages_crowd))
    (l_Stages_crowd : K.lookup f_Stages_crowd_ = some ⟨oc_Stages_crowd, od_Stages_crowd, .func (PySem.W.fnOf "crowd" "Stages.crowd" (defArgs s_Stages_crowd) (defBody s_Stages_crowd) (defScope s_Stages_crowd) .none kV_Stages_crowd dc_Stages_crowd pm_Stages_crowd an_Stages_crowd cd_Stages_crowd ct_Stages_crowd), sl_Stages_crowd⟩)
    (c_Stages_crowd : PySem.W.codeIn K cd_Stages_crowd "Stages.crowd" = true)
    (k_Stages_crowd : PySem.W.keepIn K (.ref f_Stages_crowd_) = true)
    (a_Stages_len : PySem.W.findIn K (.ref C_0) "__len__" = some (some (.ref f_Stages_len_)))
    (i_Stages_len : PySem.W.isFn K (.ref f_Stages_len_) = true)
    (l_Stages_len : K.lookup f_Stages_len_ = some ⟨oc_Stages_len, od_Stages_len, .func (PySem.W.fnOf "__len__" "Stages.__len__" (defArgs s_Stages_len) (defBody s_Stages_len) (defScope s_Stages_len) .none kV_Stages_len dc_Stages_len pm_Stages_len an_Stages_len cd_Stages_len ct_Stages_len), sl_Stages_len⟩)
    (c_Stages_len : PySem.W.codeIn K cd_Stages_len "Stages.__len__" = true)
    (k_Stages_len : PySem.W.keepIn K (.ref f_Stages_len_) = true)
    (a_Stages_contains : PySem.W.findIn K (.ref C_0) "__contains__" = some (some (.ref f_Stages_contains_)))
    (i_Stages_contains : PySem.W.isFn K (.ref f_Stages_contains_) = true)
    (l_Stages_contains : K.lookup f_Stages_contains_ = some ⟨oc_Stages_contains, od_Stages_contains, .func (PySem.W.fnOf "__contains__" "Stages.__contains__" (defArgs s_Stages_contains) (defBody s_Stages_contains) (defScope s_Stages_contains) .none kV_Stages_contains dc_Stages_contains pm_Stages_contains an_Stages_contains cd_Stages_contains ct_Stages_contains), sl_Stages_contains⟩)
    (c_Stages_contains : PySem.W.codeIn K cd_Stages_contains "Stages.__contains__" = true)
    (k_Stages_contains : PySem.W.keepIn K (.ref f_Stages_contains_) = true)
    (a_Stages_repr : PySem.W.findIn K (.ref C_0) "__repr__" = some (some (.ref f_Stages_repr_)))
    (i_Stages_repr : PySem.W.isFn K (.ref f_Stages_repr_) = true)
    (l_Stages_repr : K.lookup f_Stages_repr_ = some ⟨oc_Stages_repr, od_Stages_repr, .func (PySem.W.fnOf "__repr__" "Stages.__repr__" (defArgs s_Stages_repr) (defBody s_Stages_repr) (defScope s_Stages_repr) .none kV_Stages_repr dc_Stages_repr pm_Stages_repr an_Stages_repr cd_Stages_repr ct_Stages_repr), sl_Stages_repr⟩)
    (c_Stages_repr : PySem.W.codeIn K cd_Stages_repr "Stages.__repr__" = true)
    (k_Stages_repr : PySem.W.keepIn K (.ref f_Stages_repr_) = true)
    (a_law_bag : PySem.W.nsIn K mainGlobals "_law_bag" = some (some (.ref f_law_bag_)))
    (l_law_bag : K.lookup f_law_bag_ = some ⟨oc_law_bag, od_law_bag, .func (PySem.W.fnOf "_law_bag" "_law_bag" (defArgs s_law_bag) (defBody s_law_bag) (defScope s_law_bag) .none kV_law_bag dc_law_bag pm_law_bag an_law_bag cd_law_bag ct_law_bag), sl_law_bag⟩)
    (c_law_bag : PySem.W.codeIn K cd_law_bag "_law_bag" = true)
    (k_law_bag : PySem.W.keepIn K (.ref f_law_bag_) = true)
    (a_law_take : PySem.W.nsIn K mainGlobals "_law_take" = some (some (.ref f_law_take_)))
    (l_law_take : K.lookup f_law_take_ = some ⟨oc_law_take, od_law_take, .func (PySem.W.fnOf "_law_take" "_law_take" (defArgs s_law_take) (defBody s_law_take) (defScope s_law_take) .none kV_law_take dc_law_take pm_law_take an_law_take cd_law_take ct_law_take), sl_law_take⟩)
    (c_law_take : PySem.W.codeIn K cd_law_take "_law_take" = true)
    (k_law_take : PySem.W.keepIn K (.ref f_law_take_) = true)
    (a_law_of : PySem.W.nsIn K mainGlobals "_law_of" = some (some (.ref f_law_of_)))
    (l_law_of : K.lookup f_law_of_ = some ⟨oc_law_of, od_law_of, .func (PySem.W.fnOf "_law_of" "_law_of" (defArgs s_law_of) (defBody s_law_of) (defScope s_law_of) .none kV_law_of dc_law_of pm_law_of an_law_of cd_law_of ct_law_of), sl_law_of⟩)
    (c_law_of : PySem.W.codeIn K cd_law_of "_law_of" = true)
    (k_law_of : PySem.W.keepIn K (.ref f_law_of_) = true)
    (a_law_word : PySem.W.nsIn K mainGlobals "_law_word" = some (some (.ref f_law_word_)))
    (l_law_word : K.lookup f_law_word_ = some ⟨oc_law_word, od_law_word, .func (PySem.W.fnOf "_law_word" "_law_word" (defArgs s_law_word) (defBody s_law_word) (defScope s_law_word) .none kV_law_word dc_law_word pm_law_word an_law_word cd_law_word ct_law_word), sl_law_word⟩)
    (c_law_word : PySem.W.codeIn K cd_law_word "_law_word" = true)
    (k_law_word : PySem.W.keepIn K (.ref f_law_word_) = true)
    (a_law_stages : PySem.W.nsIn K mainGlobals "_law_stages" = some (some (.ref f_law_stages_)))
    (l_law_stages : K.lookup f_law_stages_ = some ⟨oc_law_stages, od_law_stages, .func (PySem.W.fnOf "_law_stages" "_law_stages" (defArgs s_law_stages) (defBody s_law_stages) (defScope s_law_stages) .none kV_law_stages dc_law_stages pm_law_stages an_law_stages cd_law_stages ct_law_stages), sl_law_stages⟩)
    (c_law_stages : PySem.W.codeIn K cd_law_stages "_law_stages" = true)
    (k_law_stages : PySem.W.keepIn K (.ref f_law_stages_) = true)
    (a_law_due : PySem.W.nsIn K mainGlobals "_law_due" = some (some (.ref f_law_due_)))
    (l_law_due : K.lookup f_law_due_ = some ⟨oc_law_due, od_law_due, .func (PySem.W.fnOf "_law_due" "_law_due" (defArgs s_law_due) (defBody s_law_due) (defScope s_law_due) .none kV_law_due dc_law_due pm_law_due an_law_due cd_law_due ct_law_due), sl_law_due⟩)
    (c_law_due : PySem.W.codeIn K cd_law_due "_law_due" = true)
    (k_law_due : PySem.W.keepIn K (.ref f_law_due_) = true)
    (a_law : PySem.W.nsIn K mainGlobals "law" = some (some (.ref f_law_)))
    (l_law : K.lookup f_law_ = some ⟨oc_law, od_law, .func (PySem.W.fnOf "law" "law" (defArgs s_law) (defBody s_law) (defScope s_law) .none kV_law dc_law pm_law an_law cd_law ct_law), sl_law⟩)
    (c_law : PySem.W.codeIn K cd_law "law" = true)
    (k_law : PySem.W.keepIn K (.ref f_law_) = true)
    (a_Stages_iter : PySem.W.findIn K (.ref C_0) "__iter__" = some (some (.ref f_Stages_iter_)))
    (i_Stages_iter : PySem.W.isFn K (.ref f_Stages_iter_) = true)
    (l_Stages_iter : K.lookup f_Stages_iter_ = some ⟨oc_Stages_iter, od_Stages_iter, .func (PySem.W.fnOf "__iter__" "Stages.__iter__" (defArgs s_Stages_iter) (defBody s_Stages_iter) (defScope s_Stages_iter) .none kV_Stages_iter dc_Stages_iter pm_Stages_iter an_Stages_iter cd_Stages_iter ct_Stages_iter), sl_Stages_iter⟩)
    (c_Stages_iter : PySem.W.codeIn K cd_Stages_iter "Stages.__iter__" = true)
    (k_Stages_iter : PySem.W.keepIn K (.ref f_Stages_iter_) = true)
    (z_iter : PySem.W.nsIn K mainGlobals "iter" = some none)
    (gl_dv_Stages_init : K.lookup kc_dv_Stages_init = some ⟨.type "tuple", god_dv_Stages_init, .seq git_dv_Stages_init gn_dv_Stages_init, gsl_dv_Stages_init⟩)
    (gz_dv_Stages_init : Nat.ble git_dv_Stages_init.size 1000 = true)
    (gv_dv_Stages_init : Vals [(.ref kc_dv_Stages_init_0)] git_dv_Stages_init.toList)
    (gl_dv_Stages_init_0 : K.lookup kc_dv_Stages_init_0 = some ⟨.type "tuple", god_dv_Stages_init_0, .seq git_dv_Stages_init_0 gn_dv_Stages_init_0, gsl_dv_Stages_init_0⟩)
    (gz_dv_Stages_init_0 : Nat.ble git_dv_Stages_init_0.size 1000 = true)
    (gv_dv_Stages_init_0 : Vals [] git_dv_Stages_init_0.toList)
    (z_tuple : PySem.W.nsIn K mainGlobals "tuple" = some none)
    (z_sorted : PySem.W.nsIn K mainGlobals "sorted" = some none)
    (z_len : PySem.W.nsIn K mainGlobals "len" = some none)
    (z_abs : PySem.W.nsIn K mainGlobals "abs" = some none)
    (z_int : PySem.W.nsIn K mainGlobals "int" = some none)
    (z_range : PySem.W.nsIn K mainGlobals "range" = some none)
    (z_list : PySem.W.nsIn K mainGlobals "list" = some none)
    (z_max : PySem.W.nsIn K mainGlobals "max" = some none)
    (z_min : PySem.W.nsIn K mainGlobals "min" = some none)
    (z_isinstance : PySem.W.nsIn K mainGlobals "isinstance" = some none)
    (z_repr : PySem.W.nsIn K mainGlobals "repr" = some none)
    (z_dict : PySem.W.nsIn K mainGlobals "dict" = some none)
    : ∃ fd : FuncData, (∀ (s : Shared) (v : Value), BindsTo s fd ⟨[v], []⟩ [("_law_script", v)]) ∧ ∀ base : Heap, K.In base → base.Ns mainGlobals mg → FnOk l.prog w K mg base (L2.CX l.prog w) 8 fa fd ["_law_script"] (spLaw K) := by
  have e := hfa.symm.trans (PySem.W.mg_of X Gn a_law)
  cases e
  have cr_0 : Cls K C_0 := ⟨pg_0, hd_0, po_0, sa_0⟩
  have F_Stages_init := fun_mkV (st := s_Stages_init) l_Stages_init c_Stages_init
  have F_Stages_crowd := fun_mk (st := s_Stages_crowd) l_Stages_crowd c_Stages_crowd k_Stages_crowd
  have b_Stages_crowd := F_Stages_crowd.binds (ps := ["self"]) fun _ _ _ _ _ _ us hl => match us, hl with | [_], _ => rfl
  have F_Stages_len := fun_mk (st := s_Stages_len) l_Stages_len c_Stages_len k_Stages_len
  have b_Stages_len := F_Stages_len.binds (ps := ["self"]) fun _ _ _ _ _ _ us hl => match us, hl with | [_], _ => rfl
  have F_Stages_contains := fun_mk (st := s_Stages_contains) l_Stages_contains c_Stages_contains k_Stages_contains
  have b_Stages_contains := F_Stages_contains.binds (ps := ["self", "stage"]) fun _ _ _ _ _ _ us hl => match us, hl with | [_, _], _ => rfl
  have F_Stages_repr := fun_mk (st := s_Stages_repr) l_Stages_repr c_Stages_repr k_Stages_repr
  have b_Stages_repr := F_Stages_repr.binds (ps := ["self"]) fun _ _ _ _ _ _ us hl => match us, hl with | [_], _ => rfl
  have F_law_bag := fun_mk (st := s_law_bag) l_law_bag c_law_bag k_law_bag
  have b_law_bag := F_law_bag.binds (ps := ["_law_script", "_law_at"]) fun _ _ _ _ _ _ us hl => match us, hl with | [_, _], _ => rfl
  have F_law_take := fun_mk (st := s_law_take) l_law_take c_law_take k_law_take
  have b_law_take := F_law_take.binds (ps := ["_law_bag_here", "_law_many"]) fun _ _ _ _ _ _ us hl => match us, hl with | [_, _], _ => rfl
  have F_law_of := fun_mk (st := s_law_of) l_law_of c_law_of k_law_of
  have b_law_of := F_law_of.binds (ps := ["_law_bag_here", "_law_some"]) fun _ _ _ _ _ _ us hl => match us, hl with | [_, _], _ => rfl
  have F_law_word := fun_mk (st := s_law_word) l_law_word c_law_word k_law_word
  have b_law_word := F_law_word.binds (ps := ["_law_bag_here", "_law_used"]) fun _ _ _ _ _ _ us hl => match us, hl with | [_, _], _ => rfl
  have F_law_stages := fun_mk (st := s_law_stages) l_law_stages c_law_stages k_law_stages
  have b_law_stages := F_law_stages.binds (ps := ["_law_bag_here", "_law_many"]) fun _ _ _ _ _ _ us hl => match us, hl with | [_, _], _ => rfl
  have F_law_due := fun_mk (st := s_law_due) l_law_due c_law_due k_law_due
  have b_law_due := F_law_due.binds (ps := ["_law_stages_here"]) fun _ _ _ _ _ _ us hl => match us, hl with | [_], _ => rfl
  have F_law := fun_mk (st := s_law) l_law c_law k_law
  have F_Stages_iter := fun_mk (st := s_Stages_iter) l_Stages_iter c_Stages_iter k_Stages_iter
  have b_Stages_iter := F_Stages_iter.binds (ps := ["self"]) fun _ _ _ _ _ _ us hl => match us, hl with | [_], _ => rfl
  refine ⟨PySem.W.fnOf "law" "law" (defArgs s_law) (defBody s_law) (defScope s_law) .none kV_law dc_law pm_law an_law cd_law ct_law, fun s v => .of_eq rfl, fun base _ _ => ?_⟩
  let G : Gc := ⟨l.prog, w, K, mg, base, fun n => [C_0].getD n 0, fun n => ([["best", "listed"]] : List (List Str)).getD n [], none⟩
  have R_0 : ClsR G 0 := ⟨cr_0, by show List.Nodup (["best", "listed"] : List Str); decide +kernel⟩
  have T_0 : InsT G 0 := ⟨cr_0, ha_0, hn, htk, hm_0⟩
  have IO : IsaOk G isa := by
    refine ⟨fun c d b e => ?_, fun c n b e => ?_, fun n d b e => ?_⟩
    · match c, d, e with
      | 0, 0, e => cases e; exact ⟨T_0, kit_same'⟩
      | 0, (_ + 1), e => cases e
      | (_ + 1), _, e => cases e
    · have e' : isa_bt c n = some b := e
      unfold isa_bt at e'
      split at e'
      · rename_i z
        rw [Bool.and_eq_true] at z
        obtain ⟨z1, z2⟩ := z
        have z1 : c < 1 := Nat.le_of_ble_eq_true z1
        have z2 := List.mem_of_elem_eq_true z2
        simp only [List.mem_cons, List.not_mem_nil, or_false] at z2
        cases e'
        match c, z1 with
        | 0, _ =>
          rcases z2 with rfl | rfl | rfl
          · exact ⟨T_0, kit_bt (by decide +kernel) st_0_int (fun z => nomatch z)⟩
          · exact ⟨T_0, kit_bt (by decide +kernel) st_0_str (fun z => nomatch z)⟩
          · exact ⟨T_0, kit_bt (by decide +kernel) st_0_bool (fun z => nomatch z)⟩
      · cases e'
    · have e' : isa_tb n d = some b := e
      unfold isa_tb at e'
      split at e'
      · rename_i z
        rw [Bool.and_eq_true] at z
        obtain ⟨z1, z2⟩ := z
        have z1 : d < 1 := Nat.le_of_ble_eq_true z1
        have z2 := List.mem_of_elem_eq_true z2
        simp only [List.mem_cons, List.not_mem_nil, or_false] at z2
        cases e'
        match d, z1 with
        | 0, _ =>
          rcases z2 with rfl | rfl | rfl | rfl | rfl | rfl
          · exact kit_sub (by show (PySem.W.clsIn K C_0).isSome = true; rw [cl_0]; rfl) tc_0 ts_int_0 (fun z => nomatch z)
          · exact kit_sub (by show (PySem.W.clsIn K C_0).isSome = true; rw [cl_0]; rfl) tc_0 ts_str_0 (fun z => nomatch z)
          · exact kit_sub (by show (PySem.W.clsIn K C_0).isSome = true; rw [cl_0]; rfl) tc_0 ts_bool_0 (fun z => nomatch z)
          · exact kit_sub (by show (PySem.W.clsIn K C_0).isSome = true; rw [cl_0]; rfl) tc_0 ts_NoneType_0 (fun z => nomatch z)
          · exact kit_sub (by show (PySem.W.clsIn K C_0).isSome = true; rw [cl_0]; rfl) tc_0 ts_list_0 (fun z => nomatch z)
          · exact kit_sub (by show (PySem.W.clsIn K C_0).isSome = true; rw [cl_0]; rfl) tc_0 ts_tuple_0 (fun z => nomatch z)
      · cases e'
  have hc_dv_Stages_init_0 : ∀ H ρ, RA G H ρ c_dv_Stages_init_0 (.ref kc_dv_Stages_init_0) := ctp_of gl_dv_Stages_init_0 gz_dv_Stages_init_0 gv_dv_Stages_init_0 (fun H ρ => .nil)
  have hc_dv_Stages_init : ∀ H ρ, RA G H ρ c_dv_Stages_init (.ref kc_dv_Stages_init) := ctp_of gl_dv_Stages_init gz_dv_Stages_init gv_dv_Stages_init (fun H ρ => (.cons (hc_dv_Stages_init_0 H ρ) .nil))
  have A_best : AtOk G "best" 0 at_best := fun c => match c with | 0 => ⟨R_0, rfl, na_0_best⟩ | (_ + 1) => trivial
  have bt_tuple : Bi G.mg "tuple" (.type "tuple") := ⟨PySem.W.mg_none_of X Gn z_tuple, by decide +kernel⟩
  have bi_sorted : Bi G.mg "sorted" (.builtin "sorted") := ⟨PySem.W.mg_none_of X Gn z_sorted, by decide +kernel⟩
  have A_listed : AtOk G "listed" 0 at_listed := fun c => match c with | 0 => ⟨R_0, rfl, na_0_listed⟩ | (_ + 1) => trivial
  have bi_len : Bi G.mg "len" (.builtin "len") := ⟨PySem.W.mg_none_of X Gn z_len, by decide +kernel⟩
  have bi_abs : Bi G.mg "abs" (.builtin "abs") := ⟨PySem.W.mg_none_of X Gn z_abs, by decide +kernel⟩
  have bt_int : Bi G.mg "int" (.type "int") := ⟨PySem.W.mg_none_of X Gn z_int, by decide +kernel⟩
  have z_range : G.mg "range" = none := PySem.W.mg_none_of X Gn z_range
  have bt_list : Bi G.mg "list" (.type "list") := ⟨PySem.W.mg_none_of X Gn z_list, by decide +kernel⟩
  have bi_max : Bi G.mg "max" (.builtin "max") := ⟨PySem.W.mg_none_of X Gn z_max, by decide +kernel⟩
  have bi_min : Bi G.mg "min" (.builtin "min") := ⟨PySem.W.mg_none_of X Gn z_min, by decide +kernel⟩
  have bi_isinstance : Bi G.mg "isinstance" (.builtin "isinstance") := ⟨PySem.W.mg_none_of X Gn z_isinstance, by decide +kernel⟩
  have bi_repr : Bi G.mg "repr" (.builtin "repr") := ⟨PySem.W.mg_none_of X Gn z_repr, by decide +kernel⟩
  have bt_dict : Bi G.mg "dict" (.type "dict") := ⟨PySem.W.mg_none_of X Gn z_dict, by decide +kernel⟩
  have ITF : ItOk G itf := fun c j e => match c, e with | 0, e => by cases e; exact ⟨(by show List.Nodup (["best", "listed"] : List Str); decide +kernel), _, _, "self", "listed", fn_iter F_Stages_iter sc_Stages_iter cr_0 na_0_listed rfl rfl (by decide) (by decide) rfl (PySem.W.mg_none_of X Gn z_iter), ⟨a_Stages_iter, i_Stages_iter, k_Stages_iter⟩, b_Stages_iter, rfl⟩  | (_ + 1), e => by cases e
  have DK_Stages_1_ : DcK G "Stages" 0 1 1 [] 1 (fun xs _ => xs ++ []) f_Stages_init := ⟨R_0, ar_run, _, _, _, (fn_rxV F_Stages_init sc_Stages_init (by kernel_rfl) rfl rfl (d_Stages_init A_best bt_tuple bi_sorted A_listed)), PySem.W.mg_of X Gn aC_0, ⟨mk_0, a_Stages_init, i_Stages_init, kc_0⟩, (kbx_DK_Stages_1_ gl_dv_Stages_init gv_dv_Stages_init hc_dv_Stages_init_0)⟩
  have DK_Stages_0_ : DcK G "Stages" 0 1 0 [] 1 (fun xs _ => xs ++ [c_dv_Stages_init_0]) f_Stages_init := ⟨R_0, ar_run, _, _, _, (fn_rxV F_Stages_init sc_Stages_init (by kernel_rfl) rfl rfl (d_Stages_init A_best bt_tuple bi_sorted A_listed)), PySem.W.mg_of X Gn aC_0, ⟨mk_0, a_Stages_init, i_Stages_init, kc_0⟩, (kbx_DK_Stages_0_ gl_dv_Stages_init gv_dv_Stages_init hc_dv_Stages_init_0)⟩
  have PR_Stages_crowd : PrC G "crowd" 2 0 f_Stages_crowd := ⟨ar_run, _, _, _, _, (fn_rx F_Stages_crowd sc_Stages_crowd (by kernel_rfl) rfl rfl (d_Stages_crowd A_listed)), ⟨a_Stages_crowd, pg_Stages_crowd, pt_Stages_crowd, ⟨_, pr_Stages_crowd⟩⟩, b_Stages_crowd⟩
  have A_crowd : AtOk G "crowd" 2 at_crowd := fun c => match c with | 0 => ⟨R_0, PR_Stages_crowd⟩ | (_ + 1) => trivial
  have M_Stages_len : MtC G "__len__" 2 0 1 f_Stages_len := ⟨R_0, ar_run, by show _ ∉ (["best", "listed"] : List Str); decide +kernel, _, _, _, (fn_rx F_Stages_len sc_Stages_len (by kernel_rfl) rfl rfl (d_Stages_len bi_len A_listed)), ⟨a_Stages_len, i_Stages_len, k_Stages_len⟩, b_Stages_len⟩
  have M_Stages_contains : MtC G "__contains__" 2 0 2 f_Stages_contains := ⟨R_0, ar_run, by show _ ∉ (["best", "listed"] : List Str); decide +kernel, _, _, _, (fn_rx F_Stages_contains sc_Stages_contains (by kernel_rfl) rfl rfl (d_Stages_contains A_best)), ⟨a_Stages_contains, i_Stages_contains, k_Stages_contains⟩, b_Stages_contains⟩
  have M_Stages_repr : MtC G "__repr__" 2 0 1 f_Stages_repr := ⟨R_0, ar_run, by show _ ∉ (["best", "listed"] : List Str); decide +kernel, _, _, _, (fn_rx F_Stages_repr sc_Stages_repr (by kernel_rfl) rfl rfl (d_Stages_repr A_listed)), ⟨a_Stages_repr, i_Stages_repr, k_Stages_repr⟩, b_Stages_repr⟩
  have MT_len : MtOk G "__len__" 2 mt_len := fun c f e => match c, e with | 0, e => by cases e; exact ⟨_, M_Stages_len.mono (Nat.le_of_ble_eq_true rfl)⟩ | (_ + 1), e => by cases e
  have MT_contains : MtOk G "__contains__" 2 mt_contains := fun c f e => match c, e with | 0, e => by cases e; exact ⟨_, M_Stages_contains.mono (Nat.le_of_ble_eq_true rfl)⟩ | (_ + 1), e => by cases e
  have MT_repr : MtOk G "__repr__" 2 mt_repr := fun c f e => match c, e with | 0, e => by cases e; exact ⟨_, M_Stages_repr.mono (Nat.le_of_ble_eq_true rfl)⟩ | (_ + 1), e => by cases e
  have D_law_bag : DfR G "_law_bag" 4 2 f_law_bag := ⟨ar_run, _, _, _, (fn_rx F_law_bag sc_law_bag (by kernel_rfl) rfl rfl (d_law_bag bi_len MT_len bi_abs bt_int)), PySem.W.mg_of X Gn a_law_bag, k_law_bag, b_law_bag⟩
  have D_law_take : DfR G "_law_take" 1 2 f_law_take := ⟨ar_run, _, _, _, (fn_rx F_law_take sc_law_take (by kernel_rfl) rfl rfl (d_law_take bt_int)), PySem.W.mg_of X Gn a_law_take, k_law_take, b_law_take⟩
  have D_law_of : DfR G "_law_of" 4 2 f_law_of := ⟨ar_run, _, _, _, (fn_rx F_law_of sc_law_of (by kernel_rfl) rfl rfl (d_law_of D_law_take bi_len MT_len)), PySem.W.mg_of X Gn a_law_of, k_law_of, b_law_of⟩
  have D_law_word : DfR G "_law_word" 5 2 f_law_word := ⟨ar_run, _, _, _, (fn_rx F_law_word sc_law_word (by kernel_rfl) rfl rfl (d_law_word z_range D_law_take D_law_of ITF MT_contains)), PySem.W.mg_of X Gn a_law_word, k_law_word, b_law_word⟩
  have D_law_stages : DfR G "_law_stages" 6 2 f_law_stages := ⟨ar_run, _, _, _, (fn_rx F_law_stages sc_law_stages (by kernel_rfl) rfl rfl (d_law_stages z_range D_law_word D_law_take D_law_of)), PySem.W.mg_of X Gn a_law_stages, k_law_stages, b_law_stages⟩
  have D_law_due : DfR G "_law_due" 7 1 f_law_due := ⟨ar_run, _, _, _, (fn_rx F_law_due sc_law_due (by kernel_rfl) rfl rfl (d_law_due ITF MT_contains bt_tuple bi_sorted bt_list MT_len)), PySem.W.mg_of X Gn a_law_due, k_law_due, b_law_due⟩
  exact law_fn (G := G) law_ok (fn_rx F_law sc_law (by kernel_rfl) rfl rfl (d_law z_range bi_max bi_min bi_len MT_len D_law_bag D_law_stages D_law_due bt_list D_law_word ITF D_law_take DK_Stages_1_ bt_tuple A_crowd bi_isinstance IO bi_repr MT_repr MT_contains bt_dict DK_Stages_0_))
end Rx

open PySem PySem.W PyProof.Rows
set_option maxRecDepth 100000 in
set_option maxHeartbeats 0 in
theorem PySem.Challenge.cw_strayfiles_k29_stages_made_holds : PySem.Challenge.rw_strayfiles_k29_stages_made.Holds := by
  w_on; o_law; k_head; (case hw => w_witness2)
  k_fill
  refine Rx.walk_of (l := PySem.Challenge.rw_strayfiles_k29_stages_made) (n := 63) (k := 8) (x := "_law_script") (CX := fun w => L2.CX PySem.Challenge.pw_strayfiles_k29_stages_made w) (sp := fun w => Rx.spLaw _) rfl (by decide) rfl ⟨rfl, by decide, by decide⟩ (fun w h Y => PySem.W.kIn_of Y) ?F (fun _ _ a ns hl _ hS => ⟨a, ns, rfl, hS, hl, fun _ => rfl⟩) (fun _ _ _ _ _ h => Rx.cx_false _ _ _ _ h)
  case F =>
    intro w mg fa h KX G hmg
    refine' Rx.all_mk (l := PySem.Challenge.rw_strayfiles_k29_stages_made) KX G hmg ?aC_0 ?pg_0 ?hd_0 ?po_0 ?sa_0 ?mk_0 ?kc_0 ?ha_0 ?hm_0 ?tc_0 ?sf_0 ?cl_0 ?na_0_best ?na_0_listed ?st_0_int ?st_0_str ?st_0_bool ?ts_int_0 ?ts_str_0 ?ts_bool_0 ?ts_NoneType_0 ?ts_list_0 ?ts_tuple_0 ?sub_0_0 ?hn ?htk ?a_Stages_init ?i_Stages_init ?l_Stages_init ?c_Stages_init ?k_Stages_init ?a_Stages_crowd ?pg_Stages_crowd ?pt_Stages_crowd ?pr_Stages_crowd ?l_Stages_crowd ?c_Stages_crowd ?k_Stages_crowd ?a_Stages_len ?i_Stages_len ?l_Stages_len ?c_Stages_len ?k_Stages_len ?a_Stages_contains ?i_Stages_contains ?l_Stages_contains ?c_Stages_contains ?k_Stages_contains ?a_Stages_repr ?i_Stages_repr ?l_Stages_repr ?c_Stages_repr ?k_Stages_repr ?a_law_bag ?l_law_bag ?c_law_bag ?k_law_bag ?a_law_take ?l_law_take ?c_law_take ?k_law_take ?a_law_of ?l_law_of ?c_law_of ?k_law_of ?a_law_word ?l_law_word ?c_law_word ?k_law_word ?a_law_stages ?l_law_stages ?c_law_stages ?k_law_stages ?a_law_due ?l_law_due ?c_law_due ?k_law_due ?a_law ?l_law ?c_law ?k_law ?a_Stages_iter ?i_Stages_iter ?l_Stages_iter ?c_Stages_iter ?k_Stages_iter ?z_iter ?gl_dv_Stages_init ?gz_dv_Stages_init ?gv_dv_Stages_init ?gl_dv_Stages_init_0 ?gz_dv_Stages_init_0 ?gv_dv_Stages_init_0 ?z_tuple ?z_sorted ?z_len ?z_abs ?z_int ?z_range ?z_list ?z_max ?z_min ?z_isinstance ?z_repr ?z_dict
    (case aC_0 => k_is)
    (case pg_0 => k_is)
    (case hd_0 => k_is)
    (case po_0 => k_is)
    (case sa_0 => k_is)
    (case mk_0 => k_is)
    (case kc_0 => k_is)
    (case ha_0 => k_is)
    (case hm_0 => k_is)
    (case tc_0 => k_is)
    (case sf_0 => k_is)
    (case cl_0 => k_is)
    (case na_0_best => k_is)
    (case na_0_listed => k_is)
    (case st_0_int => k_is)
    (case st_0_str => k_is)
    (case st_0_bool => k_is)
    (case ts_int_0 => k_is)
    (case ts_str_0 => k_is)
    (case ts_bool_0 => k_is)
    (case ts_NoneType_0 => k_is)
    (case ts_list_0 => k_is)
    (case ts_tuple_0 => k_is)
    (case sub_0_0 => k_is)
    (case hn => k_is)
    (case htk => k_is)
    (case a_Stages_init => k_is)
    (case i_Stages_init => k_is)
    (case l_Stages_init => k_is)
    (case c_Stages_init => k_is)
    (case k_Stages_init => k_is)
    (case a_Stages_crowd => k_is)
    (case pg_Stages_crowd => k_is)
    (case pt_Stages_crowd => k_is)
    (case pr_Stages_crowd => k_is)
    (case l_Stages_crowd => k_is)
    (case c_Stages_crowd => k_is)
    (case k_Stages_crowd => k_is)
    (case a_Stages_len => k_is)
    (case i_Stages_len => k_is)
    (case l_Stages_len => k_is)
    (case c_Stages_len => k_is)
    (case k_Stages_len => k_is)
    (case a_Stages_contains => k_is)
    (case i_Stages_contains => k_is)
    (case l_Stages_contains => k_is)
    (case c_Stages_contains => k_is)
    (case k_Stages_contains => k_is)
    (case a_Stages_repr => k_is)
    (case i_Stages_repr => k_is)
    (case l_Stages_repr => k_is)
    (case c_Stages_repr => k_is)
    (case k_Stages_repr => k_is)
    (case a_law_bag => k_is)
    (case l_law_bag => k_is)
    (case c_law_bag => k_is)
    (case k_law_bag => k_is)
    (case a_law_take => k_is)
    (case l_law_take => k_is)
    (case c_law_take => k_is)
    (case k_law_take => k_is)
    (case a_law_of => k_is)
    (case l_law_of => k_is)
    (case c_law_of => k_is)
    (case k_law_of => k_is)
    (case a_law_word => k_is)
    (case l_law_word => k_is)
    (case c_law_word => k_is)
    (case k_law_word => k_is)
    (case a_law_stages => k_is)
    (case l_law_stages => k_is)
    (case c_law_stages => k_is)
    (case k_law_stages => k_is)
    (case a_law_due => k_is)
    (case l_law_due => k_is)
    (case c_law_due => k_is)
    (case k_law_due => k_is)
    (case a_law => k_is)
    (case l_law => k_is)
    (case c_law => k_is)
    (case k_law => k_is)
    (case a_Stages_iter => k_is)
    (case i_Stages_iter => k_is)
    (case l_Stages_iter => k_is)
    (case c_Stages_iter => k_is)
    (case k_Stages_iter => k_is)
    (case z_iter => k_is)
    (case gl_dv_Stages_init => k_is)
    (case gz_dv_Stages_init => rfl)
    (case gv_dv_Stages_init => exact (.cons rfl .nil))
    (case gl_dv_Stages_init_0 => k_is)
    (case gz_dv_Stages_init_0 => rfl)
    (case gv_dv_Stages_init_0 => exact .nil)
    (case z_tuple => k_is)
    (case z_sorted => k_is)
    (case z_len => k_is)
    (case z_abs => k_is)
    (case z_int => k_is)
    (case z_range => k_is)
    (case z_list => k_is)
    (case z_max => k_is)
    (case z_min => k_is)
    (case z_isinstance => k_is)
    (case z_repr => k_is)
    (case z_dict => k_is)
