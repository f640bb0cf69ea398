import PyProof.Rows.All
import PyProof.DictTable
import PyProof.EnumMake
import PyProof.ExcClass2
import PyProof.ExcBaseAll.ValueError
import PyProof.WalksMore
import PyProof.InstStoreFacts
import Wide.FinOn
import OpenK.AllK
import Wide.All
import PySem.Challenge.RW_nz0219_01
set_option Elab.async false
set_option autoImplicit false
set_option genInjectivity false
set_option genSizeOf false
set_option genSizeOfSpec false
set_option linter.unusedVariables false
set_option linter.deprecated false
set_option maxRecDepth 100000
namespace Lite
open _root_.PySem _root_.PySem.W _root_.PyProof.Rows _root_.PySem.Calls
def codec:Code->Bool
 | .builtin id _=>Builtin.Bytes.decodersThatHold.contains id
 |_=>false
def kI(l:List (Code×Pos)):Prop:=∀ x∈l,codec x.1=false
def aq{α:Type}(M:Model)(A:Around)(t:Sem α)(Q:α->Shared->Prop)(E:Value->Shared->Prop)(s:Shared):Prop:=
 ∀ Γ p,Γ.In A->(codec Γ.code=false∧kI Γ.below)->Sem.wp M Γ t (fun a _ s'=>Q a s') (fun e _ s'=>E e s') p s
def codeN(M:Model)(A:Around)(c:Code)(R:Result->Shared->Prop)(s:Shared):Prop:=
 ∀ Γ p,Γ.code=c->Γ.Below A->kI Γ.below->wpCode M Γ R p s
section
variable {α β:Type} {M:Model} {A:Around} {E:Value->Shared->Prop} {s:Shared}
theorem bz{t:Sem α}{Q:α->Shared->Prop}(h:wpAny M A t Q E s):aq M A t Q E s:=fun Γ p hΓ _=>h Γ p hΓ
theorem mB{c:Code}{R:Result->Shared->Prop}(h:codeAny M A c R s):codeN M A c R s:=fun Γ p hc hΓ _=>h Γ p hc hΓ
theorem dU{t:Sem α}{Q Q':α->Shared->Prop}{E':Value->Shared->Prop}(h:aq M A t Q E s)(hQ:∀ a s,Q a s->Q' a s)(hE:∀ e s,E e s->E' e s):aq M A t Q' E' s:=
 fun Γ p hΓ n=>Sem.wp_mono M Γ t (fun a _ s=>hQ a s) (fun e _ s=>hE e s) p s (h Γ p hΓ n)
theorem aM{a:α}{Q:α->Shared->Prop}(h:Q a s):aq M A (pure a) Q E s:=bz (wpAny_pure h)
theorem aG{t:Sem α}{f:α->Sem β}{Q:β->Shared->Prop}(h:aq M A t (fun a s'=>aq M A (f a) Q E s') E s):aq M A (t>>=f) Q E s:=fun Γ p hΓ n=>by
 rw[Sem.wp_bind']
 exact Sem.wp_mono M Γ t (fun a p' s' h'=>h' Γ p' hΓ n) (fun _ _ _ h'=>h') p s (h Γ p hΓ n)
theorem ax{t:Sem α}{f:α->Sem β}{Q:β->Shared->Prop}(h:wpAny M A t (fun a s'=>aq M A (f a) Q E s') E s):aq M A (t>>=f) Q E s:=aG (bz h)
theorem bQ{vs:List Value}{t:Sem α}{Q:α->Shared->Prop}(h:aq M A t Q E s):aq M A (holding vs t) Q E s:=fun Γ p hΓ n=>by
 rw[Sem.wp_holding];exact h Γ p hΓ n
theorem xD{vs:List Value}{t:Sem α}{Q:α->Shared->Prop}(h:aq M A t Q E s):aq M A (t.keep vs) Q E s:=fun Γ p hΓ n=>by
 rw[Sem.wp_keep];exact h Γ p hΓ n
theorem di{pos:Pos}{f:Unit->Sem α}{Q:α->Shared->Prop}(h:aq M A (f ()) Q E s):aq M A (standAt pos>>=f) Q E s:=ax (wpAny_standAt h)
theorem qi{f:Unit->Sem α}{Q:α->Shared->Prop}(h:aq M A (f ()) Q E s):aq M A (point>>=f) Q E s:=ax (wpAny_point h)
theorem OY{tag:String}{f:Unit->Sem α}{Q:α->Shared->Prop}(h:aq M A (f ()) Q E s):aq M A (rule tag>>=f) Q E s:=ax (wpAny_rule h)
theorem eT{t:Sem α}{k:Value->Sem Unit}{Q:α->Shared->Prop}(h:aq M A t Q (fun e s'=>aq M A (k e) (fun _ s''=>E e s'') E s') s):aq M A (t.onRaise k) Q E s:=fun Γ p hΓ n=>by
 rw[Sem.wp_onRaise]
 exact Sem.wp_mono M Γ t (fun _ _ _ h'=>h') (fun e p' s' h'=>h' Γ p' hΓ n) p s (h Γ p hΓ n)
theorem OZ{t:Sem α}{k:Value->Sem α}{Q:α->Shared->Prop}(h:aq M A t Q (fun e s'=>aq M A (k e) Q E s') s):aq M A (tryCatch t k) Q E s:=fun Γ p hΓ n=>by
 rw[Sem.wp_tryCatch']
 exact Sem.wp_mono M Γ t (fun _ _ _ h'=>h') (fun e p' s' h'=>h' Γ p' hΓ n) p s (h Γ p hΓ n)
theorem qj{t:Sem α}{Q:Except Value α->Shared->Prop}(h:aq M A t (fun a=>Q (.ok a)) (fun e=>Q (.error e)) s):aq M A t.attempt Q E s:=fun Γ p hΓ n=>by
 rw[Sem.wp_attempt];exact h Γ p hΓ n
theorem O0{t:Sem α}{Q:α->Shared->Prop}(h:aq M A.in1 t Q E s):aq M A t Q E s:=
 fun Γ p hΓ n=>h Γ p ⟨hΓ.1,hΓ.2.1,hΓ.2.2.1,hΓ.2.2.2.1,Nat.le_succ_of_le hΓ.2.2.2.2⟩ n
theorem fM{c:Code}{R R':Result->Shared->Prop}(h:codeN M A c R s)(hR:∀ r s,R r s->R' r s):codeN M A c R' s:=fun Γ p hc hΓ n=>wpCode_mono hR (h Γ p hc hΓ n)
theorem mC{c:Code}{h:Option Value}{Q:Flow->Shared->Prop}(hc:codeN M (A.mark h) c (fun r s'=>match r with | .ok f=>Q f s' | .error e=>E e s') s)(hnb:h≠some byPass:=by intro x;contradiction):
  aq M A (run c h) Q E s:=fun Γ p hΓ n=>by
 rw[Sem.wp_run]
 refine hc _ p rfl (hΓ.enter c h p hnb) fun x hx=>?_
 cases hx with
 |head=>exact n.1
 |tail _ hx=>exact n.2 x hx
theorem xE{c:Code}{Q:Value->Shared->Prop}(hc:codeN M A c (fun r s'=>match r with | .ok (.ret v)=>Q v s' | .ok _=>False | .error e=>E e s') s):aq M A (runValue c) Q E s:=fun Γ p hΓ n=>by
 rw[Sem.wp_runValue]
 refine hc _ p rfl (hΓ.enter c none p (by intro x;contradiction)) fun x hx=>?_
 cases hx with
 |head=>exact n.1
 |tail _ hx=>exact n.2 x hx
theorem fw{f:Value}{pos:List Value}{kw:List (Str×Value)}{Q:Value->Shared->Prop}(hc:codeN M A (.call f ⟨pos,kw⟩) (fun r s'=>match r with | .ok (.ret v)=>Q v s' | .ok _=>False | .error e=>E e s') s):
  aq M A (call f pos kw) Q E s:=xE hc
theorem dy{c:Code}{R:Result->Shared->Prop}(h:aq M (A.under c) (M.den c) (fun fin s'=>match fin with | .done f=>R (.ok f) s' | .again c'=>c'.quiet=true∧codeN M A c' R s') (fun e s'=>R (.error e) s') s)
  (hc:codec c=false:=by rfl):codeN M A c R s:=fun Γ p e hΓ n=>by
 rw[wpCode_iff_wp,e]
 refine Sem.wp_mono M Γ _ (fun fin p' s' h'=>?_) (fun _ _ _ h'=>h') p s (h Γ p (e▸hΓ.in) ⟨e▸hc,n⟩)
 cases fin with
 |done f=>exact h'
 |again c'=>exact⟨h'.1,h'.2 (Γ.goto c') p' rfl (hΓ.goto c') n⟩
theorem xF{f:Code×Pos->Bool}(hf:∀ c q,c.isGuard=false->codec c=false->f (c,q)=false){l:List (Code×Pos)}(hl:guardsOf l=[])(hn:kI l):l.any f=false:=by
 rw[List.any_eq_false]
 intro x hx
 obtain⟨c,q⟩:=x
 have h1:c.isGuard=false:=by
  cases hgd:c.isGuard with
  |false=>rfl
  |true=>
   have:c∈guardsOf l:=by
    unfold guardsOf
    exact List.mem_filter.mpr ⟨List.mem_map.mpr ⟨_,hx,rfl⟩,hgd⟩
   rw[hl]at this;cases this
 rw[hf c q h1 (hn _ hx)]
 exact Bool.false_ne_true
theorem xG{self:Value}{Q:Bool->Shared->Prop}(hg:A.guards=some [])(h:Q false s):aq M A (Builtin.Bytes.exported self) Q E s:=fun Γ p hΓ n=>by
 show Q (List.any ((Γ.code,p)::Γ.below) _) s
 rw[xF ?_ (by rw[guardsOf_cons];exact hΓ.2.2.2.1 _ hg) fun x hx=>by
  cases hx with
  |head=>exact n.1
  |tail _ hx=>exact n.2 x hx]
 ·exact h
 ·intro c q h1 h2
  cases c with
  |builtin id args=>
   have h3:guardIds.contains id=false:=h1
   have h4:Builtin.Bytes.decodersThatHold.contains id=false:=h2
   have ne:∀ y,guardIds.contains y=true->id≠y:=fun y hy e=>by rw[e,hy]at h3;contradiction
   delta Builtin.Bytes.exported.match_1
   refine(dif_neg (ne "bytearray.__contains__" (by decide))).trans ?_
   refine(dif_neg (ne "bytearray.__mod__" (by decide))).trans ?_
   refine(dif_neg (ne "bytearray.__rmod__" (by decide))).trans ?_
   refine(dif_neg (ne "_struct.pack_into.held" (by decide))).trans ?_
   refine(dif_neg (ne "bytearray.find.held" (by decide))).trans ?_
   obtain⟨ps,kw⟩:=args
   cases ps with
   |nil=>rfl
   |cons v r=>exact(congrArg (Builtin.Bytes.sameRef v self&&·) h4).trans (Bool.and_false _)
  |_=>rfl
theorem cH{c:Bool}{a b:Sem α}{Q:α->Shared->Prop}(hc:c=false)(h:aq M A b Q E s):aq M A (if c=true then a else b) Q E s:=by
 subst hc;exact h
theorem g9{c:Bool}{a b:Sem α}{Q:α->Shared->Prop}(hc:c=true)(h:aq M A a Q E s):aq M A (if c=true then a else b) Q E s:=by
 subst hc;exact h
end
section
variable {prog:Program} {w:World} {A:Around} {E:Value->Shared->Prop} {s:Shared}
theorem mD{id:String}{args:Args}{b:Builtin}{R:Result->Shared->Prop}(hb:entryFor table id=some b)(hd:Builtin.Bytes.decodersThatHold.contains id=false)
  (h:aq (model prog w) (A.under (.builtin id args)) (b args) (fun fin s'=>match fin with | .done f=>R (.ok f) s' | .again c'=>c'.quiet=true∧codeN (model prog w) A c' R s') (fun e s'=>R (.error e) s') s):
  codeN (model prog w) A (.builtin id args) R s:=by
 refine dy ?_ hd
 show aq _ _ (match entryFor table id with |some b=>b args |none=>unsupported ((withoutEnding? id "#data").getD id)) _ _ s
 rw[hb];exact h
theorem mE{id:String}{args:Args}{b:Builtin}{R:Result->Shared->Prop}(hq:plainId id=true)(hb:entryFor table id=some b)(hd:Builtin.Bytes.decodersThatHold.contains id=false)
  (h:aq (model prog w) A.in1 (checkBuiltinCall id args) (fun _ s₁=>aq (model prog w) A.in1 (b args)
   (fun fin s'=>match fin with | .done f=>R (.ok f) s' | .again c'=>c'.quiet=true∧codeN (model prog w) A c' R s') (fun e s'=>R (.error e) s') s₁) (fun e s'=>R (.error e) s') s):
  codeN (model prog w) A (.call (.builtin id) args) R s:=by
 refine dy ?_
 show aq _ A.in1 (do checkBuiltinCall id args;again (.builtin id args)) _ _ s
 refine aG (dU h (fun _ s₁ h₁=>aM ⟨plainId_quiet hq args,mD hb hd ?_⟩) fun _ _ h'=>h')
 rw[Around.under_plainId hq args];exact h₁
theorem qk{T newId initId:String}{Bi:Builtin}{args:List Value}{Q Q₁:Value->Shared->Prop}(ft:TypeCalled T newId initId)
  (hct:checkTypeCall T ⟨args,[]⟩=pure ()) (entryI:entryFor table initId=some Bi) (hd:Builtin.Bytes.decodersThatHold.contains initId=false)
  (hnew:codeN (model prog w) A.in1 (.call (.builtin newId) ⟨.type T::args,[]⟩) (wants Q₁ E) s)
  (hnext:∀ obj s₁,Q₁ obj s₁->s₁.TypeIs obj T∧argsOk initId ⟨obj::args,[]⟩∧
   aq (model prog w) A.in1.in1 (Bi ⟨obj::args,[]⟩)
    (fun fin s'=>match fin with | .done f=>wants (fun r s₂=>r=.none∧Q obj s₂) E (.ok f) s' | .again c'=>c'.quiet=true∧codeN (model prog w) A.in1 c' (wants (fun r s₂=>r=.none∧Q obj s₂) E) s')
    (fun e s'=>wants (fun r s₂=>r=.none∧Q obj s₂) E (.error e) s') s₁):
  aq (model prog w) A (PySem.call (.type T) args) Q E s:=by
 obtain⟨c,tl,hmro⟩:=ft.mro
 refine fw (dy ?_)
 show aq _ _ (callAny (.type T) _) _ _ _
 refine aM ⟨Code.quiet_builtin _ (by decide+kernel),mD F.entry_type_call (by decide+kernel) ?_⟩
 rw[Around.under_plain (weight_type_call_type T args []) rfl]
 unfold Builtin.«type.__call__»
 dsimp only
 refine cH ft.notType ?_
 refine cH ft.canCreate ?_
 refine ax (wpAny_of_eq hct ?_)
 refine ax (wpAny_of_eq hmro ?_)
 refine cH rfl ?_
 refine ax (wpAny_of_eq ft.made ?_)
 refine ax (wpAny_pure ?_)
 refine aG (bQ (fw (fM hnew fun r s₁ hr=>?_)))
 cases r with
 |error e=>exact hr
 |ok fl=>
  cases fl with
  |ret obj=>
   obtain⟨hT,hok,hsi⟩:=hnext _ _ hr
   refine ax (wpAny_isInstance hT ft.sub ?_)
   refine cH rfl ?_
   refine aG (bQ ?_)
   unfold callSpecial?
   refine ax (wpAny_specialOf hT ft.init.lookup ?_)
   dsimp only
   refine bQ ?_
   rw[ft.init.bind obj]
   refine ax (wpAny_pure (aG (fw (fM (mE ft.init.plain entryI hd (bz (ft.init.check _ _ _ _ _ _ _ _ hT hok hsi))) fun r₂ s₂ hr₂=>?_))))
   cases r₂ with
   |error e=>exact hr₂
   |ok fl₂=>
    cases fl₂ with
    |ret r=>
     obtain⟨rfl,hq⟩:=hr₂
     refine aM ?_
     refine cH rfl ?_
     exact aM hq
    |_=>exact hr₂.elim
  |_=>exact hr.elim
theorem xH{T id:String}{name:Str}{B:Builtin}{self:Value}{args:List Value}{Q:Option Value->Shared->Prop}(hT:s.TypeIs self T)(slot:Slot T name id)(entry:entryFor table id=some B)
  (hd:Builtin.Bytes.decodersThatHold.contains id=false) (hok:argsOk id ⟨self::args,[]⟩)
  (h:aq (model prog w) A.in1 (B ⟨self::args,[]⟩) (fun fin s'=>∃ v,fin=.done (.ret v)∧Q (some v) s') E s):aq (model prog w) A (callSpecial? self name args) Q E s:=by
 unfold callSpecial?
 refine ax (wpAny_specialOf hT slot.lookup ?_)
 dsimp only
 refine bQ ?_
 rw[slot.bind self]
 refine ax (wpAny_pure (aG (fw (mE slot.plain entry hd (bz (slot.check _ _ _ _ _ _ _ _ hT hok (dU h (fun fin s' ⟨v,e,q⟩=>?_) fun _ _ e=>e)))))))
 subst e
 exact aM q
end
universe u v w x y z
structure bp(a b c:Prop):Prop where
 intro::
 p1:a
 p2:b
 p3:c
structure dW(a b c d:Prop):Prop where
 intro::
 p1:a
 p2:b
 p3:c
 p4:d
structure gE(a b c d e:Prop):Prop where
 intro::
 p1:a
 p2:b
 p3:c
 p4:d
 p5:e
structure kJ(a b c d e f:Prop):Prop where
 intro::
 p1:a
 p2:b
 p3:c
 p4:d
 p5:e
 p6:f
structure O1(a b c d e f g:Prop):Prop where
 intro::
 p1:a
 p2:b
 p3:c
 p4:d
 p5:e
 p6:f
 p7:g
structure kK(a b c d e f g h:Prop):Prop where
 intro::
 p1:a
 p2:b
 p3:c
 p4:d
 p5:e
 p6:f
 p7:g
 p8:h
inductive bV{α:Sort u}{β:Sort v}(p:α->β->Prop):Prop
 |intro (a:α) (b:β) (h:p a b):bV p
inductive dm{α:Sort u}{β:Sort v}{γ:Sort w}(p:α->β->γ->Prop):Prop
 |intro (a:α) (b:β) (c:γ) (h:p a b c):dm p
inductive eU{α:Sort u}{β:Sort v}{γ:Sort w}{δ:Sort x}(p:α->β->γ->δ->Prop):Prop
 |intro (a:α) (b:β) (c:γ) (d:δ) (h:p a b c d):eU p
inductive iJ{α:Sort u}{β:Sort v}{γ:Sort w}{δ:Sort x}{ε:Sort y}(p:α->β->γ->δ->ε->Prop):Prop
 |intro (a:α) (b:β) (c:γ) (d:δ) (e:ε) (h:p a b c d e):iJ p
inductive gF{α:Sort u}{β:Sort v}{γ:Sort w}{δ:Sort x}{ε:Sort y}{ζ:Sort z}(p:α->β->γ->δ->ε->ζ->Prop):Prop
 |intro (a:α) (b:β) (c:γ) (d:δ) (e:ε) (f:ζ) (h:p a b c d e f):gF p
theorem bV.of{α:Sort u}{β:Sort v}{p:α->β->Prop}(h:Exists fun a=>Exists fun b=>p a b):bV p:=match h with
 | ⟨a,b,h⟩=>⟨a,b,h⟩
theorem bp.of{a b c:Prop}(h:And a (And b c)):bp a b c:=⟨h.1,h.2.1,h.2.2⟩
inductive V where
 |none |bool (b:Bool) |int (i:Int) |str (k:Nat) |bytes (b:List UInt8)
 |ref (a:Nat) |af (a:Addr) |ty (n:String) |bi (id:String) |ints (l:List Int)
inductive O where
 |list (xs:List V) |tuple (xs:List V) |dict (es:List (Int×V)) |cI (es:List (Nat×V)) |inst (c:Addr) (fs:List (Nat×V))
 |bx (b:List UInt8) |cell (v:Option V) |cQ (e:Expr) (sc:Scope) (lo:List (Option V))
 |range (b:Int)
noncomputable abbrev Hp:=List O
structure St where
 lo:List (Option V)
 H:Hp
inductive R(α:Type) where
 |ok (a:α) (s:St) |exc (c:Addr) (s:St) |no
inductive CR where
 |ok (v:V) (H:Hp) |exc (c:Addr) (H:Hp) |no
noncomputable def M (α:Type):=St->R α
noncomputable def M.bind {α β:Type} (m:M α) (f:α->M β):M β:=fun s=>match m s with
 | .ok a s'=>f a s'
 | .exc c s'=>.exc c s'
 | .no=>.no
noncomputable instance:Monad M where
 pure a:=fun s=>.ok a s
 bind:=M.bind
noncomputable def no {α:Type}:M α:=fun _=>.no
noncomputable def raise {α:Type} (c:Addr):M α:=fun s=>.exc c s
noncomputable def heap:M Hp:=fun s=>.ok s.H s
noncomputable def alloc (o:O):M V:=fun s=>.ok (.ref s.H.length) {s with H:=s.H++[o]}
noncomputable def obj (a:Nat):M O:=fun s=>match s.H[a]? with |some o=>.ok o s |none=>.no
noncomputable def put (a:Nat) (o:O):M Unit:=fun s=>.ok () {s with H:=s.H.set a o}
noncomputable def ar {α:Type}:Option α->M α
 |some a=>pure a
 |none=>no
noncomputable def calm {α:Type} (m:M α):M α:=fun s=>match m s with
 | .exc _ _=>.no
 |r=>r
noncomputable def guard (b:Bool):M Unit:=if b then pure ()else no
noncomputable def b8 {α:Type} (f:O->Option α) (a:Nat):M α:=fun s=>match s.H[a]?.bind f with |some x=>.ok x s |none=>.no
noncomputable def hG (v:O):Option (List V):=O.casesOn (motive:=fun _=>Option (List V)) v some (fun _=>none) (fun _=>none) (fun _=>none) (fun _ _=>none) (fun _=>none) (fun _=>none) (fun _ _ _=>none) (fun _=>none)
noncomputable def oTup (v:O):Option (List V):=O.casesOn (motive:=fun _=>Option (List V)) v (fun _=>none) some (fun _=>none) (fun _=>none) (fun _ _=>none) (fun _=>none) (fun _=>none) (fun _ _ _=>none) (fun _=>none)
noncomputable def mF (v:O):Option (List (Int×V)):=O.casesOn (motive:=fun _=>Option (List (Int×V))) v (fun _=>none) (fun _=>none) some (fun _=>none) (fun _ _=>none) (fun _=>none) (fun _=>none) (fun _ _ _=>none) (fun _=>none)
noncomputable def mG (v:O):Option (List UInt8):=O.casesOn (motive:=fun _=>Option (List UInt8)) v (fun _=>none) (fun _=>none) (fun _=>none) (fun _=>none) (fun _ _=>none) some (fun _=>none) (fun _ _ _=>none) (fun _=>none)
noncomputable def hH (v:O):Option (Addr×List (Nat×V)):=O.casesOn (motive:=fun _=>Option (Addr×List (Nat×V))) v (fun _=>none) (fun _=>none) (fun _=>none) (fun _=>none) (fun c fs=>some (c,fs)) (fun _=>none) (fun _=>none) (fun _ _ _=>none) (fun _=>none)
noncomputable def oCell (v:O):Option (Option V):=O.casesOn (motive:=fun _=>Option (Option V)) v (fun _=>none) (fun _=>none) (fun _=>none) (fun _=>none) (fun _ _=>none) (fun _=>none) some (fun _ _ _=>none) (fun _=>none)
noncomputable def hJ (v:V):Option (Int):=V.casesOn (motive:=fun _=>Option (Int)) v none (fun _=>none) some (fun _=>none) (fun _=>none) (fun _=>none) (fun _=>none) (fun _=>none) (fun _=>none) (fun _=>none)
noncomputable def bh (v:V):M Int:=ar (hJ v)
noncomputable def jm (v:V):Option (Bool):=V.casesOn (motive:=fun _=>Option (Bool)) v none some (fun _=>none) (fun _=>none) (fun _=>none) (fun _=>none) (fun _=>none) (fun _=>none) (fun _=>none) (fun _=>none)
noncomputable def dz (v:V):M Bool:=ar (jm v)
noncomputable def gG (v:V):Option (Nat):=V.casesOn (motive:=fun _=>Option (Nat)) v none (fun _=>none) (fun _=>none) (fun _=>none) (fun _=>none) some (fun _=>none) (fun _=>none) (fun _=>none) (fun _=>none)
noncomputable def bq (v:V):M Nat:=ar (gG v)
noncomputable def jn (v:V):Option (List UInt8):=V.casesOn (motive:=fun _=>Option (List UInt8)) v none (fun _=>none) (fun _=>none) (fun _=>none) some (fun _=>none) (fun _=>none) (fun _=>none) (fun _=>none) (fun _=>none)
noncomputable def eV (v:V):M (List UInt8):=ar (jn v)
noncomputable def mH (v:V):Option (Addr):=V.casesOn (motive:=fun _=>Option (Addr)) v none (fun _=>none) (fun _=>none) (fun _=>none) (fun _=>none) (fun _=>none) some (fun _=>none) (fun _=>none) (fun _=>none)
noncomputable def hM (v:V):M Addr:=ar (mH v)
noncomputable def toS (v:V):Option (Nat):=V.casesOn (motive:=fun _=>Option (Nat)) v none (fun _=>none) (fun _=>none) some (fun _=>none) (fun _=>none) (fun _=>none) (fun _=>none) (fun _=>none) (fun _=>none)
noncomputable def ek (v:V):M Nat:=ar (toS v)
noncomputable def toT (v:V):Option (String):=V.casesOn (motive:=fun _=>Option (String)) v none (fun _=>none) (fun _=>none) (fun _=>none) (fun _=>none) (fun _=>none) (fun _=>none) some (fun _=>none) (fun _=>none)
noncomputable def iK (v:V):M String:=ar (toT v)
noncomputable def toN (v:V):Option Unit:=V.casesOn (motive:=fun _=>Option Unit) v (some ()) (fun _=>none) (fun _=>none) (fun _=>none) (fun _=>none) (fun _=>none) (fun _=>none) (fun _=>none) (fun _=>none) (fun _=>none)
noncomputable def mI (v:V):M Unit:=ar (toN v)
noncomputable def bH (a:Nat):M (List V):=b8 hG a
noncomputable def ew (a:Nat):M (List V):=b8 oTup a
noncomputable def dictAt (a:Nat):M (List (Int×V)):=b8 mF a
noncomputable def ey (a:Nat):M (List UInt8):=b8 mG a
noncomputable def dM (a:Nat):M (Addr×List (Nat×V)):=b8 hH a
noncomputable def isRef (b:Nat) (v:V):Bool:=V.casesOn (motive:=fun _=>Bool) v false (fun _=>false) (fun _=>false) (fun _=>false) (fun _=>false) (fun a=>a==b) (fun _=>false) (fun _=>false) (fun _=>false) (fun _=>false)
noncomputable def ql (n:String) (v:V):Bool:=V.casesOn (motive:=fun _=>Bool) v false (fun _=>false) (fun _=>false) (fun _=>false) (fun _=>false) (fun _=>false) (fun _=>false) (fun a=>a==n) (fun _=>false) (fun _=>false)
/-! what an expression looks like -/
inductive Tg where
 |name (x:Str) (p:Pos) |attr (o:Expr) (a:Str) (p:Pos) |sub (o i:Expr) |tup (ts:List Expr) |other
noncomputable def eW (e:Expr):Tg:=Expr.casesOn (motive_1:=fun _=>Tg) e (fun x0 x1 x2=>.other) (fun x0 x1 x2=>.other) (fun x0 x1 x2 x3=>.other) (fun x0 x1 x2=>.other) (fun x0 x1 x2 x3=>.other) (fun x0 x1 x2 x3=>.other) (fun x0 x1 x2=>.other) (fun x0 x1 x2=>.other) (fun x0 x1 x2 x3=>.other) (fun x0 x1 x2 x3=>.other) (fun x0 x1 x2 x3 x4=>.other) (fun x0 x1 x2 x3=>.other) (fun x0 x1=>.other) (fun x0 x1=>.other) (fun x0 x1=>.other) (fun x0 x1 x2 x3=>.other) (fun x0 x1 x2 x3=>.other) (fun x0 x1 x2 x3=>.other) (fun x0 x1=>.other) (fun x0 x1 x2=>.other) (fun o a p=>.attr o a p) (fun o i p=>.sub o i) (fun x0 x1=>.other) (fun x p=>.name x p) (fun x0 x1=>.other) (fun ts k p=>.tup ts) (fun x0 x1 x2 x3=>.other)
theorem iL{motive:Expr->Tg->Prop}(h1:∀ x p,motive (.Name x p) (.name x p))(h2:∀ o a p,motive (.Attribute o a p) (.attr o a p))(h3:∀ o i p,motive (.Subscript o i p) (.sub o i))(h4:∀ ts k p,motive (.Tuple ts k p) (.tup ts))(h5:∀ t,motive t .other)(t:Expr):motive t (eW t):=Expr.casesOn (motive_1:=fun t=>motive t (eW t)) t (fun x0 x1 x2=>h5 _) (fun x0 x1 x2=>h5 _) (fun x0 x1 x2 x3=>h5 _) (fun x0 x1 x2=>h5 _) (fun x0 x1 x2 x3=>h5 _) (fun x0 x1 x2 x3=>h5 _) (fun x0 x1 x2=>h5 _) (fun x0 x1 x2=>h5 _) (fun x0 x1 x2 x3=>h5 _) (fun x0 x1 x2 x3=>h5 _) (fun x0 x1 x2 x3 x4=>h5 _) (fun x0 x1 x2 x3=>h5 _) (fun x0 x1=>h5 _) (fun x0 x1=>h5 _) (fun x0 x1=>h5 _) (fun x0 x1 x2 x3=>h5 _) (fun x0 x1 x2 x3=>h5 _) (fun x0 x1 x2 x3=>h5 _) (fun x0 x1=>h5 _) (fun x0 x1 x2=>h5 _) (fun o a p=>h2 o a p) (fun o i p=>h3 o i p) (fun x0 x1=>h5 _) (fun x p=>h1 x p) (fun x0 x1=>h5 _) (fun ts k p=>h4 ts k p) (fun x0 x1 x2 x3=>h5 _)
noncomputable def kL (e:Expr):Option (Option Expr×Option Expr×Option Expr):=Expr.casesOn (motive_1:=fun _=>Option (Option Expr×Option Expr×Option Expr)) e (fun _ _ _=>none) (fun _ _ _=>none) (fun _ _ _ _=>none) (fun _ _ _=>none) (fun _ _ _ _=>none) (fun _ _ _ _=>none) (fun _ _ _=>none) (fun _ _ _=>none) (fun _ _ _ _=>none) (fun _ _ _ _=>none) (fun _ _ _ _ _=>none) (fun _ _ _ _=>none) (fun _ _=>none) (fun _ _=>none) (fun _ _=>none) (fun _ _ _ _=>none) (fun _ _ _ _=>none) (fun _ _ _ _=>none) (fun _ _=>none) (fun _ _ _=>none) (fun _ _ _=>none) (fun _ _ _=>none) (fun _ _=>none) (fun _ _=>none) (fun _ _=>none) (fun _ _ _=>none) (fun a b c p=>some (a,b,c))
theorem qm{motive:Expr->Option (Option Expr×Option Expr×Option Expr)->Prop}(h1:∀ a b c p,motive (.Slice a b c p) (some (a,b,c)))(h2:∀ t,(t.ctorIdx==26)=false->motive t none)(t:Expr):motive t (kL t):=Expr.casesOn (motive_1:=fun t=>motive t (kL t)) t (fun x0 x1 x2=>h2 _ rfl) (fun x0 x1 x2=>h2 _ rfl) (fun x0 x1 x2 x3=>h2 _ rfl) (fun x0 x1 x2=>h2 _ rfl) (fun x0 x1 x2 x3=>h2 _ rfl) (fun x0 x1 x2 x3=>h2 _ rfl) (fun x0 x1 x2=>h2 _ rfl) (fun x0 x1 x2=>h2 _ rfl) (fun x0 x1 x2 x3=>h2 _ rfl) (fun x0 x1 x2 x3=>h2 _ rfl) (fun x0 x1 x2 x3 x4=>h2 _ rfl) (fun x0 x1 x2 x3=>h2 _ rfl) (fun x0 x1=>h2 _ rfl) (fun x0 x1=>h2 _ rfl) (fun x0 x1=>h2 _ rfl) (fun x0 x1 x2 x3=>h2 _ rfl) (fun x0 x1 x2 x3=>h2 _ rfl) (fun x0 x1 x2 x3=>h2 _ rfl) (fun x0 x1=>h2 _ rfl) (fun x0 x1 x2=>h2 _ rfl) (fun x0 x1 x2=>h2 _ rfl) (fun x0 x1 x2=>h2 _ rfl) (fun x0 x1=>h2 _ rfl) (fun x0 x1=>h2 _ rfl) (fun x0 x1=>h2 _ rfl) (fun x0 x1 x2=>h2 _ rfl) (fun a b c p=>h1 a b c p)
noncomputable def jq (e:Expr):Option (Expr×List Expr×List Keyword):=Expr.casesOn (motive_1:=fun _=>Option (Expr×List Expr×List Keyword)) e (fun _ _ _=>none) (fun _ _ _=>none) (fun _ _ _ _=>none) (fun _ _ _=>none) (fun _ _ _ _=>none) (fun _ _ _ _=>none) (fun _ _ _=>none) (fun _ _ _=>none) (fun _ _ _ _=>none) (fun _ _ _ _=>none) (fun _ _ _ _ _=>none) (fun _ _ _ _=>none) (fun _ _=>none) (fun _ _=>none) (fun _ _=>none) (fun _ _ _ _=>none) (fun f as ks p=>some (f,as,ks)) (fun _ _ _ _=>none) (fun _ _=>none) (fun _ _ _=>none) (fun _ _ _=>none) (fun _ _ _=>none) (fun _ _=>none) (fun _ _=>none) (fun _ _=>none) (fun _ _ _=>none) (fun _ _ _ _=>none)
theorem xI{motive:Expr->Option (Expr×List Expr×List Keyword)->Prop}(h1:∀ f as ks p,motive (.Call f as ks p) (some (f,as,ks)))(h2:∀ t,motive t none)(t:Expr):motive t (jq t):=Expr.casesOn (motive_1:=fun t=>motive t (jq t)) t (fun x0 x1 x2=>h2 _) (fun x0 x1 x2=>h2 _) (fun x0 x1 x2 x3=>h2 _) (fun x0 x1 x2=>h2 _) (fun x0 x1 x2 x3=>h2 _) (fun x0 x1 x2 x3=>h2 _) (fun x0 x1 x2=>h2 _) (fun x0 x1 x2=>h2 _) (fun x0 x1 x2 x3=>h2 _) (fun x0 x1 x2 x3=>h2 _) (fun x0 x1 x2 x3 x4=>h2 _) (fun x0 x1 x2 x3=>h2 _) (fun x0 x1=>h2 _) (fun x0 x1=>h2 _) (fun x0 x1=>h2 _) (fun x0 x1 x2 x3=>h2 _) (fun f as ks p=>h1 f as ks p) (fun x0 x1 x2 x3=>h2 _) (fun x0 x1=>h2 _) (fun x0 x1 x2=>h2 _) (fun x0 x1 x2=>h2 _) (fun x0 x1 x2=>h2 _) (fun x0 x1=>h2 _) (fun x0 x1=>h2 _) (fun x0 x1=>h2 _) (fun x0 x1 x2=>h2 _) (fun x0 x1 x2 x3=>h2 _)
noncomputable def qn:Tg->Option Str
 | .name x _=>some x
 |_=>none
noncomputable def jr (e:Expr):Option Str:=qn (eW e)
noncomputable def eA:Tg->Option (Expr×Expr)
 | .sub o i=>some (o,i)
 |_=>none
noncomputable def qo (e:Expr):Option (Expr×Expr):=eA (eW e)
noncomputable def kM:List Expr->Option Expr
 | []=>none
 |e::r=>if r.isEmpty then some e else none
theorem mJ{l:List Expr}{e:Expr}(h:kM l=some e):l=[e]:=by
 cases l with
 |nil=>contradiction
 |cons a r=>cases r with
  |nil=>exact congrArg (fun x=>[x]) (Option.some.inj h)
  |cons _ _=>contradiction
theorem mK{e:Expr}{x:Str}:jr e=some x->∃ p,e=.Name x p:=
 iL (motive:=fun e w=>qn w=some x->∃ p,e=.Name x p) (fun y p h=>⟨p,congrArg (fun z=>Expr.Name z p) (Option.some.inj h)⟩) (fun _ _ _ h=>nomatch h) (fun _ _ _ h=>nomatch h) (fun _ _ _ h=>nomatch h) (fun _ h=>nomatch h) e
theorem xJ{e:Expr}{x:Expr×Expr}:qo e=some x->∃ p,e=.Subscript x.1 x.2 p:=
 iL (motive:=fun e w=>eA w=some x->∃ p,e=.Subscript x.1 x.2 p) (fun _ _ h=>nomatch h) (fun _ _ _ h=>nomatch h) (fun o i p h=>⟨p,congrArg (fun z:Expr×Expr=>Expr.Subscript z.1 z.2 p) (Option.some.inj h)⟩) (fun _ _ _ h=>nomatch h) (fun _ h=>nomatch h) e
theorem qp{e:Expr}{x:Expr×List Expr×List Keyword}:jq e=some x->∃ p,e=.Call x.1 x.2.1 x.2.2 p:=
 xI (motive:=fun e w=>w=some x->∃ p,e=.Call x.1 x.2.1 x.2.2 p) (fun f as ks p h=>⟨p,congrArg (fun z:Expr×List Expr×List Keyword=>Expr.Call z.1 z.2.1 z.2.2 p) (Option.some.inj h)⟩) (fun _ h=>nomatch h) e
inductive Te where
 |not (x:Expr) |bool (op:BoolOp) (vs:List Expr) |cmp (l:Expr) (ops:List CmpOp) (rs:List Expr) |mL |other
noncomputable def mM (e:Expr):Te:=Expr.casesOn (motive_1:=fun _=>Te) e (fun op vs p=>.bool op vs) (fun x0 x1 x2=>.other) (fun x0 x1 x2 x3=>.other) (fun op x p=>if op.ctorIdx=1 then .not x else .other) (fun x0 x1 x2 x3=>.other) (fun a b c d=>.mL) (fun x0 x1 x2=>.other) (fun x0 x1 x2=>.other) (fun x0 x1 x2 x3=>.other) (fun x0 x1 x2 x3=>.other) (fun x0 x1 x2 x3 x4=>.other) (fun x0 x1 x2 x3=>.other) (fun x0 x1=>.other) (fun x0 x1=>.other) (fun x0 x1=>.other) (fun l ops rs p=>.cmp l ops rs) (fun x0 x1 x2 x3=>.other) (fun x0 x1 x2 x3=>.other) (fun x0 x1=>.other) (fun x0 x1 x2=>.other) (fun x0 x1 x2=>.other) (fun x0 x1 x2=>.other) (fun x0 x1=>.other) (fun x0 x1=>.other) (fun x0 x1=>.other) (fun x0 x1 x2=>.other) (fun x0 x1 x2 x3=>.other)
theorem xK{motive:Expr->Te->Prop}(h1:∀ x p,motive (.UnaryOp .Not x p) (.not x))(h2:∀ op vs p,motive (.BoolOp op vs p) (.bool op vs))(h3:∀ l ops rs p,motive (.Compare l ops rs p) (.cmp l ops rs))(h4:∀ a b c p,motive (.IfExp a b c p) .mL)
  (h5:∀ e,(∀ env w,isTrue e env w=(do let v<-w;standAt e.pos;holding [v] (truthy v)))->motive e .other) (e:Expr):motive e (mM e):=Expr.casesOn (motive_1:=fun e=>motive e (mM e)) e (fun op vs p=>h2 op vs p) (fun x0 x1 x2=>h5 _ fun _ _=>rfl) (fun x0 x1 x2 x3=>h5 _ fun _ _=>rfl) (fun op x p=>by cases op<;>first |exact h1 x p |exact h5 _ fun _ _=>rfl) (fun x0 x1 x2 x3=>h5 _ fun _ _=>rfl) (fun a b c p=>h4 a b c p) (fun x0 x1 x2=>h5 _ fun _ _=>rfl) (fun x0 x1 x2=>h5 _ fun _ _=>rfl) (fun x0 x1 x2 x3=>h5 _ fun _ _=>rfl) (fun x0 x1 x2 x3=>h5 _ fun _ _=>rfl) (fun x0 x1 x2 x3 x4=>h5 _ fun _ _=>rfl) (fun x0 x1 x2 x3=>h5 _ fun _ _=>rfl) (fun x0 x1=>h5 _ fun _ _=>rfl) (fun x0 x1=>h5 _ fun _ _=>rfl) (fun x0 x1=>h5 _ fun _ _=>rfl) (fun l ops rs p=>h3 l ops rs p) (fun x0 x1 x2 x3=>h5 _ fun _ _=>rfl) (fun x0 x1 x2 x3=>h5 _ fun _ _=>rfl) (fun x0 x1=>h5 _ fun _ _=>rfl) (fun x0 x1 x2=>h5 _ fun _ _=>rfl) (fun x0 x1 x2=>h5 _ fun _ _=>rfl) (fun x0 x1 x2=>h5 _ fun _ _=>rfl) (fun x0 x1=>h5 _ fun _ _=>rfl) (fun x0 x1=>h5 _ fun _ _=>rfl) (fun x0 x1=>h5 _ fun _ _=>rfl) (fun x0 x1 x2=>h5 _ fun _ _=>rfl) (fun x0 x1 x2 x3=>h5 _ fun _ _=>rfl)
structure Fn where
 params:List Str
 O2:List V
 scope:Scope
 body:List Stmt
structure aQ where
 T:List Str
 G:List (Str×V)
 fn:Addr->Option Fn
 cls:List (Addr×Addr)
 aI:List ((Addr×Nat)×Addr)
 cq:List (Addr×Nat)
 eqs:List Addr
 dA:List Addr
 hO:Addr
 tabs:List (Addr×Str)
inductive Ref where
 |loc (i:Nat) |bW (i:Nat) |glob |bad
noncomputable def dn (sc:Scope) (x:Str):Ref:=
 match sc.names.findIdx? (fun p=>p.1==x)with
 |none=>.bad
 |some i=>match sc.names[i]? with
  |some (_,.local)=>.loc i
  |some (_,.cell)=>.bW i
  |some (_,.free)=>.bW i
  |some (_,.globalImplicit)=>.glob
  |_=>.bad
noncomputable def ae (i:Nat):M V:=fun s=>match s.lo[i]? with |some (some v)=>.ok v s |_=>.no
noncomputable def av (i:Nat) (v:V):M Unit:=fun s=>.ok () {s with lo:=s.lo.set i (some v)}
noncomputable def fN (i:Nat) (s:St):Option (Nat×Option V):=(s.lo[i]?.join.bind gG).bind fun c=>(s.H[c]?.bind oCell).map fun v=>(c,v)
noncomputable def aO (i:Nat):M V:=fun s=>match (fN i s).bind (·.2)with
 |some v=>.ok v s
 |none=>.no
noncomputable def dB (i:Nat) (v:V):M Unit:=fun s=>match fN i s with
 |some c=>.ok () {s with H:=s.H.set c.1 (.cell (some v))}
 |none=>.no
section
variable (P:aQ)
noncomputable def eX (x:Str):Option Nat:=P.T.findIdx? (·==x)
noncomputable def name (sc:Scope) (x:Str):M V:=match dn sc x with
 | .loc i=>ae i
 | .bW i=>aO i
 | .glob=>ar (P.G.lookup x)
 | .bad=>no
noncomputable def store (sc:Scope) (x:Str) (v:V):M Unit:=match dn sc x with
 | .loc i=>av i v
 | .bW i=>dB i v
 |_=>no
noncomputable def const (c:Const):M V:=Const.casesOn (motive:=fun _=>M V) c (pure .none) (fun b=>pure (.bool b)) (fun i=>pure (.int i)) (fun x0=>no) (fun x0 x1=>no) (fun x=>ar (eX P x)>>=fun k=>pure (.str k)) (fun b=>pure (.bytes b)) no
noncomputable def lim:Nat:=2 ^ 20
noncomputable def mN (op:Operator) (a b:Int):M V:=Operator.casesOn (motive:=fun _=>M V) op (pure (.int (a+b))) (pure (.int (a-b))) (guard (decide (a.natAbs<2 ^ 64)||decide (b.natAbs<2 ^ 64))>>=fun _=>pure (.int (a*b))) no no (guard (decide (b≠0))>>=fun _=>pure (.int (a.fmod b))) (guard (decide (0<=b)&&decide (b<=90)&&decide (1<a)&&decide (a<=256))>>=fun _=>pure (.int (a ^ b.toNat))) no (guard (decide (0<=b))>>=fun _=>pure (.int (a.fdiv (2 ^ b.toNat)))) no no (pure (.int (Builtin.bitAnd a b))) (guard (decide (b≠0)&&decide (b.natAbs<2 ^ 64))>>=fun _=>pure (.int (a.fdiv b)))
noncomputable def isAdd (op:Operator):Bool:=op.ctorIdx==0
noncomputable def isMul (op:Operator):Bool:=op.ctorIdx==2
noncomputable def one:List V->M V
 | [a]=>pure a
 |_=>no
noncomputable def qq (a b:Nat):M V:=bH a>>=fun xs=>bH b>>=fun ys=>guard (decide (xs.length+ys.length<=lim))>>=fun _=>alloc (.list (xs++ys))
noncomputable def mulL (a:Nat) (n:Int):M V:=bH a>>=fun xs=>guard (decide (0<=n)&&decide (n<=lim))>>=fun _=>one xs>>=fun x=>alloc (.list (List.replicate n.toNat x))
noncomputable def qr (op:Operator) (a:Nat) (v:V):M V:=V.casesOn (motive:=fun _=>M V) v no (fun x0=>no) (fun n=>guard (isMul op)>>=fun _=>mulL a n) (fun x0=>no) (fun x0=>no) (fun b=>guard (isAdd op)>>=fun _=>qq a b) (fun x0=>no) (fun x0=>no) (fun x0=>no) (fun x0=>no)
noncomputable def binop (op:Operator) (a b:V):M V:=V.casesOn (motive:=fun _=>M V) a no (fun x0=>no) (fun a=>bh b>>=fun b=>mN op a b) (fun x0=>no) (fun a=>guard (isAdd op)>>=fun _=>eV b>>=fun b=>guard (decide (a.length+b.length<=lim))>>=fun _=>pure (.bytes (a++b))) (fun a=>qr op a b) (fun x0=>no) (fun x0=>no) (fun x0=>no) (fun x0=>no)
noncomputable def xM (op:Operator) (a b:Int):M V:=Operator.casesOn (motive:=fun _=>M V) op (pure (.int (a+b))) (pure (.int (a-b))) no no no no no no no no no no no
noncomputable def bF (op:Operator) (a b:V):M V:=bh a>>=fun a=>bh b>>=fun b=>xM op a b
noncomputable def dX (f:V->V->Option Bool):List V->List V->Option Bool
 | [],_=>some true
 |x::xs,l=>match l with
  | []=>some true
  |y::ys=>(f x y).bind fun r=>(dX f xs ys).bind fun r'=>some (r&&r')
noncomputable def js (f:V->V->Option Bool) (x y:Option O):Option Bool:=match x.bind hG with
 |some xs=>(y.bind hG).bind fun ys=>if xs.length=ys.length then dX f xs ys else some false
 |none=>(x.bind oTup).bind fun xs=>(y.bind oTup).bind fun ys=>if xs.length=ys.length then dX f xs ys else none
noncomputable def mO (H:Hp) (f:V->V->Option Bool) (a b:Nat):Option Bool:=if a=b then none else js f H[a]? H[b]?
noncomputable def xN (H:Hp) (f:V->V->Option Bool) (a b:V):Option Bool:=V.casesOn (motive:=fun _=>Option Bool) a ((toN b).map fun _=>true) (fun a=>(jm b).map (a==·)) (fun a=>(hJ b).map (a==·)) (fun a=>(toS b).map (a==·)) (fun a=>(jn b).map (a==·)) (fun a=>(gG b).bind (mO H f a)) (fun _=>none) (fun _=>none) (fun _=>none) (fun _=>none)
noncomputable def bX (H:Hp):Nat->V->V->Option Bool
 | 0,_,_=>none
 |n+1,a,b=>xN H (bX H n) a b
noncomputable def cR {κ:Type} [BEq κ] (es:List (κ×V)) (k:κ):Option V:=es.lookup k
noncomputable def dput {κ:Type} [DecidableEq κ] (es:List (κ×V)) (k:κ) (v:V):List (κ×V):=
 if (es.lookup k).isSome then es.map fun p=>if p.1=k then (p.1,v)else p else es++[(k,v)]
noncomputable def dY {κ:Type} [DecidableEq κ] (es:List (κ×V)) (k:κ):List (κ×V):=es.filter fun p=>decide (p.1≠k)
noncomputable def intsOf (xs:List V):Option (List Int):=xs.mapM hJ
noncomputable def sameRef (a b:Nat):M Bool:=if a=b then pure true else dM a>>=fun _=>pure false
noncomputable def qt (v:V):Option Bool:=V.casesOn (motive:=fun _=>Option Bool) v (some true) (fun _=>none) (fun a=>some false) (fun _=>none) (fun a=>some false) (fun a=>some false) (fun _=>none) (fun _=>none) (fun _=>none) (fun _=>none)
noncomputable def iM (a b:V):M Bool:=V.casesOn (motive:=fun _=>M Bool) b (ar (qt a)) (fun x0=>no) (fun x0=>no) (fun x0=>no) (fun x0=>no) (fun b=>V.casesOn (motive:=fun _=>M Bool) a (pure false) (fun x0=>no) (fun x0=>no) (fun x0=>no) (fun x0=>no) (fun a=>sameRef a b) (fun x0=>no) (fun x0=>no) (fun x0=>no) (fun x0=>no)) (fun x0=>no) (fun x0=>no) (fun x0=>no) (fun x0=>no)
noncomputable def kN (a b:V):M Bool:=heap>>=fun H=>ar (bX H 4 a b)
noncomputable def mP (i:Int) (o:O):M Bool:=O.casesOn (motive:=fun _=>M Bool) o (fun xs=>ar (intsOf xs)>>=fun ks=>pure (ks.contains i)) (fun x0=>no) (fun es=>pure (cR es i).isSome) (fun x0=>no) (fun x0 x1=>no) (fun x0=>no) (fun x0=>no) (fun x0 x1 x2=>no) (fun x0=>no)
noncomputable def kO (a b:V):M Bool:=bh a>>=fun i=>bq b>>=fun d=>obj d>>=mP i
noncomputable def iN (f:Int->Int->Bool) (a b:V):M Bool:=bh a>>=fun i=>bh b>>=fun j=>pure (f i j)
noncomputable def jt (m:M Bool):M Bool:=m>>=fun b=>pure (!b)
noncomputable def cB (op:CmpOp) (a b:V):M Bool:=CmpOp.casesOn (motive:=fun _=>M Bool) op (kN a b) (jt (kN a b)) (iN (fun a b=>decide (a<b)) a b) (iN (fun a b=>decide (a<=b)) a b) (iN (fun a b=>decide (a>b)) a b) (iN (fun a b=>decide (a ≥ b)) a b) (iM a b) (jt (iM a b)) (kO a b) (jt (kO a b))
noncomputable def truth (v:V):M Bool:=dz v
noncomputable def ju (v:V):Bool:=!(v.ctorIdx==8)
noncomputable def jv (v:V) (attr:Str):M V:=do
 let a<-bq v
 let x<-dM a
 let k<-ar (eX P attr)
 guard (P.cq.contains (x.1,k))
 let r<-ar (x.2.lookup k)
 guard (ju r)
 return r
noncomputable def dC (fs:List (Nat×V)) (k:Nat) (v:V):List (Nat×V):=match fs with
 | []=>[(k,v)]
 |p::r=>if p.1==k then (p.1,v)::r else p::dC r k v
noncomputable def kP (v:V) (attr:Str) (x:V):M Unit:=do
 let a<-bq v
 let o<-dM a
 let k<-ar (eX P attr)
 guard (P.cq.contains (o.1,k)&&decide (o.2.length<=100))
 put a (.inst o.1 (dC o.2 k x))
noncomputable def place (i:Int) (n:Nat):Option Nat:=
 if 0<=i then (if i.toNat<n then some i.toNat else none)else none
noncomputable def fO {α:Type} (l:List α) (lo hi:Option Int):List α:=(l.drop (PySem.W.kms_lo lo l.length)).take (PySem.W.kms_hi hi l.length-PySem.W.kms_lo lo l.length)
noncomputable def fP (xs:List V) (i:Int):M Nat:=guard (decide (xs.length<=lim))>>=fun _=>ar (place i xs.length)
noncomputable def jw (i:V) (o:O):M V:=O.casesOn (motive:=fun _=>M V) o (fun xs=>bh i>>=fun i=>fP xs i>>=fun k=>ar xs[k]?) (fun xs=>bh i>>=fun i=>fP xs i>>=fun k=>ar xs[k]?) (fun es=>bh i>>=fun i=>ar (cR es i)) (fun es=>ek i>>=fun i=>ar (cR es i)) (fun x0 x1=>no) (fun x0=>no) (fun x0=>no) (fun x0 x1 x2=>no) (fun x0=>no)
noncomputable def aw (o i:V):M V:=bq o>>=fun a=>obj a>>=jw i
noncomputable def small (i:Option Int):Bool:=i.all fun i=>decide (-(2 ^ 62)<i)&&decide (i<2 ^ 62)
noncomputable def mQ (v:V):Option (List Int):=V.casesOn (motive:=fun _=>Option (List Int)) v none (fun _=>none) (fun _=>none) (fun _=>none) (fun _=>none) (fun _=>none) (fun _=>none) (fun _=>none) (fun _=>none) some
noncomputable def iO (o:V) (lo hi:Option Int):M V:=guard (small lo&&small hi)>>=fun _=>ar (mQ o)>>=fun l=>guard (decide (l.length<=lim))>>=fun _=>alloc (.list ((fO l lo hi).map .int))
noncomputable def mR (a:Nat) (i v:V) (o:O):M Unit:=O.casesOn (motive:=fun _=>M Unit) o (fun xs=>bh i>>=fun i=>fP xs i>>=fun k=>put a (.list (xs.set k v))) (fun x0=>no) (fun es=>guard (decide (es.length<=lim))>>=fun _=>bh i>>=fun i=>put a (.dict (dput es i v))) (fun es=>guard (decide (es.length<=lim))>>=fun _=>ek i>>=fun i=>put a (.cI (dput es i v))) (fun x0 x1=>no) (fun x0=>no) (fun x0=>no) (fun x0 x1 x2=>no) (fun x0=>no)
noncomputable def bA (o i v:V):M Unit:=bq o>>=fun a=>obj a>>=mR a i v
noncomputable def hU (o v:V):M Unit:=do
 let a<-bq o
 let b<-ey a
 let x<-eV v
 guard (decide (x.length=b.length)&&decide (b.length<=lim))
 put a (.bx x)
noncomputable def mT (a:Nat) (i:V) (o:O):M Unit:=O.casesOn (motive:=fun _=>M Unit) o (fun xs=>bh i>>=fun i=>fP xs i>>=fun k=>put a (.list (xs.eraseIdx k))) (fun x0=>no) (fun es=>guard (decide (es.length<=lim))>>=fun _=>bh i>>=fun k=>ar (cR es k)>>=fun _=>put a (.dict (dY es k))) (fun x0=>no) (fun x0 x1=>no) (fun x0=>no) (fun x0=>no) (fun x0 x1 x2=>no) (fun x0=>no)
noncomputable def hV (o i:V):M Unit:=bq o>>=fun a=>obj a>>=mT a i
noncomputable def pick (b:Bool) (x:V×List V):M (V×List V):=guard b>>=fun _=>pure x
noncomputable def jx (v:V) (nm:Str) (o:O):M (V×List V):=O.casesOn (motive:=fun _=>M (V×List V)) o (fun xs=>if nm==("append":Str)then pure (.bi "list.append",[v])else pick (nm==("remove":Str)) (.bi "list.remove",[v])) (fun x0=>no) (fun xs=>pick (nm==("get":Str)) (.bi "dict.get",[v])) (fun x0=>no) (fun c fs=>ar (eX P nm)>>=fun k=>guard (fs.lookup k).isNone>>=fun _=>ar (P.aI.lookup (c,k))>>=fun f=>pure (.af f,[v])) (fun xs=>pick (nm==("extend":Str)) (.bi "bytearray.extend",[v])) (fun x0=>no) (fun x0 x1 x2=>no) (fun x0=>no)
noncomputable def getM (v:V) (nm:Str):M (V×List V):=bq v>>=fun a=>obj a>>=jx P v nm
noncomputable def mU (v:V):Option UInt8:=(hJ v).bind fun i=>if 0<=i∧i<256 then some i.toNat.toUInt8 else none
noncomputable def bytesOf (xs:List V):Option (List UInt8):=xs.mapM mU
noncomputable def fy (H:Hp) (v:V):Option Addr:=(((gG v).bind fun a=>H[a]?).bind hH).map (·.1)
noncomputable def dp:List V->M V
 | [a]=>pure a
 |_=>no
noncomputable def dZ:List V->M (V×V)
 | [a,b]=>pure (a,b)
 |_=>no
noncomputable def iP:List V->M (V×V×V)
 | [a,b,c]=>pure (a,b,c)
 |_=>no
noncomputable def kQ (n:Nat):M V:=guard (decide (n<=lim))>>=fun _=>pure (.int n)
noncomputable def kR (o:O):M V:=O.casesOn (motive:=fun _=>M V) o (fun xs=>kQ xs.length) (fun x0=>no) (fun x0=>no) (fun x0=>no) (fun x0 x1=>no) (fun b=>kQ b.length) (fun x0=>no) (fun x0 x1 x2=>no) (fun x0=>no)
noncomputable def xO (v:V):M V:=V.casesOn (motive:=fun _=>M V) v no (fun x0=>no) (fun x0=>no) (fun x0=>no) (fun b=>kQ b.length) (fun a=>obj a>>=kR) (fun x0=>no) (fun x0=>no) (fun x0=>no) (fun b=>kQ b.length)
noncomputable def qu (args:List V):M V:=dp args>>=xO
noncomputable def qv (args:List V):M V:=dp args>>=fun a=>bh a>>=fun i=>pure (.int i.natAbs)
noncomputable def qw (args:List V):M V:=dZ args>>=fun p=>bh p.1>>=fun a=>bh p.2>>=fun b=>pure (.int (min a b))
noncomputable def qx (args:List V):M V:=iP args>>=fun p=>bh p.1>>=fun a=>bh p.2.1>>=fun b=>bh p.2.2>>=fun c=>pure (.int (min (min a b) c))
noncomputable def qy (args:List V):M V:=dZ args>>=fun p=>bh p.1>>=fun _=>iK p.2>>=fun n=>guard (decide (n="int"))>>=fun _=>pure (.bool true)
noncomputable def qz (args:List V):M V:=dZ args>>=fun p=>bq p.1>>=fun a=>bH a>>=fun xs=>guard (decide (xs.length<lim))>>=fun _=>put a (.list (xs++[p.2]))>>=fun _=>pure .none
noncomputable def mV (args:List V):M V:=dZ args>>=fun p=>bq p.1>>=fun a=>bq p.2>>=fun b=>bH a>>=fun xs=>heap>>=fun H=>ar (fy H (.ref b))>>=fun C=>
 guard (P.eqs.contains C&&decide (xs.length<=lim)&&xs.all (fun x=>fy H x==some C))>>=fun _=>ar (xs.findIdx? (isRef b))>>=fun k=>put a (.list (xs.eraseIdx k))>>=fun _=>pure .none
noncomputable def qA (args:List V):M V:=dZ args>>=fun p=>bq p.1>>=fun a=>bh p.2>>=fun k=>dictAt a>>=fun es=>pure ((cR es k).getD .none)
noncomputable def qB (args:List V):M V:=iP args>>=fun p=>bq p.1>>=fun a=>bh p.2.1>>=fun k=>dictAt a>>=fun es=>pure ((cR es k).getD p.2.2)
noncomputable def qC (args:List V):M V:=dZ args>>=fun p=>bq p.1>>=fun a=>eV p.2>>=fun x=>ey a>>=fun b=>guard (decide (b.length+x.length<=lim))>>=fun _=>put a (.bx (b++x))>>=fun _=>pure .none
noncomputable def bi (id:String) (args:List V):M V:=
 if id="len" then qu args
 else if id="abs" then qv args
 else if id="min" then (if args.length=2 then qw args else qx args)
 else if id="isinstance" then qy args
 else if id="list.append" then qz args
 else if id="list.remove" then mV P args
 else if id="dict.get" then (if args.length=2 then qA args else qB args)
 else if id="bytearray.extend" then qC args
 else no
noncomputable def mW (o:O):M V:=O.casesOn (motive:=fun _=>M V) o (fun xs=>guard (decide (xs.length<=lim))>>=fun _=>ar (bytesOf xs)>>=fun b=>pure (.bytes b)) (fun x0=>no) (fun x0=>no) (fun x0=>no) (fun x0 x1=>no) (fun b=>guard (decide (b.length<=lim))>>=fun _=>pure (.bytes b)) (fun x0=>no) (fun x0 x1 x2=>no) (fun x0=>no)
noncomputable def xP (v:V):M V:=V.casesOn (motive:=fun _=>M V) v no (fun x0=>no) (fun n=>guard (decide (0<=n)&&decide (n<=lim))>>=fun _=>pure (.bytes (List.replicate n.toNat 0))) (fun x0=>no) (fun b=>pure (.bytes b)) (fun a=>obj a>>=mW) (fun x0=>no) (fun x0=>no) (fun x0=>no) (fun x0=>no)
noncomputable def qD (args:List V):M V:=dp args>>=fun a=>dz a>>=fun b=>pure (.int (if b then 1 else 0))
noncomputable def qE (args:List V):M V:=dp args>>=fun a=>bh a>>=fun b=>alloc (.range b)
noncomputable def qF (args:List V):M V:=dp args>>=xP
noncomputable def qG (args:List V):M V:=match args with
 | []=>alloc (.bx [])
 |_=>no
noncomputable def qH (args:List V):M V:=dp args>>=fun a=>eV a>>=fun b=>guard (decide (b.length<=lim))>>=fun _=>alloc (.bx b)
noncomputable def qI (args:List V):M V:=dp args>>=fun a=>bq a>>=fun a=>bH a>>=fun xs=>guard (decide (xs.length<=lim))>>=fun _=>alloc (.list xs)
noncomputable def qJ (n:String) (args:List V):M V:=
 if n="int" then qD args
 else if n="range" then qE args
 else if n="bytes" then qF args
 else if n="bytearray" then (if args.length=0 then qG args else qH args)
 else if n="list" then qI args
 else no
variable (C:V->List V->Hp->CR) (lv:Bool)
noncomputable def call (f:V) (args:List V):M V:=do guard lv;fun s=>match C f args s.H with
 | .ok v H=>.ok v {s with H:=H}
 | .exc c H=>.exc c {s with H:=H}
 | .no=>.no
noncomputable def kS (v:V):Bool:=V.casesOn (motive:=fun _=>Bool) v false (fun _=>false) (fun _=>false) (fun _=>false) (fun _=>false) (fun _=>false) (fun _=>false) (fun _=>false) (fun id=>id=="len") (fun _=>false)
noncomputable def jy (g:Addr) (args:List V) (o:Option Addr):M V:=match o with
 |some init=>alloc (.inst g [])>>=fun x=>call C lv (.af init) (x::args)>>=mI>>=fun _=>pure x
 |none=>call C lv (.af g) args
noncomputable def mX (f:V) (args:List V):M V:=V.casesOn (motive:=fun _=>M V) f no (fun x0=>no) (fun x0=>no) (fun x0=>no) (fun x0=>no) (fun a=>call C lv (.ref a) args) (fun g=>jy C lv g args (P.cls.lookup g)) (fun n=>qJ n args) (fun id=>bi P id args) (fun x0=>no)
noncomputable def aR (f:V) (args:List V):M V:=guard (lv||kS f)>>=fun _=>mX P C lv f args
noncomputable def notStar (e:Expr):Bool:=!(e.ctorIdx==22)
noncomputable def jz (args:List Expr):Bool:=args.all notStar&&decide (args.length<20)
noncomputable def iQ (e:Expr):Bool:=!(e.ctorIdx==16)
noncomputable def dD (ev:Expr->M V):List Expr->M (List V)
 | []=>pure []
 |e::es=>do let v<-ev e;return v::(<-dD ev es)
noncomputable def jA (op:BoolOp) (t:Bool):Bool:=(op==.And) != t
noncomputable def gH (ev:Expr->M V) (a:V):List CmpOp->List Expr->M Bool
 | [],_=>no
 |op::ops,es=>match es with
  | []=>no
  |e::es=>ev e>>=fun b=>cB op a b>>=fun t=>if ops.isEmpty then pure t else if t then gH ev b ops es else pure false
noncomputable def hZ (f:Expr->M Bool) (op:BoolOp):List Expr->M Bool
 | []=>pure (op==.And)
 |e::es=>f e>>=fun t=>if jA op t then pure t else hZ f op es
noncomputable def qK (ev:Expr->M V) (f:Expr->M Bool) (e:Expr) (w:Te):M Bool:=match w with
 | .not x=>f x>>=fun b=>pure (!b)
 | .bool op vs=>hZ f op vs
 | .cmp l ops rs=>guard (decide (ops.length=rs.length))>>=fun _=>ev l>>=fun a=>gH ev a ops rs
 | .mL=>no
 | .other=>ev e>>=truth
noncomputable def fz (ev:Expr->M V):Nat->Expr->M Bool
 | 0,_=>no
 |n+1,e=>qK ev (fz ev n) e (mM e)
noncomputable def kT (ev:Expr->M V) (op:BoolOp):List Expr->M V
 | []=>no
 |e::es=>if es.isEmpty then ev e else ev e>>=fun v=>dz v>>=fun t=>if jA op t then pure v else kT ev op es
noncomputable def iR (ev:Expr->M V):Option Expr->M (Option Int)
 |none=>pure none
 |some e=>do return some (<-bh (<-ev e))
noncomputable def isSlice (e:Expr):Bool:=e.ctorIdx==26
noncomputable def qL (ev:Expr->M V) (o i:Expr) (v:V) (w:Option (Option Expr×Option Expr×Option Expr)):M Unit:=match w with
 |some x=>guard (x.1.isNone&&x.2.1.isNone&&x.2.2.isNone)>>=fun _=>ev o>>=fun ov=>hU ov v
 |none=>ev o>>=fun ov=>ev i>>=fun iv=>bA ov iv v
noncomputable def qM (ev:Expr->M V) (o i:Expr) (v:V):M Unit:=qL ev o i v (kL i)
noncomputable def jB (f:Expr->V->M Unit):List Expr->List V->M Unit
 | [],_=>pure ()
 |t::ts,l=>match l with
  | []=>pure ()
  |x::xs=>f t x>>=fun _=>jB f ts xs
noncomputable def jC (ev:Expr->M V) (sc:Scope) (f:Expr->V->M Unit) (v:V) (w:Tg):M Unit:=match w with
 | .name x _=>store sc x v
 | .attr o a _=>ev o>>=fun ov=>kP P ov a v
 | .sub o i=>qM ev o i v
 | .tup ts=>guard (lv&&ts.all notStar)>>=fun _=>bq v>>=fun a=>ew a>>=fun xs=>guard (decide (xs.length=ts.length))>>=fun _=>jB f ts xs
 | .other=>no
noncomputable def asg (ev:Expr->M V) (sc:Scope):Nat->Expr->V->M Unit
 | 0,_,_=>no
 |n+1,t,v=>jC P lv ev sc (asg ev sc n) v (eW t)
noncomputable def jD (b:Int):Bool:=decide (0<=b)&&decide (b<2 ^ 60)
noncomputable def rangeInts (b:Int):List Int:=(List.range b.toNat).map fun (k:Nat)=>(k:Int)
noncomputable def kU (a:Nat) (o:O):M (List V×Option (Nat×List V)):=O.casesOn (motive:=fun _=>M (List V×Option (Nat×List V))) o (fun xs=>guard (decide (xs.length<=lim))>>=fun _=>pure (xs,some (a,xs))) (fun x0=>no) (fun x0=>no) (fun x0=>no) (fun x0 x1=>no) (fun x0=>no) (fun x0=>no) (fun x0 x1 x2=>no) (fun b=>guard (jD b)>>=fun _=>pure ((rangeInts b).map .int,none))
noncomputable def iter (v:V):M (List V×Option (Nat×List V)):=bq v>>=fun a=>obj a>>=kU a
open Classical in
noncomputable def bJ:Option (Nat×List V)->M Unit
 |none=>pure ()
 |some p=>bH p.1>>=fun ys=>guard (decide (ys=p.2))
noncomputable def loop {α:Type} (bt:M Unit) (turn:V->M (Option α)):List V->M (Option α)
 | []=>do bt;return none
 |x::xs=>bt>>=fun _=>turn x>>=fun r=>if r.isSome then pure r else loop bt turn xs
noncomputable def eY (sc:Scope):Bool:=decide (sc.kind=.function)&&!sc.isGenerator&&!sc.isCoroutine&&decide (sc.names.map (·.1)).Nodup&&sc.names.all fun q=>!(q.1==("__debug__":Str))&&!(q.1==("__classdict__":Str))
noncomputable def mark (sc:Scope):Scope:={sc with isGenerator:=true}
noncomputable def mY (sc:Scope) (lo:List (Option V)) (x:Str):NameKind->Option (Option V)
 | .local=>some none
 | .free=>(match dn sc x with
  | .bW i=>lo[i]?.join.map some
  |_=>none)
 | .globalImplicit=>some none
 |_=>none
noncomputable def fQ (sc:Scope) (lo:List (Option V)):List (Str×NameKind)->Option (List (Option V))
 | []=>some []
 |p::r=>(mY sc lo p.1 p.2).bind fun v=>(fQ sc lo r).map (v::·)
noncomputable def inBlock {α:Type} (lo:List (Option V)) (m:M α):M α:=fun s=>match m {s with lo:=lo} with
 | .ok a s'=>.ok a {s' with lo:=s.lo}
 | .exc _ _=>.no
 | .no=>.no
noncomputable def locals:M (List (Option V)):=fun s=>.ok s.lo s
noncomputable def iS (ev:Expr->M V):List (Option Expr)->List Expr->M (List (Nat×V))
 | [],vs=>guard vs.isEmpty>>=fun _=>pure []
 |k::ks,l=>match l with
  | []=>no
  |v::vs=>ar k>>=fun k=>ev k>>=ek>>=fun kv=>ev v>>=fun vv=>iS ev ks vs>>=fun r=>pure ((kv,vv)::r)
noncomputable def fR (tgt:V->M Unit) (f:Expr->M Bool) (ifs:List Expr) (elt:M V) (acc:V) (v:V):M (Option Unit):=
 tgt v>>=fun _=>hZ f .And ifs>>=fun ok=>if ok then (elt>>=fun y=>bi P "list.append" [acc,y]>>=fun _=>pure none)else pure none
noncomputable def comp (evn:Scope->Expr->M V) (n:Nat) (sc:Scope) (elt t:Expr) (ifs:List Expr) (scope:Scope) (x:V):M V:=
 guard (lv&&eY scope)>>=fun _=>iter x>>=fun it=>locals>>=fun lo=>alloc (.list [])>>=fun acc=>ar (fQ sc lo scope.names)>>=fun lo'=>
  inBlock lo' (loop (bJ it.2) (fR P (asg P lv (evn (mark scope)) (mark scope) 3 t) (fz (evn (mark scope)) n) ifs (evn (mark scope) elt) acc) it.1)>>=fun _=>pure acc
noncomputable def qN (evn:Scope->Expr->M V) (n:Nat) (sc:Scope) (elt:Expr) (gens:List Comprehension) (scope:Scope):M V:=match gens with
 | []=>no
 |g::r=>guard (r.isEmpty&&decide (g.is_async=0))>>=fun _=>evn sc g.iter>>=fun x=>comp P lv evn n sc elt g.target g.ifs scope x
noncomputable def mZ (a:Arguments):Bool:=a.posonlyargs.isEmpty&&a.args.isEmpty&&a.vararg.isNone&&a.kwonlyargs.isEmpty&&a.kw_defaults.isEmpty&&a.kwarg.isNone&&a.defaults.isEmpty
noncomputable def m3 (sc:Scope) (body:Expr) (scope:Scope):M V:=do
 guard (!sc.isGenerator&&eY scope&&scope.names.all fun p=>p.2==.free||p.2==.globalImplicit)
 let lo<-locals
 let lo'<-ar (fQ sc lo scope.names)
 alloc (.cQ body scope lo')
noncomputable def m4 (ev:Expr->M V) (op:UnaryOp) (x:Expr):M V:=guard (op.ctorIdx==1)>>=fun _=>ev x>>=truth>>=fun b=>pure (.bool (!b))
noncomputable def xQ (ev:Expr->M V) (o:Expr) (nm:Str) (apos:Pos) (args:List Expr) (pos:Pos):M V:=do
 guard (iQ o&&jz args&&(apos.endLine==pos.line))
 let ov<-ev o
 let fm<-getM P ov nm
 let as<-dD ev args
 aR P C lv fm.1 (fm.2++as)
noncomputable def xR (ev:Expr->M V) (f:Expr) (args:List Expr):M V:=do
 guard (jz args)
 let fv<-ev f
 let as<-dD ev args
 aR P C lv fv as
noncomputable def qO (ev:Expr->M V) (args:List Expr) (pos:Pos) (w:Tg):M V:=match w with
 | .attr o nm apos=>xQ P C lv ev o nm apos args pos
 | .name x p=>xR P C lv ev (.Name x p) args
 |_=>no
noncomputable def qP (ev:Expr->M V) (f:Expr) (args:List Expr) (kws:List Keyword) (pos:Pos):M V:=guard kws.isEmpty>>=fun _=>qO P C lv ev args pos (eW f)
noncomputable def qQ (ev:Expr->M V) (o i:Expr) (w:Option (Option Expr×Option Expr×Option Expr)):M V:=match w with
 |some x=>guard x.2.2.isNone>>=fun _=>ev o>>=fun ov=>iR ev x.1>>=fun l=>iR ev x.2.1>>=fun h=>iO ov l h
 |none=>ev o>>=fun ov=>ev i>>=fun iv=>aw ov iv
noncomputable def qR (ev:Expr->M V) (o i:Expr):M V:=qQ ev o i (kL i)
noncomputable def qS (ev:Expr->M V) (ks:List (Option Expr)) (vs:List Expr):M V:=match ks with
 | []=>guard vs.isEmpty>>=fun _=>alloc (.dict [])
 |k::ks=>do
  guard (decide (ks.length<=14)&&(k::ks).all (·.isSome)&&decide ((k::ks).length=vs.length))
  let kvs<-iS ev (k::ks) vs
  guard (decide (kvs.map (·.1)).Nodup)
  alloc (.cI kvs)
noncomputable def xS (n:Nat) (evn:Scope->Expr->M V) (sc:Scope) (e:Expr):M V:=Expr.casesOn (motive_1:=fun _=>M V) e (fun op vs x2=>kT (evn sc) op vs) (fun x0 x1 x2=>no) (fun l op r x3=>evn sc l>>=fun a=>evn sc r>>=fun b=>binop op a b) (fun op x x2=>m4 (evn sc) op x) (fun a body scope x3=>guard (mZ a)>>=fun _=>m3 sc body scope) (fun t b o x3=>fz (evn sc) n t>>=fun x=>if x then evn sc b else evn sc o) (fun ks vs x2=>qS (evn sc) ks vs) (fun x0 x1 x2=>no) (fun elt gens scope x3=>qN P lv evn n sc elt gens scope) (fun x0 x1 x2 x3=>no) (fun x0 x1 x2 x3 x4=>no) (fun x0 x1 x2 x3=>no) (fun x0 x1=>no) (fun x0 x1=>no) (fun x0 x1=>no) (fun l ops rs x3=>guard (decide (ops.length=rs.length))>>=fun _=>evn sc l>>=fun a=>gH (evn sc) a ops rs>>=fun t=>pure (.bool t)) (fun f args kws pos=>qP P C lv (evn sc) f args kws pos) (fun x0 x1 x2 x3=>no) (fun x0 x1=>no) (fun c x1 x2=>const P c) (fun o a x2=>guard (iQ o)>>=fun _=>evn sc o>>=fun ov=>jv P ov a) (fun o i x2=>qR (evn sc) o i) (fun x0 x1=>no) (fun x x1=>name P sc x) (fun es x1=>guard (es.all notStar)>>=fun _=>dD (evn sc) es>>=fun vs=>guard (decide (vs.length<=lim))>>=fun _=>alloc (.list vs)) (fun es x1 x2=>guard (es.all notStar)>>=fun _=>dD (evn sc) es>>=fun vs=>guard (decide (vs.length<=lim))>>=fun _=>alloc (.tuple vs)) (fun x0 x1 x2 x3=>no)
noncomputable def ev:Nat->Scope->Expr->M V
 | 0,_,_=>no
 |n+1,sc,e=>xS P C lv n (ev n) sc e
inductive Fl where
 |next |ret (v:V)
noncomputable def jE (r:Fl) (k:M Fl):M Fl:=match r with
 | .next=>k
 | .ret _=>pure r
noncomputable def bC (ex:Stmt->M Fl):List Stmt->M Fl
 | []=>pure .next
 |s::ss=>ex s>>=fun r=>jE r (bC ex ss)
noncomputable def eE (test:M Bool) (body:M Fl):Nat->M Fl
 | 0=>no
 |n+1=>test>>=fun t=>if t then body>>=fun r=>jE r (eE test body n)else pure .next
noncomputable def attempt {α:Type} (m:M α) (h:Addr->M α):M α:=fun s=>match m s with
 | .exc c s'=>h c s'
 |r=>r
noncomputable def isExc (c:Addr):Bool:=P.dA.contains c||c==P.hO
noncomputable def handlers (nm:Str->M V) (bC:List Stmt->M Fl) (c:Addr):List ExceptHandler->M Fl
 | []=>no
 | .ExceptHandler t as body _::hs=>guard (as.isNone&&!body.isEmpty)>>=fun _=>ar (t.bind jr)>>=fun x=>nm x>>=fun v=>hM v>>=fun d=>guard (isExc P c&&isExc P d)>>=fun _=>if d=c then calm (bC body)else handlers nm bC c hs
noncomputable def isTup (e:Expr):Bool:=e.ctorIdx==25
noncomputable def jF (e:Expr):Bool:=!(e.ctorIdx==8)&&!(e.ctorIdx==9)&&!(e.ctorIdx==10)
noncomputable def notName (e:Expr):Bool:=!(e.ctorIdx==23)
noncomputable def elts (e:Expr):List Expr:=match eW e with
 | .tup ts=>ts
 |_=>[]
noncomputable def O3 (e:Expr):Bool:=e.ctorIdx==25
noncomputable def qT (t v:Expr):Bool:=!isTup v||(elts t).any notName||(!((elts v).all (constantsAlone 8))&&decide ((elts t).length=2))
noncomputable def bD:Nat:=40
noncomputable def da (tgt:V->M Unit) (body:M (Option V)) (x:V):M (Option V):=tgt x>>=fun _=>body
noncomputable def d7:Fl->M (Option V)
 | .next=>pure none
 | .ret r=>pure (some r)
noncomputable def eF:Option V->M Fl
 |none=>pure .next
 |some r=>pure (.ret r)
noncomputable def gI (xs:List V) (v:V):M V:=bh v>>=fun k=>ar xs[k.toNat]? >>=fun x=>alloc (.tuple [.int k,x])
noncomputable def m5 (it:Expr):Option (Str×Expr):=(jq it).bind fun c=>(jr c.1).bind fun x=>(kM c.2.1).bind fun e=>if c.2.2.isEmpty then some (x,e)else none
noncomputable def retS (ev:Expr->M V) (e:Option Expr):M Fl:=match e with
 |none=>pure (.ret .none)
 |some e=>do let v<-ev e;return .ret v
noncomputable def qU (ev:Expr->M V) (sc:Scope) (ts:List Expr) (v:Expr):M Fl:=ar (kM ts)>>=fun t=>guard (jF v&&qT t v)>>=fun _=>ev v>>=fun x=>asg P lv ev sc 3 t x>>=fun _=>pure .next
noncomputable def qV (ev:Expr->M V) (sc:Scope) (op:Operator) (v:Expr) (w:Tg):M Fl:=match w with
 | .name x _=>name P sc x>>=fun a=>ev v>>=fun b=>bF op a b>>=fun r=>store sc x r>>=fun _=>pure .next
 | .attr o a _=>ev o>>=fun ov=>jv P ov a>>=fun old=>ev v>>=fun b=>bF op old b>>=fun r=>kP P ov a r>>=fun _=>pure .next
 | .sub o i=>guard (!isSlice i)>>=fun _=>ev o>>=fun ov=>ev i>>=fun iv=>aw ov iv>>=fun old=>ev v>>=fun b=>bF op old b>>=fun r=>bA ov iv r>>=fun _=>pure .next
 |_=>no
noncomputable def qW (ev:Expr->M V) (sc:Scope) (t:Expr) (op:Operator) (v:Expr):M Fl:=qV P ev sc op v (eW t)
noncomputable def cS (c:Addr) (as:List V):M Fl:=dp as>>=fun a=>ek a>>=fun _=>guard lv>>=fun _=>guard (P.dA.contains c)>>=fun _=>raise c
noncomputable def m6 (ev:Expr->M V) (sc:Scope) (x:Str) (args:List Expr):M Fl:=guard (jz args)>>=fun _=>name P sc x>>=hM>>=fun c=>dD ev args>>=fun as=>cS P lv c as
noncomputable def qX (ev:Expr->M V) (sc:Scope) (e c:Option Expr):M Fl:=ar (e.bind jq)>>=fun d=>ar (jr d.1)>>=fun x=>guard (c.isNone&&d.2.2.isEmpty)>>=fun _=>m6 P lv ev sc x d.2.1
noncomputable def qY (ev:Expr->M V) (ts:List Expr):M Fl:=ar ((kM ts).bind qo)>>=fun p=>guard (!isSlice p.2)>>=fun _=>ev p.1>>=fun ov=>ev p.2>>=fun iv=>hV ov iv>>=fun _=>pure .next
noncomputable def plainS (ev:Expr->M V) (body:M Fl) (sc:Scope) (t it:Expr):M Fl:=
 ev it>>=fun x=>iter x>>=fun i=>loop (bJ i.2) (fun v=>pure v>>=da (asg P lv ev sc 3 t) (body>>=d7)) i.1>>=eF
noncomputable def qZ (ev:Expr->M V) (body:M Fl) (sc:Scope) (t:Expr) (f:Str) (e:Expr):M Fl:=
 guard (isTup t&&notStar e)>>=fun _=>name P sc f>>=fun fv=>guard (ql "enumerate" fv)>>=fun _=>ev e>>=fun w=>bq w>>=fun a=>bH a>>=fun xs=>guard (decide (xs.length<=lim))>>=fun _=>
  loop (bJ (some (a,xs))) (fun v=>gI xs v>>=da (asg P lv ev sc 3 t) (body>>=d7)) ((List.range xs.length).map fun (k:Nat)=>V.int (k:Int))>>=eF
noncomputable def m7 (ev:Expr->M V) (body:M Fl) (sc:Scope) (t it:Expr):M Fl:=match m5 it with
 |none=>plainS P lv ev body sc t it
 |some p=>if p.1==("enumerate":Str)then qZ P lv ev body sc t p.1 p.2 else if p.1==("reversed":Str)then no else plainS P lv ev body sc t it
noncomputable def xT (exn:Bool->Scope->Stmt->M Fl) (sc:Scope) (s:Stmt):M Fl:=Stmt.casesOn (motive_2:=fun _=>M Fl) s (fun x0 x1 x2 x3 x4 x5 x6 x7 x8 x9=>no) (fun x0 x1 x2 x3 x4 x5 x6 x7 x8 x9=>no) (fun x0 x1 x2 x3 x4 x5 x6 x7 x8 x9 x10=>no) (fun e x1=>retS (ev P C lv bD sc) e) (fun ts x1=>qY (ev P C lv bD sc) ts) (fun ts v x2=>qU P lv (ev P C lv bD sc) sc ts v) (fun x0 x1 x2 x3 x4 x5 x6=>no) (fun t op v x3=>qW P (ev P C lv bD sc) sc t op v) (fun x0 x1 x2 x3 x4=>no) (fun t it body o x4=>guard (o.isEmpty&&lv)>>=fun _=>m7 P lv (ev P C lv bD sc) (bC (exn lv sc) body) sc t it) (fun x0 x1 x2 x3 x4=>no) (fun t b o x3=>guard o.isEmpty>>=fun _=>eE (fz (ev P C lv bD sc) bD t) (bC (exn lv sc) b) 1000) (fun t b o x3=>fz (ev P C lv bD sc) bD t>>=fun x=>if x then bC (exn lv sc) b else bC (exn lv sc) o) (fun x0 x1 x2=>no) (fun x0 x1 x2=>no) (fun x0 x1 x2=>no) (fun e c x2=>qX P lv (ev P C lv bD sc) sc e c) (fun body hs o f x4=>guard (o.isEmpty&&f.isEmpty)>>=fun _=>attempt (bC (exn lv sc) body) fun c=>handlers P (name P sc) (bC (exn false sc)) c hs) (fun x0 x1 x2 x3 x4=>no) (fun x0 x1 x2=>no) (fun x0 x1=>no) (fun x0 x1 x2 x3=>no) (fun x0 x1=>no) (fun x0 x1=>no) (fun v x1=>guard (jF v)>>=fun _=>ev P C lv bD sc v>>=fun _=>pure .next) (fun x0=>pure .next) (fun x0=>no) (fun x0=>no)
noncomputable def ex:Nat->Bool->Scope->Stmt->M Fl
 | 0,_,_,_=>no
 |n+1,lv,sc,s=>xT P C lv (ex n) sc s
end
noncomputable def cX (names:List (Str×NameKind)) (b:List (Str×V)) (base:Nat):List (Option V):=match names with
 | []=>[]
 |p::r=>match p.2 with
  | .cell=>some (.ref base)::cX r b (base+1)
  | .local=>b.lookup p.1::cX r b base
  |_=>none::cX r b base
noncomputable def dN (names:List (Str×NameKind)) (b:List (Str×V)):List O:=
 (names.filter fun p=>p.2==.cell).map fun p=>O.cell (b.lookup p.1)
noncomputable def binds (f:Fn) (args:List V):Option (List (Str×V)):=if args.length=f.params.length then some (f.params.zip args)else none
noncomputable def gJ:R Fl->CR
 | .ok r s=>.ok (match r with
  | .next=>.none
  | .ret v=>v) s.H
 | .exc c s=>.exc c s.H
 | .no=>.no
noncomputable def kW:R V->CR
 | .ok v s=>.ok v s.H
 | .exc c s=>.exc c s.H
 | .no=>.no
noncomputable def ia {α:Type} (o:Option α) (f:α->CR):CR:=match o with
 |none=>.no
 |some a=>f a
noncomputable def m8 (o:O):Option (Expr×Scope×List (Option V)):=O.casesOn (motive:=fun _=>Option (Expr×Scope×List (Option V))) o (fun _=>none) (fun _=>none) (fun _=>none) (fun _=>none) (fun _ _=>none) (fun _=>none) (fun _=>none) (fun e sc lo=>some (e,sc,lo)) (fun _=>none)
noncomputable def runC (P:aQ) (C:V->List V->Hp->CR) (a:Addr) (args:List V) (H:Hp):CR:=ia (P.fn a) fun fd=>ia (binds fd args) fun b=>gJ (bC (ex P C bD true fd.scope) fd.body ⟨cX fd.scope.names b H.length,H++dN fd.scope.names b⟩)
noncomputable def jG (P:aQ) (C:V->List V->Hp->CR) (a:Nat) (args:List V) (H:Hp):CR:=ia (H[a]?.bind m8) fun c=>if args.isEmpty then kW (ev P C true bD (mark c.2.1) c.1 ⟨c.2.2,H⟩)else .no
noncomputable def m9 (P:aQ) (C:V->List V->Hp->CR) (f:V) (args:List V) (H:Hp):CR:=V.casesOn (motive:=fun _=>CR) f .no (fun x0=>.no) (fun x0=>.no) (fun x0=>.no) (fun x0=>.no) (fun a=>jG P C a args H) (fun a=>runC P C a args H) (fun x0=>.no) (fun x0=>.no) (fun x0=>.no)
noncomputable def run (P:aQ):Nat->V->List V->Hp->CR
 | 0,_,_,_=>.no
 |n+1,f,args,H=>m9 P (run P n) f args H
def aC{α β:Type}(R:α->β->Prop)(l:List α):List β->Prop:=
 List.rec (motive:=fun _=>List β->Prop) (fun l'=>l'=[]) (fun a _ ih l'=>∃ b,∃ bs,l'=b::bs∧R a b∧ih bs) l
section
variable {α β:Type} {R:α->β->Prop}
theorem aC.nil:aC R [] []:=rfl
theorem aC.cons{a:α}{b:β}{as:List α}{bs:List β}(h:R a b)(t:aC R as bs):aC R (a::as) (b::bs):=⟨b,bs,rfl,h,t⟩
theorem aC.ind{motive:(l:List α)->(l':List β)->aC R l l'->Prop}(nil:motive [] [] .nil)(cons:∀ {a b as bs} (h:R a b) (t:aC R as bs),motive as bs t->motive (a::as) (b::bs) (.cons h t)){l:List α}{l':List β}(q:aC R l l'):motive l l' q:=by
 induction l generalizing l' with
 |nil=>cases (show l'=[] from q);exact nil
 |cons a as ih=>
  obtain⟨b,bs,rfl,h,t⟩:=q
  exact cons h t (ih t)
@[elab_as_elim] theorem aC.fold {motive:(l:List α)->(l':List β)->Prop} {l:List α} {l':List β} (q:aC R l l') (h0:motive [] []) (h1:∀ a b as bs,R a b->aC R as bs->motive as bs->motive (a::as) (b::bs)):motive l l':=by
 induction l generalizing l' with
 |nil=>exact(show l'=[] from q)▸h0
 |cons a as ih=>
  obtain⟨b,bs,rfl,h,t⟩:=q
  exact h1 a b as bs h t (ih t)
end
structure Cx where
 prog:Program
 w:World
 T:List Str
 b₀:Heap
 X:List (Addr×Obj)
 fs:List (Addr×(Str->Option Value))
 N:Addr
 Qs:List (Addr×Str):=[]
structure Gs where
 ρ:List (Addr×Addr)
 tb:List (Addr×Array Value)
 cd:List (Addr×Obj)
 m:Str->Option Value
structure Ext(g g':Gs):Prop where
 ρ:g.ρ<+:g'.ρ
 cd:∀ x∈g.cd,x∈g'.cd
theorem Ext.refl(g:Gs):Ext g g:=⟨List.prefix_rfl,fun _ h=>h⟩
theorem Ext.trans{g g' g'':Gs}(a:Ext g g')(b:Ext g' g''):Ext g g'':=⟨a.ρ.trans b.ρ,fun x h=>b.cd x (a.cd x h)⟩
section
variable (c:Cx)
def VR(g:Gs)(v:V)(r:Value):Prop:=
 V.casesOn (motive:=fun _=>Prop) v (r=.none) (fun b=>r=.bool b) (fun i=>∃ t,r=.int i t) (fun k=>∃ x,∃ t,r=.str x t∧c.T[k]? =some x) (fun b=>∃ t,r=.bytes b.toArray t) (fun a=>∃ x,∃ y,r=.ref x∧g.ρ[a]? =some (x,y)) (fun a=>r=.ref a) (fun n=>r=.type n) (fun n=>r=.builtin n) (fun l=>∃ a,∃ vs:List Value,r=.ref a∧c.b₀.IsList a vs.toArray∧IntsAre vs l)
section
variable {c:Cx} {g:Gs}
theorem VR.none:VR c g .none .none:=rfl
theorem VR.bool(b:Bool):VR c g (.bool b) (.bool b):=rfl
theorem VR.int(i:Int)(t:Tok):VR c g (.int i) (.int i t):=⟨t,rfl⟩
theorem VR.str{k:Nat}{x:Str}(t:Tok)(h:c.T[k]? =some x):VR c g (.str k) (.str x t):=⟨x,t,rfl,h⟩
theorem VR.bytes(b:List UInt8)(t:Tok):VR c g (.bytes b) (.bytes b.toArray t):=⟨t,rfl⟩
theorem VR.ref{a:Nat}{x y:Addr}(h:g.ρ[a]? =some (x,y)):VR c g (.ref a) (.ref x):=⟨x,y,rfl,h⟩
theorem VR.af(a:Addr):VR c g (.af a) (.ref a):=rfl
theorem VR.ty(n:String):VR c g (.ty n) (.type n):=rfl
theorem VR.bi(n:String):VR c g (.bi n) (.builtin n):=rfl
theorem VR.xU{l:List Int}{a:Addr}{vs:List Value}(h:c.b₀.IsList a vs.toArray)(hi:IntsAre vs l):VR c g (.ints l) (.ref a):=⟨a,vs,rfl,h,hi⟩
end
abbrev ay(g:Gs):List V->List Value->Prop:=aC (VR c g)
def ct(g:Gs)(v:Option V)(r:Option Value):Prop:=Option.rec (motive:=fun _=>Prop) (r=none) (fun v=>∃ r',r=some r'∧VR c g v r') v
section
variable {c:Cx} {g:Gs}
theorem ct.none:ct c g none none:=rfl
theorem ct.some{v:V}{r:Value}(h:VR c g v r):ct c g (some v) (some r):=⟨r,rfl,h⟩
end
def FR(g:Gs)(p:Nat×V)(d:DictEntry):Prop:=eU fun x t hs r=>bp (d=⟨hs,.str x t,r⟩) (c.T[p.1]? =some x) (VR c g p.2 r)
theorem FR.mk{c:Cx}{g:Gs}{k:Nat}{v:V}{x:Str}{t:Tok}{hs:Int}{r:Value}(hx:c.T[k]? =some x)(hv:VR c g v r):FR c g (k,v) ⟨hs,.str x t,r⟩:=⟨x,t,hs,r,rfl,hx,hv⟩
structure q6 where
 qual:Str
 cl:List (Str×Addr)
 pm:Value
 c':Addr
 gf:Value
 o:Obj
 vs:Array Value
 t:Tok
structure q7(ρ:List (Addr×Addr))(cs:List (Addr×Obj))(e:Expr)(sc:Scope)(lo:List (Option V))(ob:Obj)(z:q6):Prop where
 ob:ob=kla_obj "<lambda>" z.qual ⟨[],[],none,[],[],none,[]⟩ e sc z.cl z.pm z.c' z.gf
 cd:(z.c',z.o)∈cs
 data:z.o.data=.fields z.vs
 nm:z.vs[1]? =some (.str z.qual z.t)
 len:lo.length=sc.names.length
 eY:eY sc=true
 kX:∀ (i:Nat) (x:Str) (k:NameKind),sc.names[i]? =some (x,k)->k=NameKind.globalImplicit∨(k=NameKind.free∧dm fun a y z'=>bp (lo[i]? =some (some (V.ref a))) (ρ[a]? =some (y,z')) (z.cl.lookup x=some y))
def iT(g:Gs)(e:Expr)(sc:Scope)(lo:List (Option V))(ob:Obj):Prop:=∃ z,q7 g.ρ g.cd e sc lo ob z
def bB(g:Gs)(p:Addr×Addr)(o:O)(ob:Obj):Prop:=
 O.casesOn (motive:=fun _=>Prop) o (fun xs=>∃ vs:List Value,∃ n,ob={cls:=.type "list",data:=.seq vs.toArray n}∧ay c g xs vs) (fun xs=>∃ vs:List Value,∃ n,ob={cls:=.type "tuple",data:=.seq vs.toArray n}∧ay c g xs vs) (fun es=>∃ kvs,ob.IsDictOf (intKind c.prog c.w) kvs∧aC (fun a b=>a.1=b.1∧VR c g a.2 b.2) es kvs) (fun es=>∃ kvs,ob.IsDictOf (PySem.strKind c.prog c.w) kvs∧aC (fun a b=>c.T[a.1]? =some b.1∧VR c g a.2 b.2) es kvs) (fun C fs=>ob=instObj C p.2) (fun b=>ob={cls:=.type "bytearray",data:=.bytearray b.toArray 0}) (fun v=>∃ r,ob.data=.cell r∧ct c g v r) (fun e sc lo=>iT g e sc lo ob) (fun b=>dm fun t u v=>ob={cls:=.type "range",dict:=none,data:=.fields #[.int 0 t,.int b u,.int 1 v],slots:=#[]})
def eG(g:Gs)(fs:List (Nat×V))(ob:Obj):Prop:=∃ ds n,ob=dictOf ds n∧aC (FR c g) fs ds
def bE(m:Str->Option Value)(o:Obj):Prop:=∃ es ep,o.data=.dict es ep∧StrKeys es∧∀ name,nsFind es name=m name
abbrev Cell:=Addr×(Obj->Prop)
def jH(g:Gs)(a:Addr)(o:O):List Cell:=O.casesOn (motive:=fun _=>List Cell) o (fun x0=>[]) (fun x0=>[]) (fun x0=>[]) (fun x0=>[]) (fun C fs=>[(a,eG c g fs)]) (fun x0=>[]) (fun x0=>[]) (fun x0 x1 x2=>[]) (fun x0=>[])
def cT(g:Gs)(p:Addr×Addr)(o:O):List Cell:=(p.1,bB c g p o)::jH c g p.2 o
def b9(g:Gs):List (Addr×Addr)->Hp->List Cell
 | [],_=>[]
 |p::ps,H=>match H with
  | []=>[]
  |o::os=>cT c g p o++b9 g ps os
def eZ(g:Gs):List Cell:=
 c.fs.map (fun f=>(f.1,bE f.2))++c.X.map (fun p=>(p.1,(·=p.2)))++g.tb.map (fun p=>(p.1,(·=tabObj p.2)))++g.cd.map (fun p=>(p.1,(·=p.2)))
def cells(g:Gs)(H:Hp):List Cell:=(c.N,bE g.m)::(eZ c g++b9 c g g.ρ H)
def e7(cd:List (Addr×Obj))(qual:Str)(ps:Array Value):Prop:=TriplesOk ps.toList∧
 ∀ pos cv,codeAmong pos ps.toList=some cv->eU fun c' o vs t=>(dW (cv=.ref c') ((c',o)∈cd) (o.data=.fields vs) (vs[1]? =some (.str qual t)))
def TabsOk(c:Cx)(g:Gs):Prop:=aC (fun q p=>q.1=p.1∧e7 g.cd q.2 p.2) c.Qs g.tb
structure Inv(g:Gs)(H:Hp)(h:Heap):Prop where
 base:∀ b o,c.b₀.get? b=some o->h.get? b=some o
 above:c.b₀.objs.size<=c.N
 len:g.ρ.length=H.length
 sat:∀ x∈cells c g H,∃ o,h.get? x.1=some o∧x.2 o
 cJ:((cells c g H).map (·.1)).Nodup
 low:∀ x∈cells c g H,c.b₀.get? x.1=none
 tabs:TabsOk c g
end
section
variable {c:Cx} {g g':Gs} {H:Hp} {h h':Heap}
theorem Ext.at(x:Ext g g'){a:Nat}{p:Addr×Addr}(q:g.ρ[a]? =some p):g'.ρ[a]? =some p:=by
 obtain⟨t,ht⟩:=x.ρ
 rw[<-ht]
 exact(List.getElem?_append_left (List.getElem?_eq_some_iff.mp q).1).trans q
theorem xV(x:Ext g g'){a:Nat}{r:Value}(q:∃ u,∃ y,r=.ref u∧g.ρ[a]? =some (u,y)):∃ u,∃ y,r=.ref u∧g'.ρ[a]? =some (u,y):=by
 obtain⟨u,y,e,h⟩:=q;exact⟨u,y,e,x.at h⟩
theorem VR.mono(x:Ext g g'){v:V}{r:Value}(q:VR c g v r):VR c g' v r:=
 V.casesOn (motive:=fun v=>∀ r,VR c g v r->VR c g' v r) v (fun _ q=>q) (fun _ _ q=>q) (fun _ _ q=>q) (fun _ _ q=>q) (fun _ _ q=>q) (fun _ _ q=>xV x q) (fun _ _ q=>q) (fun _ _ q=>q) (fun _ _ q=>q) (fun _ _ q=>q) r q
theorem aC.imp{α β:Type}{R S:α->β->Prop}(f:∀ a b,R a b->S a b){l:List α}{l':List β}(q:aC R l l'):aC S l l':=aC.fold q .nil fun _ _ _ _ h _ ih=>.cons (f _ _ h) ih
theorem ay.mono(x:Ext g g'){v:List V}{r:List Value}(q:ay c g v r):ay c g' v r:=aC.imp (fun _ _=>VR.mono x) q
theorem ct.mono(x:Ext g g'){v:Option V}{r:Option Value}(q:ct c g v r):ct c g' v r:=by
 cases v with
 |none=>exact q
 |some v=>obtain⟨r',e,h⟩:=q;exact⟨r',e,h.mono x⟩
theorem FR.mono(x:Ext g g'){v:Nat×V}{r:DictEntry}(q:FR c g v r):FR c g' v r:=by
 obtain⟨a,t,hs,r,e,h,h'⟩:=q
 exact⟨a,t,hs,r,e,h,h'.mono x⟩
theorem iT.mono(x:Ext g g'){e:Expr}{sc:Scope}{lo:List (Option V)}{ob:Obj}(q:iT g e sc lo ob):iT g' e sc lo ob:=by
 obtain⟨z,I⟩:=q
 refine⟨z,I.ob,x.cd _ I.cd,I.data,I.nm,I.len,I.eY,fun i y k e=>(I.kX i y k e).imp id fun w=>⟨w.1,?_⟩⟩
 obtain⟨a,y',z',q1,q2,q3⟩:=w.2
 exact⟨a,y',z',q1,x.at q2,q3⟩
theorem kY{α:Sort _}{A B B':α->Prop}(f:∀ a,B a->B' a)(h:∃ a,A a∧B a):∃ a,A a∧B' a:=by
 obtain⟨a,h⟩:=h;exact⟨a,h.1,f a h.2⟩
theorem nc{α β:Sort _}{A:α->β->Prop}{B B':α->Prop}(f:∀ a,B a->B' a)(h:∃ a,∃ b,A a b∧B a):∃ a,∃ b,A a b∧B' a:=by
 obtain⟨a,h⟩:=h;exact⟨a,kY (A:=A a) (B:=fun _=>B a) (fun _=>f a) h⟩
theorem bB.mono(x:Ext g g'){p:Addr×Addr}{o:O}{ob:Obj}(q:bB c g p o ob):bB c g' p o ob:=by
 revert q
 exact O.casesOn (motive:=fun o=>bB c g p o ob->bB c g' p o ob) o (fun _=>nc fun _=>ay.mono x) (fun _=>nc fun _=>ay.mono x) (fun _=>kY fun _=>aC.imp fun _ _ q=>⟨q.1,q.2.mono x⟩) (fun _=>kY fun _=>aC.imp fun _ _ q=>⟨q.1,q.2.mono x⟩) (fun x0 x1=>fun q=>q) (fun x0=>fun q=>q) (fun _=>kY fun _=>ct.mono x) (fun a b d=>fun q=>iT.mono x q) (fun x0=>fun q=>q)
theorem eG.mono(x:Ext g g'){fs:List (Nat×V)}{ob:Obj}:eG c g fs ob->eG c g' fs ob:=nc fun _=>aC.imp fun _ _=>FR.mono x
abbrev cu:List Cell->List Cell->Prop:=aC fun x y=>x.1=y.1∧∀ o,x.2 o->y.2 o
theorem cu.refl:∀ l:List Cell,cu l l
 | []=>.nil
 |_::l=>.cons ⟨rfl,fun _ q=>q⟩ (cu.refl l)
theorem cu.append{a b a' b':List Cell}(x:cu a a')(y:cu b b'):cu (a++b) (a'++b'):=by
 exact aC.fold x y fun _ _ _ _ p _ ih=>.cons p ih
theorem cu.addrs{a b:List Cell}(x:cu a b):b.map (·.1)=a.map (·.1):=aC.fold x rfl fun _ _ _ _ p _ ih=>List.cons_eq_cons.mpr ⟨p.1.symm,ih⟩
theorem cu.back{a b:List Cell}(x:cu a b){y:Cell}:y∈b->∃ z∈a,z.1=y.1∧∀ o,z.2 o->y.2 o:=
 aC.fold x (fun h=>nomatch h) fun _ _ _ _ p _ ih hy=>(List.mem_cons.mp hy).elim (fun e=>e▸⟨_,.head _,p⟩) fun hy=>let ⟨z,hz,q⟩:=ih hy;⟨z,.tail _ hz,q⟩
theorem xW(x:Ext g g')(a:Addr)(o:O):cu (jH c g a o) (jH c g' a o):=
 O.casesOn (motive:=fun o=>cu (jH c g a o) (jH c g' a o)) o (fun x0=>.nil) (fun x0=>.nil) (fun x0=>.nil) (fun x0=>.nil) (fun C fs=>.cons ⟨rfl,fun _ q=>eG.mono (c:=c) x q⟩ .nil) (fun x0=>.nil) (fun x0=>.nil) (fun x0 x1 x2=>.nil) (fun x0=>.nil)
theorem xX(x:Ext g g')(p:Addr×Addr)(o:O):cu (cT c g p o) (cT c g' p o):=.cons ⟨rfl,fun _=>bB.mono x⟩ (xW x _ o)
theorem nf(x:Ext g g'):∀ (ps:List (Addr×Addr)) (H:Hp),cu (b9 c g ps H) (b9 c g' ps H)
 | [],_=>.nil
 |_::_,[]=>.nil
 |p::ps,o::os=>(xX x p o).append (nf x ps os)
theorem xY{c:Cx}{g:Gs}{p:Addr×Addr}{o:O}{ps:List (Addr×Addr)}:∀ {H:Hp},ps.length=H.length->b9 c g (ps++[p]) (H++[o])=b9 c g ps H++cT c g p o:=by
 induction ps with
 |nil=>exact fun {H} e=>by cases H with |nil=>exact List.append_nil _ |cons _ _=>contradiction
 |cons q ps ih=>
  intro H e
  cases H with
  |nil=>contradiction
  |cons x os=>exact(congrArg (cT c g q x++·) (ih (Nat.succ.inj e))).trans (List.append_assoc _ _ _).symm
theorem q8{c:Cx}{g:Gs}{p:Addr×Addr}{o:O}{ps:List (Addr×Addr)}:∀ {H:Hp} {i:Nat},ps[i]? =some p->H[i]? =some o->bV fun l1 l2=>∀ o',b9 c g ps (H.set i o')=l1++cT c g p o'++l2:=by
 induction ps with
 |nil=>exact fun hp=>nomatch hp
 |cons q ps ih=>
   intro H i hp ho
   cases H with
   |nil=>contradiction
   |cons x os=>
    cases i with
    |zero=>exact⟨[],b9 c g ps os,fun o'=>by rw[Option.some.inj hp];rfl⟩
    |succ i=>
     obtain⟨l1,l2,e⟩:=ih (H:=os) (i:=i) hp ho
     exact⟨cT c g q x++l1,l2,fun o'=>(congrArg (cT c g q x++·) (e o')).trans (by simp only[List.append_assoc])⟩
theorem set_same{H:Hp}{i:Nat}{o:O}(ho:H[i]? =some o):H.set i o=H:=by
 obtain⟨hi,e⟩:=List.getElem?_eq_some_iff.mp ho
 simp only[<-e,List.set_getElem_self]
theorem Inv.keeps(I:Inv c g H h)(k:∀ b o,h.get? b=some o->h'.get? b=some o):Inv c g H h':=
 ⟨fun b o e=>k _ _ (I.base b o e),I.above,I.len,fun x hx=>let ⟨o,e,q⟩:=I.sat x hx;⟨o,k _ _ e,q⟩,I.cJ,I.low,I.tabs⟩
theorem Inv.at(I:Inv c g H h){i:Nat}{o:O}(ho:H[i]? =some o):∃ p,g.ρ[i]? =some p:=by
 have:i<g.ρ.length:=by rw[I.len];exact(List.getElem?_eq_some_iff.mp ho).1
 exact⟨_,List.getElem?_eq_getElem this⟩
theorem jI{i:Nat}{p:Addr×Addr}{o:O}(hp:g.ρ[i]? =some p)(ho:H[i]? =some o):bV fun l1 l2=>∀ o',cells c g (H.set i o')=(c.N,bE g.m)::(l1++(cT c g p o'++l2)):=by
 obtain⟨l1,l2,e⟩:=q8 (c:=c) (g:=g) hp ho
 refine⟨eZ c g++l1,l2,fun o'=>?_⟩
 unfold cells
 simp only[e o',List.append_assoc]
theorem jJ{i:Nat}{o:O}{l:List Cell}(ho:H[i]? =some o)(e:cells c g (H.set i o)=l):cells c g H=l:=set_same ho▸e
theorem nh{p:Addr×Addr}{i:Nat}{o:O}{x:Cell}(hp:g.ρ[i]? =some p)(ho:H[i]? =some o)(hx:x∈cT c g p o):x∈cells c g H:=by
 obtain⟨l1,l2,e⟩:=jI (c:=c) (g:=g) hp ho
 exact jJ ho (e o)▸.tail _ (List.mem_append_right _ (List.mem_append_left _ hx))
theorem kZ(p:Addr×Addr)(o:O):(p.1,bB c g p o)∈cT c g p o:=.head _
theorem Inv.obj(I:Inv c g H h){i:Nat}{o:O}{p:Addr×Addr}(hp:g.ρ[i]? =some p)(ho:H[i]? =some o):∃ ob,h.get? p.1=some ob∧bB c g p o ob:=
 I.sat _ (nh hp ho (kZ p o))
theorem Inv.aux(I:Inv c g H h){i:Nat}{C:Addr}{fs:List (Nat×V)}{p:Addr×Addr}(hp:g.ρ[i]? =some p)(ho:H[i]? =some (.inst C fs)):∃ ob,h.get? p.2=some ob∧eG c g fs ob:=
 I.sat _ (nh hp ho (.tail _ (.head _)))
theorem Inv.ns(I:Inv c g H h):h.Ns c.N g.m:=by
 obtain⟨o,e,es,ep,q⟩:=I.sat _ (.head _)
 exact⟨o,es,ep,e,q⟩
theorem Inv.fr(I:Inv c g H h):Fr c.b₀ c.N h g.m:=⟨I.ns,I.base,I.above⟩
def Sat(h:Heap)(x:Cell):Prop:=∃ o,h.get? x.1=some o∧x.2 o
theorem q9{h h':Heap}{a:Addr}{l:List Cell}(hs:∀ b o,b≠a->h.get? b=some o->h'.get? b=some o)(S:∀ x∈l,Sat h x)(n:∀ x∈l,x.1≠a):∀ x∈l,Sat h' x:=fun x hx=>let ⟨o,q⟩:=S x hx;⟨o,hs _ _ (n x hx) q.1,q.2⟩
theorem rg{l1 l2:List Cell}{x:Cell}(n:((l1++x::l2).map (·.1)).Nodup):(∀ y∈l1,y.1≠x.1)∧∀ y∈l2,y.1≠x.1:=by
 rw[List.map_append]at n
 have n:=List.nodup_append.mp n
 exact⟨fun y hy=>n.2.2 _ (List.mem_map_of_mem hy) _ (.head _),fun y hy e=>(List.nodup_cons.mp n.2.1).1 (List.mem_map.mpr ⟨y,hy,e⟩)⟩
theorem k7{l1 l2:List Cell}{a:Addr}{P P':Obj->Prop}:(l1++(a,P')::l2).map (·.1)=(l1++(a,P)::l2).map (·.1):=by rw[List.map_append,List.map_append];rfl
theorem k8{l1 l2:List Cell}{x y:Cell}{Q:Cell->Prop}(h:∀ z∈l1++x::l2,Q z)(hy:Q y):∀ z∈l1++y::l2,Q z:=
 have h:=List.forall_mem_append.mp h
 List.forall_mem_append.mpr ⟨h.1,List.forall_mem_cons.mpr ⟨hy,fun z hz=>h.2 z (.tail _ hz)⟩⟩
theorem ni{h h':Heap}{l1 l2:List Cell}{a:Addr}{P P':Obj->Prop}{ob:Obj}(S:∀ x∈l1++(a,P)::l2,Sat h x)(n:((l1++(a,P)::l2).map (·.1)).Nodup)
  (hs:∀ b o,b≠a->h.get? b=some o->h'.get? b=some o) (hob:h'.get? a=some ob) (hP:P' ob):∀ x∈l1++(a,P')::l2,Sat h' x:=
 have S:=List.forall_mem_append.mp S
 have n:=rg n
 List.forall_mem_append.mpr ⟨q9 hs S.1 n.1,List.forall_mem_cons.mpr ⟨⟨ob,hob,hP⟩,q9 hs (fun z hz=>S.2 z (.tail _ hz)) n.2⟩⟩
theorem Inv.turn{g₁:Gs}{H₁:Hp}{l1 l2:List Cell}{a:Addr}{P P':Obj->Prop}{ob:Obj}(I:Inv c g H h)(e:cells c g H=l1++(a,P)::l2)(e':cells c g₁ H₁=l1++(a,P')::l2)
  (hl:g₁.ρ.length=H₁.length) (hs:∀ b o,b≠a->h.get? b=some o->h'.get? b=some o) (hob:h'.get? a=some ob) (hP:P' ob) (ht:TabsOk c g₁):Inv c g₁ H₁ h':=
 have S:=e▸I.sat
 have W:=e▸I.low
 have N:=e▸I.cJ
 have w:c.b₀.get? a=none:=W (a,P) (List.mem_append_right _ (.head _))
 ⟨fun b o q=>hs b o (fun z=>nomatch (z▸w).symm.trans q) (I.base b o q),I.above,hl,e'▸ni S N hs hob hP,by rw[e',k7 (P:=P)];exact N,e'▸k8 (y:=(a,P')) W w,ht⟩
def O.cU(o:O):Bool:=o.ctorIdx==4
theorem jK(p:Addr×Addr){o:O}(n:o.cU=false):cT c g p o=[(p.1,bB c g p o)]:=by
 revert n
 exact O.casesOn (motive:=fun o=>o.cU=false->cT c g p o=[(p.1,bB c g p o)]) o (fun x0=>fun q=>rfl) (fun x0=>fun q=>rfl) (fun x0=>fun q=>rfl) (fun x0=>fun q=>rfl) (fun C fs=>fun q=>nomatch q) (fun x0=>fun q=>rfl) (fun x0=>fun q=>rfl) (fun x0 x1 x2=>fun q=>rfl) (fun x0=>fun q=>rfl)
theorem Inv.putK{i:Nat}{p:Addr×Addr}{o o':O}{ob:Obj}(I:Inv c g H h)(hp:g.ρ[i]? =some p)(ho:H[i]? =some o)(n1:o.cU=false)(n2:o'.cU=false)
  (hs:∀ b o,b≠p.1->h.get? b=some o->h'.get? b=some o) (hob:h'.get? p.1=some ob) (hP:bB c g p o' ob):Inv c g (H.set i o') h':=by
 obtain⟨l1,l2,e⟩:=jI (c:=c) (g:=g) hp ho
 exact I.turn (l1:=(c.N,bE g.m)::l1) (l2:=l2) (jJ ho ((e o).trans (congrArg (fun z=>_::(l1++(z++l2))) (jK p n1)))) ((e o').trans (congrArg (fun z=>_::(l1++(z++l2))) (jK p n2))) (I.len.trans List.length_set.symm) hs hob hP I.tabs
theorem Inv.put{i:Nat}{p:Addr×Addr}{o o':O}{ob:Obj}(I:Inv c g H h)(hp:g.ρ[i]? =some p)(ho:H[i]? =some o)(n1:o.cU=false)(n2:o'.cU=false)
  (hs:∀ b,b≠p.1->h'.get? b=h.get? b) (hob:h'.get? p.1=some ob) (hP:bB c g p o' ob):Inv c g (H.set i o') h':=I.putK hp ho n1 n2 (fun b o hb e=>(hs b hb).trans e) hob hP
theorem Inv.dC{i:Nat}{p:Addr×Addr}{C:Addr}{fs fs':List (Nat×V)}{ob:Obj}(I:Inv c g H h)(hp:g.ρ[i]? =some p)(ho:H[i]? =some (.inst C fs))
  (hs:∀ b,b≠p.2->h'.get? b=h.get? b) (hob:h'.get? p.2=some ob) (hP:eG c g fs' ob):Inv c g (H.set i (.inst C fs')) h':=by
 obtain⟨l1,l2,e⟩:=jI (c:=c) (g:=g) hp ho
 have e (fs'):cells c g (H.set i (.inst C fs'))=(c.N,bE g.m)::((l1++[(p.1,bB c g p (.inst C fs))])++(p.2,eG c g fs')::l2):=(e (.inst C fs')).trans (congrArg _ (List.append_assoc l1 [(p.1,bB c g p (.inst C fs))] ((p.2,eG c g fs')::l2)).symm)
 exact I.turn (l1:=(c.N,bE g.m)::(l1++[(p.1,bB c g p (.inst C fs))])) (l2:=l2) (jJ ho (e fs)) (e fs') (I.len.trans List.length_set.symm) (fun b o hb e=>(hs b hb).trans e) hob hP I.tabs
def ba(c:Cx)(g:Gs)(H:Hp)(a:Addr):Prop:=(∀ x∈cells c g H,x.1≠a)∧c.b₀.get? a=none
theorem Inv.free{a:Addr}(I:Inv c g H h)(hf:h.get? a=none):ba c g H a:=by
 refine⟨fun x hx e=>?_,?_⟩
 ·obtain⟨o,q,_⟩:=I.sat x hx
  rw[e,hf]at q;contradiction
 ·cases q:c.b₀.get? a with
  |none=>rfl
  |some o=>have:=I.base _ _ q;rw[hf]at this;contradiction
theorem dq(h:Heap):h.get? h.objs.size=none:=by
 cases q:h.get? h.objs.size with
 |none=>rfl
 |some o=>exact absurd (Heap.lt_size q) (Nat.lt_irrefl _)
theorem ic{h:Heap}{a:Addr}(ha:h.objs.size<=a):h.get? a=none:=by
 cases q:h.get? a with
 |none=>rfl
 |some o=>exact absurd (Nat.lt_of_lt_of_le (Heap.lt_size q) ha) (Nat.lt_irrefl _)
theorem cu.sat{l l':List Cell}(w:cu l l')(S:∀ x∈l,Sat h x):∀ x∈l',Sat h x:=fun x hx=>let ⟨z,hz,e1,e2⟩:=w.back hx;let ⟨o,q⟩:=S z hz;⟨o,e1▸q.1,e2 _ q.2⟩
theorem cu.all{l l':List Cell}(w:cu l l'){Q:Addr->Prop}(S:∀ x∈l,Q x.1):∀ x∈l',Q x.1:=fun x hx=>let ⟨z,hz,e1,_⟩:=w.back hx;e1▸S z hz
abbrev Gs.lay(g:Gs)(p:Addr×Addr):Gs:={g with ρ:=g.ρ++[p]}
theorem dc(g:Gs)(p:Addr×Addr):Ext g (g.lay p):=⟨List.prefix_append ..,fun _ q=>q⟩
def nj(c:Cx)(g:Gs)(p:Addr×Addr)(H:Hp):List Cell:=(c.N,bE g.m)::(eZ c g++b9 c (g.lay p) g.ρ H)
theorem rh{p:Addr×Addr}{o:O}(I:Inv c g H h):cells c (g.lay p) (H++[o])=nj c g p H++cT c (g.lay p) p o:=
 congrArg (fun l=>(c.N,bE g.m)::(eZ c g++l)) (xY I.len) |>.trans (congrArg (List.cons _) (List.append_assoc _ _ _).symm)
theorem rj{p:Addr×Addr}:cu (cells c g H) (nj c g p H):=.cons ⟨rfl,fun _ q=>q⟩ ((cu.refl _).append (nf (dc g p) _ _))
theorem Inv.lay{p:Addr×Addr}{o:O}(I:Inv c g H h)
  (cJ:((cT c (g.lay p) p o).map (·.1)).Nodup)
  (new:∀ x∈cT c (g.lay p) p o,ba c g H x.1∧∃ ob,h.get? x.1=some ob∧x.2 ob):
  Inv c (g.lay p) (H++[o]) h:=
 have wk:cu (cells c g H) (nj c g p H):=rj
 have ce:=rh (p:=p) (o:=o) I
 ⟨I.base,I.above,(List.length_append).trans ((congrArg (·+1) I.len).trans (List.length_append (as:=H) (bs:=[o])).symm),ce▸List.forall_mem_append.mpr ⟨wk.sat I.sat,fun x hx=>(new x hx).2⟩,by
  rw[ce,List.map_append]
  refine List.nodup_append.mpr ⟨wk.addrs▸I.cJ,cJ,fun a ha b hb e=>?_⟩
  obtain⟨y,hy,rfl⟩:=List.mem_map.mp ha
  obtain⟨y',hy',rfl⟩:=List.mem_map.mp hb
  exact wk.all (Q:=(·≠y'.1)) (new y' hy').1.1 y hy e,ce▸List.forall_mem_append.mpr ⟨wk.all (Q:=fun a=>c.b₀.get? a=none) I.low,fun x hx=>(new x hx).1.2⟩,I.tabs⟩
theorem Inv.gK{a:Addr}{o:O}{ob:Obj}(I:Inv c g H h)(hf:ba c g H a)(n:o.cU=false)
  (ha:h.get? a=some ob) (hP:bB c (g.lay (a,a)) (a,a) o ob):Inv c (g.lay (a,a)) (H++[o]) h:=
 have e:=jK (c:=c) (g:=g.lay (a,a)) (a,a) n
 I.lay (by rw[e];exact List.nodup_cons.mpr ⟨fun q=>(nomatch q),List.nodup_nil⟩) (by rw[e];exact List.forall_mem_cons.mpr ⟨⟨hf,ob,ha,hP⟩,fun _ q=>(nomatch q)⟩)
theorem xZ{m':Str->Option Value}(ps:List (Addr×Addr))(H:Hp):b9 c {g with m:=m'} ps H=b9 c g ps H:=by
 induction ps generalizing H with
 |nil=>rfl
 |cons p ps ih=>
  cases H with
  |nil=>rfl
  |cons o os=>exact congrArg (cT c g p o++·) (ih os)
theorem nk{m':Str->Option Value}:cells c {g with m:=m'} H=(c.N,bE m')::(eZ c g++b9 c g g.ρ H):=by
 show(c.N,bE m')::(eZ c {g with m:=m'}++b9 c {g with m:=m'} g.ρ H)=_
 rw[xZ];rfl
theorem Inv.rm{m':Str->Option Value}(I:Inv c g H h)(hs:∀ b,b≠c.N->h'.get? b=h.get? b)(hn:h'.Ns c.N m'):Inv c {g with m:=m'} H h':=by
 obtain⟨o,es,ep,e,q⟩:=hn
 exact I.turn (g₁:={g with m:=m'}) (l1:=[]) (l2:=eZ c g++b9 c g g.ρ H) (P:=bE g.m) (P':=bE m') rfl nk I.len (fun b o hb e=>(hs b hb).trans e) e ⟨es,ep,q⟩ I.tabs
theorem nq{D:Addr->Prop}{L:List Cell}(S:∀ x∈L,Sat h x)(w:∀ x∈L,D x.1):∃ news:List (Addr×Obj),(∀ p∈news,h.get? p.1=some p.2∧D p.1)∧∀ h':Heap,(∀ p∈news,h'.get? p.1=some p.2)->∀ x∈L,Sat h' x:=by
 induction L with
 |nil=>exact⟨[],fun _ q=>(nomatch q),fun _ _ _ q=>(nomatch q)⟩
 |cons x L ih=>
  obtain⟨news,k1,k2⟩:=ih (fun y hy=>S y (.tail _ hy)) fun y hy=>w y (.tail _ hy)
  obtain⟨o,q⟩:=S x (.head _)
  exact⟨(x.1,o)::news,List.forall_mem_cons.mpr ⟨⟨q.1,w x (.head _)⟩,k1⟩,fun h' N=>List.forall_mem_cons.mpr ⟨⟨o,N _ (.head _),q.2⟩,k2 h' fun p hp=>N p (.tail _ hp)⟩⟩
theorem Fr.sat{b₀:Heap}{N:Addr}{m:Str->Option Value}(F:Fr b₀ N h m):Sat h (N,bE m):=by
 obtain⟨o,es,ep,e,q⟩:=F.ns
 exact⟨o,e,es,ep,q⟩
theorem Inv.ledger(I:Inv c g H h):∃ news,News c.b₀ c.N h news∧∀ h' m',Fr c.b₀ c.N h' m'->News c.b₀ c.N h' news->Inv c {g with m:=m'} H h':=by
 have n:=List.nodup_cons.mp I.cJ
 obtain⟨news,k1,k2⟩:=nq (D:=fun b=>b≠c.N∧c.b₀.get? b=none) (fun x hx=>I.sat x (.tail _ hx)) fun x hx=>⟨fun e=>n.1 (List.mem_map.mpr ⟨x,hx,e⟩),I.low x (.tail _ hx)⟩
 refine⟨news,k1,fun h' m' F N=>⟨F.keep,F.above,I.len,?_,?_,?_,I.tabs⟩⟩<;>rw[nk]
 ·exact List.forall_mem_cons.mpr ⟨Fr.sat F,k2 h' fun p hp=>(N p hp).1⟩
 ·exact I.cJ
 ·exact List.forall_mem_cons.mpr ⟨I.low (c.N,bE g.m) (.head _),fun x hx=>I.low x (.tail _ hx)⟩
end
theorem ag{α:Type}{a:α}{p:Prop}(e:none=some a):p:=by contradiction
theorem gL{v:V}{x:Int}:hJ v=some x->v=.int x:=
 V.casesOn (motive:=fun v=>hJ v=some x->v=.int x) v ag (fun _=>ag) (fun _ e=>congrArg V.int (Option.some.inj e)) (fun _=>ag) (fun _=>ag) (fun _=>ag) (fun _=>ag) (fun _=>ag) (fun _=>ag) (fun _=>ag)
theorem k9{v:V}{x:Bool}:jm v=some x->v=.bool x:=
 V.casesOn (motive:=fun v=>jm v=some x->v=.bool x) v ag (fun _ e=>congrArg V.bool (Option.some.inj e)) (fun _=>ag) (fun _=>ag) (fun _=>ag) (fun _=>ag) (fun _=>ag) (fun _=>ag) (fun _=>ag) (fun _=>ag)
theorem gh{v:V}{x:Nat}:gG v=some x->v=.ref x:=
 V.casesOn (motive:=fun v=>gG v=some x->v=.ref x) v ag (fun _=>ag) (fun _=>ag) (fun _=>ag) (fun _=>ag) (fun _ e=>congrArg V.ref (Option.some.inj e)) (fun _=>ag) (fun _=>ag) (fun _=>ag) (fun _=>ag)
theorem nv{v:V}{x:List UInt8}:jn v=some x->v=.bytes x:=
 V.casesOn (motive:=fun v=>jn v=some x->v=.bytes x) v ag (fun _=>ag) (fun _=>ag) (fun _=>ag) (fun _ e=>congrArg V.bytes (Option.some.inj e)) (fun _=>ag) (fun _=>ag) (fun _=>ag) (fun _=>ag) (fun _=>ag)
theorem lg{v:V}{x:Addr}:mH v=some x->v=.af x:=
 V.casesOn (motive:=fun v=>mH v=some x->v=.af x) v ag (fun _=>ag) (fun _=>ag) (fun _=>ag) (fun _=>ag) (fun _=>ag) (fun _ e=>congrArg V.af (Option.some.inj e)) (fun _=>ag) (fun _=>ag) (fun _=>ag)
theorem lh{v:V}{x:Nat}:toS v=some x->v=.str x:=
 V.casesOn (motive:=fun v=>toS v=some x->v=.str x) v ag (fun _=>ag) (fun _=>ag) (fun _ e=>congrArg V.str (Option.some.inj e)) (fun _=>ag) (fun _=>ag) (fun _=>ag) (fun _=>ag) (fun _=>ag) (fun _=>ag)
theorem rn{v:V}{x:String}:toT v=some x->v=.ty x:=
 V.casesOn (motive:=fun v=>toT v=some x->v=.ty x) v ag (fun _=>ag) (fun _=>ag) (fun _=>ag) (fun _=>ag) (fun _=>ag) (fun _=>ag) (fun _ e=>congrArg V.ty (Option.some.inj e)) (fun _=>ag) (fun _=>ag)
theorem rp{v:V}{x:Unit}:toN v=some x->v=.none:=
 V.casesOn (motive:=fun v=>toN v=some x->v=.none) v (fun e=>rfl) (fun _=>ag) (fun _=>ag) (fun _=>ag) (fun _=>ag) (fun _=>ag) (fun _=>ag) (fun _=>ag) (fun _=>ag) (fun _=>ag)
theorem iU{v:O}{x:List V}:hG v=some x->v=.list x:=
 O.casesOn (motive:=fun v=>hG v=some x->v=.list x) v (fun _ e=>congrArg O.list (Option.some.inj e)) (fun _=>ag) (fun _=>ag) (fun _=>ag) (fun _ _=>ag) (fun _=>ag) (fun _=>ag) (fun _ _ _=>ag) (fun _=>ag)
theorem lj{v:O}{x:List V}:oTup v=some x->v=.tuple x:=
 O.casesOn (motive:=fun v=>oTup v=some x->v=.tuple x) v (fun _=>ag) (fun _ e=>congrArg O.tuple (Option.some.inj e)) (fun _=>ag) (fun _=>ag) (fun _ _=>ag) (fun _=>ag) (fun _=>ag) (fun _ _ _=>ag) (fun _=>ag)
theorem rq{v:O}{x:List (Int×V)}:mF v=some x->v=.dict x:=
 O.casesOn (motive:=fun v=>mF v=some x->v=.dict x) v (fun _=>ag) (fun _=>ag) (fun _ e=>congrArg O.dict (Option.some.inj e)) (fun _=>ag) (fun _ _=>ag) (fun _=>ag) (fun _=>ag) (fun _ _ _=>ag) (fun _=>ag)
theorem rt{v:O}{x:List UInt8}:mG v=some x->v=.bx x:=
 O.casesOn (motive:=fun v=>mG v=some x->v=.bx x) v (fun _=>ag) (fun _=>ag) (fun _=>ag) (fun _=>ag) (fun _ _=>ag) (fun _ e=>congrArg O.bx (Option.some.inj e)) (fun _=>ag) (fun _ _ _=>ag) (fun _=>ag)
theorem ya{v:O}{x:Option V}:oCell v=some x->v=.cell x:=
 O.casesOn (motive:=fun v=>oCell v=some x->v=.cell x) v (fun _=>ag) (fun _=>ag) (fun _=>ag) (fun _=>ag) (fun _ _=>ag) (fun _=>ag) (fun _ e=>congrArg O.cell (Option.some.inj e)) (fun _ _ _=>ag) (fun _=>ag)
theorem lk{v:O}{x:Addr×List (Nat×V)}:hH v=some x->v=.inst x.1 x.2:=
 O.casesOn (motive:=fun v=>hH v=some x->v=.inst x.1 x.2) v (fun _=>ag) (fun _=>ag) (fun _=>ag) (fun _=>ag) (fun _ _ e=>congrArg (fun x:Addr×List (Nat×V)=>O.inst x.1 x.2) (Option.some.inj e)) (fun _=>ag) (fun _=>ag) (fun _ _ _=>ag) (fun _=>ag)
section
variable {α β γ:Type} {st st':St}
def Still(F:M α):Prop:=∀ st,(∃ r,F st=.ok r st)∨F st=.no
theorem Still.pure(a:α):Still (Pure.pure a:M α):=fun _=>.inl ⟨a,rfl⟩
theorem Still.no:Still (Lite.no:M α):=fun _=>.inr rfl
theorem Still.ar(o:Option α):Still (Lite.ar o):=fun _=>by cases o with |none=>exact .inr rfl |some a=>exact .inl ⟨a,rfl⟩
theorem ny(F:M α)(k:α->M β)(st:St):(F>>=k) st=M.bind F k st:=rfl
theorem Still.bind{F:M α}{k:α->M β}(h:Still F)(hk:∀ a,Still (k a)):Still (F>>=k):=fun st=>by
 rw[ny];unfold M.bind
 rcases h st with ⟨r,e⟩ |e
 ·rw[e];exact hk r st
 ·rw[e];exact .inr rfl
theorem Still.inv{F:M α}{k:α->M β}{r:β}(h:Still F)(e:(F>>=k) st=.ok r st'):∃ x,F st=.ok x st∧k x st=.ok r st':=by
 rw[ny]at e;unfold M.bind at e
 rcases h st with ⟨x,q⟩ |q
 ·rw[q]at e;exact⟨x,q,e⟩
 ·rw[q]at e;contradiction
theorem iV{o:Option γ}{k:γ->M β}{r:β}(e:(Lite.ar o>>=k) st=.ok r st'):∃ x,o=some x∧k x st=.ok r st':=by
 cases o with
 |none=>contradiction
 |some x=>exact⟨x,rfl,e⟩
theorem lp{o:Option γ}{r:γ}(e:Lite.ar o st=.ok r st'):o=some r:=by
 cases o with
 |none=>contradiction
 |some x=>cases e;rfl
theorem fA{a r:α}(e:(Pure.pure a:M α) st=.ok r st'):r=a:=by cases e;rfl
theorem e8(b:Bool):Still (Lite.guard b):=fun _=>by cases b with |false=>exact .inr rfl |true=>exact .inl ⟨(),rfl⟩
theorem ie{b:Bool}{r:Unit}(e:Lite.guard b st=.ok r st'):b=true:=by cases b with |false=>contradiction |true=>rfl
theorem iW{r:α}{p:Prop}(e:(.no:R α)=.ok r st'):p:=by contradiction
theorem rA{a r:α}(e:(Pure.pure a:M α) st=.ok r st'):st'=st:=by cases e;rfl
theorem Still.b8(F:O->Option α)(a:Nat):Still (Lite.b8 F a):=fun st=>by
 unfold Lite.b8
 cases st.H[a]?.bind F with
 |none=>exact .inr rfl
 |some x=>exact .inl ⟨x,rfl⟩
theorem Still.obj(a:Nat):Still (Lite.obj a):=fun st=>by
 unfold Lite.obj
 cases st.H[a]? with
 |none=>exact .inr rfl
 |some x=>exact .inl ⟨x,rfl⟩
theorem rB{F:O->Option α}{a:Nat}{r:α}(e:Lite.b8 F a st=.ok r st'):∃ o,st.H[a]? =some o∧F o=some r:=by
 unfold Lite.b8 at e
 cases h:st.H[a]?.bind F with
 |none=>rw[h]at e;contradiction
 |some x=>rw[h]at e;cases e;exact Option.bind_eq_some_iff.mp h
theorem rC{a:Nat}{r:O}(e:Lite.obj a st=.ok r st'):st.H[a]? =some r:=by
 unfold Lite.obj at e
 cases h:st.H[a]? with
 |none=>rw[h]at e;contradiction
 |some x=>rw[h]at e;cases e;rfl
end
structure Am where
 c:Cx
 sc:Scope
 env:Env
 A:Around
 L:Addr
 cC:Env
 outer:List Env
 lv:Bool
 d:Nat
structure yb(c:Cx)(sc:Scope)(env:Env):Prop where
 kind:env.scope.kind=.function
 loc:∀ x,sc.names.lookup x=some .local->env.kindOf x=some .local
 bW:∀ x,sc.names.lookup x=some .cell∨sc.names.lookup x=some .free->env.kindOf x=some .cell∨env.kindOf x=some .free
 nz:∀ x,sc.names.lookup x=some .globalImplicit->env.kindOf x=some .globalImplicit
 locals:env.locals=c.N
 globals:env.globals=mainGlobals
 builtins:env.builtins=builtinsNs
 nd:(sc.names.map (·.1)).Nodup
 nb:∀ q∈sc.names,(q.1==("__debug__":Str))=false∧(q.1==("__classdict__":Str))=false
structure bu(m:Am):Prop where
 env:yb m.c m.sc m.env
 frames:m.A.frames=some (m.cC::m.outer)
 ff:m.cC.frame=some m.L
 fe:m.env.frame=some m.L
 fk:∀ e∈m.cC::m.outer,e.scope.kind=.function∧∃ a,e.frame=some a∧a∈m.c.N::m.c.fs.map (·.1)
 dep:m.A.depth+4*(m.d+1)<recursionLimit
 gi:m.A.units+24*(m.d+1)<cLine
 de:m.lv=true->m.A.handled=none
 eH:m.A.guards=some []
structure Loc(c:Cx)(sc:Scope)(env:Env)(g:Gs)(lo:List (Option V)):Prop where
 len:lo.length=sc.names.length
 loc:∀ (i:Nat) (x:Str) (v:Option V),sc.names[i]? =some (x,NameKind.local)->lo[i]? =some v->ct c g v (g.m x)
 bW:∀ (i:Nat) (x:Str) (k:NameKind),sc.names[i]? =some (x,k)->k=.cell∨k=.free->∃ a y z,lo[i]? =some (some (V.ref a))∧g.ρ[a]? =some (y,z)∧env.cells.lookup x=some y
structure Rel(m:Am)(g:Gs)(st:St)(h:Heap):Prop where
 inv:Inv m.c g st.H h
 loc:Loc m.c m.sc m.env g st.lo
structure yc(c:Cx)(g:Gs)(H:Hp)(h:Heap)(e k:Addr)(oe:Obj)(vs:Array Value)(a0:Value):Prop where
 free:ba c g H e
 get:h.get? e=some oe
 cls:oe.cls=.ref k
 data:oe.data=.fields vs
 zero:vs[0]? =some a0
structure yd(c:Cx)(g:Gs)(H:Hp)(h:Heap)(e:Addr)(vs:Array Value)(v:Value)(T:Addr)(oT:Obj)(ts:Array Value):Prop where
 one:vs[1]? =some (.ref T)
 free:ba c g H T
 ne:T≠e
 get:h.get? T=some oT
 data:oT.data=.fields ts
 three:ts[3]? =some v
def ye(c:Cx)(g:Gs)(H:Hp)(h:Heap)(e:Addr)(vs:Array Value)(fl:Option Value):Prop:=Option.casesOn (motive:=fun _=>Prop) fl (vs[1]? =some .none) fun v=>dm fun T oT ts=>yd c g H h e vs v T oT ts
def dr(c:Cx)(g:Gs)(H:Hp)(h:Heap)(e k:Addr)(fl:Option Value):Prop:=dm fun oe vs a0=>yc c g H h e k oe vs a0∧ye c g H h e vs fl
def ExcAt(c:Cx)(g:Gs)(H:Hp)(h:Heap)(L e k:Addr):Prop:=∃ fl,(fl=none∨fl=some .none∨fl=some (rawInt L))∧dr c g H h e k fl
def bI{α β:Type}(m:Am)(g:Gs)(r:R α)(rel:Gs->α->β->Prop)(Q:β->Shared->Prop)(E:Value->Shared->Prop)(s:Shared):Prop:=match r with
 | .ok a st'=>∀ g' h' tk b,Ext g g'->Rel m g' st' h'->rel g' a b->Q b {s with heap:=h',toks:=tk}
 | .exc k st'=>∀ g' h' tk e,Ext g g'->Rel m g' st' h'->ExcAt m.c g' st'.H h' m.L e k->E (.ref e) {s with heap:=h',toks:=tk}
 | .no=>False
def Wp{α β:Type}(m:Am)(g:Gs)(st:St)(t:Sem β)(r:R α)(rel:Gs->α->β->Prop):Prop:=
 ∀ (s:Shared) (Q:β->Shared->Prop) (E:Value->Shared->Prop),Rel m g st s.heap->bI m g r rel Q E s->wpAny (model m.c.prog m.c.w) m.A t Q E s
def nA{α β:Type}(m:Am)(t:Sem β)(f:M α)(rel:Gs->α->β->Prop):Prop:=∀ g st,Wp m g st t (f st) rel
abbrev Am.VR(m:Am)(g:Gs):V->Value->Prop:=Lite.VR m.c g
abbrev Am.ay(m:Am)(g:Gs):List V->List Value->Prop:=Lite.ay m.c g
def eI:Gs->Bool->Bool->Prop:=fun _ a b=>a=b
def df:Gs->Unit->Unit->Prop:=fun _ _ _=>True
section
variable {α γ:Type} {st:St} {Pr:R α->Prop}
theorem gj{o:Option γ}{f:γ->M α}(h0:Pr .no)(h:∀ a,o=some a->Pr (f a st)):Pr ((Lite.ar o>>=f) st):=by
 cases o with
 |none=>exact h0
 |some a=>exact h a rfl
theorem fB{F:O->Option γ}{C:γ->O}(hF:∀ {o x},F o=some x->o=C x){a:Nat}{f:γ->M α}(h0:Pr .no)(h:∀ x,st.H[a]? =some (C x)->Pr (f x st)):Pr ((Lite.b8 F a>>=f) st):=by
 show Pr (M.bind (Lite.b8 F a) f st)
 unfold M.bind Lite.b8
 cases e:st.H[a]? with
 |none=>exact h0
 |some o=>
  dsimp only[Option.bind]
  cases e':F o with
  |none=>exact h0
  |some x=>exact h x (e.trans (congrArg some (hF e')))
theorem gM{F:M γ}{f:γ->M α}(hF:Still F)(h0:Pr .no)(h:∀ x,F st=.ok x st->Pr (f x st)):Pr ((F>>=f) st):=by
 rw[ny];unfold M.bind
 rcases hF st with ⟨x,e⟩ |e
 ·rw[e];exact h x e
 ·rw[e];exact h0
theorem rD{a:Nat}{f:O->M α}(h0:Pr .no)(h:∀ o,st.H[a]? =some o->Pr (f o st)):Pr ((Lite.obj a>>=f) st):=by
 show Pr (M.bind (Lite.obj a) f st)
 unfold M.bind Lite.obj
 cases e:st.H[a]? with
 |none=>exact h0
 |some o=>exact h o e
end
section
variable {α β γ δ:Type} {m:Am} {g:Gs} {st:St}
theorem bI.shift{r:R α}{rel:Gs->α->β->Prop}{Q:β->Shared->Prop}{E:Value->Shared->Prop}{s:Shared}{g₁:Gs}(x:Ext g g₁){h:Heap}{tk:Tok}
  (P:bI m g r rel Q E s):bI m g₁ r rel Q E {s with heap:=h,toks:=tk}:=by
 cases r with
 |ok a st'=>exact fun g' h' tk' b e R q=>P g' h' tk' b (x.trans e) R q
 |exc k st'=>exact fun g' h' tk' b e R q=>P g' h' tk' b (x.trans e) R q
 |no=>exact P.elim
theorem cg{f:M α}{k:α->M β}{a:α}{st₁:St}(e:f st=.ok a st₁):(f>>=k) st=k a st₁:=by
 show M.bind f k st=_
 unfold M.bind;rw[e]
theorem dt{f:M α}{k:α->M β}{a:Addr}{st₁:St}(e:f st=.exc a st₁):(f>>=k) st=.exc a st₁:=by
 show M.bind f k st=_
 unfold M.bind;rw[e]
theorem cL{f:M α}{k:α->M β}(e:f st=.no):(f>>=k) st=.no:=by
 show M.bind f k st=_
 unfold M.bind;rw[e]
theorem Wp.bind{t:Sem β}{k:β->Sem δ}{f:M α}{f':α->M γ}{rel:Gs->α->β->Prop}{rel':Gs->γ->δ->Prop}(h:Wp m g st t (f st) rel)
  (h':∀ a st₁ g₁ b,f st=.ok a st₁->Ext g g₁->rel g₁ a b->Wp m g₁ st₁ (k b) (f' a st₁) rel'):Wp m g st (t>>=k) ((f>>=f') st) rel':=by
 intro s Q E R P
 refine wpAny_bind (h s _ E R ?_)
 cases e:f st with
 |ok a st₁=>
  rw[cg e]at P
  exact fun g₁ h₁ tk b x R₁ q=>h' a st₁ g₁ b e x q _ Q E R₁ (P.shift x)
 |exc k st₁=>
  rw[dt e]at P
  exact P
 |no=>
  rw[cL e]at P
  exact P.elim
theorem Wp.pure{a:α}{b:β}{rel:Gs->α->β->Prop}(q:rel g a b):Wp m g st (Pure.pure b:Sem β) ((Pure.pure a:M α) st) rel:=
 fun s Q E R P=>wpAny_pure (P g s.heap s.toks b (.refl g) R q)
theorem Wp.look{t:Sem β}{a:α}{b:β}{rel:Gs->α->β->Prop}(q:rel g a b)(l:∀ h,Inv m.c g st.H h->Looks (model m.c.prog m.c.w) h t b):Wp m g st t (.ok a st) rel:=
 fun s Q E R P=>l _ R.inv m.A Q E s (fun _ _ e=>e) (P g s.heap s.toks b (.refl g) R q)
theorem Wp.no{t:Sem β}{rel:Gs->α->β->Prop}:Wp m g st t (.no:R α) rel:=fun _ _ _ _ P=>P.elim
theorem Wp.of_eq{t t':Sem β}{r:R α}{rel:Gs->α->β->Prop}(e:t=t')(h:Wp m g st t' r rel):Wp m g st t r rel:=e▸h
theorem Wp.res{t:Sem β}{r r':R α}{rel:Gs->α->β->Prop}(e:r=r')(h:Wp m g st t r' rel):Wp m g st t r rel:=e▸h
theorem Wp.mono{t:Sem β}{r:R α}{rel rel':Gs->α->β->Prop}(h:Wp m g st t r rel)(k:∀ g' a b,rel g' a b->rel' g' a b):Wp m g st t r rel':=
 fun s Q E R P=>h s Q E R (by
  cases r with
  |ok a st'=>exact fun g' h' tk b x R' q=>P g' h' tk b x R' (k _ _ _ q)
  |exc k st'=>exact P
  |no=>exact P)
theorem Wp.intro{t:Sem β}{a:α}{st':St}{rel:Gs->α->β->Prop}
  (h:∀ (s:Shared) (Q:β->Shared->Prop) (E:Value->Shared->Prop),Rel m g st s.heap->
   (∀ g' h' tk b,Ext g g'->Rel m g' st' h'->rel g' a b->Q b {s with heap:=h',toks:=tk})->wpAny (model m.c.prog m.c.w) m.A t Q E s):Wp m g st t (.ok a st') rel:=h
theorem Wp.guard{b:Bool}{f:M α}{t:Sem β}{rel:Gs->α->β->Prop}(h:b=true->Wp m g st t (f st) rel):Wp m g st t ((do guard b;f) st) rel:=by
 cases b with
 |false=>exact Wp.no
 |true=>exact h rfl
theorem Wp.aK{b:Bool}{f:Unit->M α}{t:Sem β}{rel:Gs->α->β->Prop}(h:b=true->Wp m g st t (f () st) rel):Wp m g st t ((Lite.guard b>>=f) st) rel:=by
 cases b with
 |false=>exact Wp.no
 |true=>exact h rfl
theorem Wp.ar{o:Option γ}{f:γ->M α}{t:Sem β}{rel:Gs->α->β->Prop}(h:∀ a,o=some a->Wp m g st t (f a st) rel):Wp m g st t ((Lite.ar o>>=f) st) rel:=gj (Pr:=fun r=>Wp m g st t r rel) Wp.no h
theorem Wp.iX{o:Option α}{t:Sem β}{rel:Gs->α->β->Prop}(h:∀ a,o=some a->Wp m g st t (.ok a st) rel):Wp m g st t (Lite.ar o st) rel:=by
 cases o with
 |none=>exact Wp.no
 |some a=>exact h a rfl
theorem Wp.bH{a:Nat}{f:List V->M α}{t:Sem β}{rel:Gs->α->β->Prop}(h:∀ x,st.H[a]? =some (.list x)->Wp m g st t (f x st) rel):Wp m g st t ((Lite.bH a>>=f) st) rel:=fB iU (Pr:=fun r=>Wp m g st t r rel) Wp.no h
theorem Wp.ew{a:Nat}{f:List V->M α}{t:Sem β}{rel:Gs->α->β->Prop}(h:∀ x,st.H[a]? =some (.tuple x)->Wp m g st t (f x st) rel):Wp m g st t ((Lite.ew a>>=f) st) rel:=fB lj (Pr:=fun r=>Wp m g st t r rel) Wp.no h
theorem Wp.dictAt{a:Nat}{f:List (Int×V)->M α}{t:Sem β}{rel:Gs->α->β->Prop}(h:∀ x,st.H[a]? =some (.dict x)->Wp m g st t (f x st) rel):Wp m g st t ((Lite.dictAt a>>=f) st) rel:=fB rq (Pr:=fun r=>Wp m g st t r rel) Wp.no h
theorem Wp.ey{a:Nat}{f:List UInt8->M α}{t:Sem β}{rel:Gs->α->β->Prop}(h:∀ x,st.H[a]? =some (.bx x)->Wp m g st t (f x st) rel):Wp m g st t ((Lite.ey a>>=f) st) rel:=fB rt (Pr:=fun r=>Wp m g st t r rel) Wp.no h
theorem Wp.dM{a:Nat}{f:Addr×List (Nat×V)->M α}{t:Sem β}{rel:Gs->α->β->Prop}(h:∀ C fs,st.H[a]? =some (.inst C fs)->Wp m g st t (f (C,fs) st) rel):Wp m g st t ((Lite.dM a>>=f) st) rel:=fB lk (Pr:=fun r=>Wp m g st t r rel) Wp.no fun x=>h x.1 x.2
theorem Wp.bJ{F:M γ}{f:γ->M α}{t:Sem β}{rel:Gs->α->β->Prop}(hF:Still F)(h:∀ x,F st=.ok x st->Wp m g st t (f x st) rel):Wp m g st t ((F>>=f) st) rel:=gM (Pr:=fun r=>Wp m g st t r rel) hF Wp.no h
theorem Wp.obj{a:Nat}{f:O->M α}{t:Sem β}{rel:Gs->α->β->Prop}(h:∀ o,st.H[a]? =some o->Wp m g st t (f o st) rel):Wp m g st t ((Lite.obj a>>=f) st) rel:=rD (Pr:=fun r=>Wp m g st t r rel) Wp.no h
theorem Wp.bh{v:V}{f:Int->M α}{t:Sem β}{rel:Gs->α->β->Prop}(h:∀ i,v=.int i->Wp m g st t (f i st) rel):Wp m g st t ((Lite.bh v>>=f) st) rel:=Wp.ar fun i e=>h i (gL e)
theorem Wp.dz{v:V}{f:Bool->M α}{t:Sem β}{rel:Gs->α->β->Prop}(h:∀ i,v=.bool i->Wp m g st t (f i st) rel):Wp m g st t ((Lite.dz v>>=f) st) rel:=Wp.ar fun i e=>h i (k9 e)
theorem Wp.bq{v:V}{f:Nat->M α}{t:Sem β}{rel:Gs->α->β->Prop}(h:∀ i,v=.ref i->Wp m g st t (f i st) rel):Wp m g st t ((Lite.bq v>>=f) st) rel:=Wp.ar fun i e=>h i (gh e)
theorem Wp.eV{v:V}{f:List UInt8->M α}{t:Sem β}{rel:Gs->α->β->Prop}(h:∀ i,v=.bytes i->Wp m g st t (f i st) rel):Wp m g st t ((Lite.eV v>>=f) st) rel:=Wp.ar fun i e=>h i (nv e)
theorem Wp.ek{v:V}{f:Nat->M α}{t:Sem β}{rel:Gs->α->β->Prop}(h:∀ i,v=.str i->Wp m g st t (f i st) rel):Wp m g st t ((Lite.ek v>>=f) st) rel:=Wp.ar fun i e=>h i (lh e)
theorem Wp.hM{v:V}{f:Addr->M α}{t:Sem β}{rel:Gs->α->β->Prop}(h:∀ i,v=.af i->Wp m g st t (f i st) rel):Wp m g st t ((Lite.hM v>>=f) st) rel:=Wp.ar fun i e=>h i (lg e)
theorem Wp.iK{v:V}{f:String->M α}{t:Sem β}{rel:Gs->α->β->Prop}(h:∀ i,v=.ty i->Wp m g st t (f i st) rel):Wp m g st t ((Lite.iK v>>=f) st) rel:=Wp.ar fun i e=>h i (rn e)
theorem Rel.keeps{h h':Heap}(R:Rel m g st h)(k:∀ b o,h.get? b=some o->h'.get? b=some o):Rel m g st h':=⟨R.inv.keeps k,R.loc⟩
theorem Loc.mono{c:Cx}{sc:Scope}{env:Env}{g g':Gs}{lo:List (Option V)}(l:Loc c sc env g lo)(x:Ext g g')(hm:g'.m=g.m):Loc c sc env g' lo:=
 ⟨l.len,fun i y v e e'=>hm▸(l.loc i y v e e').mono x,fun i y k e e'=>let ⟨a,u,z,h1,h2,h3⟩:=l.bW i y k e e';⟨a,u,z,h1,x.at h2,h3⟩⟩
theorem Rel.gK{h:Heap}{a:Addr}{o:O}{ob:Obj}(R:Rel m g st h)(hf:ba m.c g st.H a)(n:o.cU=false)
  (ha:h.get? a=some ob) (hP:bB m.c (g.lay (a,a)) (a,a) o ob):Rel m (g.lay (a,a)) {st with H:=st.H++[o]} h:=
 ⟨R.inv.gK hf n ha hP,R.loc.mono ⟨List.prefix_append ..,fun _ q=>q⟩ rfl⟩
theorem Rel.last{h:Heap}{p:Addr×Addr}(R:Rel m g st h):(g.lay p).ρ[st.H.length]? =some p:=by
 show(g.ρ++[p])[st.H.length]? =_
 rw[<-R.inv.len];simp
theorem Rel.put{h h':Heap}{i:Nat}{p:Addr×Addr}{o o':O}{ob:Obj}(R:Rel m g st h)(hp:g.ρ[i]? =some p)(ho:st.H[i]? =some o)(n1:o.cU=false)(n2:o'.cU=false)
  (hs:∀ b,b≠p.1->h'.get? b=h.get? b) (hob:h'.get? p.1=some ob) (hP:bB m.c g p o' ob):Rel m g {st with H:=st.H.set i o'} h':=⟨R.inv.put hp ho n1 n2 hs hob hP,R.loc⟩
theorem VR.at{c:Cx}{a:Nat}{r:Value}(v:VR c g (.ref a) r):∃ x y,g.ρ[a]? =some (x,y)∧r=.ref x:=by
 obtain⟨x,y,e,h⟩:=v
 exact⟨x,y,h,e⟩
end
section
variable {m:Am} {g:Gs} {st:St}
theorem rE{x:Str}:∀ {l:List (Str×NameKind)} {i:Nat} {k:NameKind} {y:Str},l.findIdx? (fun p=>p.1==x)=some i->l[i]? =some (y,k)->y=x∧l.lookup x=some k
 | [],_,_,_,e,_=>by simp at e
 | (z,k')::r,i,k,y,e,e'=>by
  rw[List.findIdx?_cons]at e
  by_cases h:(z==x)=true
  ·rw[h]at e
   simp only[if_true,Option.some.injEq]at e
   subst e
   simp only[List.getElem?_cons_zero,Option.some.injEq,Prod.mk.injEq]at e'
   obtain⟨rfl,rfl⟩:=e'
   have:z=x:=beq_iff_eq.mp h
   subst this
   exact⟨rfl,by rw[List.lookup_cons,beq_self_eq_true]⟩
  ·simp only[h,if_false,Option.map_eq_some_iff,Bool.false_eq_true]at e
   obtain⟨j,e1,rfl⟩:=e
   rw[List.getElem?_cons_succ]at e'
   obtain⟨a,b⟩:=rE e1 e'
   refine⟨a,?_⟩
   rw[List.lookup_cons]
   have:(x==z)=false:=by
    cases q:x==z with
    |false=>rfl
    |true=>exact absurd (by rw[beq_iff_eq.mp q];exact beq_self_eq_true _) h
   rw[this];exact b
def yf(sc:Scope)(x:Str)(r:Ref):Prop:=Ref.casesOn (motive:=fun _=>Prop) r (fun i=>sc.names[i]? =some (x,.local)∧sc.names.lookup x=some .local)
 (fun i=>∃ k,bp (sc.names[i]? =some (x,k)) (k=.cell∨k=.free) (sc.names.lookup x=some .cell∨sc.names.lookup x=some .free)) (sc.names.lookup x=some .globalImplicit∧∃ q∈sc.names,q.1=x) True
theorem lq(sc:Scope)(x:Str):yf sc x (dn sc x):=by
 unfold dn
 cases e:sc.names.findIdx? (fun p=>p.1==x)with
 |none=>exact trivial
 |some i=>
  dsimp only
  cases e':sc.names[i]? with
  |none=>exact trivial
  |some q=>
   obtain⟨y,k⟩:=q
   obtain⟨rfl,hl⟩:=rE e e'
   cases k with
   | «local»=>exact⟨e',hl⟩
   |cell=>exact⟨_,e',.inl rfl,.inl hl⟩
   |free=>exact⟨_,e',.inr rfl,.inr hl⟩
   |globalExplicit=>exact trivial
   |globalImplicit=>exact⟨hl,_,List.mem_of_getElem? e',rfl⟩
def BMod(h:Heap)(mg:Str->Option Value):Prop:=bV fun bm o=>(kJ (mg "__builtins__"=some (.ref bm)) (bm≠builtinsNs) (h.get? bm=some o) (o.cls=.type "module") (o.dict=some builtinsNs) (o.data=.plain))
structure ig(c:Cx)(P:aQ)(mg mb:Str->Option Value):Prop where
 g:c.b₀.Ns mainGlobals mg
 b:c.b₀.Ns builtinsNs mb
 bm:BMod c.b₀ mg
 all:∀ x v,P.G.lookup x=some v->∃ r,(∀ g,VR c g v r)∧(mg x=some r∨(mg x=none∧mb x=some r))
theorem rF{P:aQ}(sc:Scope)(x:Str)(st:St):(∃ v,name P sc x st=.ok v st)∨name P sc x st=.no:=by
 unfold name
 cases dn sc x with
 |bad=>exact .inr rfl
 |loc i=>
  dsimp only[ae]
  cases st.lo[i]? with
  |none=>exact .inr rfl
  |some v=>cases v with
   |none=>exact .inr rfl
   |some v=>exact .inl ⟨v,rfl⟩
 |bW i=>
  dsimp only[aO]
  cases (fN i st).bind (·.2)with
  |none=>exact .inr rfl
  |some v=>exact .inl ⟨v,rfl⟩
 |glob=>
  dsimp only
  cases P.G.lookup x with
  |none=>exact .inr rfl
  |some v=>exact .inl ⟨v,rfl⟩
theorem yg{i:Nat}{st:St}{v:V}(e:ae i st=.ok v st):st.lo[i]? =some (some v):=by
 unfold ae at e
 cases h:st.lo[i]? with
 |none=>rw[h]at e;contradiction
 |some w=>cases w with
  |none=>rw[h]at e;contradiction
  |some w=>rw[h]at e;cases e;rfl
theorem rG{i:Nat}{st:St}{p:Nat×Option V}(e:fN i st=some p):st.lo[i]? =some (some (.ref p.1))∧st.H[p.1]? =some (.cell p.2):=by
 obtain⟨a,h1,h2⟩:=Option.bind_eq_some_iff.mp e
 obtain⟨v,h3,h4⟩:=Option.bind_eq_some_iff.mp h1
 obtain⟨w,h5,rfl⟩:=Option.map_eq_some_iff.mp h2
 obtain⟨o,h6,h7⟩:=Option.bind_eq_some_iff.mp h5
 rw[ya h7]at h6
 rw[gh h4]at h3
 exact⟨Option.join_eq_some_iff.mp h3,h6⟩
theorem yh{i:Nat}{st:St}{v:V}(e:aO i st=.ok v st):∃ k,fN i st=some (k,some v):=by
 unfold aO at e
 cases h:fN i st with
 |none=>rw[h]at e;contradiction
 |some p=>
  obtain⟨a,w⟩:=p
  cases w with
  |none=>rw[h]at e;contradiction
  |some w=>rw[h]at e;cases e;exact⟨a,rfl⟩
theorem nB{a b:Nat}(e:V.ref a=V.ref b):a=b:=Option.some.inj (congrArg gG e)
theorem yi{M:Model}{A:Around}{E:Value->Shared->Prop}{s:Shared}{env:Env}{x:Str}{Q:Value->Shared->Prop}(hk:env.scope.kind=.function)(hx:env.kindOf x=some .globalImplicit)(h:wpAny M A (loadGlobal env x) Q E s)(hd:(x==("__debug__":Str))=false):wpAny M A (loadName env x) Q E s:=fun Γ p hΓ=>by
 have w:=Name_function_global (pos:=p) hk hx h hd Γ p hΓ
 rw[eval_Name env x p hd,Sem.wp_bind']at w
 exact w
theorem lr{P:aQ}{mg mb:Str->Option Value}(G:ig m.c P mg mb)(O:bu m){x:Str}{v:V}(e:name P m.sc x st=.ok v st):(x==("__debug__":Str))=false∧
  ∀ (s:Shared) (Q:Value->Shared->Prop) (E:Value->Shared->Prop),Rel m g st s.heap->(∀ r,m.VR g v r->Q r s)->wpAny (model m.c.prog m.c.w) m.A (loadName m.env x) Q E s:=by
 have nr:=lq m.sc x
 unfold name at e
 generalize dn m.sc x=r at nr e
 cases r with
 |bad=>contradiction
 |loc i=>
  have hv:=yg e
  refine⟨(O.env.nb _ (List.mem_of_getElem? nr.1)).1,fun s Q E R k=>?_⟩
  obtain⟨r,hm,z⟩:=R.loc.loc i x _ nr.1 hv
  exact wpAny_loadName_local O.env.kind (O.env.loc x nr.2) (O.env.locals▸R.inv.ns) hm (k r z)
 |bW i=>
  obtain⟨_,a,hk,b⟩:=nr
  obtain⟨kk,hc⟩:=yh e
  have hd:=O.env.nb _ (List.mem_of_getElem? a)
  refine⟨hd.1,fun s Q E R k=>?_⟩
  obtain⟨aa,y,z,e1,e2,e3⟩:=R.loc.bW i x _ a hk
  obtain⟨c1,c2⟩:=rG hc
  rw[<-nB (Option.some.inj (Option.some.inj (e1.symm.trans c1)))]at c2
  obtain⟨ob,h1,_,h2,r,rfl,h3⟩:=R.inv.obj e2 c2
  rcases O.env.bW x b with w |w
  ·exact wpAny_loadName_cell O.env.kind w e3 ⟨ob,h1,h2⟩ (k r h3)
  ·exact wpAny_loadName_free O.env.kind w e3 ⟨ob,h1,h2⟩ (k r h3) hd.2
 |glob=>
  obtain⟨b,q0,hq0,rfl⟩:=nr
  have hd:=(O.env.nb _ hq0).1
  refine⟨hd,fun s Q E R k=>?_⟩
  obtain⟨r,h1,h2⟩:=G.all _ _ (lp e)
  have ng:s.heap.Ns m.env.globals mg:=by rw[O.env.globals];exact G.g.keeps R.inv.base
  have nb:s.heap.Ns m.env.builtins mb:=by rw[O.env.builtins];exact G.b.keeps R.inv.base
  refine yi O.env.kind (O.env.nz _ b) ?_ hd
  rcases h2 with h2 |h2
  ·exact loadGlobal_global ng h2 (k r (h1 g))
  ·exact loadGlobal_builtin ng h2.1 nb h2.2 (k r (h1 g))
theorem Wp.named{P:aQ}{x:Str}{t:Sem Value}(h:∀ v,name P m.sc x st=.ok v st->Wp m g st t (.ok v st) m.VR):Wp m g st t (name P m.sc x st) m.VR:=by
 rcases rF (P:=P) m.sc x st with ⟨v,e⟩ |e
 ·rw[e];exact h v e
 ·rw[e];exact Wp.no
theorem nC{P:aQ}{mg mb:Str->Option Value}(G:ig m.c P mg mb)(O:bu m)(x:Str)(pos:Pos):nA m (eval (.Name x pos) m.env) (name P m.sc x) m.VR:=fun g st=>
 Wp.named fun v e=>have L:=lr (g:=g) G O e;Wp.intro fun s Q E R k=>wpAny_Name (L.2 s Q E R fun r z=>k g s.heap s.toks r (.refl g) R z) L.1
theorem yj{P:aQ}{mg mb:Str->Option Value}(G:ig m.c P mg mb)(O:bu m)(x:Str):Wp m g st (loadName m.env x) (name P m.sc x st) m.VR:=
 Wp.named fun v e=>have L:=lr (g:=g) G O e;Wp.intro fun s Q E R k=>L.2 s Q E R fun r z=>k g s.heap s.toks r (.refl g) R z
end
section
variable {m:Am} {g:Gs} {st:St} {α:Type}
theorem VR.int_inv{c:Cx}{i:Int}{r:Value}(v:VR c g (.int i) r):∃ t,r=.int i t:=v
theorem VR.bool_inv{c:Cx}{i:Bool}{r:Value}(v:VR c g (.bool i) r):r=.bool i:=v
theorem VR.nD{c:Cx}{i:List UInt8}{r:Value}(v:VR c g (.bytes i) r):∃ t,r=.bytes i.toArray t:=v
theorem VR.str_inv{c:Cx}{k:Nat}{r:Value}(v:VR c g (.str k) r):∃ x t,c.T[k]? =some x∧r=.str x t:=by
 obtain⟨x,t,e,h⟩:=v
 exact⟨x,t,h,e⟩
theorem Wp.val{t:Sem Value}{v:V}(h:∀ (s:Shared) (Q:Value->Shared->Prop) (E:Value->Shared->Prop),Rel m g st s.heap->(∀ r tk,m.VR g v r->Q r {s with toks:=tk})->wpAny (model m.c.prog m.c.w) m.A t Q E s):
  Wp m g st t (.ok v st) m.VR:=
 fun s Q E R P=>h s Q E R fun r tk q=>P g s.heap tk r (.refl g) R q
theorem nE{a:Int}(h:a.natAbs<2 ^ 64):Builtin.Int.intBits a<=64:=by
 refine intBits_le_64 ?_ ?_<;>omega
theorem yk{op:Operator}{a b:Int}{t u:Tok}:Wp m g st (binaryOp op (.int a t) (.int b u)) (mN op a b st) m.VR:=by
 unfold mN
 cases op with
 |Add=>exact Wp.val fun s Q E R k=>add_int (k _ _ (.int _ _))
 |Sub=>exact Wp.val fun s Q E R k=>sub_int (k _ _ (.int _ _))
 |Mult=>
  refine Wp.aK fun hg=>Wp.val fun s Q E R k=>mul_int (k _ _ (.int _ _)) ?_
  rcases Bool.or_eq_true_iff.mp hg with q |q
  ·exact IntMulOk.of_left (nE (of_decide_eq_true q))
  ·exact IntMulOk.of_right (nE (of_decide_eq_true q))
 |FloorDiv=>
  refine Wp.aK fun hg=>Wp.val fun s Q E R k=>?_
  obtain⟨q1,q2⟩:=Bool.and_eq_true_iff.mp hg
  have q1:=of_decide_eq_true q1
  have q2:=of_decide_eq_true q2
  refine AutoIntOps.floordiv_1 (by simpa using q1) ?_ (k _ _ (.int _ _))
  unfold Builtin.divisionGoesByPylong
  have:¬ ((if (b==0)=true then 0 else b.natAbs.log2/30+1)>300):=by
   rw[if_neg (by simpa using q1)]
   have:b.natAbs.log2<64:=by
    have h0:b.natAbs≠0:=by omega
    exact(Nat.log2_lt h0).mpr q2
   omega
  simp only[this,decide_false,Bool.false_and]
  decide
 |Mod=>
  refine Wp.aK fun hg=>Wp.val fun s Q E R k=>?_
  exact mod_int' (of_decide_eq_true hg) (k _ _ (.int _ _))
 |Pow=>
  refine Wp.aK fun hg=>Wp.val fun s Q E R k=>?_
  simp only[Bool.and_eq_true,decide_eq_true_eq]at hg
  obtain⟨⟨⟨h1,h2⟩,h3⟩,h4⟩:=hg
  by_cases hb:b=0
  ·subst hb
   exact AutoIntOps.pow_0 (by decide) (by decide) (k _ _ (by show VR _ _ (.int (a ^ Int.toNat 0)) _;simp only[show Int.toNat 0=0 from rfl,Int.pow_zero];exact .int _ _))
  ·refine AutoIntOps.pow_4 h1 (by simpa using hb) (by simp;omega) (by simp;omega) ?_ (k _ _ (.int _ _))
   have:=nE (a:=a) (by omega)
   unfold Builtin.Int.intTooBig bitsLine
   simp only[decide_eq_true_eq,Nat.reducePow]
   have h5:(Builtin.Int.intBits a:Int)<=64:=by omega
   have:(Builtin.Int.intBits a:Int)*b<=64*90:=Int.mul_le_mul h5 h2 h1 (by decide)
   omega
 |RShift=>
  refine Wp.aK fun hg=>Wp.val fun s Q E R k=>?_
  exact rshift_int (of_decide_eq_true hg) (k _ _ (.int _ _))
 |BitAnd=>exact Wp.val fun s Q E R k=>and_int (k _ _ (.int _ _))
 |_=>exact Wp.no
theorem nF{op:Operator}{a b:V}{ra rb:Value}(va:m.VR g a ra)(vb:m.VR g b rb):Wp m g st (inplaceOp op ra rb) (bF op a b st) m.VR:=by
 refine Wp.bh fun i hi=>Wp.bh fun j hj=>?_
 subst hi hj
 obtain⟨t,rfl⟩:=va.int_inv
 obtain⟨u,rfl⟩:=vb.int_inv
 cases op with
 |Add=>exact Wp.val fun s Q E R k=>iadd_int (k _ _ (.int _ _))
 |Sub=>exact Wp.val fun s Q E R k=>isub_int (k _ _ (.int _ _))
 |_=>exact Wp.no
theorem Inv.list{c:Cx}{H:Hp}{h:Heap}(I:Inv c g H h){a:Nat}{x y:Addr}{xs:List V}(hp:g.ρ[a]? =some (x,y))(ho:H[a]? =some (.list xs)):∃ vs,h.IsList x vs.toArray∧ay c g xs vs:=by
 obtain⟨ob,h1,vs,n,rfl,h4⟩:=I.obj hp ho
 exact⟨vs,⟨_,h1,rfl,n,rfl⟩,h4⟩
theorem Inv.ij{c:Cx}{H:Hp}{h:Heap}(I:Inv c g H h){a:Nat}{x y:Addr}{xs:List V}(hp:g.ρ[a]? =some (x,y))(ho:H[a]? =some (.list xs)):∃ vs n,h.get? x=some {cls:=.type "list",data:=.seq vs.toArray n}∧ay c g xs vs:=by
 obtain⟨ob,h1,vs,n,rfl,h4⟩:=I.obj hp ho
 exact⟨vs,n,h1,h4⟩
theorem ay.append{c:Cx}{xs ys:List V}{vs ws:List Value}(a:ay c g xs vs)(b:ay c g ys ws):ay c g (xs++ys) (vs++ws):=aC.fold a b fun _ _ _ _ h _ ih=>.cons h ih
theorem aC.length{α β:Type}{R:α->β->Prop}{xs:List α}{vs:List β}(a:aC R xs vs):xs.length=vs.length:=aC.fold a rfl fun _ _ _ _ _ _ ih=>congrArg (·+1) ih
theorem ay.length{c:Cx}{xs:List V}{vs:List Value}(a:ay c g xs vs):xs.length=vs.length:=aC.length a
theorem aC.get{α β:Type}{R:α->β->Prop}{xs:List α}{vs:List β}(a:aC R xs vs){i:Nat}{x:α}(e:xs[i]? =some x):∃ v,vs[i]? =some v∧R x v:=by
 induction a using aC.ind generalizing i with
 |nil=>exact ag e
 | @cons a b as bs h _ ih=>
  cases i with
  |zero=>exact⟨b,rfl,Option.some.inj e▸h⟩
  |succ i=>exact ih (i:=i) e
theorem ay.get{c:Cx}{xs:List V}{vs:List Value}(a:ay c g xs vs){i:Nat}{x:V}(e:xs[i]? =some x):∃ v,vs[i]? =some v∧VR c g x v:=aC.get a e
theorem ay.replicate{c:Cx}{x:V}{v:Value}(h:VR c g x v):∀ n,ay c g (List.replicate n x) (List.replicate n v)
 | 0=>.nil
 |n+1=>.cons h (ay.replicate h n)
theorem ik:sizeLine=16777216:=rfl
theorem lu:lim=1048576:=rfl
theorem Wp.newList{t:Sem Value}{ys:List V}(h:∀ (s:Shared) (Q:Value->Shared->Prop) (E:Value->Shared->Prop) (news:List (Addr×Obj)),Rel m g st s.heap->Fr m.c.b₀ m.c.N s.heap g.m->News m.c.b₀ m.c.N s.heap news->
   (∀ h' tk ob,Fr m.c.b₀ m.c.N h' g.m->News m.c.b₀ m.c.N h' ((s.heap.objs.size,ob)::news)->bB m.c g (0,0) (.list ys) ob->Q (.ref s.heap.objs.size) {s with heap:=h',toks:=tk})->wpAny (model m.c.prog m.c.w) m.A t Q E s):
  Wp m g st t (.ok (.ref st.H.length) {st with H:=st.H++[.list ys]}) m.VR:=by
 refine Wp.intro fun s Q E R k=>?_
 obtain⟨news,N,back⟩:=R.inv.ledger
 refine h s Q E news R R.inv.fr N fun h' tk ob F' N' hob=>?_
 have I':Inv m.c g st.H h':=back h' g.m F' fun p hp=>N' p (.tail _ hp)
 have R':Rel m g st h':=⟨I',R.loc⟩
 have fr:=R.inv.free (dq s.heap)
 have R2:=R'.gK (o:=.list ys) fr rfl (N' _ (.head _)).1 (bB.mono (dc g _) hob)
 exact k _ h' tk _ (dc g _) R2 (.ref (R'.last))
theorem yl(v:Value)(n:Nat):∀ acc:Array Value,List.foldl (fun x1 x2=>x1++x2) acc (List.replicate n #[v])=acc++(List.replicate n v).toArray:=by
 induction n with
 |zero=>intro acc;simp
 |succ n ih=>intro acc;simp only[List.replicate_succ,List.foldl_cons,ih,List.replicate_succ];apply Array.ext';simp
theorem ym{s:Shared}{A:Around}{prog:Program}{w:World}{E:Value->Shared->Prop}{h₀:Heap}{L:Addr}{mm:Str->Option Value}{news:List (Addr×Obj)}{l:Addr}{items:Array Value}{x:Int}{u:Tok}{Q:Value->Shared->Prop}
  (hl:s.heap.IsList l items) (hx:x<2 ^ 40) (hsz:items.size*x.toNat<=2 ^ 21) (hlo: -(2 ^ 40)<=x)
  {Fm:Fr h₀ L s.heap mm} {N:News h₀ L s.heap news}
  (h:∀ h',Fr h₀ L h' mm->News h₀ L h' ((s.heap.objs.size,{cls:=.type "list",data:=.seq (List.foldl (fun x1 x2=>x1++x2) #[] (List.replicate (if items.isEmpty=true then 0 else x.toNat) items))})::news)->Q (.ref s.heap.objs.size) {s with heap:=h'}):
  wpAny (model prog w) A (binaryOp .Mult (.ref l) (.int x u)) Q E s:=by
 obtain⟨⟨oc,od,oda,osl⟩,ho,hc,k,hd⟩:=hl
 dsimp only at hc hd
 subst hc hd
 exact wpAny_binaryOp_repeat_ref (T:="list") (U:="int") (by decide) ⟨_,ho,rfl⟩ (fun s'=>typeIs_int s' x u) noFill_list_mul F.fills_int_mul F.slot_int_rmul repeat_list F.slot_int_index.lookup
  (call_meets F.slot_int_rmul (typeIs_int s x u) F.entry_int_rmul (F.args_int_rmul_2 _ _) (lm_int_rmul_list_any x u l items k od osl)
   ⟨ho,rfl,⟨_,ho,rfl⟩,call_meets F.slot_list_mul ⟨_,ho,rfl⟩ F.entry_list_mul (F.args_list_mul_2 _ _)
    (lm_list_mul_any l items k od osl x u (by simp[Builtin.List.listFitsIndex];omega) (by omega) (by simp[Builtin.List.listTooLong,sizeLine];omega))
    ⟨ho,h _ (Fm.push _) (News.push Fm N _)⟩⟩)
theorem rH{op:Operator}(h:isAdd op=true):op=.Add:=by cases op<;>first |rfl |contradiction
theorem yn{op:Operator}(h:isMul op=true):op=.Mult:=by cases op<;>first |rfl |contradiction
theorem yo{a b:Nat}{x y x' y':Addr}(ha:g.ρ[a]? =some (x,y))(hb:g.ρ[b]? =some (x',y')):Wp m g st (binaryOp .Add (.ref x) (.ref x')) (qq a b st) m.VR:=by
 refine Wp.bH fun xs hxs=>Wp.bH fun ys hys=>Wp.aK fun hg=>Wp.newList fun s Q E news R F N k=>?_
 have hg:=of_decide_eq_true hg
 obtain⟨vs,h1,h2⟩:=R.inv.list ha hxs
 obtain⟨ws,h3,h4⟩:=R.inv.list hb hys
 refine add_arrays F N h1 h3 (fun h' F' N'=>k h' s.toks _ F' N' ⟨_,0,rfl,h2.append h4⟩) ?_
 rw[h2.length,h4.length]at hg
 exact Nat.le_trans hg (by decide)
theorem yp{v:Value}{n:Nat}:(⟨.type "list",none,Data.seq (List.foldl (fun x1 x2=>x1++x2) #[] (List.replicate n #[v])) 0,#[]⟩:Obj)=⟨.type "list",none,.seq (List.replicate n v).toArray 0,#[]⟩:=by
 rw[yl,Array.empty_append]
theorem yq{a:Nat}{n:Int}{u:Tok}{x y:Addr}(ha:g.ρ[a]? =some (x,y)):Wp m g st (binaryOp .Mult (.ref x) (.int n u)) (mulL a n st) m.VR:=by
 refine Wp.bH fun xs hxs=>Wp.aK fun hg=>?_
 obtain⟨g0,g1⟩:=Bool.and_eq_true_iff.mp hg
 have g0:=of_decide_eq_true g0
 have g1:=of_decide_eq_true g1
 cases xs with
 |nil=>exact Wp.no
 |cons x0 xs=>
  cases xs with
  |cons _ _=>exact Wp.no
  |nil=>
   refine Wp.newList fun s Q E news R F N k=>?_
   obtain⟨vs,h1,v0,l,rfl,hv,rfl⟩:=R.inv.list ha hxs
   rw[lu]at g1
   exact ym h1 (x:=n) (by omega) (by simp;omega) (by omega) (Fm:=F) (N:=N) fun h' F' N'=>k h' s.toks _ F' N' ⟨List.replicate n.toNat v0,0,yp,ay.replicate hv _⟩
theorem yr{a b:List UInt8}{t u:Tok}:Wp m g st (binaryOp .Add (.bytes a.toArray t) (.bytes b.toArray u)) ((guard (decide (a.length+b.length<=lim))>>=fun _=>pure (.bytes (a++b)):M V) st) m.VR:=
 Wp.aK fun hg=>Wp.val fun s Q E R k=>KBy.add_bytes (Nat.le_trans (of_decide_eq_true hg) (by decide)) fun t' tk=>k _ _ (List.append_toArray (l₁:=a) (l₂:=b)▸.bytes _ _)
theorem yt{op:Operator}{a:Nat}{b:V}{rb:Value}{x y:Addr}(ha:g.ρ[a]? =some (x,y))(vb:m.VR g b rb):Wp m g st (binaryOp op (.ref x) rb) (qr op a b st) m.VR:=by
 cases b with
 |ref b=>
  refine Wp.aK fun hg=>?_
  obtain⟨x',y',rfl,hb⟩:=vb
  exact rH hg▸yo ha hb
 |int n=>
  refine Wp.aK fun hg=>?_
  obtain⟨u,rfl⟩:=vb
  exact yn hg▸yq ha
 |_=>exact Wp.no
theorem yu{op:Operator}{a b:V}{ra rb:Value}(va:m.VR g a ra)(vb:m.VR g b rb):Wp m g st (binaryOp op ra rb) (binop op a b st) m.VR:=by
 cases a with
 |int a=>
  refine Wp.bh fun j hj=>?_
  subst hj
  obtain⟨t,rfl⟩:=va
  obtain⟨u,rfl⟩:=vb
  exact yk
 |bytes a=>
  refine Wp.aK fun hg=>Wp.eV fun b hb=>?_
  subst hb
  obtain⟨t,rfl⟩:=va
  obtain⟨u,rfl⟩:=vb
  exact rH hg▸yr
 |ref a=>
  obtain⟨x,y,rfl,ha⟩:=va
  exact yt ha vb
 |_=>exact Wp.no
end
section
open _root_.PySem.SeqAt
section
variable {c:Cx} {g:Gs} {H:Hp} {h:Heap}
theorem rI{p:Addr×Addr}{o:O}{ps:List (Addr×Addr)}:∀ {H:Hp} {i:Nat},ps[i]? =some p->H[i]? =some o->p.1∈(b9 c g ps H).map (·.1):=fun {H i} hp ho=>by
 obtain⟨l1,l2,e⟩:=q8 (c:=c) (g:=g) hp ho
 rw[<-set_same ho,e o]
 exact List.mem_map.mpr ⟨_,List.mem_append_left _ (List.mem_append_right _ (kZ p o)),rfl⟩
theorem yv{ps:List (Addr×Addr)}:∀ {H:Hp},((b9 c g ps H).map (·.1)).Nodup->∀ {i j:Nat} {p q:Addr×Addr} {o o':O},ps[i]? =some p->H[i]? =some o->ps[j]? =some q->H[j]? =some o'->p.1=q.1->i=j:=by
 induction ps with
 |nil=>exact fun _ _ _ _ _ _ _ hp=>ag hp
 |cons p0 ps ih=>
  intro H nd i j p q o o' hp ho hq ho' e
  cases H with
  |nil=>exact ag ho
  |cons o0 os=>
   have nd:((cT c g p0 o0++b9 c g ps os).map (·.1)).Nodup:=nd
   rw[List.map_append]at nd
   have nd:=List.nodup_append.mp nd
   have hd:∀ {a:Addr},a∈(b9 c g ps os).map (·.1)->p0.1≠a:=fun ha=>nd.2.2 _ (List.mem_map.mpr ⟨_,kZ p0 o0,rfl⟩) _ ha
   cases i with
   |zero=>
    cases j with
    |zero=>rfl
    |succ j=>exact absurd ((congrArg Prod.fst (Option.some.inj hp)).trans e) (hd (rI (ps:=ps) hq ho'))
   |succ i=>
    cases j with
    |zero=>exact absurd ((congrArg Prod.fst (Option.some.inj hq)).trans e.symm) (hd (rI (ps:=ps) hp ho))
    |succ j=>exact congrArg (·+1) (ih nd.2.1 hp ho hq ho' e)
theorem Inv.inj(I:Inv c g H h){i j:Nat}{p q:Addr×Addr}{o o':O}(hp:g.ρ[i]? =some p)(ho:H[i]? =some o)(hq:g.ρ[j]? =some q)(ho':H[j]? =some o')(ne:i≠j):p.1≠q.1:=by
 have nd:=I.cJ
 unfold cells at nd
 rw[List.map_cons,List.map_append]at nd
 exact fun e=>ne (yv (List.nodup_append.mp (List.nodup_cons.mp nd).2).2.1 hp ho hq ho' e)
theorem yw(A:Around)(s:Shared)(a b:Array UInt8)(t u:Tok):EqAt A s (.bytes a t) (.bytes b u) (a.toList==b.toList):=fun prog w E Q hq=>by
 unfold eqBool
 refine wpAny_holding ?_
 refine wpAny_ite_split (fun e=>?_) fun _=>?_
 ·have e:=eq_of_beq e
  injection e with e1 e2
  subst e1
  rw[beq_self_eq_true]at hq
  exact wpAny_bind (wpAny_rule (wpAny_pure hq))
 ·exact wpAny_bind (eq_bytes (wpAny_truthy_bool hq))
theorem getElem_eq{α:Type}{a:Array α}{l:List α}(e:a=l.toArray){j:Nat}(h1:j<a.size){x:α}(hx:l[j]? =some x):a[j]=x:=by
 subst e
 obtain⟨h,e⟩:=List.getElem?_eq_some_iff.mp hx
 simpa using e
theorem yx(n:Nat)(e:Nat->Bool):(List.range (n+1)).all e=(e 0&&(List.range n).all fun j=>e (j+1)):=by
 rw[List.range_succ_eq_map,List.all_cons,List.all_map];rfl
theorem rJ{f:V->V->Option Bool}{A:Around}{s:Shared}(IH:∀ {x y:V} {rx ry:Value} {r:Bool},f x y=some r->VR c g x rx->VR c g y ry->EqAt A s rx ry r){xs:List V}{vs:List Value}(q:ay c g xs vs):
  ∀ {ys:List V} {ws:List Value} {r:Bool},ay c g ys ws->dX f xs ys=some r->xs.length=ys.length->∃ F:Nat->Bool,(∀ j rx ry,vs[j]? =some rx->ws[j]? =some ry->EqAt A s rx ry (F j))∧(List.range vs.length).all F=r:=by
 induction q using aC.ind with
 |nil=>exact fun _ e _=>⟨fun _=>true,fun j rx ry z=>ag z,Option.some.inj e⟩
 | @cons a b as bs h _ ih=>?_
 intro ys ws r q' e hl
 cases ys with
 |nil=>contradiction
 |cons y ys=>
  obtain⟨w,ws',rfl,h',t'⟩:=q'
  obtain⟨r1,e1,e⟩:=Option.bind_eq_some_iff.mp e
  obtain⟨r2,e2,e⟩:=Option.bind_eq_some_iff.mp e
  obtain⟨F,F1,F2⟩:=ih t' e2 (Nat.succ.inj hl)
  refine⟨fun j=>Nat.rec r1 (fun k _=>F k) j,fun j=>?_,?_⟩
  ·cases j with
   |zero=>exact fun rx ry z1 z2=>Option.some.inj z1▸Option.some.inj z2▸IH e1 h h'
   |succ j=>exact F1 j
  ·rw[List.length_cons,yx,<-Option.some.inj e,<-F2];rfl
theorem Inv.tuple(I:Inv c g H h){a:Nat}{x y:Addr}{xs:List V}(hp:g.ρ[a]? =some (x,y))(ho:H[a]? =some (.tuple xs)):∃ vs,h.IsTuple x vs.toArray∧ay c g xs vs:=by
 obtain⟨ob,h1,vs,n,rfl,h4⟩:=I.obj hp ho
 exact⟨vs,⟨_,h1,rfl,n,rfl⟩,h4⟩
structure gm(A:Around)(s:Shared)(ra rb:Value)(r:Bool):Prop where
 eq:EqAt A s ra rb r
 rc:RcAt A s ra rb r
 ne:RcNeAt A s ra rb (!r)
section
variable {s:Shared} {A:Around} {b:V} {rb:Value} {r:Bool}
theorem rK(hT:c.T.Nodup){k k':Nat}{x x':Str}(hx:c.T[k]? =some x)(hx':c.T[k']? =some x'):(k==k')=(x==x'):=by
 by_cases q:k=k'
 ·subst q
  rw[Option.some.inj (hx.symm.trans hx'),beq_self_eq_true,beq_self_eq_true]
 ·have:x≠x':=fun z=>q ((List.getElem?_inj (List.getElem?_eq_some_iff.mp hx).1 hT).mp (hx.trans (z▸hx'.symm)))
  rw[beq_eq_false_iff_ne.mpr q,beq_eq_false_iff_ne.mpr this]
theorem lx{β:Type}[BEq β]{F:V->Option β}{C:β->V}(hF:∀ {v x},F v=some x->v=C x){a:β}(e:(F b).map (a==·)=some r):∃ x,b=C x∧r=(a==x):=by
 obtain⟨x,h1,h2⟩:=Option.map_eq_some_iff.mp e
 exact⟨x,hF h1,h2.symm⟩
theorem yy(e:(toN b).map (fun _=>true)=some r)(vb:VR c g b rb):gm A s .none rb r:=by
 obtain⟨x,h1,h2⟩:=Option.map_eq_some_iff.mp e
 subst h2
 rw[rp h1]at vb
 rw[show rb=.none from vb]
 exact⟨EqAt.same _,RcAt.none_none,RcNeAt.none_none⟩
theorem yz{a:Bool}(e:(jm b).map (a==·)=some r)(vb:VR c g b rb):gm A s (.bool a) rb r:=by
 obtain⟨b,rfl,rfl⟩:=lx k9 e
 exact(show rb=.bool b from vb)▸⟨EqAt.bool_bool a b,RcAt.bool_bool a b,RcNeAt.bool_bool a b⟩
theorem yA{a:Int}{t:Tok}(e:(hJ b).map (a==·)=some r)(vb:VR c g b rb):gm A s (.int a t) rb r:=by
 obtain⟨b,rfl,rfl⟩:=lx gL e
 obtain⟨u,rfl⟩:=vb
 exact⟨EqAt.int_int a t b u,RcAt.int_int a t b u,RcNeAt.int_int a t b u⟩
theorem yB{a:List UInt8}{t:Tok}(e:(jn b).map (a==·)=some r)(vb:VR c g b rb):gm A s (.bytes a.toArray t) rb r:=by
 obtain⟨b,rfl,rfl⟩:=lx nv e
 obtain⟨u,rfl⟩:=vb
 exact⟨yw A s a.toArray b.toArray t u,fun prog w E Q hq=>eq_bytes hq,fun prog w E Q hq=>ne_bytes hq⟩
theorem yC(hT:c.T.Nodup){k:Nat}{x:Str}{t:Tok}(hx:c.T[k]? =some x)(e:(toS b).map (k==·)=some r)(vb:VR c g b rb):gm A s (.str x t) rb r:=by
 obtain⟨k',rfl,rfl⟩:=lx lh e
 obtain⟨x',u,rfl,hx'⟩:=vb
 rw[rK hT hx hx']
 exact⟨EqAt.str_str x t x' u,RcAt.str_str x t x' u,RcNeAt.str_str x t x' u⟩
theorem yD{xs ys:List V}{x y:Addr}{vs ws:List Value}{f:V->V->Option Bool}(IH:∀ {x y:V} {rx ry:Value} {r:Bool},f x y=some r->VR c g x rx->VR c g y ry->EqAt A.in1 s rx ry r)(hu:A.units<cLine)(ne:x≠y)
  (h1:s.heap.IsList x vs.toArray) (h2:ay c g xs vs) (h3:s.heap.IsList y ws.toArray) (h4:ay c g ys ws) (e:(if xs.length=ys.length then dX f xs ys else some false)=some r):gm A s (.ref x) (.ref y) r:=by
 by_cases hl:xs.length=ys.length
 ·rw[if_pos hl]at e
  obtain⟨F,F1,F2⟩:=rJ IH h2 h4 e hl
  have hsz:vs.toArray.size=ws.toArray.size:=by rw[List.size_toArray,List.size_toArray,<-h2.length,<-h4.length,hl]
  have he:∀ j (q1:j<vs.toArray.size) (q2:j<ws.toArray.size),EqAt A.in1 s vs.toArray[j] ws.toArray[j] (F j):=fun j q1 q2=>F1 j _ _ (by rw[List.getElem_toArray];exact List.getElem?_eq_getElem _) (by rw[List.getElem_toArray];exact List.getElem?_eq_getElem _)
  have r1:=RcAt.lists h1 h3 hsz hu he
  have r2:=RcNeAt.lists h1 h3 hsz hu he
  rw[List.size_toArray,F2]at r1 r2
  exact⟨EqAt.of_refs ne r1,r1,r2⟩
 ·rw[if_neg hl]at e
  cases e
  have hsz:(vs.toArray.size != ws.toArray.size)=true:=by rw[List.size_toArray,List.size_toArray,<-h2.length,<-h4.length];exact bne_iff_ne.mpr hl
  have r1:=RcAt.lists_lengths h1 h3 hsz hu
  exact⟨EqAt.of_refs ne r1,r1,RcNeAt.lists_lengths h1 h3 hsz hu⟩
theorem yE{xs ys:List V}{x y:Addr}{vs ws:List Value}{f:V->V->Option Bool}(IH:∀ {x y:V} {rx ry:Value} {r:Bool},f x y=some r->VR c g x rx->VR c g y ry->EqAt A.in1 s rx ry r)(hu:A.units<cLine)(ne:x≠y)
  (h1:s.heap.IsTuple x vs.toArray) (h2:ay c g xs vs) (h3:s.heap.IsTuple y ws.toArray) (h4:ay c g ys ws) (e:(if xs.length=ys.length then dX f xs ys else none)=some r):gm A s (.ref x) (.ref y) r:=by
 by_cases hl:xs.length=ys.length
 ·rw[if_pos hl]at e
  obtain⟨F,F1,F2⟩:=rJ IH h2 h4 e hl
  have hsz:vs.toArray.size=ws.toArray.size:=by rw[List.size_toArray,List.size_toArray,<-h2.length,<-h4.length,hl]
  have he:∀ j (q1:j<vs.toArray.size) (q2:j<ws.toArray.size),EqAt A.in1 s vs.toArray[j] ws.toArray[j] (F j):=fun j q1 q2=>F1 j _ _ (by rw[List.getElem_toArray];exact List.getElem?_eq_getElem _) (by rw[List.getElem_toArray];exact List.getElem?_eq_getElem _)
  have r1:=RcAt.tuples h1 h3 hu he
  have r2:=RcNeAt.tuples h1 h3 hu he
  rw[<-hsz,Nat.min_self,List.size_toArray,F2,beq_self_eq_true,Bool.and_true]at r1 r2
  exact⟨EqAt.of_refs ne r1,r1,r2⟩
 ·rw[if_neg hl]at e
  cases e
theorem ly{β:Type}{F:O->Option β}{C:β->O}(hF:∀ {o x},F o=some x->o=C x){a:Option O}{x:β}(e:a.bind F=some x):a=some (C x):=by
 obtain⟨o,h1,h2⟩:=Option.bind_eq_some_iff.mp e
 exact h1.trans (congrArg some (hF h2))
theorem yF{f:V->V->Option Bool}(I:Inv c g H s.heap)(IH:∀ {x y:V} {rx ry:Value} {r:Bool},f x y=some r->VR c g x rx->VR c g y ry->EqAt A.in1 s rx ry r)(hu:A.units<cLine){a b:Nat}{x y x' y':Addr}(ha:g.ρ[a]? =some (x,y))(hb:g.ρ[b]? =some (x',y'))(e:mO H f a b=some r):gm A s (.ref x) (.ref x') r:=by
 unfold mO at e
 by_cases ne:a=b
 ·rw[if_pos ne]at e;contradiction
 rw[if_neg ne]at e
 unfold js at e
 cases e1:H[a]?.bind hG with
 |some xs=>
  rw[e1]at e
  obtain⟨ys,e2,e⟩:=Option.bind_eq_some_iff.mp e
  have e1:=ly iU e1
  have e2:=ly iU e2
  obtain⟨vs,h1,h2⟩:=I.list ha e1
  obtain⟨ws,h3,h4⟩:=I.list hb e2
  exact yD IH hu (I.inj ha e1 hb e2 ne) h1 h2 h3 h4 e
 |none=>
  rw[e1]at e
  obtain⟨xs,e1,e⟩:=Option.bind_eq_some_iff.mp e
  obtain⟨ys,e2,e⟩:=Option.bind_eq_some_iff.mp e
  have e1:=ly lj e1
  have e2:=ly lj e2
  obtain⟨vs,h1,h2⟩:=I.tuple ha e1
  obtain⟨ws,h3,h4⟩:=I.tuple hb e2
  exact yE IH hu (I.inj ha e1 hb e2 ne) h1 h2 h3 h4 e
end
theorem rL(hT:c.T.Nodup){s:Shared}(I:Inv c g H s.heap)(n:Nat):∀ {a b:V} {ra rb:Value} {r:Bool} {A:Around},bX H n a b=some r->VR c g a ra->VR c g b rb->A.units+n<cLine->gm A s ra rb r:=by
 induction n with
 |zero=>exact fun e=>ag e
 |succ n ih=>
  intro a b ra rb r A e va vb hu
  cases a with
  |none=>exact(show ra=.none from va)▸yy e vb
  |bool a=>exact(show ra=.bool a from va)▸yz e vb
  |int a=>obtain⟨t,rfl⟩:=va;exact yA e vb
  |str k=>obtain⟨x,t,rfl,hx⟩:=va;exact yC hT hx e vb
  |bytes a=>obtain⟨t,rfl⟩:=va;exact yB e vb
  |ref a=>
   obtain⟨x,y,rfl,ha⟩:=va
   obtain⟨b',h1,e⟩:=Option.bind_eq_some_iff.mp e
   rw[gh h1]at vb
   obtain⟨x',y',rfl,hb⟩:=vb
   exact yF I (fun e v w=>(ih e v w (Nat.succ_add_eq_add_succ A.units n▸hu)).eq) (Nat.lt_of_le_of_lt (Nat.le_add_right _ _) hu) ha hb e
  |_=>exact ag e
section
variable {m:Am} {g:Gs} {st:St}
theorem Inv.nG(I:Inv c g H h){i:Nat}{p:Addr×Addr}{o:O}(hp:g.ρ[i]? =some p)(ho:H[i]? =some o){b:Addr}{ob:Obj}(hb:c.b₀.get? b=some ob):p.1≠b:=fun e=>by
 have:=I.low _ (nh hp ho (kZ p o))
 rw[e,hb]at this;cases this
theorem rM{c:Cx}{g:Gs}{xs:List V}{vs:List Value}(h:ay c g xs vs):∀ {ns:List Int},intsOf xs=some ns->IntsAre vs ns:=by
 induction h using aC.ind with
 |nil=>exact fun e=>Option.some.inj e▸.nil
 | @cons x v xs vs h1 _ ih=>?_
 intro ns e
 unfold intsOf at e
 rw[List.mapM_cons]at e
 obtain⟨a,e1,e⟩:=Option.bind_eq_some_iff.mp e
 obtain⟨r,e2,e⟩:=Option.bind_eq_some_iff.mp e
 rw[gL e1]at h1
 obtain⟨t,rfl⟩:=h1
 exact Option.some.inj e▸.cons _ _ (ih e2)
noncomputable def il {α β:Type} (r:α->β->Prop):Prop:=∀ a a' b b',r a b->r a' b'->(a=a'↔b=b')
theorem nH:il (fun a b:Int=>a=b):=fun a a' b b' e e'=>by rw[show a=b from e,show a'=b' from e']
noncomputable abbrev Pairs {α β:Type} (c:Cx) (g:Gs) (r:α->β->Prop):List (α×V)->List (β×Value)->Prop:=aC fun a b=>r a.1 b.1∧VR c g a.2 b.2
theorem rN{c:Cx}{g:Gs}{α β:Type}[DecidableEq α][DecidableEq β]{r:α->β->Prop}(inj:il r){es:List (α×V)}{kvs:List (β×Value)}{k:α}{k':β}(q:Pairs c g r es kvs)(hk:r k k'):ct c g (es.lookup k) (valueAt kvs k'):=by
 refine aC.fold q (ct.none (c:=c) (g:=g)) fun a b as bs h _ ih=>?_
 have w:=inj _ _ _ _ hk h.1
 unfold valueAt
 rw[List.lookup_cons,List.find?_cons]
 by_cases e:k=a.1
 ·rw[beq_iff_eq.mpr e,decide_eq_true (w.mp e).symm]
  exact .some h.2
 ·rw[beq_eq_false_iff_ne.mpr e,decide_eq_false fun z=>e (w.mpr z.symm)]
  exact ih
theorem jL{c:Cx}{g:Gs}{es:List (Int×V)}{kvs:List (Int×Value)}(q:Pairs c g (fun a b=>a=b) es kvs)(k:Int):ct c g (cR es k) (valueAt kvs k):=rN nH q rfl
theorem ct.isSome{c:Cx}{g:Gs}{a:Option V}{b:Option Value}(q:ct c g a b):a.isSome=b.isSome:=by
 cases a with
 |none=>rw[show b=Option.none from q];rfl
 |some a=>obtain⟨r,rfl,_⟩:=q;rfl
theorem Inv.dict{c:Cx}{g:Gs}{H:Hp}{h:Heap}(I:Inv c g H h){a:Nat}{x y:Addr}{es:List (Int×V)}(hp:g.ρ[a]? =some (x,y))(ho:H[a]? =some (.dict es)):
  ∃ kvs,h.DictOf (intKind c.prog c.w) x kvs∧aC (fun a b=>a.1=b.1∧VR c g a.2 b.2) es kvs:=by
 obtain⟨ob,h1,kvs,⟨es',ep,h2⟩,h3⟩:=I.obj hp ho
 exact⟨kvs,⟨ob,es',ep,h1,h2⟩,h3⟩
theorem intKind_is(prog:Program)(w:World)(k:Int)(t:Tok):(intKind prog w).is k (.int k t)=true:=by
 show Value.isInt k (.int k t)=true
 simp[Value.isInt]
theorem yG(ks:List Int)(i:Int):ks.any (·==i)=ks.contains i:=by
 induction ks with
 |nil=>rfl
 |cons a r ih=>
  rw[List.any_cons,List.contains_cons,ih]
  congr 1
  exact Bool.beq_comm ..
noncomputable def dE (m:Am) (g:Gs) (st:St) (op:CmpOp) (ra rb:Value) (r:Bool):Prop:=
 ∀ (s:Shared) (Q:Value->Shared->Prop) (E:Value->Shared->Prop),Rel m g st s.heap->(∀ tk,Q (.bool r) {s with toks:=tk})->wpAny (model m.c.prog m.c.w) m.A (compareOp op ra rb) Q E s
theorem yH(hb:∃ o,m.c.b₀.get? sysModules=some o){i:Int}{t:Tok}{d:Nat}{x y:Addr}{o:O}{r:Bool}{st':St}(hd:g.ρ[d]? =some (x,y))(ho:st.H[d]? =some o)(e:mP i o st=.ok r st'):
  dE m g st .In (.int i t) (.ref x) r∧dE m g st .NotIn (.int i t) (.ref x) (!r):=by
 cases o with
 |dict es=>
  rw[fA e]
  obtain⟨om,hb⟩:=hb
  have ne:∀ {s:Shared},Rel m g st s.heap->x≠sysModules:=fun R=>R.inv.nG hd ho hb
  refine⟨fun s Q E R k=>?_,fun s Q E R k=>?_⟩
  all_goals
   obtain⟨kvs,h1,h2⟩:=R.inv.dict hd ho
   rw[(jL h2 i).isSome]at k
  ·exact wpAny_in_of (intKind_is _ _ i t) (beq_eq_false_iff_ne.mpr (ne R)) h1.mapOf (k _)
  ·exact wpAny_notIn_of (intKind_is _ _ i t) (beq_eq_false_iff_ne.mpr (ne R)) h1.mapOf (k _)
 |list xs=>
  obtain⟨ks,hk,e⟩:=iV e
  rw[fA e,<-yG]
  refine⟨fun s Q E R k=>?_,fun s Q E R k=>?_⟩
  all_goals obtain⟨vs,h1,h2⟩:=R.inv.list hd ho
  ·exact in_list_ints h1 (rM h2 hk) (k _)
  ·exact notin_list_ints h1 (rM h2 hk) (k _)
 |_=>exact iW e
theorem yI(i:Int)(o:O):Still (mP i o):=by
 cases o with
 |dict es=>exact .pure _
 |list xs=>exact(Still.ar _).bind fun _=>.pure _
 |_=>exact .no
theorem nI(a b:V):Still (kO a b):=(Still.ar _).bind fun _=>(Still.ar _).bind fun _=>(Still.obj _).bind fun _=>yI _ _
theorem rO(hb:∃ o,m.c.b₀.get? sysModules=some o){a b:V}{ra rb:Value}(va:m.VR g a ra)(vb:m.VR g b rb){r:Bool}{st':St}(e:kO a b st=.ok r st'):
  dE m g st .In ra rb r∧dE m g st .NotIn ra rb (!r):=by
 obtain⟨i,hi,e⟩:=iV e
 obtain⟨d,hd,e⟩:=iV e
 obtain⟨o,ho,e⟩:=(Still.obj _).inv e
 rw[gL hi]at va
 rw[gh hd]at vb
 obtain⟨t,rfl⟩:=va
 obtain⟨x,y,rfl,hp⟩:=vb
 exact yH hb hp (rC ho) e
end
end
end
def lz(K:Frag)(C:Addr)(x:Str):Bool:=
 plainGet K C x&&hasDictIn K C&&(match findIn K (.ref C) x with |some a=>noGet K a |none=>false)&&(takerIn K C x==some none)&&plainOver K C&&
 (findIn K (.ref C) "__setattr__"==some (some (.builtin "object.__setattr__")))
def gN(K:Frag)(C:Addr):Bool:=(findIn K (.ref C) "__eq__"==some (some (.builtin "object.__eq__")))&&plainOver K C
def nJ(K:Frag)(C:Addr)(x:Str)(f:Addr):Bool:=plainGet K C x&&(findIn K (.ref C) x==some (some (.ref f)))&&isFn K (.ref f)
structure cD(c:Cx)(P:aQ)(K:Frag)(mg mb:Str->Option Value):Prop where
 KX:K.In c.b₀
 lim:c.b₀.NoLimit
 T:c.T=P.T
 nd:c.T.Nodup
 glob:ig c P mg mb
 fld:∀ C k,P.cq.contains (C,k)=true->∃ x,c.T[k]? =some x∧lz K C x=true
 eqs:∀ C,P.eqs.contains C=true->gN K C=true
 aI:∀ C k f,P.aI.lookup (C,k)=some f->∃ x,c.T[k]? =some x∧nJ K C x f=true
section
variable {c:Cx} {g:Gs} {H:Hp} {h:Heap}
theorem rP{P:aQ}{x:Str}{k:Nat}(e:eX P x=some k):P.T[k]? =some x:=by
 unfold eX at e
 obtain⟨h1,h2,h3⟩:=List.findIdx?_eq_some_iff_getElem.mp e
 rw[List.getElem?_eq_getElem h1,eq_of_beq h2]
theorem FR.name{c:Cx}{p:Nat×V}{d:DictEntry}(q:FR c g p d):∃ x,c.T[p.1]? =some x∧d.key.isStr x=true:=by
 obtain⟨x,t,hs,r,rfl,hx,_⟩:=q
 exact⟨x,hx,beq_self_eq_true x⟩
theorem rQ{c:Cx}(nd:c.T.Nodup){i j:Nat}{x:Str}(a:c.T[i]? =some x)(b:c.T[j]? =some x):i=j:=
 (List.getElem?_inj (List.getElem?_eq_some_iff.mp a).1 nd).mp (a.trans b.symm)
theorem FR.isStr{c:Cx}(nd:c.T.Nodup){p:Nat×V}{d:DictEntry}{k:Nat}{x:Str}(q:FR c g p d)(e:c.T[k]? =some x):d.key.isStr x=(p.1==k):=by
 obtain⟨x',t,hs,r,rfl,hx,_⟩:=q
 exact(rK nd hx e).symm
theorem FR.val{c:Cx}{p:Nat×V}{d:DictEntry}(q:FR c g p d):VR c g p.2 d.val:=by
 obtain⟨x',t,hs,r,rfl,_,hv⟩:=q
 exact hv
theorem FR.refKey{c:Cx}{p:Nat×V}{d:DictEntry}(q:FR c g p d):d.refKey=false:=by
 obtain⟨x',t,hs,r,rfl,_⟩:=q
 rfl
theorem yJ{c:Cx}{fs:List (Nat×V)}{ds:List DictEntry}(q:aC (FR c g) fs ds):ds.any (·.refKey)=false:=aC.fold q rfl fun _ _ _ _ a _ ih=>by rw[List.any_cons,a.refKey,ih];rfl
theorem nK{c:Cx}{fs:List (Nat×V)}{ds:List DictEntry}{x:Str}(q:aC (FR c g) fs ds):getL x ds=some ((ds.find? (·.key.isStr x)).map (·.val)):=by
 unfold getL
 cases ds.find? (fun d=>d.key.isStr x)with
 |some d=>rfl
 |none=>exact(congrArg (fun b=>if b=true then none else some none) (yJ q)).trans rfl
theorem rR{c:Cx}(nd:c.T.Nodup){fs:List (Nat×V)}{ds:List DictEntry}{k:Nat}{x:Str}(e:c.T[k]? =some x)(q:aC (FR c g) fs ds):ct c g (fs.lookup k) ((ds.find? (·.key.isStr x)).map (·.val)):=by
 refine aC.fold q (ct.none (c:=c) (g:=g)) fun p d fs' ds' a _ ih=>?_
 rw[List.lookup_cons,List.find?_cons,a.isStr nd e]
 by_cases z:p.1=k
 ·rw[z,beq_self_eq_true]
  exact .some a.val
 ·rw[beq_eq_false_iff_ne.mpr z,beq_eq_false_iff_ne.mpr (Ne.symm z)]
  exact ih
theorem yK{c:Cx}(nd:c.T.Nodup){ds:List DictEntry}{k:Nat}{x:Str}{hsh:Int}{t:Tok}{v:V}{r:Value}(e:c.T[k]? =some x)(hv:VR c g v r){fs:List (Nat×V)}(q:aC (FR c g) fs ds):
  aC (FR c g) (dC fs k v) (putL x hsh (.str x t) r ds):=by
 refine aC.fold q (.cons (.mk e hv) .nil) fun p d fs' ds' a q' ih=>?_
 unfold dC putL
 rw[a.isStr nd e]
 cases z:p.1==k with
 |true=>
  refine .cons ?_ q'
  obtain⟨x',t',hs,r',rfl,hx',_⟩:=a
  exact .mk hx' hv
 |false=>exact .cons a ih
theorem yL(fs:List (Nat×V))(k:Nat)(v:V):(dC fs k v).length<=fs.length+1:=by
 induction fs with
 |nil=>exact Nat.le_refl _
 |cons p r ih=>
  unfold dC
  cases p.1==k with
  |true=>exact Nat.le_succ _
  |false=>exact Nat.succ_le_succ ih
theorem Inv.inst(I:Inv c g H h){a:Nat}{x y C:Addr}{fs:List (Nat×V)}(hp:g.ρ[a]? =some (x,y))(ho:H[a]? =some (.inst C fs)):
  ∃ ds n,InstAt h x (instObj C y) C (some (dictOf ds n))∧aC (FR c g) fs ds:=by
 obtain⟨ob,h1,h2⟩:=I.obj hp ho
 obtain⟨ob',h3,ds,n,h4,h5⟩:=I.aux hp ho
 rw[show ob=instObj C y from h2]at h1
 rw[h4]at h3
 exact⟨ds,n,⟨h1,rfl,rfl,h3⟩,h5⟩
end
section
variable {c:Cx} {g:Gs} {H:Hp} {h:Heap}
theorem Inv.rS(I:Inv c g H h){l1 l2:List Cell}{a:Addr}{P:Obj->Prop}{ob:Obj}(e:cells c g H=(c.N,bE g.m)::(l1++(a,P)::l2))(ha:h.get? a=some ob):
  bV fun pre post=>dW (News c.b₀ c.N h (pre++(a,ob)::post)) (∀ p∈pre,p.1≠a) (∀ p∈post,p.1≠a)
   (∀ h' ob' P' g₁ H₁,Fr c.b₀ c.N h' g.m->News c.b₀ c.N h' (pre++(a,ob')::post)->P' ob'->cells c g₁ H₁=(c.N,bE g.m)::(l1++(a,P')::l2)->g₁.ρ.length=H₁.length->TabsOk c g₁->Inv c g₁ H₁ h'):=by
 have S:=e▸I.sat
 have W:=e▸I.low
 have N:=e▸I.cJ
 have n0:=List.nodup_cons.mp N
 have ap:=rg (l1:=l1) (l2:=l2) (x:=(a,P)) n0.2
 have D:∀ x∈l1++(a,P)::l2,x.1≠c.N∧c.b₀.get? x.1=none:=fun x hx=>⟨fun q=>n0.1 (List.mem_map.mpr ⟨x,hx,q⟩),W x (.tail _ hx)⟩
 have D1:=List.forall_mem_append.mp D
 have S1:=List.forall_mem_append.mp fun x hx=>S x (.tail _ hx)
 obtain⟨pre,k1,k2⟩:=nq (D:=fun b=>b≠a∧b≠c.N∧c.b₀.get? b=none) S1.1 fun x hx=>⟨ap.1 x hx,D1.1 x hx⟩
 obtain⟨post,k3,k4⟩:=nq (D:=fun b=>b≠a∧b≠c.N∧c.b₀.get? b=none) (fun x hx=>S1.2 x (.tail _ hx)) fun x hx=>⟨ap.2 x hx,D1.2 x (.tail _ hx)⟩
 refine⟨pre,post,List.forall_mem_append.mpr ⟨fun p hp=>⟨(k1 p hp).1,(k1 p hp).2.2⟩,List.forall_mem_cons.mpr ⟨⟨ha,D1.2 (a,P) (.head _)⟩,fun p hp=>⟨(k3 p hp).1,(k3 p hp).2.2⟩⟩⟩,fun p hp=>(k1 p hp).2.1,fun p hp=>(k3 p hp).2.1,fun h' ob' P' g₁ H₁ F N' hP ce hl ht=>?_⟩
 have M:=List.forall_mem_append.mp N'
 have M2:=List.forall_mem_cons.mp M.2
 refine⟨F.keep,F.above,hl,ce▸List.forall_mem_cons.mpr ⟨Fr.sat F,List.forall_mem_append.mpr ⟨k2 h' fun p hp=>(M.1 p hp).1,List.forall_mem_cons.mpr ⟨⟨ob',M2.1.1,hP⟩,k4 h' fun p hp=>(M2.2 p hp).1⟩⟩⟩,?_,ce▸List.forall_mem_cons.mpr ⟨W (c.N,bE g.m) (.head _),k8 (y:=(a,P')) (fun x hx=>W x (.tail _ hx)) (D1.2 (a,P) (.head _)).2⟩,ht⟩
 rw[ce,List.map_cons,k7 (P:=P)];exact N
theorem Inv.yM{i:Nat}{p:Addr×Addr}{C:Addr}{fs:List (Nat×V)}{ob:Obj}(I:Inv c g H h)(hp:g.ρ[i]? =some p)(ho:H[i]? =some (.inst C fs))(hob:h.get? p.2=some ob):
  bV fun pre post=>dW (News c.b₀ c.N h (pre++(p.2,ob)::post)) (∀ q∈pre,q.1≠p.2) (∀ q∈post,q.1≠p.2)
   (∀ h' ob' fs',Fr c.b₀ c.N h' g.m->News c.b₀ c.N h' (pre++(p.2,ob')::post)->eG c g fs' ob'->Inv c g (H.set i (.inst C fs')) h'):=by
 obtain⟨l1,l2,e⟩:=jI (c:=c) (g:=g) hp ho
 have e (fs'):cells c g (H.set i (.inst C fs'))=(c.N,bE g.m)::((l1++[(p.1,bB c g p (.inst C fs))])++(p.2,eG c g fs')::l2):=(e (.inst C fs')).trans (congrArg _ (List.append_assoc l1 [(p.1,bB c g p (.inst C fs))] ((p.2,eG c g fs')::l2)).symm)
 obtain⟨pre,post,N,h1,h2,k⟩:=I.rS (jJ ho (e fs)) hob
 exact⟨pre,post,N,h1,h2,fun h' ob' fs' F' N' q=>k h' ob' (eG c g fs') g _ F' N' q (e fs') (I.len.trans List.length_set.symm) I.tabs⟩
theorem Inv.O4{i:Nat}{p:Addr×Addr}{o:O}{ob:Obj}(I:Inv c g H h)(hp:g.ρ[i]? =some p)(ho:H[i]? =some o)(n:o.cU=false)(hob:h.get? p.1=some ob):
  bV fun pre post=>dW (News c.b₀ c.N h (pre++(p.1,ob)::post)) (∀ q∈pre,q.1≠p.1) (∀ q∈post,q.1≠p.1)
   (∀ h' ob' o',o'.cU=false->Fr c.b₀ c.N h' g.m->News c.b₀ c.N h' (pre++(p.1,ob')::post)->bB c g p o' ob'->Inv c g (H.set i o') h'):=by
 obtain⟨l1,l2,e⟩:=jI (c:=c) (g:=g) hp ho
 have e {o'} (n:o'.cU=false):cells c g (H.set i o')=(c.N,bE g.m)::(l1++(p.1,bB c g p o')::l2):=(e o').trans (congrArg (fun z=>_::(l1++(z++l2))) (jK p n))
 obtain⟨pre,post,N,h1,h2,k⟩:=I.rS (jJ ho (e n)) hob
 exact⟨pre,post,N,h1,h2,fun h' ob' o' n' F' N' q=>k h' ob' (bB c g p o') g _ F' N' q (e n') (I.len.trans List.length_set.symm) I.tabs⟩
end
section
variable {m:Am} {g:Gs} {st:St} {P:aQ} {K:Frag} {mg mb:Str->Option Value}
structure rT(K:Frag)(C:Addr)(x:Str):Prop where
 get:plainGet K C x=true
 dict:hasDictIn K C=true
 at':∃ a,findIn K (.ref C) x=some a∧noGet K a=true
 yN:takerIn K C x=some none
 over:plainOver K C=true
 set:findIn K (.ref C) "__setattr__"=some (some (.builtin "object.__setattr__"))
theorem yO{K:Frag}{C:Addr}{x:Str}(h:lz K C x=true):rT K C x:=by
 simp only[lz,Bool.and_eq_true,beq_iff_eq]at h
 obtain⟨⟨⟨⟨⟨f1,f2⟩,f3⟩,f4⟩,f5⟩,f6⟩:=h
 refine⟨f1,f2,?_,f4,f5,f6⟩
 cases ha:findIn K (.ref C) x with
 |none=>rw[ha]at f3;contradiction
 |some a=>rw[ha]at f3;exact⟨a,rfl,f3⟩
theorem cD.named{c:Cx}(PK:cD c P K mg mb){x:Str}{k:Nat}(hk:eX P x=some k):c.T[k]? =some x:=PK.T▸rP hk
theorem cD.rU{c:Cx}(PK:cD c P K mg mb){C:Addr}{x:Str}{k:Nat}(hk:eX P x=some k)(hg:P.cq.contains (C,k)=true):rT K C x:=by
 obtain⟨x',hx',hf⟩:=PK.fld _ _ hg
 exact yO (Option.some.inj (hx'.symm.trans (PK.named hk))▸hf)
theorem VR.handed{c:Cx}{v:V}{r:Value}(h:VR c g v r)(hp:ju v=true):handedIn r=true:=by
 cases v<;>first |contradiction | (cases h;rfl) | (obtain⟨_,rfl⟩:=h;rfl) | (obtain⟨_,_,rfl,_⟩:=h;rfl)
theorem Wp.rV(PK:cD m.c P K mg mb){v:V}{rv:Value}{attr:Str}{expr:Bool}(vv:m.VR g v rv):Wp m g st (getAttr rv attr expr) (jv P v attr st) m.VR:=by
 refine Wp.bq fun a ha=>?_
 subst ha
 refine Wp.dM fun C fs ho=>Wp.ar fun k hk=>Wp.aK fun hg=>Wp.ar fun r hr=>Wp.aK fun hpl=>Wp.val fun s Q E R kk=>?_
 obtain⟨x,y,rfl,hp⟩:=vv
 obtain⟨ds,n,I,q⟩:=R.inv.inst hp ho
 have F:=PK.rU hk hg
 have z:=rR PK.nd (PK.named hk) q
 have e:=nK (x:=attr) q
 rw[show fs.lookup k=some r from hr]at z
 obtain⟨d,e3,e4⟩:=z
 obtain⟨a',f3,f4⟩:=F.at'
 rw[e3]at e
 exact get_own R.inv.fr PK.KX I F.get F.dict f3 f4 e (e4.handed hpl) (kk _ _ e4)
theorem yP{c:Cx}{fs:List (Nat×V)}{ds:List DictEntry}{k:Nat}{x:V}(q:aC (FR c g) (dC fs k x) ds)(h:fs.length<=100):ds.length<=1000:=
 q.length▸Nat.le_trans (yL fs k x) (Nat.le_trans (Nat.succ_le_succ h) (by decide))
theorem Wp.rW(PK:cD m.c P K mg mb){v x:V}{rv rx:Value}{attr:Str}(vv:m.VR g v rv)(vx:m.VR g x rx):Wp m g st (setAttr rv attr rx) (kP P v attr x st) df:=by
 refine Wp.bq fun a ha=>?_
 subst ha
 refine Wp.dM fun C fs ho=>Wp.ar fun k hk=>Wp.aK fun hg=>Wp.intro fun s Q E R kk=>?_
 obtain⟨hg,hlen⟩:=Bool.and_eq_true_iff.mp hg
 obtain⟨a',y,rfl,hp⟩:=vv
 have f:=PK.rU hk hg
 obtain⟨ds,n,I,q⟩:=R.inv.inst hp ho
 obtain⟨pre,post,N,h1,h2,back⟩:=R.inv.yM hp ho I.dict
 have q':=yK (hsh:=PyData.keyHash m.c.w.params attr) (t:=s.toks+1) PK.nd (PK.named hk) vx q
 have X:=PK.KX.keeps R.inv.base
 exact set_plain X I f.set (osa_dict (s:={s with toks:=s.toks+1}) R.inv.fr N X I rfl f.over f.yN f.dict (congrArg Option.isSome (nK q)) h1 h2 (putName_dict _ _ _ _ _ _) rfl (yP q' (of_decide_eq_true hlen)) fun h' F' N'=>
  kk g h' _ () (.refl g) ⟨back h' _ _ F' N' ⟨_,_,rfl,q'⟩,R.loc⟩ trivial)
def RelM(c:Cx)(g:Gs)(a:V×List V)(b:Value×List Value):Prop:=VR c g a.1 b.1∧ay c g a.2 b.2
theorem cD.yQ{c:Cx}(PK:cD c P K mg mb){C f:Addr}{x:Str}{k:Nat}(hk:eX P x=some k)(hf:P.aI.lookup (C,k)=some f):bp (plainGet K C x=true) (findIn K (.ref C) x=some (some (.ref f))) (isFn K (.ref f)=true):=by
 obtain⟨x',hx',hm⟩:=PK.aI _ _ _ hf
 have hm:=Option.some.inj (hx'.symm.trans (PK.named hk))▸hm
 simp only[nJ,Bool.and_eq_true,beq_iff_eq]at hm
 exact⟨hm.1.1,hm.1.2,hm.2⟩
theorem yR{P:aQ}(PK:cD m.c P K mg mb){a:Nat}{C:Addr}{fs:List (Nat×V)}{v:Value}{nm:Str}{pl:Sem Bool}{k:Nat}{f:Addr}(vv:m.VR g (.ref a) v)(ho:st.H[a]? =some (.inst C fs))
  (hk:eX P nm=some k) (hn:(fs.lookup k).isNone=true) (hf:P.aI.lookup (C,k)=some f):Wp m g st (getMethod v nm pl) (.ok (V.af f,[V.ref a]) st) (RelM m.c):=by
 intro s Q E R kk
 obtain⟨x,y,rfl,hp⟩:=vv
 obtain⟨ds,n,I,q⟩:=R.inv.inst hp ho
 obtain⟨f1,f2,f3⟩:=PK.yQ hk hf
 have z:=rR PK.nd (PK.named hk) q
 have e:=nK (x:=nm) q
 rw[Option.isNone_iff_eq_none.mp hn]at z
 rw[show _=none from z]at e
 exact method_inst R.inv.fr PK.KX I f1 f2 f3 e (kk g s.heap s.toks _ (.refl g) R ⟨.af f,.cons (.ref hp) .nil⟩)
end
section
variable {m:Am} {g:Gs} {st:St} {α:Type}
theorem yS{i:Int}{n k:Nat}(e:place i n=some k):bp (k<n) (0<=i) (k=i.toNat):=by
 unfold place at e
 by_cases h1:0<=i
 ·rw[if_pos h1]at e
  by_cases h2:i.toNat<n
  ·rw[if_pos h2]at e
   exact⟨Option.some.inj e▸h2,h1,(Option.some.inj e).symm⟩
  ·rw[if_neg h2]at e;contradiction
 ·rw[if_neg h1]at e;contradiction
structure nL(xs:List V)(i:Int)(k:Nat):Prop where
 lim:xs.length<=1048576
 lt:k<xs.length
 pos:0<=i
 is:k=i.toNat
 rX:i<xs.length
 big:i<2 ^ 63
theorem lA(xs:List V)(i:Int):Still (fP xs i):=(e8 _).bind fun _=>Still.ar _
theorem lB{xs:List V}{i:Int}{k:Nat}{st':St}(e:fP xs i st=.ok k st'):nL xs i k:=by
 obtain⟨_,h,e⟩:=(e8 _).inv e
 have h:=of_decide_eq_true (ie h)
 obtain⟨h1,h2,h3⟩:=yS (lp e)
 have z:i<xs.length:=(Int.toNat_lt h2).mp (h3▸h1)
 exact⟨h,h1,h2,h3,z,Int.lt_trans (Int.lt_of_lt_of_le z (Int.ofNat_le.mpr h)) (by decide)⟩
theorem nL.seq{xs:List V}{i:Int}{k n:Nat}(a:nL xs i k)(hn:xs.length=n):seqIndex? i n=some k:=by
 subst hn
 unfold seqIndex?
 have h:=a.pos
 have e:(decide (0<=i)&&decide (i<(xs.length:Int)))=true:=Bool.and_eq_true_iff.mpr ⟨decide_eq_true h,decide_eq_true a.rX⟩
 rw[if_neg (Int.not_lt.mpr h)]
 exact(if_pos e).trans (congrArg some a.is.symm)
theorem VR.isInt{c:Cx}{i:Int}{r:Value}(v:VR c g (.int i) r):∃ t,r=.int i t:=v.int_inv
theorem Inv.cI{c:Cx}{g:Gs}{H:Hp}{h:Heap}(I:Inv c g H h){a:Nat}{x y:Addr}{es:List (Nat×V)}(hp:g.ρ[a]? =some (x,y))(ho:H[a]? =some (.cI es)):
  ∃ kvs,h.DictOf (PySem.strKind c.prog c.w) x kvs∧aC (fun a b=>c.T[a.1]? =some b.1∧VR c g a.2 b.2) es kvs:=by
 obtain⟨ob,h1,kvs,⟨es',ep,h2⟩,h3⟩:=I.obj hp ho
 exact⟨kvs,⟨ob,es',ep,h1,h2⟩,h3⟩
theorem str_inj{c:Cx}(nd:c.T.Nodup):il fun (a:Nat) (b:Str)=>c.T[a]? =some b:=fun a a' b b' e e'=>⟨fun z=>Option.some.inj (e.symm.trans (z▸e')),fun z=>rQ nd e (z▸e')⟩
theorem yT{c:Cx}{g:Gs}(nd:c.T.Nodup){es:List (Nat×V)}{kvs:List (Str×Value)}(q:Pairs c g (fun a b=>c.T[a]? =some b) es kvs){k:Nat}{x:Str}(e:c.T[k]? =some x):ct c g (cR es k) (valueAt kvs x):=rN (str_inj nd) q e
theorem nM(prog:Program)(w:World)(x:Str)(t:Tok):(PySem.strKind prog w).is x (.str x t)=true:=by
 show Value.isStrOf x (.str x t)=true
 simp[Value.isStrOf]
def yU(s:Shared)(o:Value):Prop:=bV fun T id=>s.TypeIs o T∧typeLookup (.type T) "__getitem__"=pure (some (.builtin id))
theorem rY{P:aQ}{K:Frag}{mg mb:Str->Option Value}(PK:cD m.c P K mg mb){o i:V}{ro ri:Value}(vo:m.VR g o ro)(vi:m.VR g i ri){t:Sem Value}
  (W:∀ (s:Shared) (Q:Value->Shared->Prop) (E:Value->Shared->Prop),yU s ro->wpAny (model m.c.prog m.c.w) m.A (getItem ro ri) Q E s->wpAny (model m.c.prog m.c.w) m.A t Q E s):Wp m g st t (aw o i st) m.VR:=by
 refine Wp.bq fun a hA=>?_
 subst hA
 obtain⟨x,y,rfl,ha⟩:=vo
 refine Wp.obj fun ob ho=>?_
 cases ob with
 |list xs=>
  refine Wp.bh fun j hj=>Wp.bJ (lA _ _) fun k hk=>Wp.iX fun v hv=>Wp.val fun s Q E R kk=>?_
  subst hj
  obtain⟨u,rfl⟩:=vi
  have z:=lB hk
  obtain⟨vs,h1,h2⟩:=R.inv.list ha ho
  obtain⟨r,h3,h4⟩:=h2.get hv
  rw[z.is]at h3
  exact W s Q E ⟨_,_,h1.typeIs,slot_list_getitem.lookup⟩ (wpAny_getItem_list h1 z.pos z.big (List.getElem?_toArray.trans h3) (kk _ _ h4))
 |tuple xs=>
  refine Wp.bh fun j hj=>Wp.bJ (lA _ _) fun k hk=>Wp.iX fun v hv=>Wp.val fun s Q E R kk=>?_
  subst hj
  obtain⟨u,rfl⟩:=vi
  have z:=lB hk
  obtain⟨vs,h1,h2⟩:=R.inv.tuple ha ho
  obtain⟨r,h3,h4⟩:=h2.get hv
  have h1:IsTup s.heap x vs.toArray:=by obtain⟨o,z1,z2,n,z3⟩:=h1;exact⟨o,z1,z2,n,z3⟩
  exact W s Q E ⟨_,_,h1.typeIs,slot_tuple_getitem.lookup⟩ (PyProof.Rows.getItem_tuple (j:=k) h1 (Int.le_trans (by decide) z.pos) z.big (z.seq (h2.length.trans List.size_toArray.symm)) (List.getElem?_toArray.trans h3) (kk _ _ h4))
 |dict es=>
  refine Wp.bh fun j hj=>Wp.iX fun v hv=>Wp.val fun s Q E R kk=>?_
  subst hj
  obtain⟨u,rfl⟩:=vi
  obtain⟨kvs,h1,h2⟩:=R.inv.dict ha ho
  have z:=jL h2 j
  rw[hv]at z
  obtain⟨r,hval,z⟩:=z
  exact W s Q E ⟨_,_,h1.mapOf.typeIs,slot_dict_getitem.lookup⟩ (wpAny_getItem_of (intKind_is _ _ j u) h1.mapOf hval (kk _ _ z))
 |cI es=>
  refine Wp.ek fun j hj=>Wp.iX fun v hv=>Wp.val fun s Q E R kk=>?_
  subst hj
  obtain⟨x',u,rfl,hx⟩:=vi
  obtain⟨kvs,h1,h2⟩:=R.inv.cI ha ho
  have z:=yT PK.nd h2 hx
  rw[hv]at z
  obtain⟨r,hval,z⟩:=z
  exact W s Q E ⟨_,_,h1.mapOf.typeIs,slot_dict_getitem.lookup⟩ (wpAny_getItem_of (nM _ _ x' u) h1.mapOf hval (kk _ _ z))
 |_=>exact Wp.no
theorem yV{P:aQ}{K:Frag}{mg mb:Str->Option Value}(PK:cD m.c P K mg mb){o i:V}{ro ri:Value}(vo:m.VR g o ro)(vi:m.VR g i ri):Wp m g st (getItem ro ri) (aw o i st) m.VR:=rY PK vo vi fun _ _ _ _ h=>h
def nN(slice:Expr)(o i:Value):List Value:=Expr.casesOn (motive_1:=fun _=>List Value) slice (fun x0 x1 x2=>[o,i]) (fun x0 x1 x2=>[o,i]) (fun x0 x1 x2 x3=>[o,i]) (fun x0 x1 x2=>[o,i]) (fun x0 x1 x2 x3=>[o,i]) (fun x0 x1 x2 x3=>[o,i]) (fun x0 x1 x2=>[o,i]) (fun x0 x1 x2=>[o,i]) (fun x0 x1 x2 x3=>[o,i]) (fun x0 x1 x2 x3=>[o,i]) (fun x0 x1 x2 x3 x4=>[o,i]) (fun x0 x1 x2 x3=>[o,i]) (fun x0 x1=>[o,i]) (fun x0 x1=>[o,i]) (fun x0 x1=>[o,i]) (fun x0 x1 x2 x3=>[o,i]) (fun x0 x1 x2 x3=>[o,i]) (fun x0 x1 x2 x3=>[o,i]) (fun x0 x1=>[o,i]) (fun x0 x1 x2=>[o,i]) (fun x0 x1 x2=>[o,i]) (fun x0 x1 x2=>[o,i]) (fun x0 x1=>[o,i]) (fun x0 x1=>[o,i]) (fun x0 x1=>[o,i]) (fun x0 x1 x2=>[o,i]) (fun a b c p=>Option.casesOn (motive:=fun _=>List Value) c [i,o] fun _=>[o,i])
theorem yW(slice:Expr)(o i:Value):subscripted slice false o i=operate (nN slice o i) (getItem o i):=
 Expr.casesOn (motive_1:=fun slice=>subscripted slice false o i=operate (nN slice o i) (getItem o i)) slice (fun _ _ _=>rfl) (fun _ _ _=>rfl) (fun _ _ _ _=>rfl) (fun _ _ _=>rfl) (fun _ _ _ _=>rfl) (fun _ _ _ _=>rfl) (fun _ _ _=>rfl) (fun _ _ _=>rfl) (fun _ _ _ _=>rfl) (fun _ _ _ _=>rfl) (fun _ _ _ _ _=>rfl) (fun _ _ _ _=>rfl) (fun _ _=>rfl) (fun _ _=>rfl) (fun _ _=>rfl) (fun _ _ _ _=>rfl) (fun _ _ _ _=>rfl) (fun _ _ _ _=>rfl) (fun _ _=>rfl) (fun _ _ _=>rfl) (fun _ _ _=>rfl) (fun _ _ _=>rfl) (fun _ _=>rfl) (fun _ _=>rfl) (fun _ _=>rfl) (fun _ _ _=>rfl) (fun a b c p=>Option.casesOn (motive:=fun c=>subscripted (.Slice a b c p) false o i=operate (nN (.Slice a b c p) o i) (getItem o i)) c rfl fun _=>rfl)
theorem rZ{prog:Program}{w:World}{A:Around}{E:Value->Shared->Prop}{s:Shared}{value slice:Expr}{o i:Value}{T id:String}{Q:Value->Shared->Prop}(hT:s.TypeIs o T)
  (hl:typeLookup (.type T) "__getitem__"=pure (some (.builtin id))) (hg:wpAny (model prog w) A (getItem o i) Q E s):wpAny (model prog w) A (subscriptTail value slice o i) Q E s:=by
 exact tail_any hT hl hg (yW slice o i)
theorem Wp.around{β:Type}{t t':Sem β}{r:R α}{rel:Gs->α->β->Prop}(h:Wp m g st t r rel)
  (k:∀ (s:Shared) (Q:β->Shared->Prop) (E:Value->Shared->Prop),Rel m g st s.heap->wpAny (model m.c.prog m.c.w) m.A t Q E s->wpAny (model m.c.prog m.c.w) m.A t' Q E s):Wp m g st t' r rel:=
 fun s Q E R P=>k s Q E R (h s Q E R P)
theorem Wp.O5{β:Type}{t t':Sem β}{r:R α}{rel:Gs->α->β->Prop}(h:Wp m g st t r rel)
  (k:r≠.no->∀ (s:Shared) (Q:β->Shared->Prop) (E:Value->Shared->Prop),Rel m g st s.heap->wpAny (model m.c.prog m.c.w) m.A t Q E s->wpAny (model m.c.prog m.c.w) m.A t' Q E s):Wp m g st t' r rel:=
 fun s Q E R P=>k (fun e=>by subst e;exact P.elim) s Q E R (h s Q E R P)
theorem yX{P:aQ}{K:Frag}{mg mb:Str->Option Value}(PK:cD m.c P K mg mb){o i:V}{ro ri:Value}{value slice:Expr}(vo:m.VR g o ro)(vi:m.VR g i ri):
  Wp m g st (subscriptTail value slice ro ri) (aw o i st) m.VR:=rY PK vo vi fun s Q E h=>by
 obtain⟨T,id,h1,h2⟩:=h
 exact rZ h1 h2
theorem ay.take{c:Cx}{g:Gs}{xs:List V}{vs:List Value}(q:ay c g xs vs):∀ n:Nat,ay c g (xs.take n) (vs.take n):=by
 induction q using aC.ind with
 |nil=>exact fun n=>by rw[List.take_nil,List.take_nil];exact .nil
 |cons a _ ih=>exact fun n=>by cases n with |zero=>exact .nil |succ n=>exact .cons a (ih n)
theorem ay.drop{c:Cx}{g:Gs}{xs:List V}{vs:List Value}(q:ay c g xs vs):∀ n:Nat,ay c g (xs.drop n) (vs.drop n):=by
 induction q using aC.ind with
 |nil=>exact fun n=>by rw[List.drop_nil,List.drop_nil];exact .nil
 |cons a t ih=>exact fun n=>by cases n with |zero=>exact .cons a t |succ n=>exact ih n
theorem ay.fO{c:Cx}{g:Gs}{xs:List V}{vs:List Value}(q:ay c g xs vs)(lo hi:Option Int):ay c g (Lite.fO xs lo hi) (kms_pick vs lo hi):=by
 unfold Lite.fO kms_pick
 rw[ay.length q]
 exact ay.take (ay.drop q _) _
end
section
variable {m:Am} {g:Gs} {st:St} {α:Type}
theorem Rel.push{h:Heap}(R:Rel m g st h)(o:Obj):Rel m g st (h.push o):=R.keeps fun b ob e=>Heap.get?_push_of_some _ e
theorem Rel.nO{h:Heap}{o:O}{ob:Obj}(R:Rel m g st h)(n:o.cU=false)(hf:ob.isFreed=false)
  (hP:bB m.c (g.lay (h.objs.size,h.objs.size)) (h.objs.size,h.objs.size) o ob):
  Rel m (g.lay (h.objs.size,h.objs.size)) {st with H:=st.H++[o]} (h.push ob):=
 (R.push ob).gK (R.inv.free (dq h)) n (Heap.get?_push_size _ hf) hP
theorem Wp.lC{t:Sem Value}{o:O}(n:o.cU=false)
  (h:∀ (s:Shared) (Q:Value->Shared->Prop) (E:Value->Shared->Prop),Rel m g st s.heap->
   (∀ (h':Heap) ob tk,Rel m g st h'->ob.isFreed=false->bB m.c g (0,0) o ob->Q (.ref h'.objs.size) {s with heap:=h'.push ob,toks:=tk})->wpAny (model m.c.prog m.c.w) m.A t Q E s)
  (hp:∀ g p ob,bB m.c g (0,0) o ob->bB m.c g p o ob):Wp m g st t (.ok (.ref st.H.length) {st with H:=st.H++[o]}) m.VR:=by
 refine Wp.intro fun s Q E R k=>h s Q E R fun h' ob tk R' hf hob=>?_
 have R2:=R'.nO (o:=o) n hf (bB.mono (dc g _) (hp g _ ob hob))
 exact k _ _ tk _ (dc g _) R2 (.ref R'.last)
theorem bB.O6{c:Cx}{g:Gs}{xs:List V}{p q:Addr×Addr}{ob:Obj}(h:bB c g p (.list xs) ob):bB c g q (.list xs) ob:=h
theorem yY{c:Cx}{g:Gs}{vs:List Value}{l:List Int}(h:IntsAre vs l):ay c g (l.map .int) vs:=by
 induction h with
 |nil=>exact .nil
 |cons i t _ ih=>exact .cons (.int i t) ih
theorem yZ{v:V}{x:List Int}:mQ v=some x->v=.ints x:=
 V.casesOn (motive:=fun v=>mQ v=some x->v=.ints x) v ag (fun _=>ag) (fun _=>ag) (fun _=>ag) (fun _=>ag) (fun _=>ag) (fun _=>ag) (fun _=>ag) (fun _=>ag) (fun _ e=>congrArg V.ints (Option.some.inj e))
theorem y2{o:V}{ro vl vu:Value}{lo hi:Option Int}{value slice:Expr}{sp:Pos}(vo:m.VR g o ro)(pl:IsPart vl lo)(pu:IsPart vu hi):
  Wp m g st (newFields "slice" [vl,vu,.none]>>=fun i=>standAt sp>>=fun _=>subscriptTail value slice ro i) (iO o lo hi st) m.VR:=by
 refine Wp.aK fun hsm=>Wp.ar fun l hl'=>Wp.aK fun hg=>?_
 rw[yZ hl']at vo
 obtain⟨a,vs,rfl,h,hi'⟩:=vo
 have hg:=of_decide_eq_true hg
 refine Wp.lC (o:=.list ((fO l lo hi).map .int)) rfl (fun s Q E R k=>?_) fun g p ob q=>q
 have hl:s.heap.IsList a vs.toArray:=by
  obtain⟨o,h1,h2,n,h3⟩:=h
  exact⟨o,R.inv.base _ _ h1,h2,n,h3⟩
 refine wpAny_bind (wpAny_newObj_type (wpAny_bind (wpAny_standAt ?_)))
 refine rZ (hl.push _).typeIs slot_list_getitem.lookup ?_
 refine wpAny_getItem_list_slice (hl.push _) (Heap.IsSliceOf.new ..) pl pu .none (by simp) (k _ _ _ (R.push _) rfl ⟨(slicePick vs.toArray lo hi none).toList,0,by simp,?_⟩) ?_
 ·rw[kms_pick_eq,show(Lite.fO l lo hi).map V.int=Lite.fO (l.map V.int) lo hi by unfold Lite.fO;simp]
  exact ay.fO (yY (c:=m.c) (g:=g) hi') lo hi
 ·rw[List.size_toArray,hi'.length]
  exact Nat.le_trans hg (by decide)
theorem Wp.turned{β:Type}{t:Sem β}{b:β}{a:Nat}{o o':O}{x y:Addr}(hp:g.ρ[a]? =some (x,y))(ho:st.H[a]? =some o)(n1:o.cU=false)(n2:o'.cU=false){rel:Gs->Unit->β->Prop}(hrel:rel g () b)
  (h:∀ (s:Shared) (Q:β->Shared->Prop) (E:Value->Shared->Prop),Rel m g st s.heap->
   (∀ h' ob tk,Heap.SameBut x s.heap h'->h'.get? x=some ob->bB m.c g (x,y) o' ob->Q b {s with heap:=h',toks:=tk})->wpAny (model m.c.prog m.c.w) m.A t Q E s):
  Wp m g st t (Lite.put a o' st) rel:=
 Wp.intro fun s Q E R k=>h s Q E R fun h' ob tk hs hob hP=>k g h' tk b (.refl g) (R.put hp ho n1 n2 (fun b hb=>hs.2 b hb) hob hP) hrel
theorem ay.set{c:Cx}{g:Gs}{xs:List V}{vs:List Value}{v:V}{r:Value}(q:ay c g xs vs)(h:VR c g v r):∀ k:Nat,ay c g (xs.set k v) (vs.set k r):=by
 induction q using aC.ind with
 |nil=>exact fun k=>.nil
 |cons a b ih=>exact fun k=>by cases k with |zero=>exact .cons h b |succ k=>exact .cons a (ih k)
theorem ay.eraseIdx{c:Cx}{g:Gs}{xs:List V}{vs:List Value}(q:ay c g xs vs):∀ k:Nat,ay c g (xs.eraseIdx k) (vs.eraseIdx k):=by
 induction q using aC.ind with
 |nil=>exact fun k=>.nil
 |cons a b ih=>exact fun k=>by cases k with |zero=>exact b |succ k=>exact .cons a (ih k)
theorem r0(vs:List Value)(n k:Nat)(v:Value):Obj.mapSeq (fun x=>x.setIfInBounds k v) (listOf vs.toArray n)=listOf (vs.set k v).toArray n:=by
 show(⟨_,_,.seq _ (if _==_ then _ else _),_⟩:Obj)=_
 simp
section
variable {c:Cx} {g:Gs} {α β:Type} [DecidableEq α] [DecidableEq β] {r:α->β->Prop} {es:List (α×V)} {kvs:List (β×Value)} {k:α} {k':β} {v:V} {rv:Value}
theorem y3(inj:il r)(q:Pairs c g r es kvs)(hk:r k k'):(es.lookup k).isSome=kvs.any (fun kv=>kv.1=k'):=by
 refine aC.fold q rfl fun a b as bs h _ ih=>?_
 have w:=inj _ _ _ _ hk h.1
 rw[List.lookup_cons,List.any_cons]
 by_cases e:k=a.1
 ·rw[beq_iff_eq.mpr e,decide_eq_true (w.mp e).symm];rfl
 ·rw[beq_eq_false_iff_ne.mpr e,decide_eq_false fun z=>e (w.mpr z.symm)];exact ih
theorem y4(inj:il r)(q:Pairs c g r es kvs)(hk:r k k')(hv:VR c g v rv):Pairs c g r (es.map fun p=>if p.1=k then (p.1,v)else p) (kvs.map fun kv=>if kv.1=k' then (kv.1,rv)else kv):=by
 refine aC.fold q .nil fun a b as bs h _ ih=>.cons ?_ ih
 have w:=inj _ _ _ _ h.1 hk
 dsimp only
 by_cases e:a.1=k
 ·rw[if_pos e,if_pos (w.mp e)];exact⟨h.1,hv⟩
 ·rw[if_neg e,if_neg fun z=>e (w.mpr z)];exact h
theorem r4(inj:il r)(q:Pairs c g r es kvs)(hk:r k k')(hv:VR c g v rv):Pairs c g r (dput es k v) (stored kvs k' rv):=by
 unfold dput stored
 rw[y3 inj q hk]
 cases kvs.any (fun kv=>kv.1=k')with
 |true=>exact y4 inj q hk hv
 |false=>exact aC.fold q (.cons ⟨hk,hv⟩ .nil) fun _ _ _ _ h _ ih=>.cons h ih
theorem y5(inj:il r)(q:Pairs c g r es kvs)(hk:r k k'):Pairs c g r (dY es k) (without kvs k'):=by
 unfold dY without
 refine aC.fold q .nil fun a b as bs h _ ih=>?_
 have w:=inj _ _ _ _ h.1 hk
 rw[List.filter_cons,List.filter_cons]
 by_cases e:a.1=k
 ·rw[decide_eq_false (not_not_intro e),decide_eq_false (not_not_intro (w.mp e))];exact ih
 ·rw[decide_eq_true e,decide_eq_true (show b.1≠k' from fun z=>e (w.mpr z))];exact .cons h ih
end
theorem aC.len{α β:Type}{R:α->β->Prop}{l:List α}{l':List β}(q:aC R l l'):l.length=l'.length:=q.length
theorem nP{α β:Type}{R:α->β->Prop}{l:List α}{l':List β}(q:aC R l l')(h:decide (l.length<=lim)=true):l'.length<=sizeLine:=q.length▸Nat.le_trans (of_decide_eq_true h) (by decide)
theorem y6{h:Heap}{x:Addr}{vs:List Value}{n k:Nat}{v:Value}(h1:h.get? x=some (listOf vs.toArray n)):(h.update x (Obj.mapSeq (·.setIfInBounds k v))).get? x=some (listOf (vs.set k v).toArray n):=by
 rw[Heap.get?_update_self _ h1 (by rw[r0];rfl),r0]
theorem r7{P:aQ}{K:Frag}{mg mb:Str->Option Value}(PK:cD m.c P K mg mb){o i v:V}{ro ri rv:Value}(vo:m.VR g o ro)(vi:m.VR g i ri)(vv:m.VR g v rv):Wp m g st (setItem ro ri rv) (bA o i v st) df:=by
 refine Wp.bq fun a hA=>?_
 subst hA
 obtain⟨x,y,rfl,ha⟩:=vo
 refine Wp.obj fun ob ho=>?_
 cases ob with
 |list xs=>
  refine Wp.bh fun j hj=>Wp.bJ (lA _ _) fun k hk=>Wp.turned (b:=()) ha ho rfl rfl trivial fun s Q E R kk=>?_
  subst hj
  obtain⟨u,rfl⟩:=vi
  have z:=lB hk
  obtain⟨vs,n,h1,h2⟩:=R.inv.ij ha ho
  rw[z.is]at kk
  exact ki_setAt (n:=n) h1 z.pos z.big (by rw[List.size_toArray,<-h2.length];exact z.rX) (kk _ _ _ (Heap.SameBut.update ..) (y6 h1) ⟨_,n,rfl,h2.set vv _⟩)
 |dict es=>
  refine Wp.aK fun hg=>Wp.bh fun j hj=>Wp.turned (b:=()) ha ho rfl rfl trivial fun s Q E R kk=>?_
  subst hj
  obtain⟨u,rfl⟩:=vi
  obtain⟨kvs,h1,h2⟩:=R.inv.dict ha ho
  refine wpAny_setItem_pairs (intKind_is _ _ j u) h1 (fun h' hm hs=>?_) (nP h2 hg)
  obtain⟨ob',es',ep,e1,e2⟩:=hm
  exact kk h' ob' _ hs e1 ⟨_,⟨es',ep,e2⟩,r4 nH h2 rfl vv⟩
 |cI es=>
  refine Wp.aK fun hg=>Wp.ek fun j hj=>Wp.turned (b:=()) ha ho rfl rfl trivial fun s Q E R kk=>?_
  subst hj
  obtain⟨x',u,rfl,hx⟩:=vi
  obtain⟨kvs,h1,h2⟩:=R.inv.cI ha ho
  refine wpAny_setItem_pairs (nM _ _ x' u) h1 (fun h' hm hs=>?_) (nP h2 hg)
  obtain⟨ob',es',ep,e1,e2⟩:=hm
  exact kk h' ob' _ hs e1 ⟨_,⟨es',ep,e2⟩,r4 (str_inj PK.nd) h2 hx vv⟩
 |_=>exact Wp.no
theorem y7{A:Around}{prog:Program}{w:World}{E:Value->Shared->Prop}{s:Shared}{x:Addr}{kvs:List (Int×Value)}{j:Int}{u:Tok}{Q:Unit->Shared->Prop}(hD:s.heap.DictOf (intKind prog w) x kvs)(hl:kvs.length<=sizeLine)(ht:(valueAt kvs j).isSome=true)
  (h:∀ h',h'.DictOf (intKind prog w) x (without kvs j)->Heap.SameBut x s.heap h'->∀ tk,Q () {s with heap:=h',toks:=tk}):wpAny (model prog w) A (delItem (.ref x) (.int j u)) Q E s:=by
 unfold delItem
 refine wpAny_holding ?_
 refine wpAny_bind (wpAny_sequenceKey hD.typeIs (by decide) ?_)
 exact wpAny_bind (wpAny_callSpecial?_slot (name:=Str.ofString "__delitem__") hD.typeIs PySem.F.slot_dict_delitem
  (call_meetsIn PySem.F.slot_dict_delitem hD.typeIs PySem.F.entry_dict_delitem (PySem.F.args_dict_delitem_2 _ _) (meets_dict_delitem_pairs _ x (intKind_is _ _ j u)) ⟨kvs,hD,hl,ht,fun h' hm hs=>wpAny_pure (h h' hm hs _)⟩))
theorem y8{o i:V}{ro ri:Value}(vo:m.VR g o ro)(vi:m.VR g i ri):Wp m g st (delItem ro ri) (hV o i st) df:=by
 refine Wp.bq fun a hA=>?_
 subst hA
 obtain⟨x,y,rfl,ha⟩:=vo
 refine Wp.obj fun ob ho=>?_
 cases ob with
 |list xs=>
  refine Wp.bh fun j hj=>Wp.bJ (lA _ _) fun k hk=>Wp.turned (b:=()) ha ho rfl rfl trivial fun s Q E R kk=>?_
  subst hj
  obtain⟨u,rfl⟩:=vi
  have z:=lB hk
  obtain⟨vs,n,h1,h2⟩:=R.inv.ij ha ho
  have hl:xs.length=vs.toArray.size:=h2.length.trans List.size_toArray.symm
  exact delItem_at h1 (Bool.and_eq_true_iff.mpr ⟨decide_eq_true (Int.le_trans (by decide) z.pos),decide_eq_true z.big⟩) (z.seq hl) (fun h' hs ho'=>kk h' _ _ hs ho' ⟨vs.eraseIdx k,n+1,rfl,h2.eraseIdx k⟩) (hl▸Nat.le_trans z.lim (by decide))
 |dict es=>
  refine Wp.aK fun hg=>Wp.bh fun j hj=>Wp.ar fun old hold=>Wp.turned (b:=()) ha ho rfl rfl trivial fun s Q E R kk=>?_
  subst hj
  obtain⟨u,rfl⟩:=vi
  obtain⟨kvs,hD,h2⟩:=R.inv.dict ha ho
  refine y7 hD (nP h2 hg) ((jL h2 j).isSome▸hold▸rfl) fun h' hm hs tk=>?_
  obtain⟨ob',es',ep,e1,e2⟩:=hm
  exact kk h' ob' _ hs e1 ⟨_,⟨es',ep,e2⟩,y5 nH h2 rfl⟩
 |_=>exact Wp.no
end
def Np{α β:Type}(m:Am)(g:Gs)(st:St)(t:Sem β)(r:R α)(rel:Gs->α->β->Prop):Prop:=
 ∀ (s:Shared) (Q:β->Shared->Prop) (E:Value->Shared->Prop),Rel m g st s.heap->bI m g r rel Q E s->aq (model m.c.prog m.c.w) m.A t Q E s
def cF{α β:Type}(m:Am)(t:Sem β)(f:M α)(rel:Gs->α->β->Prop):Prop:=∀ g st,Np m g st t (f st) rel
section
variable {α β γ δ:Type} {m:Am} {g:Gs} {st:St}
theorem Wp.np{t:Sem β}{r:R α}{rel:Gs->α->β->Prop}(h:Wp m g st t r rel):Np m g st t r rel:=fun s Q E R P=>bz (h s Q E R P)
theorem nA.np{t:Sem β}{f:M α}{rel:Gs->α->β->Prop}(h:nA m t f rel):cF m t f rel:=fun g st=>(h g st).np
theorem Np.bind{t:Sem β}{k:β->Sem δ}{f:M α}{f':α->M γ}{rel:Gs->α->β->Prop}{rel':Gs->γ->δ->Prop}(h:Np m g st t (f st) rel)
  (h':∀ a st₁ g₁ b,f st=.ok a st₁->Ext g g₁->rel g₁ a b->Np m g₁ st₁ (k b) (f' a st₁) rel'):Np m g st (t>>=k) ((f>>=f') st) rel':=by
 intro s Q E R P
 refine aG (h s _ E R ?_)
 cases e:f st with
 |ok a st₁=>
  rw[cg e]at P
  exact fun g₁ h₁ tk b x R₁ q=>h' a st₁ g₁ b e x q _ Q E R₁ (P.shift x)
 |exc k st₁=>
  rw[dt e]at P
  exact P
 |no=>
  rw[cL e]at P
  exact P.elim
theorem Np.pure{a:α}{b:β}{rel:Gs->α->β->Prop}(q:rel g a b):Np m g st (Pure.pure b:Sem β) ((Pure.pure a:M α) st) rel:=(Wp.pure q).np
theorem Np.no{t:Sem β}{rel:Gs->α->β->Prop}:Np m g st t (.no:R α) rel:=fun _ _ _ _ P=>P.elim
theorem Np.of_eq{t t':Sem β}{r:R α}{rel:Gs->α->β->Prop}(e:t=t')(h:Np m g st t' r rel):Np m g st t r rel:=e▸h
theorem Np.res{t:Sem β}{r r':R α}{rel:Gs->α->β->Prop}(e:r=r')(h:Np m g st t r' rel):Np m g st t r rel:=e▸h
theorem Np.mono{t:Sem β}{r:R α}{rel rel':Gs->α->β->Prop}(h:Np m g st t r rel)(k:∀ g' a b,rel g' a b->rel' g' a b):Np m g st t r rel':=
 fun s Q E R P=>h s Q E R (by
  cases r with
  |ok a st'=>exact fun g' h' tk b x R' q=>P g' h' tk b x R' (k _ _ _ q)
  |exc k st'=>exact P
  |no=>exact P)
theorem Np.around{t:Sem β}{t':Sem δ}{r:R α}{rel:Gs->α->β->Prop}{rel':Gs->α->δ->Prop}(h:Np m g st t r rel)(f:β->δ)(hr:∀ g' a b,rel g' a b->rel' g' a (f b))
  (k:∀ (s:Shared) (Q:δ->Shared->Prop) (E:Value->Shared->Prop),aq (model m.c.prog m.c.w) m.A t (fun b=>Q (f b)) E s->aq (model m.c.prog m.c.w) m.A t' Q E s):Np m g st t' r rel':=
 fun s Q E R P=>k s Q E (h s (fun b=>Q (f b)) E R (by
  cases r with
  |ok a st'=>exact fun g' h' tk b x R' q=>P g' h' tk (f b) x R' (hr _ _ _ q)
  |exc k st'=>exact P
  |no=>exact P))
theorem Np.holding{vs:List Value}{t:Sem β}{r:R α}{rel:Gs->α->β->Prop}(h:Np m g st t r rel):Np m g st (PySem.holding vs t) r rel:=fun s Q E R P=>bQ (h s Q E R P)
theorem Np.standAt{p:Pos}{k:Unit->Sem β}{r:R α}{rel:Gs->α->β->Prop}(h:Np m g st (k ()) r rel):Np m g st (PySem.standAt p>>=k) r rel:=fun s Q E R P=>di (h s Q E R P)
theorem Np.step{t:Sem γ}{c:γ}{k:γ->Sem β}{r:R α}{rel:Gs->α->β->Prop}(hs:∀ (s:Shared) (Q:γ->Shared->Prop) (E:Value->Shared->Prop),Q c s->wpAny (model m.c.prog m.c.w) m.A t Q E s)
  (h:Np m g st (k c) r rel):Np m g st (t>>=k) r rel:=fun s Q E R P=>ax (hs s _ E (h s Q E R P))
theorem Np.release{vs keep:List Value}{k:Unit->Sem β}{r:R α}{rel:Gs->α->β->Prop}(h:Np m g st (k ()) r rel):Np m g st (PySem.release vs keep>>=k) r rel:=fun s Q E R P=>ax (wpAny_release (h s Q E R P))
theorem Np.e9{c:γ}{k:γ->Sem β}{r:R α}{rel:Gs->α->β->Prop}(h:Np m g st (k c) r rel):Np m g st (Pure.pure c>>=k) r rel:=fun s Q E R P=>ax (wpAny_pure (h s Q E R P))
theorem Np.guard{b:Bool}{f:M α}{t:Sem β}{rel:Gs->α->β->Prop}(h:b=true->Np m g st t (f st) rel):Np m g st t ((do guard b;f) st) rel:=by
 cases b with
 |false=>exact Np.no
 |true=>exact h rfl
theorem Np.aK{b:Bool}{f:Unit->M α}{t:Sem β}{rel:Gs->α->β->Prop}(h:b=true->Np m g st t (f () st) rel):Np m g st t ((Lite.guard b>>=f) st) rel:=by
 cases b with
 |false=>exact Np.no
 |true=>exact h rfl
theorem Np.ar{o:Option γ}{f:γ->M α}{t:Sem β}{rel:Gs->α->β->Prop}(h:∀ a,o=some a->Np m g st t (f a st) rel):Np m g st t ((Lite.ar o>>=f) st) rel:=gj (Pr:=fun r=>Np m g st t r rel) Np.no h
theorem Np.iX{o:Option α}{t:Sem β}{rel:Gs->α->β->Prop}(h:∀ a,o=some a->Np m g st t (.ok a st) rel):Np m g st t (Lite.ar o st) rel:=by
 cases o with
 |none=>exact Np.no
 |some a=>exact h a rfl
theorem Np.bH{a:Nat}{f:List V->M α}{t:Sem β}{rel:Gs->α->β->Prop}(h:∀ x,st.H[a]? =some (.list x)->Np m g st t (f x st) rel):Np m g st t ((Lite.bH a>>=f) st) rel:=fB iU (Pr:=fun r=>Np m g st t r rel) Np.no h
theorem Np.ew{a:Nat}{f:List V->M α}{t:Sem β}{rel:Gs->α->β->Prop}(h:∀ x,st.H[a]? =some (.tuple x)->Np m g st t (f x st) rel):Np m g st t ((Lite.ew a>>=f) st) rel:=fB lj (Pr:=fun r=>Np m g st t r rel) Np.no h
theorem Np.dictAt{a:Nat}{f:List (Int×V)->M α}{t:Sem β}{rel:Gs->α->β->Prop}(h:∀ x,st.H[a]? =some (.dict x)->Np m g st t (f x st) rel):Np m g st t ((Lite.dictAt a>>=f) st) rel:=fB rq (Pr:=fun r=>Np m g st t r rel) Np.no h
theorem Np.ey{a:Nat}{f:List UInt8->M α}{t:Sem β}{rel:Gs->α->β->Prop}(h:∀ x,st.H[a]? =some (.bx x)->Np m g st t (f x st) rel):Np m g st t ((Lite.ey a>>=f) st) rel:=fB rt (Pr:=fun r=>Np m g st t r rel) Np.no h
theorem Np.dM{a:Nat}{f:Addr×List (Nat×V)->M α}{t:Sem β}{rel:Gs->α->β->Prop}(h:∀ C fs,st.H[a]? =some (.inst C fs)->Np m g st t (f (C,fs) st) rel):Np m g st t ((Lite.dM a>>=f) st) rel:=fB lk (Pr:=fun r=>Np m g st t r rel) Np.no fun x=>h x.1 x.2
theorem Np.bJ{F:M γ}{f:γ->M α}{t:Sem β}{rel:Gs->α->β->Prop}(hF:Still F)(h:∀ x,F st=.ok x st->Np m g st t (f x st) rel):Np m g st t ((F>>=f) st) rel:=gM (Pr:=fun r=>Np m g st t r rel) hF Np.no h
theorem Np.obj{a:Nat}{f:O->M α}{t:Sem β}{rel:Gs->α->β->Prop}(h:∀ o,st.H[a]? =some o->Np m g st t (f o st) rel):Np m g st t ((Lite.obj a>>=f) st) rel:=rD (Pr:=fun r=>Np m g st t r rel) Np.no h
theorem Np.bh{v:V}{f:Int->M α}{t:Sem β}{rel:Gs->α->β->Prop}(h:∀ i,v=.int i->Np m g st t (f i st) rel):Np m g st t ((Lite.bh v>>=f) st) rel:=Np.ar fun i e=>h i (gL e)
theorem Np.dz{v:V}{f:Bool->M α}{t:Sem β}{rel:Gs->α->β->Prop}(h:∀ i,v=.bool i->Np m g st t (f i st) rel):Np m g st t ((Lite.dz v>>=f) st) rel:=Np.ar fun i e=>h i (k9 e)
theorem Np.bq{v:V}{f:Nat->M α}{t:Sem β}{rel:Gs->α->β->Prop}(h:∀ i,v=.ref i->Np m g st t (f i st) rel):Np m g st t ((Lite.bq v>>=f) st) rel:=Np.ar fun i e=>h i (gh e)
theorem Np.eV{v:V}{f:List UInt8->M α}{t:Sem β}{rel:Gs->α->β->Prop}(h:∀ i,v=.bytes i->Np m g st t (f i st) rel):Np m g st t ((Lite.eV v>>=f) st) rel:=Np.ar fun i e=>h i (nv e)
theorem Np.ek{v:V}{f:Nat->M α}{t:Sem β}{rel:Gs->α->β->Prop}(h:∀ i,v=.str i->Np m g st t (f i st) rel):Np m g st t ((Lite.ek v>>=f) st) rel:=Np.ar fun i e=>h i (lh e)
theorem Np.hM{v:V}{f:Addr->M α}{t:Sem β}{rel:Gs->α->β->Prop}(h:∀ i,v=.af i->Np m g st t (f i st) rel):Np m g st t ((Lite.hM v>>=f) st) rel:=Np.ar fun i e=>h i (lg e)
theorem Np.iK{v:V}{f:String->M α}{t:Sem β}{rel:Gs->α->β->Prop}(h:∀ i,v=.ty i->Np m g st t (f i st) rel):Np m g st t ((Lite.iK v>>=f) st) rel:=Np.ar fun i e=>h i (rn e)
end
section
open Builtin
theorem y9:typeLookup (.type "int") "__bytes__"=pure none:=by rw[typeLookup_type,builtinLookup_eq_fast];kernel_rfl
theorem za:typeLookup (.type "bytes") "__bytes__"=pure (some (.builtin "bytes.__bytes__")):=by rw[typeLookup_type,builtinLookup_eq_fast];kernel_rfl
theorem zc:typeLookup (.type "bytearray") "__bytes__"=pure none:=by rw[typeLookup_type,builtinLookup_eq_fast];kernel_rfl
theorem zd:typeLookup (.type "bytearray") "__index__"=pure none:=by rw[typeLookup_type,builtinLookup_eq_fast];kernel_rfl
theorem r8:typeLookup (.type "bytes") "__index__"=pure none:=by rw[typeLookup_type,builtinLookup_eq_fast];kernel_rfl
theorem ze:∃ v,typeLookup (.type "int") "__index__"=pure (some v):=⟨.builtin "int.__index__",by rw[typeLookup_type,builtinLookup_eq_fast];kernel_rfl⟩
theorem nQ:typeLookup (.type "bytearray") "__buffer__"=pure (some (.builtin "bytearray.__buffer__")):=by rw[typeLookup_type,builtinLookup_eq_fast];kernel_rfl
theorem ip:typeLookup (.type "bytes") "__buffer__"=pure (some (.builtin "bytes.__buffer__")):=by rw[typeLookup_type,builtinLookup_eq_fast];kernel_rfl
theorem zf:typeLookup (.type "bytearray") "__release_buffer__"=pure (some (.builtin "bytearray.__release_buffer__")):=by rw[typeLookup_type,builtinLookup_eq_fast];kernel_rfl
theorem zg:typeLookup (.type "bytes") "__release_buffer__"=pure none:=by rw[typeLookup_type,builtinLookup_eq_fast];kernel_rfl
theorem nR:isSubtype (.type "bytearray") (.type "bytearray")=pure true:=by rw[isSubtype_type];kernel_rfl
theorem r9:isSubtype (.type "bytes") (.type "bytes")=pure true:=by rw[isSubtype_type];kernel_rfl
def cw(h:Heap)(a:Addr)(b:List UInt8):Prop:=h.get? a=some {cls:=.type "bytearray",data:=.bytearray b.toArray 0}
section
variable {prog:Program} {w:World} {A:Around} {E:Value->Shared->Prop} {s:Shared}
theorem cw.type{a:Addr}{b:List UInt8}(h:cw s.heap a b):s.TypeIs (.ref a) "bytearray":=⟨_,h,rfl⟩
theorem zh{v:Value}{R:Result->Shared->Prop}
  (h:wpAny (model prog w) A.in1 (Builtin.«bytes.__new__» ⟨[.type "bytes",v],[]⟩) (fun fin s'=>match fin with | .done f=>R (.ok f) s' | .again c'=>c'.quiet=true∧codeAny (model prog w) A c' R s') (fun e s'=>R (.error e) s') s):
  codeAny (model prog w) A (.call (.builtin "bytes.__new__") ⟨[.type "bytes",v],[]⟩) R s:=by
 refine codeAny_of_tree ?_
 show wpAny _ A.in1 (do checkBuiltinCall "bytes.__new__" ⟨[.type "bytes",v],[]⟩;again (.builtin "bytes.__new__" ⟨[.type "bytes",v],[]⟩)) _ _ s
 refine wpAny_bind (wpAny_of_eq (F.bm_newCall _) (wpAny_pure ⟨plainId_quiet F.bm_plain _,codeAny_builtin F.bm_entry ?_⟩))
 rw[Around.under_plainId F.bm_plain _]
 exact h
theorem nS{v:Value}{Q:Value->Shared->Prop}
  (h:wpAny (model prog w) A.in1.in1 (Builtin.«bytes.__new__» ⟨[.type "bytes",v],[]⟩) (fun fin s'=>∃ b t,fin=.done (.ret (.bytes b t))∧Q (.bytes b t) s') E s):
  wpAny (model prog w) A (PySem.call (.type "bytes") [v]) Q E s:=by
 refine callType_codes (Q₁:=fun obj s₁=>s₁.TypeIs obj "bytes"∧Q obj s₁) F.bm_called (F.bm_typeCall _) F.entry_object_init
  (zh (wpAny_mono h (fun fin s' ⟨b,t,e,q⟩=>by subst e;exact⟨typeIs_bytes _ _ _,q⟩) fun e s' q=>q)) fun obj s₁ h₁=>?_
 exact⟨h₁.1,F.args_object_init_2 obj _,object_init_meets F.bm_called.init.lookup F.bm_called.made (by decide) prog w A.in1 _ s₁ ⟨h₁.1,rfl,h₁.2⟩⟩
theorem O7{v:Value}{fin:Sem Fin}{Q:Fin->Shared->Prop}(h:wpAny (model prog w) A fin Q E s)
  (e:Builtin.«bytes.__new__» ⟨[.type "bytes",v],[]⟩=fin):wpAny (model prog w) A (Builtin.«bytes.__new__» ⟨[.type "bytes",v],[]⟩) Q E s:=e▸h
theorem zi{n:Int}{u:Tok}{Q:Value->Shared->Prop}(h0:0<=n)(h1:n<=1048576)(h:∀ t k,Q (.bytes (Array.replicate n.toNat 0) t) {s with toks:=k}):wpAny (model prog w) A (PySem.call (.type "bytes") [.int n u]) Q E s:=by
 refine nS ?_
 obtain⟨vi,hvi⟩:=ze
 have hT:=typeIs_int s n u
 unfold Builtin.«bytes.__new__»
 refine wpAny_bind (wpAny_of_eq (a:=true) rfl ?_)
 refine bm_if_false rfl ?_
 refine wpAny_bind (wpAny_of_eq F.bm_sub ?_)
 refine bm_if_false rfl ?_
 refine wpAny_bind (wpAny_of_eq (F.bm_bind _) ?_)
 refine wpAny_bind (wpAny_of_eq (a:=()) rfl ?_)
 refine wpAny_bind (wpAny_of_eq (a:=()) rfl ?_)
 refine bm_if_false rfl ?_
 refine wpAny_bind (wpAny_specialOf hT y9 ?_)
 dsimp only
 refine wpAny_bind (wpAny_of_eq (a:=false) rfl ?_)
 refine bm_if_false rfl ?_
 refine wpAny_bind (wpAny_specialOf hT hvi ?_)
 refine bm_if_false rfl ?_
 refine wpAny_bind (wpAny_attempt (wpAny_of_eq (a:=n) rfl ?_))
 dsimp only
 rw[show Bytes.fitsIndex n=true by simp only[Bytes.fitsIndex,Bool.and_eq_true,decide_eq_true_eq];omega]
 refine bm_if_false rfl ?_
 rw[if_neg (by omega),if_neg (by omega)]
 rw[if_neg (by unfold Bytes.tooLong;rw[ik];simp;omega)]
 refine wpAny_bind (wpAny_rule (wpAny_bind (wpAny_mkBytes ?_ (by rw[Array.size_replicate,ik];omega))))
 refine bm_if_true (by decide) ?_
 exact wpAny_bind (wpAny_pure (wpAny_pure ⟨_,_,rfl,h _ _⟩))
theorem zj{b:Array UInt8}{u:Tok}{Q:Value->Shared->Prop}(h:Q (.bytes b u) s):wpAny (model prog w) A (PySem.call (.type "bytes") [.bytes b u]) Q E s:=by
 refine nS ?_
 have hT:=typeIs_bytes s b u
 unfold Builtin.«bytes.__new__»
 refine wpAny_bind (wpAny_of_eq (a:=true) rfl ?_)
 refine bm_if_false rfl ?_
 refine wpAny_bind (wpAny_of_eq F.bm_sub ?_)
 refine bm_if_false rfl ?_
 refine wpAny_bind (wpAny_of_eq (F.bm_bind _) ?_)
 refine wpAny_bind (wpAny_of_eq (a:=()) rfl ?_)
 refine wpAny_bind (wpAny_of_eq (a:=()) rfl ?_)
 refine bm_if_false rfl ?_
 refine wpAny_bind (wpAny_specialOf hT za ?_)
 dsimp only
 refine wpAny_bind (wpAny_rule (wpAny_bind (wpAny_typeOf hT ?_)))
 refine bm_if_true (by decide) ?_
 refine bm_if_true (by decide) ?_
 exact wpAny_bind (wpAny_pure (wpAny_pure ⟨_,_,rfl,h⟩))
theorem nT{a:Addr}{b:List UInt8}{Q:Bool->Shared->Prop}(hb:cw s.heap a b)(h:Q false s):wpAny (model prog w) A (Bytes.ownRelease (.ref a)) Q E s:=by
 unfold Bytes.ownRelease Bytes.slotIsOwn
 refine wpAny_bind (wpAny_bind (wpAny_specialOf hb.type zf ?_))
 dsimp only
 rw[if_neg (by decide+kernel)]
 rw[show(("bytearray.__release_buffer__":String).dropRight (("__release_buffer__":String).length+1))="bytearray" by decide+kernel]
 exact wpAny_isInstance hb.type nR (wpAny_pure h)
theorem zk{b:Array UInt8}{u:Tok}{Q:Bool->Shared->Prop}(h:Q false s):wpAny (model prog w) A (Bytes.ownRelease (.bytes b u)) Q E s:=by
 unfold Bytes.ownRelease Bytes.slotIsOwn
 refine wpAny_bind (wpAny_bind (wpAny_specialOf (typeIs_bytes s b u) zg ?_))
 exact wpAny_pure (wpAny_pure h)
theorem jM{a:Addr}{b:List UInt8}{Q:Array UInt8->Shared->Prop}(hb:cw s.heap a b)(h:Q b.toArray s):wpAny (model prog w) A (Bytes.payload (.ref a)) Q E s:=by
 unfold Bytes.payload Bytes.payload?
 exact wpAny_bind (wpAny_bind (wpAny_load hb (wpAny_pure (wpAny_pure h))))
theorem zl{id:String}{full:Bool}{a:Addr}{b:List UInt8}{Q:Option (Array UInt8)->Shared->Prop}(hb:cw s.heap a b)(h:Q (some b.toArray) s):wpAny (model prog w) A (Bytes.buffer? id (.ref a) full) Q E s:=by
 unfold Bytes.buffer?
 refine wpAny_bind (wpAny_specialOf hb.type nQ ?_)
 dsimp only
 unfold Bytes.slotIsOwn
 refine wpAny_bind (wpAny_bind (wpAny_specialOf hb.type nQ ?_))
 dsimp only
 rw[if_neg (by decide+kernel)]
 rw[show(("bytearray.__buffer__":String).dropRight (("__buffer__":String).length+1))="bytearray" by decide+kernel]
 refine wpAny_isInstance hb.type nR ?_
 refine bm_if_false rfl ?_
 refine wpAny_bind (wpAny_specialOf hb.type nQ ?_)
 try dsimp only
 refine wpAny_bind (nT hb ?_)
 refine bm_if_false rfl ?_
 exact wpAny_bind (jM hb (wpAny_pure h))
theorem sa{id:String}{full:Bool}{b:Array UInt8}{u:Tok}{Q:Option (Array UInt8)->Shared->Prop}(h:Q (some b) s):wpAny (model prog w) A (Bytes.buffer? id (.bytes b u) full) Q E s:=by
 have hT:=typeIs_bytes s b u
 unfold Bytes.buffer?
 refine wpAny_bind (wpAny_specialOf hT ip ?_)
 dsimp only
 unfold Bytes.slotIsOwn
 refine wpAny_bind (wpAny_bind (wpAny_specialOf hT ip ?_))
 dsimp only
 rw[if_neg (by decide+kernel)]
 rw[show(("bytes.__buffer__":String).dropRight (("__buffer__":String).length+1))="bytes" by decide+kernel]
 refine wpAny_isInstance hT r9 ?_
 refine bm_if_false rfl ?_
 refine wpAny_bind (wpAny_specialOf hT ip ?_)
 try dsimp only
 refine wpAny_bind (zk ?_)
 refine bm_if_false rfl ?_
 exact wpAny_bind (wpAny_pure (wpAny_pure h))
theorem zm{a:Addr}{b:List UInt8}{Q:Value->Shared->Prop}(hb:cw s.heap a b)(hz:b.length<=1048576)(h:∀ t k,Q (.bytes b.toArray t) {s with toks:=k}):wpAny (model prog w) A (PySem.call (.type "bytes") [.ref a]) Q E s:=by
 refine nS ?_
 unfold Builtin.«bytes.__new__»
 refine wpAny_bind (wpAny_of_eq (a:=true) rfl ?_)
 refine bm_if_false rfl ?_
 refine wpAny_bind (wpAny_of_eq F.bm_sub ?_)
 refine bm_if_false rfl ?_
 refine wpAny_bind (wpAny_of_eq (F.bm_bind _) ?_)
 refine wpAny_bind (wpAny_of_eq (a:=()) rfl ?_)
 refine wpAny_bind (wpAny_of_eq (a:=()) rfl ?_)
 refine bm_if_false rfl ?_
 refine wpAny_bind (wpAny_specialOf hb.type zc ?_)
 refine wpAny_bind (wpAny_bind ?_)
 show wpAny _ _ (load a>>=_) _ _ _
 refine wpAny_bind (wpAny_load hb ?_)
 refine wpAny_pure (wpAny_pure ?_)
 refine bm_if_false rfl ?_
 refine wpAny_bind (wpAny_specialOf hb.type zd ?_)
 refine bm_if_true rfl ?_
 first
  |show wpAny _ _ (Builtin.Bytes.buffer? "bytes.__new__" (.ref a) true>>=_) _ _ _
  | (refine wpAny_bind ?_;show wpAny _ _ (Builtin.Bytes.buffer? "bytes.__new__" (.ref a) true>>=_) _ _ _)
 refine wpAny_bind (zl hb ?_)
 dsimp only
 refine wpAny_bind (wpAny_rule (wpAny_bind (wpAny_mkBytes ?_ (by rw[List.size_toArray,ik];omega))))
 refine bm_if_true (by decide) ?_
 exact wpAny_bind (wpAny_pure (wpAny_pure ⟨_,_,rfl,h _ _⟩))
end
end
section
open Builtin
theorem sb:mroOf (.type "bytearray")=pure [.type "bytearray",.type "object"]:=by rw[mroOf_type];kernel_rfl
theorem zo:typeLookup (.type "bytearray") "__new__"=pure (some (.builtin "bytearray.__new__")):=by rw[typeLookup_type,builtinLookup_eq_fast];kernel_rfl
theorem zp:Slot "bytearray" "__init__" "bytearray.__init__":=
 .of (owner:="bytearray") (n:="__init__") (by rw[typeLookup_type,builtinLookup_eq_fast];kernel_rfl) (by decide+kernel) (by decide+kernel) (by decide+kernel)
  (by first |exact .inl (by decide+kernel) |exact .inr (by decide+kernel)) (by rw[isSubtype_type];kernel_rfl)
theorem sd:TypeCalled "bytearray" "bytearray.__new__" "bytearray.__init__":=
 ⟨by decide+kernel,by decide+kernel,⟨_,_,sb⟩,madeBy_type sb zo (by decide+kernel),by decide+kernel,by rw[isSubtype_type];kernel_rfl,zp⟩
theorem zq:checkTypeCall "bytearray" ⟨[],[]⟩=pure ():=by kernel_rfl
theorem zr(a:Value):checkTypeCall "bytearray" ⟨[a],[]⟩=pure ():=by kernel_rfl
theorem zt:checkBuiltinCall "bytearray.__new__" ⟨[.type "bytearray"],[]⟩=pure ():=by kernel_rfl
theorem zu(a:Value):checkBuiltinCall "bytearray.__new__" ⟨[.type "bytearray",a],[]⟩=pure ():=by kernel_rfl
theorem se:plainId "bytearray.__new__"=true:=by decide+kernel
theorem zv:entryFor table "bytearray.__new__"=some Builtin.«list.__new__»:=entryFor_alias (id':="list.__new__") (by rw[fastTable_eq_tree];kernel_rfl) (by decide+kernel) (by decide+kernel) (by rw[fastTable_eq_tree];kernel_rfl)
theorem sf:entryFor table "bytearray.__init__"=some Builtin.«bytearray.__init__»:=entryFor_of_tree (by kernel_rfl)
set_option maxHeartbeats 4000000 in
theorem zw:("bytearray.__new__".splitOn ".__new__").headD ""="bytearray":=by simp+decide [String.splitOn,String.splitOnAux]
section
variable {prog:Program} {w:World} {A:Around} {E:Value->Shared->Prop} {s:Shared}
theorem sg{rest:List Value}{Q₁:Value->Shared->Prop}(hc:checkBuiltinCall "bytearray.__new__" ⟨.type "bytearray"::rest,[]⟩=pure ())
  (h:Q₁ (.ref s.heap.objs.size) {s with heap:=s.heap.push {cls:=.type "bytearray",data:=.bytearray #[]}}):
  codeAny (model prog w) A (.call (.builtin "bytearray.__new__") ⟨.type "bytearray"::rest,[]⟩) (wants Q₁ E) s:=by
 refine codeAny_of_tree ?_
 show wpAny _ A.in1 (do checkBuiltinCall "bytearray.__new__" ⟨.type "bytearray"::rest,[]⟩;again (.builtin "bytearray.__new__" ⟨.type "bytearray"::rest,[]⟩)) _ _ s
 refine wpAny_bind (wpAny_of_eq hc (wpAny_pure ⟨plainId_quiet se _,codeAny_builtin_stack zv rfl fun p st=>?_⟩))
 rw[Around.under_plainId se _]
 have hsub:=nR
 have hown:=zw
 obtain⟨hp,g,d,tk,os⟩:=s
 simp only[hown]
 wp_walk
 exact h
theorem zx(a:Value):argsOk "bytearray.__init__" ⟨[a],[]⟩:=by unfold argsOk;kernel_rfl
theorem zy(a b:Value):argsOk "bytearray.__init__" ⟨[a,b],[]⟩:=by unfold argsOk;kernel_rfl
theorem zA:Bytes.bindOptional "bytearray.__init__" "bytearray" ["source","encoding","errors"] [] []=pure [none,none,none]:=by kernel_rfl
theorem zB(v:Value):Bytes.bindOptional "bytearray.__init__" "bytearray" ["source","encoding","errors"] [v] []=pure [some v,none,none]:=by kernel_rfl
theorem iY{a:Addr}{b:List UInt8}{f:Array UInt8->Array UInt8}{c:List UInt8}{Q:Unit->Shared->Prop}(hb:cw s.heap a b)(hf:f b.toArray=c.toArray)(hz:c.length<=sizeLine)
  (h:∀ h',Heap.SameBut a s.heap h'->cw h' a c->Q () {s with heap:=h'}):wpAny (model prog w) A (Bytes.write (.ref a) f) Q E s:=by
 unfold Bytes.write updateBytearray
 refine wpAny_bind (wpAny_load hb ?_)
 show wpAny _ _ (update a (Obj.mapBytearray f)>>=fun _=>lookBehind a) _ _ _
 have e:(s.heap.update a (Obj.mapBytearray f)).get? a=some {cls:=.type "bytearray",data:=.bytearray c.toArray 0}:=by
  rw[<-hf]
  exact Heap.get?_update_self (Obj.mapBytearray f) hb rfl
 refine wpAny_bind (wpAny_update hb (wpAny_lookBehind e ?_ (h _ (Heap.SameBut.update ..) e)))
 show(if c.toArray.size>sizeLine then some "bytearray:memory" else none)=none
 rw[if_neg]
 rw[List.size_toArray];lia
theorem zC{a:Addr}{b:List UInt8}{Q:Nat->Shared->Prop}(hb:cw s.heap a b)(h:Q 0 s):wpAny (model prog w) A (Bytes.exportsOf (.ref a)) Q E s:=by
 unfold Bytes.exportsOf
 exact wpAny_bind (wpAny_load hb (wpAny_pure h))
theorem nU{a:Addr}{b:List UInt8}{Q:Bool->Shared->Prop}(hg:A.guards=some [])(hb:cw s.heap a b)(h:Q false s):
  aq (model prog w) A (Bytes.exported (.ref a)<||> (do return (<-Bytes.exportsOf (.ref a))>0)) Q E s:=by
 show aq _ _ (Bytes.exported (.ref a)>>=fun x=>_) _ _ _
 refine aG (xG hg ?_)
 refine ax (zC hb ?_)
 exact aM h
theorem zD{a:Addr}{R:Fin->Shared->Prop}(hg:A.guards=some [])(hb:cw s.heap a [])(h:∀ h',Heap.SameBut a s.heap h'->cw h' a []->R (.done (.ret .none)) {s with heap:=h'}):
  aq (model prog w) A (Builtin.«bytearray.__init__» ⟨[.ref a],[]⟩) R E s:=by
 unfold Builtin.«bytearray.__init__»
 refine ax (nT hb ?_)
 refine cH rfl ?_
 refine ax (wpAny_of_eq zA ?_)
 dsimp only
 refine ax (wpAny_of_eq (a:=()) rfl ?_)
 refine ax (wpAny_of_eq (a:=()) rfl ?_)
 refine aG (nU hg hb ?_)
 refine cH rfl ?_
 refine ax (iY (c:=[]) hb rfl (Nat.zero_le _) fun h' hs hb'=>?_)
 refine ax (wpAny_of_eq (a:=()) rfl ?_)
 exact aM (h h' hs hb')
theorem zE{a:Addr}{b:List UInt8}{u:Tok}{R:Fin->Shared->Prop}(hg:A.guards=some [])(hb:cw s.heap a [])(hz:b.length<=1048576)(h:∀ h',Heap.SameBut a s.heap h'->cw h' a b->R (.done (.ret .none)) {s with heap:=h'}):
  aq (model prog w) A (Builtin.«bytearray.__init__» ⟨[.ref a,.bytes b.toArray u],[]⟩) R E s:=by
 unfold Builtin.«bytearray.__init__»
 refine ax (nT hb ?_)
 refine cH rfl ?_
 refine ax (wpAny_of_eq (zB _) ?_)
 dsimp only
 refine ax (wpAny_of_eq (a:=()) rfl ?_)
 refine ax (wpAny_of_eq (a:=()) rfl ?_)
 refine aG (nU hg hb ?_)
 refine cH rfl ?_
 refine ax (iY (c:=[]) hb rfl (Nat.zero_le _) fun h' hs hb'=>?_)
 refine ax (wpAny_of_eq (a:=none) rfl ?_)
 refine cH rfl ?_
 refine ax (wpAny_of_eq (a:=()) rfl ?_)
 refine ax (wpAny_specialOf (typeIs_bytes _ _ _) r8 ?_)
 refine cH rfl ?_
 refine ax (sa ?_)
 dsimp only
 refine ax (wpAny_rule ?_)
 refine ax (iY (c:=b) hb' rfl (by rw[ik];lia) fun h'' hs' hb''=>?_)
 exact aM (h h'' (hs.trans hs') hb'')
theorem zF{Q:Value->Shared->Prop}(hg:A.guards=some [])(h:∀ h' a,(∀ b o,s.heap.get? b=some o->h'.get? b=some o)->s.heap.get? a=none->cw h' a []->Q (.ref a) {s with heap:=h'}):
  aq (model prog w) A (PySem.call (.type "bytearray") []) Q E s:=by
 have hb:cw (s.heap.push {cls:=.type "bytearray",data:=.bytearray #[]}) s.heap.objs.size []:=Heap.get?_push_size _ rfl
 refine qk (Q₁:=fun obj s₁=>obj=.ref s.heap.objs.size∧s₁={s with heap:=s.heap.push {cls:=.type "bytearray",data:=.bytearray #[]}}) sd zq sf (by decide+kernel)
  (mB (sg zt ⟨rfl,rfl⟩)) fun obj s₁ ⟨e1,e2⟩=>?_
 subst e1 e2
 refine⟨hb.type (s:={s with heap:=s.heap.push {cls:=.type "bytearray",data:=.bytearray #[]}}),zx _,zD hg hb fun h' hs hb'=>⟨rfl,h h' _ (fun b o e=>?_) (dq _) hb'⟩⟩
 exact(hs.2 b (Nat.ne_of_lt (Heap.lt_size e))).trans (Heap.get?_push_of_some _ e)
theorem sh{b:List UInt8}{u:Tok}{Q:Value->Shared->Prop}(hg:A.guards=some [])(hz:b.length<=1048576)(h:∀ h' a,(∀ b o,s.heap.get? b=some o->h'.get? b=some o)->s.heap.get? a=none->cw h' a b->Q (.ref a) {s with heap:=h'}):
  aq (model prog w) A (PySem.call (.type "bytearray") [.bytes b.toArray u]) Q E s:=by
 have hb:cw (s.heap.push {cls:=.type "bytearray",data:=.bytearray #[]}) s.heap.objs.size []:=Heap.get?_push_size _ rfl
 refine qk (Q₁:=fun obj s₁=>obj=.ref s.heap.objs.size∧s₁={s with heap:=s.heap.push {cls:=.type "bytearray",data:=.bytearray #[]}}) sd (zr _) sf (by decide+kernel)
  (mB (sg (zu _) ⟨rfl,rfl⟩)) fun obj s₁ ⟨e1,e2⟩=>?_
 subst e1 e2
 refine⟨hb.type (s:={s with heap:=s.heap.push {cls:=.type "bytearray",data:=.bytearray #[]}}),zy _ _,zE hg hb hz fun h' hs hb'=>⟨rfl,h h' _ (fun b o e=>?_) (dq _) hb'⟩⟩
 exact(hs.2 b (Nat.ne_of_lt (Heap.lt_size e))).trans (Heap.get?_push_of_some _ e)
theorem zG:entryFor table "bytearray.extend"=some Builtin.«bytearray.extend»:=entryFor_of_tree (by kernel_rfl)
theorem nV:Slot "bytearray" "extend" "bytearray.extend":=
 .of (owner:="bytearray") (n:="extend") (by rw[typeLookup_type,builtinLookup_eq_fast];kernel_rfl) (by decide+kernel) (by decide+kernel) (by decide+kernel)
  (by first |exact .inl (by decide+kernel) |exact .inr (by decide+kernel)) (by rw[isSubtype_type];kernel_rfl)
theorem zH(a b:Value):argsOk "bytearray.extend" ⟨[a,b],[]⟩:=by unfold argsOk;kernel_rfl
theorem zI(a b:Value):PySem.selfAndOne "bytearray.extend" ⟨[a,b],[]⟩=pure (a,b):=by kernel_rfl
theorem zJ{a:Addr}{b:List UInt8}{Q:Unit->Shared->Prop}(hg:A.guards=some [])(hb:cw s.heap a b)(h:Q () s):aq (model prog w) A (Bytes.checkResize (.ref a)) Q E s:=by
 unfold Bytes.checkResize
 refine aG (nU hg hb ?_)
 exact cH rfl (aM h)
theorem zK{id:String}{b:Array UInt8}{u:Tok}{Q:Option (Array UInt8×Option Value)->Shared->Prop}(h:Q (some (b,none)) s):wpAny (model prog w) A (Bytes.takeBufferQuiet? id (.bytes b u) 0) Q E s:=by
 have hT:=typeIs_bytes s b u
 unfold Bytes.takeBufferQuiet? Bytes.takeBuffer?
 refine wpAny_bind (wpAny_attempt ?_)
 refine wpAny_bind (wpAny_specialOf hT ip ?_)
 dsimp only
 unfold Bytes.slotIsOwn
 refine wpAny_bind (wpAny_bind (wpAny_specialOf hT ip ?_))
 dsimp only
 rw[if_neg (by decide+kernel)]
 rw[show(("bytes.__buffer__":String).dropRight (("__buffer__":String).length+1))="bytes" by decide+kernel]
 refine wpAny_isInstance hT r9 ?_
 refine bm_if_false rfl ?_
 refine wpAny_bind (wpAny_specialOf hT ip ?_)
 try dsimp only
 refine wpAny_bind (sa ?_)
 exact wpAny_pure (wpAny_pure h)
theorem zL{a:Addr}{b c:List UInt8}{u:Tok}{Q:Value->Shared->Prop}(hg:A.guards=some [])(hb:cw s.heap a b)(hz:b.length+c.length<=1048576)(h:∀ h',Heap.SameBut a s.heap h'->cw h' a (b++c)->Q .none {s with heap:=h'}):
  aq (model prog w) A (PySem.call (.builtin "bytearray.extend") [.ref a,.bytes c.toArray u]) Q E s:=by
 refine fw (mE nV.plain zG (by decide+kernel) (bz (nV.check _ _ _ _ _ _ _ _ hb.type (zH _ _) ?_)))
 unfold Builtin.«bytearray.extend»
 refine ax (wpAny_of_eq (zI _ _) ?_)
 dsimp only
 refine ax (wpAny_specialOf (typeIs_bytes _ _ _) ip ?_)
 refine g9 rfl ?_
 refine ax (wpAny_rule ?_)
 refine ax (jM hb ?_)
 refine ax (zK ?_)
 dsimp only
 refine g9 rfl ?_
 rcases Bool.eq_false_or_eq_true (!c.toArray.isEmpty)with e |e
 ·refine g9 e ?_
  refine aG (zJ hg hb ?_)
  exact ax (iY (c:=b++c) hb (by simp) (by rw[ik];simp;lia) fun h' hs hb'=>aM (h h' hs hb'))
 ·refine cH e ?_
  exact ax (iY (c:=b++c) hb (by simp) (by rw[ik];simp;lia) fun h' hs hb'=>aM (h h' hs hb'))
theorem zM:entryFor table "bytearray.__setitem__"=some Builtin.«bytearray.__setitem__»:=entryFor_of_tree (by kernel_rfl)
theorem zN:Slot "bytearray" "__setitem__" "bytearray.__setitem__":=
 .of (owner:="bytearray") (n:="__setitem__") (by rw[typeLookup_type,builtinLookup_eq_fast];kernel_rfl) (by decide+kernel) (by decide+kernel) (by decide+kernel)
  (by first |exact .inl (by decide+kernel) |exact .inr (by decide+kernel)) (by rw[isSubtype_type];kernel_rfl)
theorem zO(a b c:Value):argsOk "bytearray.__setitem__" ⟨[a,b,c],[]⟩:=by unfold argsOk;kernel_rfl
theorem zP:typeLookup (.type "bytes") "__int__"=pure none:=by rw[typeLookup_type,builtinLookup_eq_fast];kernel_rfl
theorem zQ:typeLookup (.type "bytes") "__float__"=pure none:=by rw[typeLookup_type,builtinLookup_eq_fast];kernel_rfl
theorem zR:isSubtype (.type "bytes") (.type "complex")=pure false:=by rw[isSubtype_type];kernel_rfl
theorem zS:isSubtype (.type "bytes") (.type "bytearray")=pure false:=by rw[isSubtype_type];kernel_rfl
theorem si{sl:Addr}{Q:Value×Value×Value->Shared->Prop}(hs:s.heap.IsSliceOf sl .none .none .none)(h:Q (.none,.none,.none) s):wpAny (model prog w) A (Bytes.sliceParts (.ref sl)) Q E s:=by
 obtain⟨o,ho,hc,hd⟩:=hs
 unfold Bytes.sliceParts
 refine wpAny_bind (wpAny_field (x:=.none) ho hd rfl ?_)
 refine wpAny_bind (wpAny_of_eq (a:=Value.none) rfl ?_)
 refine wpAny_ite (KBy.ite_no (show ¬ ((Value.none==rawInt 0)=true) from Bool.false_ne_true) ?_)
 refine wpAny_bind (wpAny_field (x:=.none) ho hd rfl ?_)
 refine wpAny_bind (wpAny_of_eq (a:=Value.none) rfl ?_)
 refine wpAny_bind (wpAny_field (x:=.none) ho hd rfl ?_)
 refine wpAny_bind (wpAny_of_eq (a:=Value.none) rfl ?_)
 exact wpAny_pure h
theorem zT{a sl:Addr}{b c:List UInt8}{u:Tok}{Q:Unit->Shared->Prop}(hg:A.guards=some [])(hb:cw s.heap a b)(hs:s.heap.IsSliceOf sl .none .none .none)(hc:c.length=b.length)(hz:b.length<=1048576)
  (h:∀ h',(∀ d o,d≠a->s.heap.get? d=some o->h'.get? d=some o)->cw h' a c->Q () {s with heap:=h'}):
  aq (model prog w) A (setItem (.ref a) (.ref sl) (.bytes c.toArray u)) Q E s:=by
 have hTs:s.TypeIs (.ref sl) "slice":=by obtain⟨o,ho,hc,hd⟩:=hs;exact⟨o,ho,hc⟩
 have hTb:=typeIs_bytes s c.toArray u
 unfold setItem
 refine bQ ?_
 refine ax (wpAny_sequenceKey hb.type (by decide) ?_)
 refine aG (xH hb.type zN zM (by decide+kernel) (zO _ _ _) ?_)
 unfold Builtin.«bytearray.__setitem__»
 refine cH rfl ?_
 dsimp only
 refine aG ?_
 unfold Bytes.subscript?
 refine ax (wpAny_specialOf hTs slice_no_index (aM ?_))
 dsimp only
 refine ax (wpAny_typeOf hTs ?_)
 refine cH rfl ?_
 refine ax (si hs ?_)
 refine cH rfl ?_
 refine ax (wpAny_isInstance hTb zS ?_)
 refine g9 rfl ?_
 refine ax ?_
 have i1:=r8
 have i2:=zP
 have i3:=zQ
 have i4:=zR
 repeat wp_step
 refine ax (wpAny_of_eq (a:=none) rfl ?_)
 refine cH rfl ?_
 refine ax (wpAny_rule ?_)
 refine aG (sh hg (by lia) fun h1 x hk hn hx=>?_)
 have hs1:h1.IsSliceOf sl .none .none .none:=by
  obtain⟨o,h2,h3,h4⟩:=hs
  exact⟨o,hk _ _ h2,h3,h4⟩
 have hb1:cw h1 a b:=hk _ _ hb
 have nxa:a≠x:=fun e=>by subst e;rw[show s.heap.get? a=_ from hb]at hn;cases hn
 refine aG (bQ (bz (si hs1 ?_)))
 refine ax (jM hx ?_)
 refine ax (jM hb1 ?_)
 refine ax (wpAny_of_eq (sliceIndices_raw none none none b.toArray.size (fun e=>nomatch e)) ?_)
 dsimp only
 have eb:sliceBounds none none none b.toArray.size=(0,((b.length:Nat):Int),1):=by simp[sliceBounds]
 rw[eb]
 refine g9 rfl ?_
 refine ax (wpAny_rule ?_)
 refine cH (by simp[hc]) ?_
 refine ax (iY (c:=c) hb1 ?_ (by rw[ik];lia) fun h' hs' hb'=>aM ⟨_,rfl,aM (h h' (fun d o hd e=>(hs'.2 d hd).trans (hk _ _ e)) hb')⟩)
 have:max (0:Int) ((b.length:Nat):Int)=((b.length:Nat):Int):=by lia
 rw[this]
 simp
end
end
section
variable {m:Am} {g:Gs} {st:St} {α:Type}
theorem Wp.kept{t:Sem Value}{v:V}(h:∀ (s:Shared) (Q:Value->Shared->Prop) (E:Value->Shared->Prop),Rel m g st s.heap->
   (∀ r h' tk,(∀ b o,s.heap.get? b=some o->h'.get? b=some o)->m.VR g v r->Q r {s with heap:=h',toks:=tk})->wpAny (model m.c.prog m.c.w) m.A t Q E s):Wp m g st t (.ok v st) m.VR:=
 Wp.intro fun s Q E R k=>h s Q E R fun r h' tk hk q=>k g h' tk r (.refl g) (R.keeps hk) q
theorem Np.laid{t:Sem Value}{o:O}(n:o.cU=false)
  (h:∀ (s:Shared) (Q:Value->Shared->Prop) (E:Value->Shared->Prop),Rel m g st s.heap->
   (∀ a h' ob tk,(∀ b o,s.heap.get? b=some o->h'.get? b=some o)->s.heap.get? a=none->h'.get? a=some ob->bB m.c g (0,0) o ob->Q (.ref a) {s with heap:=h',toks:=tk})->
   aq (model m.c.prog m.c.w) m.A t Q E s) (hp:∀ g p q ob,bB m.c g p o ob->bB m.c g q o ob):Np m g st t (.ok (.ref st.H.length) {st with H:=st.H++[o]}) m.VR:=by
 intro s Q E R k
 refine h s Q E R fun a h' ob tk hk hn hob hP=>?_
 have R':=R.keeps hk
 have fr:=R.inv.free hn
 have R2:=R'.gK (o:=o) (ob:=ob) fr n hob (bB.mono (dc g _) (hp g _ _ _ hP))
 exact k _ h' tk _ (dc g _) R2 (.ref R'.last)
theorem Np.turned{β:Type}{t:Sem β}{b:β}{γ:Type}{c:γ}{a:Nat}{o o':O}{x y:Addr}(hp:g.ρ[a]? =some (x,y))(ho:st.H[a]? =some o)(n1:o.cU=false)(n2:o'.cU=false){rel:Gs->γ->β->Prop}(hrel:rel g c b)
  (h:∀ (s:Shared) (Q:β->Shared->Prop) (E:Value->Shared->Prop),Rel m g st s.heap->
   (∀ h' ob tk,(∀ d o,d≠x->s.heap.get? d=some o->h'.get? d=some o)->h'.get? x=some ob->bB m.c g (x,y) o' ob->Q b {s with heap:=h',toks:=tk})->aq (model m.c.prog m.c.w) m.A t Q E s):
  Np m g st t (.ok c {st with H:=st.H.set a o'}) rel:=by
 intro s Q E R k
 exact h s Q E R fun h' ob tk hs hob hP=>k g h' tk b (.refl g) ⟨R.inv.putK hp ho n1 n2 hs hob hP,R.loc⟩ hrel
theorem Inv.bx{c:Cx}{g:Gs}{H:Hp}{h:Heap}(I:Inv c g H h){a:Nat}{x y:Addr}{b:List UInt8}(hp:g.ρ[a]? =some (x,y))(ho:H[a]? =some (.bx b)):cw h x b:=by
 obtain⟨ob,h1,h2⟩:=I.obj hp ho
 exact h1.trans (congrArg some h2)
theorem nW{β:Type}{a:Nat}{o:O}{f:Unit->M β}:(Lite.put a o>>=f) st=f () {st with H:=st.H.set a o}:=rfl
theorem VR.none_inv{c:Cx}{r:Value}(v:VR c g .none r):r=.none:=v
theorem sj:Slot "bytearray" "__len__" "bytearray.__len__":=
 .of (owner:="bytearray") (n:="__len__") (by rw[typeLookup_type,builtinLookup_eq_fast];kernel_rfl) (by decide+kernel) (by decide+kernel) (by decide+kernel)
  (by first |exact .inl (by decide+kernel) |exact .inr (by decide+kernel)) (by rw[isSubtype_type];kernel_rfl)
theorem zU:entryFor table "bytearray.__len__"=some Builtin.«bytearray.__len__»:=entryFor_of_tree (by kernel_rfl)
theorem zV(a:Value):argsOk "bytearray.__len__" ⟨[a],[]⟩:=by unfold argsOk;kernel_rfl
theorem zW(a:Value):slotArgs "__len__" 0 ⟨[a],[]⟩=pure (a,[]):=by kernel_rfl
theorem zX{prog:Program}{w:World}{A:Around}{E:Value->Shared->Prop}{s:Shared}{a:Addr}{b:List UInt8}{Q:Value->Shared->Prop}(hb:cw s.heap a b)(hz:b.length<=1048576)(h:∀ t k,Q (.int b.length t) {s with toks:=k}):
  wpAny (model prog w) A (PySem.call (.builtin "len") [.ref a]) Q E s:=by
 refine call_function_entry kind_len plain_len entry_len (args_len1 _) ?_
 unfold Builtin.«len»
 refine wpAny_bind (m:=oneArg "len" _) (wpAny_pure ?_)
 refine wpAny_bind (m:=callSpecial? (.ref a) (Str.ofString "__len__")) (wpAny_callSpecial?_slot (name:=Str.ofString "__len__") hb.type sj
  (wpAny_call_entry sj hb.type zU ?_ (zV _)))
 unfold Builtin.«bytearray.__len__»
 refine wpAny_bind (wpAny_of_eq (zW _) ?_)
 refine wpAny_bind (jM hb ?_)
 refine wpAny_bind (wpAny_mkInt (wpAny_pure ⟨_,rfl,?_⟩))
 refine wpAny_bind (wpAny_holding (wpAny_pure ?_))
 refine wpAny_bind (wpAny_letGo ?_)
 show wpAny _ _ (if ((b.toArray.size:Nat):Int)<0 then _ else _) _ _ _
 rw[if_neg (by lia)]
 show wpAny _ _ (if ((b.toArray.size:Nat):Int) ≥ 2 ^ 63 then _ else _) _ _ _
 rw[if_neg (by rw[List.size_toArray];lia)]
 exact wpAny_bind (wpAny_mkInt (wpAny_pure ⟨_,rfl,by rw[List.size_toArray];exact h _ _⟩))
theorem zY(vs:List Value)(r:Value):vs.toArray.push r=(vs++[r]).toArray:=by simp
theorem zZ{v:V}{u:UInt8}(e:mU v=some u):∃ i:Int,v=.int i∧(0<=i∧i<256)∧u=i.toNat.toUInt8:=by
 obtain⟨i,h1,e⟩:=Option.bind_eq_some_iff.mp e
 by_cases h:0<=i∧i<256
 ·rw[if_pos h]at e
  exact⟨i,gL h1,h,(Option.some.inj e).symm⟩
 ·rw[if_neg h]at e;contradiction
theorem z0{c:Cx}{g:Gs}{xs:List V}{vs:List Value}(h:ay c g xs vs):∀ {b:List UInt8},bytesOf xs=some b->∃ ns,bp (IntsAre vs ns) (∀ n∈ns,0<=n∧n<256) (ns.map (fun n:Int=>n.toNat.toUInt8)=b):=by
 induction h using aC.ind with
 |nil=>exact fun e=>⟨[],.nil,fun n hn=>(nomatch hn),Option.some.inj e⟩
 | @cons x v xs vs h1 _ ih=>?_
 intro b e
 unfold bytesOf at e
 rw[List.mapM_cons]at e
 obtain⟨u,e1,e⟩:=Option.bind_eq_some_iff.mp e
 obtain⟨r,e2,e⟩:=Option.bind_eq_some_iff.mp e
 obtain⟨ns,i1,i2,i3⟩:=ih e2
 obtain⟨i,rfl,hr,rfl⟩:=zZ e1
 obtain⟨t,rfl⟩:=h1
 exact⟨i::ns,.cons _ _ i1,List.forall_mem_cons.mpr ⟨hr,i2⟩,(congrArg (_::·) i3).trans (Option.some.inj e)⟩
theorem Np.dp{args:List V}{rs:List Value}{t:List Value->Sem Value}{f:V->M V}(va:m.ay g args rs)(h:∀ a r,m.VR g a r->Np m g st (t [r]) (f a st) m.VR):Np m g st (t rs) ((Lite.dp args>>=f) st) m.VR:=by
 cases args with
 |nil=>exact Np.no
 |cons a args=>
  obtain⟨r,rs,rfl,v,va⟩:=va
  cases args with
  |nil=>exact(show rs=[] from va)▸h _ _ v
  |cons _ _=>exact Np.no
theorem Np.dZ{args:List V}{rs:List Value}{t:List Value->Sem Value}{f:V×V->M V}(va:m.ay g args rs)(h:∀ a b r r',m.VR g a r->m.VR g b r'->Np m g st (t [r,r']) (f (a,b) st) m.VR):Np m g st (t rs) ((Lite.dZ args>>=f) st) m.VR:=by
 cases args with
 |nil=>exact Np.no
 |cons a args=>
  obtain⟨r,rs,rfl,v,va⟩:=va
  cases args with
  |nil=>exact Np.no
  |cons b args=>
   obtain⟨r',rs,rfl,w,va⟩:=va
   cases args with
   |nil=>exact(show rs=[] from va)▸h _ _ _ _ v w
   |cons _ _=>exact Np.no
theorem Np.iP{args:List V}{rs:List Value}{t:List Value->Sem Value}{f:V×V×V->M V}(va:m.ay g args rs)(h:∀ a b c r r' r'',m.VR g a r->m.VR g b r'->m.VR g c r''->Np m g st (t [r,r',r'']) (f (a,b,c) st) m.VR):Np m g st (t rs) ((Lite.iP args>>=f) st) m.VR:=by
 cases args with
 |nil=>exact Np.no
 |cons a args=>
  obtain⟨r,rs,rfl,v,va⟩:=va
  cases args with
  |nil=>exact Np.no
  |cons b args=>
   obtain⟨r',rs,rfl,w,va⟩:=va
   cases args with
   |nil=>exact Np.no
   |cons c args=>
    obtain⟨r'',rs,rfl,u,va⟩:=va
    cases args with
    |nil=>exact(show rs=[] from va)▸h _ _ _ _ _ _ v w u
    |cons _ _=>exact Np.no
theorem Np.ite{c:Prop}[Decidable c]{a b:M V}{t:Sem Value}(ha:c->Np m g st t (a st) m.VR)(hb:¬ c->Np m g st t (b st) m.VR):Np m g st t ((if c then a else b) st) m.VR:=by
 by_cases h:c
 ·rw[if_pos h];exact ha h
 ·rw[if_neg h];exact hb h
section
variable {args:List V} {rs:List Value}
theorem len_list{l:Addr}{vs:List Value}{A:Around}{prog:Program}{w:World}{E:Value->Shared->Prop}{s:Shared}{Q:Value->Shared->Prop}{n:Nat}(hl:s.heap.IsList l vs.toArray)(hn:n=vs.length)(hz:decide (n<=lim)=true)(h:∀ t k,Q (.int n t) {s with toks:=k}):
  wpAny (model prog w) A (PySem.call (.builtin "len") [.ref l]) Q E s:=by
 subst hn
 have e:vs.toArray.size=vs.length:=List.size_toArray
 refine call_len_list hl (by rw[e];exact Int.lt_of_le_of_lt (Int.ofNat_le.mpr (of_decide_eq_true hz)) (by decide)) ?_
 rw[e];exact h _ _
theorem z7{a:Nat}{x y:Addr}(hp:g.ρ[a]? =some (x,y)):Np m g st (PySem.call (.builtin "len") [.ref x]) ((Lite.obj a>>=kR) st) m.VR:=by
 refine Np.obj fun ob ho=>?_
 cases ob with
 |list xs=>
  refine Np.aK fun hg=>(Wp.val fun s Q E R k=>?_).np
  obtain⟨vs,i1,i2⟩:=R.inv.list hp ho
  exact len_list i1 i2.length hg fun t kk=>k _ _ (.int _ _)
 |bx b=>
  refine Np.aK fun hg=>(Wp.val fun s Q E R k=>?_).np
  exact zX (R.inv.bx hp ho) (of_decide_eq_true hg) fun t kk=>k _ _ (.int _ _)
 |_=>exact Np.no
theorem z8(va:m.ay g args rs):Np m g st (PySem.call (.builtin "len") rs) (qu args st) m.VR:=by
 refine Np.dp (t:=fun rs=>PySem.call (.builtin "len") rs) va fun a r v=>?_
 cases a with
 |bytes b=>
  obtain⟨t,rfl⟩:=v
  refine Np.aK fun hg=>(Wp.val fun s Q E R k=>?_).np
  have e:b.toArray.size=b.length:=List.size_toArray
  refine len_bytes (by rw[e];exact Nat.le_trans (of_decide_eq_true hg) (by decide)) ?_
  rw[e];exact k _ _ (.int _ _)
 | «ints» l=>
  refine Np.aK fun hg=>(Wp.val fun s Q E R k=>?_).np
  obtain⟨a,vs,rfl,⟨o,h1,h2,n,h3⟩,hi⟩:=v
  exact len_list ⟨o,R.inv.base _ _ h1,h2,n,h3⟩ hi.length.symm hg fun t kk=>k _ _ (.int _ _)
 |ref a=>
  obtain⟨x,y,rfl,hp⟩:=v
  exact z7 hp
 |_=>exact Np.no
theorem z9(va:m.ay g args rs):Np m g st (PySem.call (.builtin "abs") rs) (qv args st) m.VR:=by
 refine Np.dp (t:=fun rs=>PySem.call (.builtin "abs") rs) va fun a r v=>Np.bh fun i hi=>?_
 subst hi
 obtain⟨t,rfl⟩:=v.int_inv
 refine(Wp.val fun s Q E R k=>call_abs_int fun u tk=>k _ _ ?_).np
 have:(if i<0 then -i else i)=(i.natAbs:Int):=by split<;>lia
 rw[this];exact .int _ _
theorem nX{a b:Int}{t t':Tok}:(if b<a then Value.int b t' else .int a t)=.int (min a b) (if b<a then t' else t):=by
 by_cases q:b<a
 ·simp only[if_pos q,if_pos q,Int.min_eq_right (Int.le_of_lt q)]
 ·simp only[if_neg q,if_neg q,Int.min_eq_left (Int.not_lt.mp q)]
theorem Aa(hh:m.A.handled=none)(va:m.ay g args rs):Np m g st (PySem.call (.builtin "min") rs) (qw args st) m.VR:=by
 refine Np.dZ (t:=fun rs=>PySem.call (.builtin "min") rs) va fun a b r r' v v'=>Np.bh fun i hi=>Np.bh fun j hj=>?_
 dsimp only at hi hj
 subst hi hj
 obtain⟨t,rfl⟩:=v.int_inv
 obtain⟨t',rfl⟩:=v'.int_inv
 refine(Wp.kept fun s Q E R k=>min_two_ints hh fun h' tk hk=>?_).np
 rw[nX];exact k _ _ _ hk (.int _ _)
theorem Ab(hh:m.A.handled=none)(va:m.ay g args rs):Np m g st (PySem.call (.builtin "min") rs) (qx args st) m.VR:=by
 refine Np.iP (t:=fun rs=>PySem.call (.builtin "min") rs) va fun a b c r r' r'' v v' v''=>Np.bh fun i hi=>Np.bh fun j hj=>Np.bh fun d hd=>?_
 dsimp only at hi hj hd
 subst hi hj hd
 obtain⟨t,rfl⟩:=v.int_inv
 obtain⟨t',rfl⟩:=v'.int_inv
 obtain⟨t'',rfl⟩:=v''.int_inv
 refine(Wp.kept fun s Q E R k=>min_three_ints hh fun h' tk hk=>?_).np
 have:∃ u,(if j<i then (if d<j then Value.int d t'' else .int j t')else (if d<i then .int d t'' else .int i t))=.int (min (min i j) d) u:=by
  by_cases q:j<i
  ·rw[if_pos q,nX,Int.min_eq_right (Int.le_of_lt q)];exact⟨_,rfl⟩
  ·rw[if_neg q,nX,Int.min_eq_left (Int.not_lt.mp q)];exact⟨_,rfl⟩
 obtain⟨u,e⟩:=this
 rw[e];exact k _ _ _ hk (.int _ _)
theorem Ac(va:m.ay g args rs):Np m g st (PySem.call (.builtin "isinstance") rs) (qy args st) m.VR:=by
 refine Np.dZ (t:=fun rs=>PySem.call (.builtin "isinstance") rs) va fun a b r r' v v'=>Np.bh fun i hi=>?_
 dsimp only at hi
 subst hi
 obtain⟨t,rfl⟩:=v.int_inv
 refine Np.iK fun n hn=>Np.aK fun hg=>?_
 dsimp only at hn
 subst hn
 have hg:=of_decide_eq_true hg
 subst hg
 rw[show r'=.type "int" from v']
 exact(Wp.val fun s Q E R k=>PySem.IsiPair.int_int (k _ _ (.bool _))).np
theorem Ad(va:m.ay g args rs):Np m g st (PySem.call (.builtin "list.append") rs) (qz args st) m.VR:=by
 refine Np.dZ (t:=fun rs=>PySem.call (.builtin "list.append") rs) va fun a v r r' w w'=>Np.bq fun i hi=>Np.bH fun xs hxs=>Np.aK fun hg=>?_
 dsimp only at hi
 subst hi
 obtain⟨x,y,rfl,hp⟩:=w
 rw[nW]
 refine Np.turned (o':=.list (xs++[v])) hp hxs rfl rfl .none fun s Q E R k=>bz ?_
 obtain⟨vs,n,i1,i2⟩:=R.inv.ij hp hxs
 refine wpAny_list_append_plain (l:=x) (items:=vs.toArray) ⟨n,i1⟩ (fun h' hP hs=>?_) (by rw[List.size_toArray,<-i2.length];exact Nat.le_trans (Nat.le_of_lt (of_decide_eq_true hg)) (by decide))
 obtain⟨n',e⟩:=hP
 rw[zY]at e
 exact k h' _ _ (fun d o hd q=>(hs.2 d hd).trans q) e ⟨_,n',rfl,i2.append (.cons w' .nil)⟩
theorem so{a:Option V}{b:Option Value}{d:V}{rd:Value}(z:ct m.c g a b)(hd:m.VR g d rd):m.VR g (a.getD d) (b.getD rd):=by
 cases a with
 |none=>exact(show b=Option.none from z)▸hd
 |some a=>obtain⟨r,rfl,h⟩:=z;exact h
theorem Ae(hb:∃ o,m.c.b₀.get? sysModules=some o)(va:m.ay g args rs):Np m g st (PySem.call (.builtin "dict.get") rs) (qA args st) m.VR:=by
 refine Np.dZ (t:=fun rs=>PySem.call (.builtin "dict.get") rs) va fun a j r r' w w'=>Np.bq fun i hi=>Np.bh fun j' hj=>Np.dictAt fun es hes=>(Wp.val fun s Q E R k=>?_).np
 dsimp only at hi hj
 subst hi hj
 obtain⟨x,y,rfl,hp⟩:=w
 obtain⟨t,rfl⟩:=w'.int_inv
 obtain⟨kvs,i1,i2⟩:=R.inv.dict hp hes
 obtain⟨om,hb⟩:=hb
 have ne:=R.inv.nG hp hes hb
 refine call_meetsIn F.slot_dict_get i1.mapOf.typeIs F.entry_dict_get (F.args_dict_get_2 _ _) (meets_dict_get _ x (intKind_is _ _ j' t) (by simpa using ne)) ⟨_,i1.mapOf,?_⟩
 refine k _ _ ?_
 have z:=so (jL i2 j') VR.none
 cases e2:valueAt kvs j' with
 |none=>rw[e2]at z;exact z
 |some _=>rw[e2]at z;exact z
theorem Af(hb:∃ o,m.c.b₀.get? sysModules=some o)(va:m.ay g args rs):Np m g st (PySem.call (.builtin "dict.get") rs) (qB args st) m.VR:=by
 refine Np.iP (t:=fun rs=>PySem.call (.builtin "dict.get") rs) va fun a j d r r' r'' w w' w''=>Np.bq fun i hi=>Np.bh fun j' hj=>Np.dictAt fun es hes=>(Wp.val fun s Q E R k=>?_).np
 dsimp only at hi hj
 subst hi hj
 obtain⟨x,y,rfl,hp⟩:=w
 obtain⟨t,rfl⟩:=w'.int_inv
 obtain⟨kvs,i1,i2⟩:=R.inv.dict hp hes
 obtain⟨om,hb⟩:=hb
 have ne:=R.inv.nG hp hes hb
 refine call_meetsIn F.slot_dict_get i1.mapOf.typeIs F.entry_dict_get (F.args_dict_get_3 _ _ _) (meets_dict_get_default _ x (intKind_is _ _ j' t) (by simpa using ne) r'') ⟨_,i1.mapOf,?_⟩
 refine k _ _ ?_
 have z:=so (jL i2 j') w''
 cases e2:valueAt kvs j' with
 |none=>rw[e2]at z;exact z
 |some _=>rw[e2]at z;exact z
theorem Ag(O:bu m)(va:m.ay g args rs):Np m g st (PySem.call (.builtin "bytearray.extend") rs) (qC args st) m.VR:=by
 refine Np.dZ (t:=fun rs=>PySem.call (.builtin "bytearray.extend") rs) va fun a x0 r r' w w'=>Np.bq fun i hi=>Np.eV fun u hu=>Np.ey fun b hb'=>Np.aK fun hg=>?_
 dsimp only at hi hu
 subst hi hu
 obtain⟨x,y,rfl,hp⟩:=w
 obtain⟨t,rfl⟩:=w'.nD
 have hg:=of_decide_eq_true hg
 rw[lu]at hg
 rw[nW]
 refine Np.turned (o':=.bx (b++u)) hp hb' rfl rfl .none fun s Q E R k=>?_
 exact zL O.eH (R.inv.bx hp hb') hg fun h' hs hb2=>k h' _ _ (fun d o hd q=>(hs.2 d hd).trans q) hb2 rfl
end
theorem sq{P:aQ}{id:String}(O:bu m)(hh0:id≠"len"->m.A.handled=none)(hb:∃ o,m.c.b₀.get? sysModules=some o){args:List V}{rs:List Value}(va:m.ay g args rs)
  (hrem:id="list.remove"->Np m g st (PySem.call (.builtin id) rs) (mV P args st) m.VR):
  Np m g st (PySem.call (.builtin id) rs) (bi P id args st) m.VR:=
 Np.ite (fun e=>e▸z8 va) fun h=>Np.ite (fun e=>e▸z9 va) fun _=>Np.ite (fun e=>e▸Np.ite (fun _=>Aa (hh0 h) va) fun _=>Ab (hh0 h) va) fun _=>
  Np.ite (fun e=>e▸Ac va) fun _=>Np.ite (fun e=>e▸Ad va) fun _=>Np.ite hrem fun _=>Np.ite (fun e=>e▸Np.ite (fun _=>Ae hb va) fun _=>Af hb va) fun _=>
  Np.ite (fun e=>e▸Ag O va) fun _=>Np.no
end
section
variable {m:Am} {g:Gs} {st:St} {α:Type}
section
variable {args:List V} {rs:List Value}
theorem Ah(va:m.ay g args rs):Np m g st (PySem.call (.type "int") rs) (qD args st) m.VR:=by
 refine Np.dp (t:=fun rs=>PySem.call (.type "int") rs) va fun a r v=>Np.dz fun b hb=>?_
 subst hb
 obtain rfl:=v.bool_inv
 exact(Wp.val fun s Q E R k=>call_int_bool (k _ _ (.int _ _))).np
theorem Ai(va:m.ay g args rs):Np m g st (PySem.call (.type "range") rs) (qE args st) m.VR:=by
 refine Np.dp (t:=fun rs=>PySem.call (.type "range") rs) va fun a r v=>Np.bh fun b hb=>?_
 subst hb
 obtain⟨t,rfl⟩:=v.int_inv
 refine Np.laid (o:=.range b) rfl (fun s Q E R k=>bz ?_) fun g p q ob h=>h
 exact call_range_1 (k _ _ _ _ (fun b o e=>Heap.get?_push_of_some _ e) (dq _) (Heap.get?_push_size _ rfl) ⟨_,_,_,rfl⟩)
theorem Aj(hh:m.A.handled=none)(va:m.ay g args rs):Np m g st (PySem.call (.type "bytes") rs) (qF args st) m.VR:=by
 refine Np.dp (t:=fun rs=>PySem.call (.type "bytes") rs) va fun a r v=>?_
 cases a with
 |int i=>
  obtain⟨t,rfl⟩:=v.int_inv
  refine Np.aK fun hg=>(Wp.val fun s Q E R k=>?_).np
  obtain⟨h1,h2⟩:=Bool.and_eq_true_iff.mp hg
  refine zi (of_decide_eq_true h1) (of_decide_eq_true h2) fun t k'=>k _ _ ?_
  rw[show(Array.replicate i.toNat (0:UInt8))=(List.replicate i.toNat (0:UInt8)).toArray by simp]
  exact .bytes _ _
 |bytes b=>
  obtain⟨t,rfl⟩:=v.nD
  exact(Wp.val fun s Q E R k=>zj (k _ s.toks (.bytes _ _))).np
 |ref a=>
  obtain⟨x,y,rfl,hp⟩:=v
  refine Np.obj fun ob ho=>?_
  cases ob with
  |list xs=>
   refine Np.aK fun hg=>Np.ar fun b hb=>(Wp.kept fun s Q E R k=>?_).np
   obtain⟨vs,i1,i2⟩:=R.inv.list hp ho
   obtain⟨ns,j1,j2,j3⟩:=z0 i2 hb
   refine call_bytes_ints i1 j1 j2 (i2.length▸Nat.le_trans (of_decide_eq_true hg) (by decide)) hh fun h' t tk hk=>k _ _ _ hk ?_
   exact(show byteArr ns=b.toArray from congrArg List.toArray j3)▸.bytes _ _
  |bx b=>
   refine Np.aK fun hg=>(Wp.val fun s Q E R k=>?_).np
   have hg:=of_decide_eq_true hg
   rw[lu]at hg
   exact zm (R.inv.bx hp ho) hg fun t tk=>k _ _ (.bytes _ _)
  |_=>exact Np.no
 |_=>exact Np.no
theorem Ak(O:bu m)(va:m.ay g args rs):Np m g st (PySem.call (.type "bytearray") rs) (qG args st) m.VR:=by
 cases args with
 |nil=>
  rw[show rs=[] from va]
  refine Np.laid (o:=.bx []) rfl (fun s Q E R k=>?_) fun g p q ob h=>h
  exact zF O.eH fun h' a hk hn hb=>k a h' _ _ hk hn hb rfl
 |cons _ _=>exact Np.no
theorem Al(O:bu m)(va:m.ay g args rs):Np m g st (PySem.call (.type "bytearray") rs) (qH args st) m.VR:=by
 refine Np.dp (t:=fun rs=>PySem.call (.type "bytearray") rs) va fun a r v=>Np.eV fun b hb=>Np.aK fun hg=>?_
 subst hb
 obtain⟨t,rfl⟩:=v.nD
 have hg:=of_decide_eq_true hg
 rw[lu]at hg
 refine Np.laid (o:=.bx b) rfl (fun s Q E R k=>?_) fun g p q ob h=>h
 exact sh O.eH hg fun h' a hk hn hb=>k a h' _ _ hk hn hb rfl
theorem An(va:m.ay g args rs):Np m g st (PySem.call (.type "list") rs) (qI args st) m.VR:=by
 refine Np.dp (t:=fun rs=>PySem.call (.type "list") rs) va fun a r v=>Np.bq fun b hb=>Np.bH fun xs hxs=>Np.aK fun hg=>?_
 subst hb
 obtain⟨x,y,rfl,hp⟩:=v
 refine Np.laid (o:=.list xs) rfl (fun s Q E R k=>bz ?_) fun g p q ob h=>h
 obtain⟨vs,nn,i1,i2⟩:=R.inv.ij hp hxs
 exact call_list_seq x (.inl rfl) i1 rfl rfl (fun h' c' hk hD=>k _ h' _ _ hk (dq _) hD ⟨vs,c',rfl,i2⟩) (by rw[List.size_toArray,<-i2.length];exact Nat.le_trans (of_decide_eq_true hg) (by decide))
end
theorem Ao(O:bu m)(hh:m.A.handled=none){n:String}{args:List V}{rs:List Value}(va:m.ay g args rs):Np m g st (PySem.call (.type n) rs) (qJ n args st) m.VR:=
 Np.ite (fun e=>e▸Ah va) fun _=>Np.ite (fun e=>e▸Ai va) fun _=>Np.ite (fun e=>e▸Aj hh va) fun _=>Np.ite (fun e=>e▸Np.ite (fun _=>Ak O va) fun _=>Al O va) fun _=>
  Np.ite (fun e=>e▸An va) fun _=>Np.no
end
section
open _root_.PySem.SeqAt
section
variable {prog:Program} {w:World} {A:Around} {E:Value->Shared->Prop} {s:Shared} {K:Frag} {x y C:Addr} {ox oy od od':Obj}
theorem Ap{Q:Value->Shared->Prop}(X:K.In s.heap)(I:InstAt s.heap x ox C (some od))(J:InstAt s.heap y oy C (some od'))(hq:gN K C=true)(hxy:x≠y)(h:Q .notImplemented s):
  wpAny (model prog w) A (PySem.call (.builtin "object.__eq__") [.ref x,.ref y]) Q E s:=by
 simp only[gN,Bool.and_eq_true,beq_iff_eq]at hq
 obtain⟨h1,h2⟩:=hq
 obtain⟨cd,hc,ho⟩:=any_some h2
 have ne:cd.mro.isEmpty=false:=by cases q:cd.mro with |nil=>rw[q]at ho;cases ho |cons _ _=>rfl
 have sub:Looks (model prog w) s.heap (isInstance (.ref x) (.type "object")) true:=I.type.andThen (looks_mroIn X (by unfold mroIn;rw[hc,Option.bind_some,if_neg (by rw[ne];decide),only_has ho]))
 refine wpAny_call (codeAny_call_builtin F.cmp_object.eq.plain F.cmpEntry_eq (@check_slot (model prog w) _ _ s "object.__eq__" "object" "__eq__" (.ref x) [.ref y] [] _ F.cmpKind_eq F.cmpSplit_eq sub (F.cmpArgs_eq (.ref x) (.ref y)) ?_))
 exact objEq_entry_other hxy I.at_ J.at_ (by rw[I.cls];exact fun e=>by contradiction) h
theorem sr{Q:Option Value->Shared->Prop}(X:K.In s.heap)(I:InstAt s.heap x ox C (some od))(J:InstAt s.heap y oy C (some od'))(hq:gN K C=true)(hxy:x≠y)(h:Q none s):
  wpAny (model prog w) A (tryCompare (.ref x) "__eq__" (.ref y)) Q E s:=by
 have h1:findIn K (.ref C) "__eq__"=some (some (.builtin "object.__eq__")):=by simp only[gN,Bool.and_eq_true,beq_iff_eq]at hq;exact hq.1
 unfold tryCompare
 refine wpAny_bind ?_
 simp only[callSpecialIfBound?,bindSpecialIfBound?,specialOf]
 refine wpAny_holding (wpAny_bind (wpAny_bind (wpAny_bind (I.type.here ((looks_findIn X h1).here ?_)))))
 simp only[F.cmp_object.eq.bind]
 refine wpAny_bind (wpAny_askSetting (wpAny_ite ?_))
 have fin:wpAny (model prog w) A (PySem.call (.builtin "object.__eq__") ([.ref x]++[.ref y])>>=fun v=>pure (some v)) (fun r s'=>wpAny (model prog w) A (match r with |some .notImplemented |none=>pure none |some v=>pure (some v)) Q E s') E s:=
  wpAny_bind (Ap X I J hq hxy (wpAny_pure (wpAny_pure h)))
 split
 ·exact wpAny_bind (wpAny_pure (wpAny_pure fin))
 ·exact wpAny_tryCatch (wpAny_bind (wpAny_pure (wpAny_pure fin)))
theorem Aq(X:K.In s.heap)(I:InstAt s.heap x ox C (some od))(J:InstAt s.heap y oy C (some od'))(hq:gN K C=true)(hxy:x≠y)(hu:A.units<cLine):RcAt A s (.ref x) (.ref y) false:=fun prog w E Q h=>by
 unfold richCompare
 simp only[oneThing_ref]
 refine wpAny_holding (wpAny_bind (wpAny_cRoomFor hu ?_))
 refine wpAny_bind (I.type.here (wpAny_bind (J.type.here ?_)))
 rw[if_neg (by simp)]
 refine wpAny_bind (wpAny_pure ?_)
 simp only[Bool.false_eq_true,if_false]
 refine wpAny_bind (sr X I J hq hxy ?_)
 dsimp only
 rw[if_pos (by decide)]
 refine wpAny_bind (sr X J I hq hxy.symm ?_)
 dsimp only
 refine wpAny_bind (wpAny_rule (wpAny_bind (wpAny_isSame_ref_other hxy I.at_ J.at_ (by rw[I.cls];exact fun e=>by contradiction) (wpAny_pure h))))
theorem Ar{l:Addr}{items:Array Value}{n j:Nat}{v:Value}(hj:j<items.size)(hs1:items.size<=sizeLine){Q:Value->Shared->Prop}
  (hl:s.heap.get? l=some {cls:=.type "list",data:=.seq items n}) (he:∀ i (hi:i<items.size),i<=j->EqAt A.in1 s items[i] v (decide (i=j)))
  (h:Q .none {s with heap:=s.heap.update l (Obj.mapSeq fun xs=>xs.eraseIdxIfInBounds j)}):
  wpAny (model prog w) A (PySem.call (.builtin "list.remove") [.ref l,v]) Q E s:=by
 have loop:∀ k i:Nat,j-i=k->i<=j->codeAny (model prog w) A (.builtin "list.remove.loop" ⟨[.ref l,v,rawInt i],[]⟩) (fun r s'=>match r with | .ok (.ret v)=>Q v s' | .ok _=>False | .error e=>E e s') s:=by
  intro k
  induction k with
  |zero=>
   intro i hk hij
   have hij':i=j:=by omega
   subst hij'
   refine codeAny_builtin PySem.MeetsSeq.entry_remove_loop ?_
   rw[Around.under_plainId PySem.MeetsSeq.plain_remove_loop _]
   unfold Builtin.«list.remove.loop» Builtin.List.listItems
   dsimp only
   refine wpAny_bind (wpAny_bind (wpAny_seqItems hl rfl (wpAny_pure ?_)))
   have hi:items[((i:Nat):Int).toNat]? =some items[i]:=by simp[hj]
   rw[hi]
   dsimp only
   refine wpAny_bind (he i hj (Nat.le_refl _) prog w E _ ?_)
   rw[decide_eq_true rfl]
   refine bm_if_true rfl ?_
   have hz':(items.eraseIdxIfInBounds i).size<=sizeLine+1:=by
    have:(items.eraseIdxIfInBounds i).size<=items.size:=by
     unfold Array.eraseIdxIfInBounds;split<;>simp
    omega
   unfold Builtin.List.listUpdate
   refine wpAny_bind (wpAny_updateSeq hl rfl (hz:=hs1) (_hz':=hz') ?_)
   exact wpAny_pure h
  |succ k ih=>
   intro i hk hij
   have hlt:i<items.size:=by omega
   refine codeAny_builtin PySem.MeetsSeq.entry_remove_loop ?_
   rw[Around.under_plainId PySem.MeetsSeq.plain_remove_loop _]
   unfold Builtin.«list.remove.loop» Builtin.List.listItems
   dsimp only
   refine wpAny_bind (wpAny_bind (wpAny_seqItems hl rfl (wpAny_pure ?_)))
   have hi:items[((i:Nat):Int).toNat]? =some items[i]:=by simp[hlt]
   rw[hi]
   dsimp only
   refine wpAny_bind (he i hlt hij prog w E _ ?_)
   rw[decide_eq_false (by omega)]
   refine bm_if_false rfl ?_
   have hc:((i:Int)+1)=((i+1:Nat):Int):=by push_cast;rfl
   rw[hc]
   exact wpAny_pure ⟨plainId_quiet PySem.MeetsSeq.plain_remove_loop _,ih (i+1) (by omega) (by omega)⟩
 refine wpAny_call (codeAny_call_builtin F.slot_list_remove.plain F.entry_list_remove (F.slot_list_remove.check _ _ _ _ _ _ _ _ ⟨_,hl,rfl⟩ (F.args_list_remove_2 _ _) ?_))
 unfold Builtin.«list.remove»
 refine wpAny_bind (wpAny_pure ?_)
 exact wpAny_pure ⟨plainId_quiet PySem.MeetsSeq.plain_remove_loop _,loop j 0 (by omega) (by omega)⟩
end
section
variable {m:Am} {g:Gs} {st:St} {α:Type} {P:aQ} {K:Frag} {mg mb:Str->Option Value}
theorem Np.heap{β α:Type}{f:Hp->M α}{t:Sem β}{rel:Gs->α->β->Prop}(h:Np m g st t (f st.H st) rel):Np m g st t ((Lite.heap>>=f) st) rel:=h
theorem su{H:Hp}{v:V}{C:Addr}(e:fy H v=some C):bV fun a fs=>v=.ref a∧H[a]? =some (.inst C fs):=by
 obtain⟨x,e1,rfl⟩:=Option.map_eq_some_iff.mp e
 obtain⟨o,e2,h1⟩:=Option.bind_eq_some_iff.mp e1
 obtain⟨a,h2,h3⟩:=Option.bind_eq_some_iff.mp e2
 exact⟨a,x.2,gh h2,h3.trans (congrArg some (lk h1))⟩
theorem sv{b:Nat}{v:V}(h:isRef b v=true):v=.ref b:=by
 cases v<;>first |contradiction |exact congrArg V.ref (beq_iff_eq.mp h)
theorem As{c:Cx}{H:Hp}{C:Addr}{s:Shared}{A:Around}(I:Inv c g H s.heap)(PK:cD c P K mg mb)(hq:P.eqs.contains C=true)(hu:A.units<cLine){v v':V}{r r':Value}(hv:fy H v=some C)(hv':fy H v'=some C)(ne:v≠v')(q:VR c g v r)(q':VR c g v' r'):EqAt A s r r' false:=by
 obtain⟨a,fs,rfl,ha⟩:=su hv
 obtain⟨b,fs',rfl,hb⟩:=su hv'
 obtain⟨x,y,rfl,hp⟩:=q
 obtain⟨x',y',rfl,hp'⟩:=q'
 have nx:=I.inj hp ha hp' hb fun e=>ne (congrArg V.ref e)
 obtain⟨ds,n,J,_⟩:=I.inst hp ha
 obtain⟨ds',n',J',_⟩:=I.inst hp' hb
 exact EqAt.of_refs nx (Aq (PK.KX.keeps I.base) J J' (PK.eqs _ hq) nx hu)
theorem Au{c:Cx}{s:Shared}{A:Around}{b:Nat}{r r':Value}(q:VR c g (.ref b) r)(q':VR c g (.ref b) r'):EqAt A s r r' true:=by
 obtain⟨x,y,rfl,hp⟩:=q
 obtain⟨x',y',rfl,hp'⟩:=q'
 rw[show x=x' from congrArg Prod.fst (Option.some.inj (hp.symm.trans hp'))]
 exact EqAt.same _
theorem Av(O:bu m)(PK:cD m.c P K mg mb)(hu:m.A.units+1<cLine){args:List V}{rs:List Value}(va:m.ay g args rs):
  Np m g st (PySem.call (.builtin "list.remove") rs) (mV P args st) m.VR:=by
 refine Np.dZ (t:=fun rs=>PySem.call (.builtin "list.remove") rs) va fun a' b' r r' w w'=>Np.bq fun a ha=>Np.bq fun b hb=>?_
 dsimp only at ha hb
 subst ha hb
 obtain⟨x,y,rfl,hp⟩:=w
 refine Np.bH fun xs hxs=>Np.heap (Np.ar fun C hC=>Np.aK fun hg=>Np.ar fun k hk=>?_)
 obtain⟨hg,g3⟩:=Bool.and_eq_true_iff.mp hg
 obtain⟨g1,g2⟩:=Bool.and_eq_true_iff.mp hg
 rw[nW]
 refine Np.turned (o':=.list (xs.eraseIdx k)) hp hxs rfl rfl .none fun s Q E R kk=>bz ?_
 obtain⟨vs,n,i1,i2⟩:=R.inv.ij hp hxs
 obtain⟨kl,ke,kn⟩:=List.findIdx?_eq_some_iff_getElem.mp hk
 have hlen:=i2.length
 have hks:k<vs.toArray.size:=by rw[List.size_toArray,<-hlen];exact kl
 refine Ar hks (by rw[List.size_toArray,<-hlen];exact Nat.le_trans (of_decide_eq_true g2) (by decide)) i1 (fun i hi hij=>?_) (kk _ _ _ (fun d o hd q=>((Heap.SameBut.update s.heap x _).2 d hd).trans q) ?_ ⟨vs.eraseIdx k,n+1,rfl,i2.eraseIdx k⟩)
 ·have hi':i<xs.length:=Nat.lt_of_le_of_lt hij kl
  obtain⟨v,q1,q2⟩:=i2.get (List.getElem?_eq_getElem hi')
  rw[getElem_eq rfl hi q1]
  by_cases e:i=k
  ·subst e
   rw[decide_eq_true rfl]
   exact Au (sv ke▸q2) w'
  ·rw[decide_eq_false e]
   exact As R.inv PK g1 hu (beq_iff_eq.mp (List.all_eq_true.mp g3 _ (List.getElem_mem hi'))) hC (fun z=>kn i (Nat.lt_of_le_of_ne hij e) (z▸beq_self_eq_true b)) q2 w'
 ·have:=mapSeq_erase vs.toArray n k hks
  rw[Heap.get?_update_self _ i1 (by rw[this];rfl),this]
end
end
section
open _root_.PySem.SeqAt
theorem Aw:PlainAttrs "bytearray":=⟨⟨"bytearray.__getattribute__",by rw[typeLookup_type,builtinLookup_eq_fast];kernel_rfl,by decide+kernel⟩,by rw[typeLookup_type,builtinLookup_eq_fast];kernel_rfl⟩
theorem Ax:typeOf (.builtin "bytearray.extend")=pure (.type "method_descriptor"):=by show builtinType _=_;rw[builtinType_eq_fast];kernel_rfl
section
variable {m:Am} {g:Gs} {st:St} {α:Type} {P:aQ} {K:Frag} {mg mb:Str->Option Value}
theorem lD{a b:Str}(h:(a==b)=true):a=b:=beq_iff_eq.mp h
theorem Np.pick{b:Bool}{x:V×List V}{t:Sem (Value×List Value)}(h:b=true->Np m g st t (.ok x st) (RelM m.c)):Np m g st t (Lite.pick b x st) (RelM m.c):=Np.aK h
theorem lE{x y:Addr}{a:Nat}{n:String}(hp:g.ρ[a]? =some (x,y)):RelM m.c g (.bi n,[.ref a]) (.builtin n,[.ref x]):=⟨.bi _,.cons (.ref hp) .nil⟩
theorem Ay{x y:Addr}{a:Nat}{xs:List V}{pl:Sem Bool}{nm:Str}(hp:g.ρ[a]? =some (x,y))(ho:st.H[a]? =some (.list xs)):Np m g st (getMethod (.ref x) nm pl) (jx P (.ref a) nm (.list xs) st) (RelM m.c):=by
 show Np m g st _ ((if nm==("append":Str)then Pure.pure (V.bi "list.append",[V.ref a])else Lite.pick (nm==("remove":Str)) (V.bi "list.remove",[V.ref a]):M (V×List V)) st) _
 by_cases h1:(nm==("append":Str))=true
 ·rw[if_pos h1,lD h1]
  refine Wp.np fun s Q E R k=>?_
  obtain⟨vs,n,i1,i2⟩:=R.inv.ij hp ho
  exact getMethod_builtin ⟨_,i1,rfl⟩ F.plainAttrs_list F.slot_list_append F.type_list_append (fun b e=>by cases e;exact⟨_,i1,rfl⟩) (k g s.heap s.toks _ (.refl g) R (lE hp))
 ·rw[if_neg h1]
  refine Np.pick fun h2=>Wp.np fun s Q E R k=>?_
  rw[lD h2]
  obtain⟨vs,n,i1,i2⟩:=R.inv.ij hp ho
  exact getMethod_builtin ⟨_,i1,rfl⟩ F.plainAttrs_list F.slot_list_remove F.type_list_remove (fun b e=>by cases e;exact⟨_,i1,rfl⟩) (k g s.heap s.toks _ (.refl g) R (lE hp))
theorem Az(PK:cD m.c P K mg mb){v:V}{rv:Value}{nm:Str}{pl:Sem Bool}(vv:m.VR g v rv):Np m g st (getMethod rv nm pl) (getM P v nm st) (RelM m.c):=by
 refine Np.bq fun a hA=>?_
 subst hA
 obtain⟨x,y,rfl,hp⟩:=vv
 refine Np.obj fun ob ho=>?_
 cases ob with
 |inst C fs=>exact Np.ar fun k hk=>Np.aK fun hn=>Np.ar fun f hf=>(yR PK (.ref hp) ho hk hn hf).np
 |list xs=>exact Ay hp ho
 |dict es=>
  refine Np.pick fun h=>Wp.np fun s Q E R k=>?_
  rw[lD h]
  obtain⟨kvs,i1,i2⟩:=R.inv.dict hp ho
  exact getMethod_builtin i1.mapOf.typeIs F.plainAttrs_dict F.slot_dict_get F.type_dict_get i1.mapOf.noDict (k g s.heap s.toks _ (.refl g) R (lE hp))
 |bx b=>
  refine Np.pick fun h=>Wp.np fun s Q E R k=>?_
  rw[lD h]
  have i1:=R.inv.bx hp ho
  exact getMethod_builtin i1.type Aw nV Ax (fun b e=>by cases e;exact⟨_,i1,rfl⟩) (k g s.heap s.toks _ (.refl g) R (lE hp))
 |_=>exact Np.no
theorem AA{env:Env}{r:List Expr}(e:Expr):notStar e=true->starEach (e::r) env=(false,eval e env)::starEach r env:=
 Expr.casesOn (motive_1:=fun e=>notStar e=true->starEach (e::r) env=(false,eval e env)::starEach r env) e (fun _ _ _ _=>rfl) (fun _ _ _ _=>rfl) (fun _ _ _ _ _=>rfl) (fun _ _ _ _=>rfl) (fun _ _ _ _ _=>rfl) (fun _ _ _ _ _=>rfl) (fun _ _ _ _=>rfl) (fun _ _ _ _=>rfl) (fun _ _ _ _ _=>rfl) (fun _ _ _ _ _=>rfl) (fun _ _ _ _ _ _=>rfl) (fun _ _ _ _ _=>rfl) (fun _ _ _=>rfl) (fun _ _ _=>rfl) (fun _ _ _=>rfl) (fun _ _ _ _ _=>rfl) (fun _ _ _ _ _=>rfl) (fun _ _ _ _ _=>rfl) (fun _ _ _=>rfl) (fun _ _ _ _=>rfl) (fun _ _ _ _=>rfl) (fun _ _ _ _=>rfl) (fun a b=>fun h=>Bool.noConfusion h) (fun _ _ _=>rfl) (fun _ _ _=>rfl) (fun _ _ _ _=>rfl) (fun _ _ _ _ _=>rfl)
theorem iq{env:Env}{args:List Expr}(h:args.all notStar=true):starEach args env=args.map fun e=>(false,eval e env):=by
 induction args with
 |nil=>rfl
 |cons e r ih=>
  obtain⟨h1,h2⟩:=Bool.and_eq_true_iff.mp (List.all_cons▸h)
  rw[AA e h1,ih h2];rfl
theorem ir{env:Env}{pos:Pos}(args:List Expr):backTo pos (args.map fun e=>(false,eval e env))=args.map fun e=>(false,eval e env):=by
 unfold backTo
 rw[List.map_map]
 rfl
theorem lF{env:Env}(args:List Expr):(args.map fun e=>(false,eval e env)).any (·.1)=false:=by
 rw[List.any_map];simp
theorem all_plain{env:Env}(args:List Expr):(args.map fun e=>(false,eval e env)).all (fun x=>!x.1)=true:=by
 rw[List.all_map];simp
theorem nY{ev:Expr->M V}(h:∀ e,cF m (eval e m.env) (ev e) m.VR)(args:List Expr):∀ (g:Gs) (st:St),Np m g st (spliced (args.map fun e=>(false,eval e m.env))) (dD ev args st) m.ay:=by
 induction args with
 |nil=>exact fun g st=>Np.pure .nil
 |cons e r ih=>
  intro g st
  rw[List.map_cons,spliced]
  show Np m g st _ ((ev e>>=fun v=>dD ev r>>=fun vs=>Pure.pure (v::vs)) st) _
  refine Np.bind (h e g st) fun v st₁ g₁ b e1 x q=>?_
  simp only[Bool.false_eq_true,if_false]
  exact Np.e9 (Np.bind (Np.holding (ih g₁ st₁)) fun vs st₂ g₂ bs e2 x2 q2=>Np.pure (.cons (q.mono x2) q2))
end
end
section
open _root_.PySem.SeqAt
structure aA(m:Am)(P:aQ)(K:Frag)(mg mb:Str->Option Value):Prop where
 O:bu m
 PK:cD m.c P K mg mb
 sys:∃ o,m.c.b₀.get? sysModules=some o
 qs:∀ q∈P.tabs,q∈m.c.Qs
 lam:m.sc.isGenerator=false->∃ cc T,m.env.code=.ref cc∧CodeHd m.c.b₀ cc T∧(T,m.env.qual++"<lambda>")∈m.c.Qs∧mainGlobals≠T∧m.c.b₀.BuiltinsAt mg T
section
variable {m:Am} {g:Gs} {st:St} {α:Type} {P:aQ} {K:Frag} {mg mb:Str->Option Value}
theorem M.bind_assoc{α β γ:Type}(f:M α)(k:α->M β)(l:β->M γ):((f>>=k)>>=l)=(f>>=fun a=>k a>>=l):=by
 funext s
 show M.bind (M.bind f k) l s=M.bind f (fun a=>M.bind (k a) l) s
 unfold M.bind
 cases f s<;>rfl
theorem AB(PK:cD m.c P K mg mb)(k:Const):Np m g st (constValue m.env k) (const P k st) m.VR:=by
 cases k with
 |none=>exact Np.pure .none
 |bool b=>exact Np.pure (.bool b)
 |int i=>
  refine(Wp.val (v:=.int i) fun s Q E R k=>?_).np
  exact fun _ _ _=>k _ (s.toks+1) (.int i s.toks)
 |str x=>
  refine Np.ar fun k hk=>(Wp.val fun s Q E R kk=>?_).np
  have hT:=rP hk
  rw[<-PK.T]at hT
  exact fun _ _ _=>kk _ (s.toks+1) (.str s.toks hT)
 |bytes b=>
  refine(Wp.val (v:=.bytes b) fun s Q E R k=>?_).np
  exact fun _ _ _=>k _ (s.toks+1) (.bytes b s.toks)
 |_=>exact Np.no
theorem Inv.here{c:Cx}{H:Hp}{h:Heap}(I:Inv c g H h){a:Nat}{p:Addr×Addr}(hp:g.ρ[a]? =some p):∃ o,H[a]? =some o:=by
 have:=(List.getElem?_eq_some_iff.mp hp).1
 rw[I.len]at this
 exact⟨_,List.getElem?_eq_getElem this⟩
theorem nZ(a b:V):Still (iM a b):=by
 cases b with
 |none=>exact Still.ar _
 |ref b=>
  cases a with
  |none=>exact .pure _
  |ref a=>
   show Still (sameRef a b)
   unfold sameRef
   by_cases h:a=b
   ·rw[if_pos h];exact .pure _
   ·rw[if_neg h];exact(Still.b8 _ _).bind fun _=>.pure _
  |_=>exact .no
 |_=>exact .no
theorem AD{a:V}{ra:Value}{r:Bool}(va:m.VR g a ra)(e:qt a=some r):dE m g st .Is ra .none r∧dE m g st .IsNot ra .none (!r):=by
 cases a with
 |none=>
  rw[show ra=.none from va,<-Option.some.inj e]
  exact⟨fun s Q E R k=>is_none_none (k _),fun s Q E R k=>isnot_none_none (k _)⟩
 |ref a=>
  obtain⟨x,y,rfl,_⟩:=va
  rw[<-Option.some.inj e]
  exact⟨fun s Q E R k=>is_none_ne (fun z=>Value.noConfusion z) (k _),fun s Q E R k=>isnot_none_ne (fun z=>Value.noConfusion z) (k _)⟩
 |int a=>
  obtain⟨t,rfl⟩:=va
  rw[<-Option.some.inj e]
  exact⟨fun s Q E R k=>is_none_ne (fun z=>Value.noConfusion z) (k _),fun s Q E R k=>isnot_none_ne (fun z=>Value.noConfusion z) (k _)⟩
 |bytes a=>
  obtain⟨t,rfl⟩:=va
  rw[<-Option.some.inj e]
  exact⟨fun s Q E R k=>is_none_ne (fun z=>Value.noConfusion z) (k _),fun s Q E R k=>isnot_none_ne (fun z=>Value.noConfusion z) (k _)⟩
 |_=>exact ag e
theorem AE{a b:Nat}{ra rb:Value}{r:Bool}{st':St}(va:m.VR g (.ref a) ra)(vb:m.VR g (.ref b) rb)(e:sameRef a b st=.ok r st'):dE m g st .Is ra rb r∧dE m g st .IsNot ra rb (!r):=by
 obtain⟨x,y,rfl,hp⟩:=va
 obtain⟨x',y',rfl,hp'⟩:=vb
 unfold sameRef at e
 by_cases h:a=b
 ·rw[if_pos h]at e
  subst h
  rw[fA e,show x'=x from congrArg Prod.fst (Option.some.inj (hp'.symm.trans hp))]
  exact⟨fun s Q E R k=>wpAny_is_ref_self (k _),fun s Q E R k=>wpAny_isNot_ref_self (k _)⟩
 ·rw[if_neg h]at e
  obtain⟨z,hz,e⟩:=(Still.b8 _ _).inv e
  obtain⟨o,ho,hoi⟩:=rB hz
  rw[lk hoi]at ho
  rw[fA e]
  have key:∀ {h:Heap},Inv m.c g st.H h->∃ ob2,bp (x≠x') (h.get? x=some (instObj z.1 y)) (h.get? x'=some ob2):=fun I=>by
   obtain⟨ob,h1,h2⟩:=I.obj hp ho
   obtain⟨o2,ho2⟩:=I.here hp'
   obtain⟨ob2,h3,h4⟩:=I.obj hp' ho2
   exact⟨ob2,I.inj hp ho hp' ho2 h,h1.trans (congrArg some h2),h3⟩
  refine⟨fun s Q E R k=>?_,fun s Q E R k=>?_⟩
  all_goals obtain⟨ob2,ne,h1,h2⟩:=key R.inv
  ·exact wpAny_is_ref_other ne h1 h2 (fun e=>Value.noConfusion e) (k _)
  ·exact wpAny_isNot_ref_other ne h1 h2 (fun e=>Value.noConfusion e) (k _)
theorem sx{a b:V}{ra rb:Value}{r:Bool}{st':St}(va:m.VR g a ra)(vb:m.VR g b rb)(e:iM a b st=.ok r st'):dE m g st .Is ra rb r∧dE m g st .IsNot ra rb (!r):=by
 cases b with
 |none=>
  rw[show rb=.none from vb]
  exact AD va (lp e)
 |ref b=>
  cases a with
  |none=>
   rw[show ra=.none from va]
   obtain⟨x,y,rfl,hp⟩:=vb
   rw[fA e]
   exact⟨fun s Q E R k=>wpAny_is_other rfl (fun z=>Value.noConfusion z) (k _),fun s Q E R k=>wpAny_isNot_other rfl (fun z=>Value.noConfusion z) (k _)⟩
  |ref a=>exact AE va vb e
  |_=>exact iW e
 |_=>exact iW e
theorem AF:Still heap:=fun st=>.inl ⟨st.H,rfl⟩
theorem n3(a b:V):Still (kN a b):=AF.bind fun _=>Still.ar _
theorem n4{f:M Bool}(h:Still f):Still (jt f):=h.bind fun _=>.pure _
theorem n5{f:M Bool}{r:Bool}{st':St}(h:Still f)(e:jt f st=.ok r st'):∃ x,f st=.ok x st∧r= !x:=by
 obtain⟨x,h1,h2⟩:=h.inv e
 exact⟨x,h1,fA h2⟩
theorem lG(f:Int->Int->Bool)(a b:V):Still (iN f a b):=(Still.ar _).bind fun _=>(Still.ar _).bind fun _=>.pure _
theorem lH{f:Int->Int->Bool}{a b:V}{ra rb:Value}{r:Bool}{st':St}(va:m.VR g a ra)(vb:m.VR g b rb)(e:iN f a b st=.ok r st'):eU fun i j t u=>bp (ra=.int i t) (rb=.int j u) (r=f i j):=by
 obtain⟨i,hi,e⟩:=iV e
 obtain⟨j,hj,e⟩:=iV e
 rw[gL hi]at va
 rw[gL hj]at vb
 obtain⟨t,rfl⟩:=va
 obtain⟨u,rfl⟩:=vb
 exact⟨i,j,t,u,rfl,rfl,fA e⟩
theorem sy(G:aA m P K mg mb){a b:V}{ra rb:Value}{r:Bool}{st':St}(va:m.VR g a ra)(vb:m.VR g b rb)(e:kN a b st=.ok r st'):dE m g st .Eq ra rb r∧dE m g st .NotEq ra rb (!r):=by
 have hr:bX st.H 4 a b=some r:=lp e
 have hu:m.A.units+4<cLine:=Nat.lt_of_le_of_lt (Nat.add_le_add_left (Nat.le_trans (by decide) (Nat.mul_le_mul_left 24 (Nat.succ_pos m.d))) _) G.O.gi
 exact⟨fun s Q E R k=>(rL (A:=m.A) G.PK.nd R.inv 4 hr va vb hu).rc _ _ _ _ (k _),fun s Q E R k=>(rL (A:=m.A) G.PK.nd R.inv 4 hr va vb hu).ne _ _ _ _ (k _)⟩
theorem lI(op:CmpOp)(a b:V):Still (cB op a b):=
 CmpOp.casesOn (motive:=fun op=>Still (cB op a b)) op (n3 a b) (n4 (n3 a b)) (lG _ a b) (lG _ a b) (lG _ a b) (lG _ a b) (nZ a b) (n4 (nZ a b)) (nI a b) (n4 (nI a b))
theorem lJ(G:aA m P K mg mb){op:CmpOp}{a b:V}{ra rb:Value}{r:Bool}{st':St}(va:m.VR g a ra)(vb:m.VR g b rb)(e:cB op a b st=.ok r st'):dE m g st op ra rb r:=by
 cases op with
 |Lt=>obtain⟨i,j,t,u,rfl,rfl,rfl⟩:=lH va vb e;exact fun s Q E R k=>PyProof.Rows.lt_int (k _)
 |LtE=>obtain⟨i,j,t,u,rfl,rfl,rfl⟩:=lH va vb e;exact fun s Q E R k=>PyProof.Rows.le_int (k _)
 |Gt=>obtain⟨i,j,t,u,rfl,rfl,rfl⟩:=lH va vb e;exact fun s Q E R k=>PyProof.Rows.gt_int (k _)
 |GtE=>obtain⟨i,j,t,u,rfl,rfl,rfl⟩:=lH va vb e;exact fun s Q E R k=>PyProof.Rows.ge_int (k _)
 |Eq=>exact(sy G va vb e).1
 |NotEq=>obtain⟨x,h,rfl⟩:=n5 (n3 a b) e;exact(sy G va vb h).2
 |Is=>exact(sx va vb e).1
 |IsNot=>obtain⟨x,h,rfl⟩:=n5 (nZ a b) e;exact(sx va vb h).2
 |In=>exact(rO G.sys va vb e).1
 |NotIn=>obtain⟨x,h,rfl⟩:=n5 (nI a b) e;exact(rO G.sys va vb h).2
theorem dE.np{op:CmpOp}{ra rb:Value}{r:Bool}(C:dE m g st op ra rb r):Np m g st (compareOp op ra rb) (.ok (.bool r) st) m.VR:=(Wp.val fun s Q E R k=>C s Q E R fun tk=>k _ tk (.bool _)).np
theorem Np.sz{β:Type}{op:CmpOp}{ra rb:Value}{t:Bool}(C:dE m g st op ra rb t){vs:List Value}{k:Value->Sem β}{r:R α}{rel:Gs->α->β->Prop}(h:Np m g st (k (.bool t)) r rel):Np m g st (PySem.holding vs (compareOp op ra rb)>>=k) r rel:=
 fun s Q E R P=>ax (wpAny_holding (C s _ E R fun tk=>h {s with toks:=tk} Q E R (P.shift (.refl g))))
theorem Np.operate{β:Type}{vs:List Value}{t:Sem Value}{r:R α}{rel:Gs->α->Value->Prop}(h:Np m g st t r rel):Np m g st (operate vs t) r rel:=fun s Q E R P Γ p hΓ n=>by
 rw[Sem.wp_operate];exact h s Q E R P Γ p hΓ n
theorem sC{b:Bool}:Np m g st (truthy (.bool b)) (.ok b st:R Bool) eI:=(Wp.pure (m:=m) (g:=g) (st:=st) (rel:=eI) rfl).np
theorem Np.n6{β:Type}{b:Bool}{vs:List Value}{k:Bool->Sem β}{r:R α}{rel:Gs->α->β->Prop}(h:Np m g st (k b) r rel):Np m g st (PySem.holding vs (truthy (.bool b))>>=k) r rel:=
 fun s Q E R P=>ax (wpAny_holding (wpAny_truthy_bool (h s Q E R P)))
variable {ev:Expr->M V}
structure aY(m:Am)(ev:Expr->M V):Prop where
 snd:∀ e,cF m (eval e m.env) (ev e) m.VR
 jN:∀ e st,(e.ctorIdx==7)=true->ev e st=.no
theorem AG{op:CmpOp}{e:Expr}:behindInMarks op e=true->(e.ctorIdx==7)=true:=
 Expr.casesOn (motive_1:=fun e=>behindInMarks op e=true->(e.ctorIdx==7)=true) e (fun _ _ _ h=>Bool.noConfusion h) (fun _ _ _ h=>Bool.noConfusion h) (fun _ _ _ _ h=>Bool.noConfusion h) (fun _ _ _ h=>Bool.noConfusion h) (fun _ _ _ _ h=>Bool.noConfusion h) (fun _ _ _ _ h=>Bool.noConfusion h) (fun _ _ _ h=>Bool.noConfusion h) (fun a b c=>fun _=>rfl) (fun _ _ _ _ h=>Bool.noConfusion h) (fun _ _ _ _ h=>Bool.noConfusion h) (fun _ _ _ _ _ h=>Bool.noConfusion h) (fun _ _ _ _ h=>Bool.noConfusion h) (fun _ _ h=>Bool.noConfusion h) (fun _ _ h=>Bool.noConfusion h) (fun _ _ h=>Bool.noConfusion h) (fun _ _ _ _ h=>Bool.noConfusion h) (fun _ _ _ _ h=>Bool.noConfusion h) (fun _ _ _ _ h=>Bool.noConfusion h) (fun _ _ h=>Bool.noConfusion h) (fun _ _ _ h=>Bool.noConfusion h) (fun _ _ _ h=>Bool.noConfusion h) (fun _ _ _ h=>Bool.noConfusion h) (fun _ _ h=>Bool.noConfusion h) (fun _ _ h=>Bool.noConfusion h) (fun _ _ h=>Bool.noConfusion h) (fun _ _ _ h=>Bool.noConfusion h) (fun _ _ _ _ h=>Bool.noConfusion h)
theorem sD(H:aY m ev)(op:CmpOp)(e:Expr):Np m g st (markedBehindIn op e (eval e m.env)) (ev e st) m.VR:=by
 cases hb:behindInMarks op e with
 |false=>rw[markedBehindIn_of_false hb];exact H.snd e g st
 |true=>rw[H.jN e st (AG hb)];exact Np.no
theorem lK{α β:Type}{a:α}{l:List α}{p:Prop}(h:([]:List β).length=(a::l).length):p:=by cases h
theorem AH(G:aA m P K mg mb)(H:aY m ev)(pos:Pos)(ops:List CmpOp):∀ (es:List Expr) (a:V) (ra:Value) (g:Gs) (st:St),ops.length=es.length->m.VR g a ra->
  Np m g st (compareChain pos ra ops (markedEach ops es (evalEach es m.env))) ((gH ev a ops es>>=fun t=>Pure.pure (V.bool t)) st) m.VR:=by
 induction ops with
 |nil=>exact fun _ _ _ _ _ _ _=>Np.no
 |cons op ops ih=>
  intro es a ra g st hl va
  cases es with
  |nil=>exact Np.no
  |cons e es=>
   show Np m g st _ (((ev e>>=fun b=>cB op a b>>=fun t=>if ops.isEmpty then Pure.pure t else if t then gH ev b ops es else Pure.pure false)>>=fun t=>Pure.pure (V.bool t)) st) _
   rw[M.bind_assoc]
   cases ops with
   |nil=>
    cases es with
    |cons _ _=>exact lK (Nat.succ.inj hl)
    |nil=>
     show Np m g st (do let rv<-holding [ra] (markedBehindIn op e (eval e m.env));standAt pos;operate [ra,rv] (compareOp op ra rv)) _ _
     refine Np.bind (Np.holding (sD H op e)) fun b st₁ g₁ rb e1 x vb=>Np.standAt (Np.operate (β:=Unit) ?_)
     rw[M.bind_assoc]
     exact Np.bJ (lI _ _ _) fun t ht=>(lJ G (va.mono x) vb ht).np
   |cons op2 ops=>
    cases es with
    |nil=>exact lK (Nat.succ.inj hl).symm
    |cons e2 es=>
     show Np m g st (do let rv<-holding [ra] (eval e m.env);standAt pos;let c<-holding [ra,rv] (compareOp op ra rv);release [ra,rv] [c];if<-holding [c,rv] (truthy c)then compareChain pos rv (op2::ops) (markedEach (op2::ops) (e2::es) (evalEach (e2::es) m.env))else pure c) _ _
     refine Np.bind (Np.holding (H.snd e g st)) fun b st₁ g₁ rb e1 x vb=>Np.standAt ?_
     rw[M.bind_assoc]
     refine Np.bJ (lI _ _ _) fun t ht=>Np.sz (lJ G (va.mono x) vb ht) (Np.release (Np.n6 ?_))
     cases t with
     |true=>exact ih (e2::es) b rb g₁ st₁ (Nat.succ.inj hl) vb
     |false=>exact Np.pure (.bool _)
theorem AI(G:aA m P K mg mb)(H:aY m ev)(pos:Pos)(ops:List CmpOp):∀ (es:List Expr) (a:V) (ra:Value) (g:Gs) (st:St),ops.length=es.length->m.VR g a ra->
  Np m g st (testChain pos ra ops (markedEach ops es (evalEach es m.env))) (gH ev a ops es st) eI:=by
 induction ops with
 |nil=>exact fun _ _ _ _ _ _ _=>Np.no
 |cons op ops ih=>
  intro es a ra g st hl va
  cases es with
  |nil=>exact Np.no
  |cons e es=>
   show Np m g st _ ((ev e>>=fun b=>cB op a b>>=fun t=>if ops.isEmpty then Pure.pure t else if t then gH ev b ops es else Pure.pure false) st) _
   cases ops with
   |nil=>
    cases es with
    |cons _ _=>exact lK (Nat.succ.inj hl)
    |nil=>
     show Np m g st (do let rv<-holding [ra] (markedBehindIn op e (eval e m.env));standAt pos;let c<-operate [ra,rv] (compareOp op ra rv);holding [c] (truthy c)) _ _
     refine Np.bind (Np.holding (sD H op e)) fun b st₁ g₁ rb e1 x vb=>Np.standAt ?_
     refine Np.bJ (lI _ _ _) fun t ht=>Np.bind (f':=fun _=>Pure.pure t) (f:=fun st=>.ok (V.bool t) st) (Np.operate (β:=Unit) (lJ G (va.mono x) vb ht).np) fun v st₂ g₂ rv e2 x2 vv=>?_
     cases e2
     rw[show rv=.bool t from vv]
     exact Np.holding sC
   |cons op2 ops=>
    cases es with
    |nil=>exact lK (Nat.succ.inj hl).symm
    |cons e2 es=>
     show Np m g st (do let rv<-holding [ra] (eval e m.env);standAt pos;let c<-holding [ra,rv] (compareOp op ra rv);release [ra,rv] [c];if<-holding [c,rv] (truthy c)then testChain pos rv (op2::ops) (markedEach (op2::ops) (e2::es) (evalEach (e2::es) m.env))else pure false) _ _
     refine Np.bind (Np.holding (H.snd e g st)) fun b st₁ g₁ rb e1 x vb=>Np.standAt ?_
     refine Np.bJ (lI _ _ _) fun t ht=>Np.sz (lJ G (va.mono x) vb ht) (Np.release (Np.n6 ?_))
     cases t with
     |true=>exact ih (e2::es) b rb g₁ st₁ (Nat.succ.inj hl) vb
     |false=>exact Np.pure rfl
end
end
section
open _root_.PySem.SeqAt
section
variable {m:Am} {g:Gs} {st:St} {α:Type} {P:aQ} {K:Frag} {mg mb:Str->Option Value} {ev:Expr->M V}
theorem AJ{v:V}{rv:Value}{vs:List Value}(vv:m.VR g v rv):Np m g st (PySem.holding vs (truthy rv)) (dz v st) eI:=Np.iX fun b hb=>by
 rw[k9 hb]at vv
 rw[show rv=.bool b from vv]
 exact Np.holding sC
theorem AK{v:V}{rv:Value}{vs:List Value}(vv:m.VR g v rv):Np m g st (PySem.holding vs (truthy rv)) (truth v st) eI:=AJ vv
theorem AL{f:Expr->M Bool}(H:∀ e,cF m (isTrue e m.env (eval e m.env)) (f e) eI)(op:BoolOp)(es:List Expr):∀ (g:Gs) (st:St),Np m g st (allTrue op es m.env) (hZ f op es st) eI:=by
 induction es with
 |nil=>exact fun g st=>Np.pure rfl
 |cons e es ih=>
  intro g st
  rw[arm_allTrue_cons]
  refine Np.bind (H e g st) fun b st₁ g₁ b' e1 x hb=>?_
  rw[<-show b=b' from hb]
  have ih:=ih g₁ st₁
  cases op<;>cases b<;>first |exact Np.pure rfl |exact ih
theorem lL(G:aA m P K mg mb)(H:aY m ev)(n:Nat):∀ (e:Expr),cF m (isTrue e m.env (eval e m.env)) (fz ev n e) eI:=by
 induction n with
 |zero=>exact fun _ _ _=>Np.no
 |succ n ih=>
  intro e g st
  refine xK (motive:=fun e w=>Np m g st (isTrue e m.env (eval e m.env)) (qK ev (fz ev n) e w st) eI) (fun x p=>?_) (fun op vs p=>?_) (fun l ops rs p=>?_) (fun _ _ _ _=>Np.no) (fun e he=>?_) e
  ·rw[arm_isTrue_UnaryOp]
   exact Np.bind (ih x g st) fun b st₁ g₁ b' e1 x hb=>Np.pure (congrArg not hb)
  ·rw[arm_isTrue_BoolOp];exact AL ih op vs g st
  ·rw[arm_isTrue_Compare]
   exact Np.aK fun hl=>Np.bind (H.snd l g st) fun a st₁ g₁ ra e1 x va=>AI G H p ops rs a ra g₁ st₁ (of_decide_eq_true hl) va
  ·rw[he]
   exact Np.bind (H.snd e g st) fun v st₁ g₁ rv e1 x vv=>Np.standAt (AK vv)
theorem AM(H:aY m ev)(pos:Pos)(op:BoolOp)(es:List Expr):∀ (g:Gs) (st:St),Np m g st (boolOp pos op (evalEach es m.env)) (kT ev op es st) m.VR:=by
 induction es with
 |nil=>exact fun g st=>Np.no
 |cons e es ih=>
  intro g st
  cases es with
  |nil=>exact H.snd e g st
  |cons e2 es=>
   show Np m g st (do let v<-eval e m.env;standAt pos;let t<-holding [v] (truthy v);match op,t with | .And,false | .Or,true=>pure v |_,_=>boolOp pos op (evalEach (e2::es) m.env)) _ _
   refine Np.bind (H.snd e g st) fun b st₁ g₁ rb e1 x vb=>Np.standAt (Np.dz fun i hi=>?_)
   subst hi
   rw[show rb=.bool i from vb]
   refine Np.n6 ?_
   have ih:=ih g₁ st₁
   cases op<;>cases i<;>first |exact Np.pure (.bool _) |exact ih
end
end
section
open _root_.PySem.SeqAt
section
variable {m:Am} {g:Gs} {st:St} {α:Type} {P:aQ} {K:Frag} {mg mb:Str->Option Value} {ev:Expr->M V}
theorem sE(H:aY m ev)(args:List Expr)(g:Gs)(st:St)(pos:Pos)(h:args.all notStar=true):Np m g st (spliced (backTo pos (starEach args m.env))) (dD ev args st) m.ay:=by
 rw[iq h,ir]
 exact nY (fun e=>H.snd e) args g st
theorem AN{vs:List V}{rs:List Value}(q:m.ay g vs rs)(hl:vs.length<=lim):Np m g st (newList rs) (alloc (.list vs) st) m.VR:=by
 refine(Wp.lC (o:=.list vs) rfl (fun s Q E R k=>?_) fun g p ob h=>h).np
 exact wpAny_newList (k s.heap _ s.toks R rfl ⟨rs,0,rfl,q⟩) (q.length▸Nat.le_trans hl (by decide))
theorem AO{vs:List V}{rs:List Value}(q:m.ay g vs rs)(hl:vs.length<=lim):Np m g st (newTuple rs) (alloc (.tuple vs) st) m.VR:=by
 refine(Wp.lC (o:=.tuple vs) rfl (fun s Q E R k=>?_) fun g p ob h=>h).np
 exact wpAny_newTuple (k s.heap _ s.toks R rfl ⟨rs,0,rfl,q⟩) (q.length▸Nat.le_trans hl (by decide))
theorem sF(H:aY m ev)(o:Option Expr):Np m g st (valueOrNone (evalOpt o m.env)) (iR ev o st) (fun _ a b=>IsPart b a):=by
 cases o with
 |none=>exact Np.pure .none
 |some e=>
  unfold iR
  show Np m g st (eval e m.env) _ _
  have:=H.snd e g st
  intro s Q E R Pp
  refine this s Q E R ?_
  revert Pp
  show bI m g ((ev e>>=fun v=>Lite.bh v>>=fun i=>Pure.pure (some i)) st) _ Q E s->_
  cases he:ev e st with
  |ok v st₁=>
   rw[cg he]
   intro Pp g' h' tk b x R' q
   cases v with
   |int i=>
    obtain⟨t,rfl⟩:=q
    exact Pp g' h' tk _ x R' (.int i t)
   |_=>exact Pp.elim
  |exc c st₁=>rw[dt he];exact fun Pp=>Pp
  |no=>rw[cL he];exact fun Pp=>Pp.elim
end
end
section
open _root_.PySem.SeqAt
abbrev Cx.at(c:Cx)(X:List (Addr×Obj))(fs:List (Addr×(Str->Option Value)))(N:Addr):Cx:={c with X:=X,fs:=fs,N:=N}
section
variable {c:Cx} {X:List (Addr×Obj)} {fs:List (Addr×(Str->Option Value))} {N:Addr} {g:Gs}
theorem AP:VR (c.at X fs N)=VR c:=rfl
theorem O8(p:Addr×Addr)(o:O):cT (c.at X fs N) g p o=cT c g p o:=rfl
theorem n7(ps:List (Addr×Addr))(H:Hp):b9 (c.at X fs N) g ps H=b9 c g ps H:=by
 induction ps generalizing H with
 |nil=>rfl
 |cons p ps ih=>
  cases H with
  |nil=>rfl
  |cons o os=>exact congrArg (cT c g p o++·) (ih os)
theorem lM{m':Str->Option Value}{L:Addr}{H:Hp}:cells (c.at c.X ((c.N,g.m)::c.fs) L) {g with m:=m'} H=(L,bE m')::cells c g H:=by
 simp only[nk,n7]
 simp[cells,eZ]
theorem gO{I:Addr}{ob:Obj}{H:Hp}:(cells (c.at ((I,ob)::c.X) c.fs c.N) g H).Perm ((I,(·=ob))::cells c g H):=by
 unfold cells
 rw[n7]
 unfold eZ
 simp only[List.append_assoc,List.map_cons,List.cons_append]
 exact(List.Perm.cons _ List.perm_middle).trans (List.Perm.swap _ _ _)
variable {H:Hp} {h h':Heap}
theorem Inv.more{c':Cx}{g':Gs}{H':Hp}{x:Cell}(I:Inv c g H h)(p:(cells c' g' H').Perm (x::cells c g H))(hf:ba c g H x.1)(hx:∃ o,h'.get? x.1=some o∧x.2 o)(hk:∀ b o,h.get? b=some o->h'.get? b=some o)
  (hb:c'.b₀=c.b₀) (ha:c'.b₀.objs.size<=c'.N) (hl:g'.ρ.length=H'.length) (ht:TabsOk c' g'):Inv c' g' H' h':=by
 have k:=I.keeps hk
 have S:∀ y∈x::cells c g H,Sat h' y:=List.forall_mem_cons.mpr ⟨hx,k.sat⟩
 have W:∀ y∈x::cells c g H,c.b₀.get? y.1=none:=List.forall_mem_cons.mpr ⟨hf.2,I.low⟩
 refine⟨hb▸k.base,ha,hl,fun y hy=>S y (p.mem_iff.mp hy),(p.map _).nodup_iff.mpr (List.nodup_cons.mpr ⟨fun q=>?_,I.cJ⟩),fun y hy=>hb▸W y (p.mem_iff.mp hy),ht⟩
 obtain⟨y,hy,e⟩:=List.mem_map.mp q
 exact hf.1 y hy e
theorem Inv.less{c':Cx}{g':Gs}{H':Hp}{x:Cell}(I:Inv c' g' H' h)(p:(cells c' g' H').Perm (x::cells c g H))(hb:c'.b₀=c.b₀)(ha:c.b₀.objs.size<=c.N)(hl:g.ρ.length=H.length)(ht:TabsOk c g):Inv c g H h:=by
 refine⟨hb▸I.base,ha,hl,fun y hy=>I.sat y (p.mem_iff.mpr (.tail _ hy)),?_,fun y hy=>hb▸I.low y (p.mem_iff.mpr (.tail _ hy)),ht⟩
 have:=(p.map (·.1)).nodup_iff.mp I.cJ
 rw[List.map_cons]at this
 exact(List.nodup_cons.mp this).2
theorem Inv.enter{m':Str->Option Value}{L:Addr}(I:Inv c g H h)(hf:h.get? L=none)(hk:∀ b o,h.get? b=some o->h'.get? b=some o)(hn:h'.Ns L m')(ha:c.b₀.objs.size<=L):Inv (c.at c.X ((c.N,g.m)::c.fs) L) {g with m:=m'} H h':=by
 obtain⟨o,es,ep,e,q⟩:=hn
 exact I.more (x:=(L,bE m')) (by rw[lM]) (I.free hf) ⟨o,e,es,ep,q⟩ hk rfl ha I.len I.tabs
theorem Inv.exit{m₀:Str->Option Value}{L:Addr}(I:Inv (c.at c.X ((c.N,m₀)::c.fs) L) g H h)(ha:c.b₀.objs.size<=c.N):Inv c {g with m:=m₀} H h:=
 I.less (x:=(L,bE g.m)) (by
  have:=lM (c:=c) (g:={g with m:=m₀}) (m':=g.m) (L:=L) (H:=H)
  exact(List.Perm.of_eq this)) rfl ha I.len I.tabs
theorem Inv.fU{I':Addr}{ob:Obj}(I:Inv c g H h)(hf:h.get? I'=none)(hk:∀ b o,h.get? b=some o->h'.get? b=some o)(ho:h'.get? I'=some ob):Inv (c.at ((I',ob)::c.X) c.fs c.N) g H h':=
 I.more (x:=(I',(·=ob))) gO (I.free hf) ⟨ob,ho,rfl⟩ hk rfl I.above I.len I.tabs
theorem Inv.dO{I':Addr}{ob:Obj}(I:Inv (c.at ((I',ob)::c.X) c.fs c.N) g H h):Inv c g H h:=I.less gO rfl I.above I.len I.tabs
theorem Inv.dP{I':Addr}{ob:Obj}(I:Inv (c.at ((I',ob)::c.X) c.fs c.N) g H h):h.get? I'=some ob:=by
 obtain⟨o,e,q⟩:=I.sat (I',(·=ob)) (gO.mem_iff.mpr (.head _))
 exact e.trans (congrArg some q)
theorem Inv.jO{I':Addr}{ob ob':Obj}(I:Inv (c.at ((I',ob)::c.X) c.fs c.N) g H h)(hs:∀ b o,b≠I'->h.get? b=some o->h'.get? b=some o)(ho:h'.get? I'=some ob'):Inv (c.at ((I',ob')::c.X) c.fs c.N) g H h':=by
 have e (o):cells (c.at ((I',o)::c.X) c.fs c.N) g H=((c.N,bE g.m)::c.fs.map fun f=>(f.1,bE f.2))++(I',(·=o))::(c.X.map (fun p=>(p.1,(·=p.2)))++(g.tb.map (fun p=>(p.1,(·=tabObj p.2)))++(g.cd.map (fun p=>(p.1,(·=p.2)))++b9 c g g.ρ H))):=by
  unfold cells
  rw[n7]
  unfold eZ
  simp only[List.append_assoc,List.map_cons,List.cons_append]
 have S:=e ob▸I.sat
 have W:=e ob▸I.low
 have N:=e ob▸I.cJ
 have w:c.b₀.get? I'=none:=W (I',(·=ob)) (List.mem_append_right _ (.head _))
 exact⟨fun b o q=>hs b o (fun z=>nomatch (z▸w).symm.trans q) (I.base b o q),I.above,I.len,e ob'▸ni S N hs ho rfl,by rw[e ob',k7 (P:=(·=ob))];exact N,e ob'▸k8 (y:=(I',(·=ob'))) W w,I.tabs⟩
theorem ba.add{a I':Addr}{ob:Obj}(F:ba c g H a)(ne:I'≠a):ba (c.at ((I',ob)::c.X) c.fs c.N) g H a:=
 ⟨fun x hx=>(List.mem_cons.mp (gO.mem_iff.mp hx)).elim (fun e=>e▸ne) (F.1 x),F.2⟩
theorem Inv.gP{I':Addr}{ob:Obj}(I:Inv (c.at ((I',ob)::c.X) c.fs c.N) g H h):ba c g H I':=
 ⟨fun x hx e=>(List.nodup_cons.mp ((gO.map (·.1)).nodup_iff.mp I.cJ)).1 (List.mem_map.mpr ⟨x,hx,e⟩),I.low (I',(·=ob)) (gO.mem_iff.mpr (.head _))⟩
theorem Inv.sG(I:Inv c g H h){P:Addr->Prop}(hf:∀ a,P a->ba c g H a)(k:∀ b o,¬ P b->h.get? b=some o->h'.get? b=some o):Inv c g H h':=by
 refine⟨fun b o e=>k b o (fun p=>nomatch (hf b p).2.symm.trans e) (I.base b o e),I.above,I.len,fun x hx=>?_,I.cJ,I.low,I.tabs⟩
 obtain⟨o,e,q⟩:=I.sat x hx
 exact⟨o,k _ _ (fun p=>(hf _ p).1 x hx rfl) e,q⟩
end
end
section
open _root_.PySem.SeqAt
section
variable {c:Cx} {g:Gs} {H:Hp} {h h':Heap}
noncomputable def Cx.blocks (c:Cx):List Addr:=c.N::c.fs.map (·.1)
noncomputable def Bs (c:Cx) (g:Gs):List Cell:=(c.N,bE g.m)::c.fs.map fun f=>(f.1,bE f.2)
noncomputable def sH (c:Cx) (g:Gs) (H:Hp):List Cell:=c.X.map (fun p=>(p.1,(·=p.2)))++(g.tb.map (fun p=>(p.1,(·=tabObj p.2)))++(g.cd.map (fun p=>(p.1,(·=p.2)))++b9 c g g.ρ H))
theorem sI:cells c g H=Bs c g++sH c g H:=by
 unfold cells eZ Bs sH
 simp only[List.append_assoc,List.cons_append]
theorem sJ:(Bs c g).map (·.1)=c.blocks:=congrArg (List.cons _) List.map_map
theorem sL:∀ x∈Bs c g,∃ m,x.2=bE m:=List.forall_mem_cons.mpr ⟨⟨_,rfl⟩,List.forall_mem_map.mpr fun _ _=>⟨_,rfl⟩⟩
theorem Inv.block(I:Inv c g H h){a:Addr}(ha:a∈c.blocks):bV fun x m=>dW (x∈cells c g H) (x.1=a) (x.2=bE m) (h.Ns a m):=by
 rw[<-sJ (g:=g)]at ha
 obtain⟨x,hx,rfl⟩:=List.mem_map.mp ha
 obtain⟨m,hm⟩:=sL x hx
 have hc:x∈cells c g H:=sI▸List.mem_append_left _ hx
 obtain⟨o,e,q⟩:=I.sat x hc
 rw[hm]at q
 obtain⟨es,ep,q⟩:=q
 exact⟨x,m,hc,rfl,hm,o,es,ep,e,q⟩
theorem Inv.AQ(I:Inv c g H h){a:Addr}(ha:a∈c.blocks):c.b₀.get? a=none:=by
 obtain⟨x,m,hx,rfl,_⟩:=I.block ha
 exact I.low x hx
theorem Inv.AR(I:Inv c g H h){x:Cell}(hx:x∈cells c g H)(hb:x.1∈c.blocks):∃ m,x.2=bE m:=by
 have cJ:=I.cJ
 rw[sI]at hx cJ
 rcases List.mem_append.mp hx with hx |hx
 ·exact sL x hx
 ·rw[List.map_append,sJ]at cJ
  exact absurd rfl ((List.nodup_append.mp cJ).2.2 _ hb _ (List.mem_map_of_mem hx))
theorem Inv.slots{hid:List Addr}(I:Inv c g H h)(k:∀ b o,h.get? b=some o->b ∉ c.blocks->b ∉ hid->h'.get? b=some o)(u:h.UpToSlots h')(hf:∀ a∈hid,ba c g H a):Inv c g H h':=by
 refine⟨fun b o e=>k b o (I.base b o e) (fun q=>nomatch (I.AQ q).symm.trans e) (fun q=>nomatch (hf b q).2.symm.trans e),I.above,I.len,fun x hx=>?_,I.cJ,I.low,I.tabs⟩
 obtain⟨o,e,q⟩:=I.sat x hx
 by_cases hb:x.1∈c.blocks
 ·obtain⟨m,hm⟩:=I.AR hx hb
  rw[hm]at q ⊢
  obtain⟨es,ep,hd,q⟩:=q
  obtain⟨sl,e'⟩:=u x.1 o e fun vs z=>Data.noConfusion (hd.symm.trans z)
  exact⟨_,e',es,ep,hd,q⟩
 ·exact⟨o,k _ _ e hb fun q=>(hf _ q).1 x hx rfl,q⟩
end
section
variable {m:Am} {g:Gs} {st:St} {M:Model} {E:Value->Shared->Prop} {s:Shared}
theorem bu.AS(O:bu m)(I:Inv m.c g st.H s.heap){B:Heap}(hB:∀ b∈m.c.blocks,B.get? b=none):s.heap.FunFrames B (m.cC::m.outer):=by
 have fk:=O.fk
 generalize m.cC::m.outer=l at fk
 induction l with
 |nil=>exact trivial
 |cons e r ih=>
  obtain⟨hk,a,ha,hm⟩:=fk e (.head _)
  obtain⟨x,mm,_,_,_,o,es,ep,h1,h2,_⟩:=I.block hm
  exact⟨by rw[hk];decide,⟨a,o,ha,hB a hm,h1,fun vs q=>Data.noConfusion (h2.symm.trans q)⟩,ih fun e he=>fk e (.tail _ he)⟩
theorem O9(I:Inv m.c g st.H s.heap){a:Addr}(hf:ba m.c g st.H a):a ∉ m.c.blocks:=fun hb=>by
 obtain⟨x,mm,hx,e,_⟩:=I.block hb
 exact hf.1 x hx e
theorem Rel.after{B h':Heap}{hid:List Addr}(R:Rel m g st s.heap)(hB:B=hideAll s.heap (m.c.blocks++hid))(hf:∀ a∈hid,ba m.c g st.H a)(k:B.StaysIn h')(u:s.heap.UpToSlots h'):Rel m g st h':=
 ⟨R.inv.slots (hid:=hid) (fun b o e h1 h2=>k b o (by rw[hB];exact hideAll_get _ e fun q=>(List.mem_append.mp q).elim h1 h2)) u hf,R.loc⟩
theorem AU{B h':Heap}{hid:List Addr}{e k:Addr}{a0 fl:Value}(R:Rel m g st s.heap)(hB:B=hideAll s.heap (m.c.blocks++hid))(fe:ba m.c g st.H e)(R':Rel m g st h')
  (hT:∀ T oT ts,h'.get? T=some oT->oT.data=.fields ts->B.get? T=none->ba m.c g st.H T) (t:h'.TracedAtW B e (.ref k) a0 fl):dr m.c g st.H h' e k (some fl):=by
 obtain⟨oe,vs,T,oT,ts,he,⟨hc,h0⟩,hd,h1,hn,hTe,hoT,hdT,h3⟩:=t
 exact⟨oe,vs,a0,⟨fe,he,hc,hd,h0⟩,T,oT,ts,h1,hT _ _ _ hoT hdT hn,hTe,hoT,hdT,h3⟩
theorem AV{B h':Heap}{hid:List Addr}{T:Addr}{oT:Obj}{ts:Array Value}(R:Rel m g st s.heap)(hB:B=hideAll s.heap (m.c.blocks++hid))(hf:∀ a∈hid,ba m.c g st.H a)(R':Rel m g st h')
  (ho:h'.get? T=some oT) (hd:oT.data=.fields ts) (hn:B.get? T=none):ba m.c g st.H T:=by
 have notB:T ∉ m.c.blocks:=fun hb=>by
  obtain⟨x,mm,_,_,_,o,es,ep,h1,h2,_⟩:=R'.inv.block hb
  rw[ho]at h1
  rw[<-Option.some.inj h1,hd]at h2
  exact Data.noConfusion h2
 by_cases hh:T∈hid
 ·exact hf T hh
 ·have none:s.heap.get? T=none:=by
   cases q:s.heap.get? T with
   |none=>rfl
   |some o=>
    have:=hideAll_get (m.c.blocks++hid) q fun z=>(List.mem_append.mp z).elim notB hh
    rw[<-hB,hn]at this;contradiction
  exact R.inv.free none
theorem sM{B h':Heap}{hid:List Addr}{e k:Addr}{a0:Value}{Q:Unit->Shared->Prop}(R:Rel m g st s.heap)(hB:B=hideAll s.heap (m.c.blocks++hid))(fe:ba m.c g st.H e)(hf:∀ a∈hid,ba m.c g st.H a)(k1:B.StaysIn h')(k4:s.heap.UpToSlots h')(k3:h'.TracedAtW B e (.ref k) a0 (rawInt m.L))
  (hQ:∀ h',Rel m g st h'->dr m.c g st.H h' e k (some (rawInt m.L))->Q () {s with heap:=h'}):Q () {s with heap:=h'}:=
 have R':=R.after hB hf k1 k4
 hQ h' R' (AU R hB fe R' (fun _ _ _ a b d=>AV R hB hf R' a b d) k3)
theorem n8{hid:List Addr}{a:Addr}(h:a∈hid):(hideAll s.heap (m.c.blocks++hid)).get? a=none:=hideAll_none _ (List.mem_append_right _ h)
theorem sN(O:bu m)(R:Rel m g st s.heap)(hid:List Addr):s.heap.FunFrames (hideAll s.heap (m.c.blocks++hid)) (m.cC::m.outer):=O.AS R.inv fun b hb=>hideAll_none _ (List.mem_append_left _ hb)
theorem n9(O:bu m)(hm:m.env=m.cC){e k:Addr}{Q:Unit->Shared->Prop}(R:Rel m g st s.heap)(X:ExcAt m.c g st.H s.heap m.L e k)
  (hQ:∀ h',Rel m g st h'->dr m.c g st.H h' e k (some (rawInt m.L))->Q () {s with heap:=h'}):wpAny M m.A (noteFrame (.ref e) m.env) Q E s:=by
 obtain⟨fl,hfl,oe,vs,a0,⟨fe,he,hc,hd,h0⟩,hx⟩:=X
 rcases hfl with rfl |rfl |rfl
 ·-- no traceback yet
  have hf:∀ a∈[e],ba m.c g st.H a:=List.forall_mem_cons.mpr ⟨fe,fun _ q=>nomatch q⟩
  have stay:(hideAll s.heap (m.c.blocks++[e])).StaysIn s.heap:=fun b o q=>of_hideAll _ q
  have ff:=sN O R [e]
  have eB:=n8 (s:=s) (m:=m) (hid:=[e]) (.head _)
  generalize hB:hideAll s.heap (m.c.blocks++[e])=B at stay ff eB
  unfold noteFrame
  rw[O.fe]
  refine wpAny_bind (wpAny_field he hd hx ?_)
  rw[if_neg (by decide)]
  rw[hm]
  refine wpAny_entryW O.frames ff O.ff he stay eB hd (Array.getElem?_eq_some_iff.mp hx).1 h0 fun h' N=>?_
  obtain⟨k1,k2,k3,k4⟩:=N
  exact sM R hB.symm fe hf k1 k4 (hc▸k3) hQ
 ·obtain⟨T,oT,ts,h1,fT,hTe,hoT,hdT,h3⟩:=hx
  have hf:∀ a∈[e,T],ba m.c g st.H a:=List.forall_mem_cons.mpr ⟨fe,List.forall_mem_cons.mpr ⟨fT,fun _ q=>nomatch q⟩⟩
  have stay:(hideAll s.heap (m.c.blocks++[e,T])).StaysIn s.heap:=fun b o q=>of_hideAll _ q
  have ff:=sN O R [e,T]
  have eB:=n8 (s:=s) (m:=m) (hid:=[e,T]) (.head _)
  have TB:=n8 (s:=s) (m:=m) (hid:=[e,T]) (.tail _ (.head _))
  generalize hB:hideAll s.heap (m.c.blocks++[e,T])=B at stay ff eB TB
  rw[hm]
  refine wpAny_noteFrame_onW O.frames ff O.ff ⟨oe,vs,T,oT,ts,he,⟨hc,h0⟩,hd,h1,TB,hTe,hoT,hdT,h3⟩ stay eB fun h' N=>?_
  obtain⟨k1,k2,k3,k4⟩:=N
  exact sM R hB.symm fe hf k1 k4 k3 hQ
 ·obtain⟨T,oT,ts,h1,fT,hTe,hoT,hdT,h3⟩:=hx
  have TB:(hideAll s.heap [T]).get? T=none:=hideAll_none _ (.head _)
  exact wpAny_noteFrame_againW (base:=hideAll s.heap [T]) O.fe ⟨oe,vs,T,oT,ts,he,⟨hc,h0⟩,hd,h1,TB,hTe,hoT,hdT,h3⟩ (hQ s.heap R ⟨oe,vs,a0,⟨fe,he,hc,hd,h0⟩,T,oT,ts,h1,fT,hTe,hoT,hdT,h3⟩)
theorem lN{e k:Addr}{fl:Value}{fr:Option Addr}{Q:Unit->Shared->Prop}(R:Rel m g st s.heap)(X:dr m.c g st.H s.heap e k (some fl))
  (hQ:∀ h',Rel m g st h'->dr m.c g st.H h' e k (some (fr.elim .none fun f=>rawInt f))->Q () {s with heap:=h'}):wpAny M m.A (setFlight (.ref e) fr) Q E s:=by
 obtain⟨oe,vs,a0,⟨fe,he,hc,hd,h0⟩,T,oT,ts,h1,fT,hTe,hoT,hdT,h3⟩:=X
 have hsz3:3<ts.size:=(Array.getElem?_eq_some_iff.mp h3).1
 have other:∀ b,b≠T->(s.heap.update T (Obj.mapFields (·.setIfInBounds 3 (fr.elim .none fun f=>rawInt f)))).get? b=s.heap.get? b:=fun b hb=>Heap.get?_update_other _ _ (Ne.symm hb)
 unfold setFlight
 refine wpAny_bind (wpAny_field he hd h1 ?_)
 rw[if_pos (show(Value.ref T != Value.none)=true from by simp)]
 refine wpAny_setField hoT hdT hsz3 (hQ _ ⟨?_,R.loc⟩ ?_)
 ·exact R.inv.slots (hid:=[T]) (fun b o q _ h2=>(other b fun z=>h2 (by rw[z];exact .head _)).trans q)
   (fun b o q hn=>⟨o.slots,(other b fun z=>hn ts (Option.some.inj (hoT.symm.trans (z▸q))▸hdT)).trans q⟩) (List.forall_mem_cons.mpr ⟨fT,fun _ q=>nomatch q⟩)
 ·exact⟨oe,vs,a0,⟨fe,(other e (Ne.symm hTe)).trans he,hc,hd,h0⟩,T,_,_,h1,fT,hTe,Heap.get?_update_self _ hoT (Obj.isFreed_of_fields (Obj.data_mapFields hdT _)),Obj.data_mapFields hdT _,by simp[hsz3]⟩
end
end
section
open _root_.PySem.SeqAt
noncomputable def aP (m:Am) (g:Gs) (a:Fl) (b:Flow):Prop:=Fl.casesOn (motive:=fun _=>Prop) a (b=.next) fun v=>∃ r,b=.ret r∧m.VR g v r
theorem aP.next{m:Am}{g:Gs}:aP m g .next .next:=rfl
theorem aP.ret{m:Am}{g:Gs}{v:V}{r:Value}(h:m.VR g v r):aP m g (.ret v) (.ret r):=⟨r,rfl,h⟩
noncomputable def fc {α β:Type} (m:Am) (g:Gs) (r:R α) (rel:Gs->α->β->Prop) (Q:β->Shared->Prop) (E:Value->Shared->Prop) (s:Shared):Prop:=match r with
 | .ok a st'=>∀ g' h' tk b,Ext g g'->Rel m g' st' h'->rel g' a b->Q b {s with heap:=h',toks:=tk}
 | .exc k st'=>∀ g' h' tk e,Ext g g'->Rel m g' st' h'->dr m.c g' st'.H h' e k (some (rawInt m.L))->E (.ref e) {s with heap:=h',toks:=tk}
 | .no=>False
noncomputable def sO (m:Am) (g:Gs) (st:St) (c:Code) (r:R Fl):Prop:=
 ∀ (s:Shared) (Q:Flow->Shared->Prop) (E:Value->Shared->Prop),Rel m g st s.heap->fc m g r (aP m) Q E s->
  codeN (model m.c.prog m.c.w) m.A c (fun res s'=>match res with | .ok f=>Q f s' | .error e=>E e s') s
section
variable {α β γ δ:Type} {m:Am} {g:Gs} {st:St}
theorem Np.use{t:Sem β}{r:R α}{rel:Gs->α->β->Prop}(h:Np m g st t r rel){s:Shared}{Q:β->Shared->Prop}{E:Value->Shared->Prop}(R₀:Rel m g st s.heap)
  (hok:∀ a st',r=.ok a st'->∀ g' h' tk b,Ext g g'->Rel m g' st' h'->rel g' a b->Q b {s with heap:=h',toks:=tk})
  (hexc:∀ k st',r=.exc k st'->∀ g' h' tk e,Ext g g'->Rel m g' st' h'->ExcAt m.c g' st'.H h' m.L e k->E (.ref e) {s with heap:=h',toks:=tk})
  (hno:r≠.no):aq (model m.c.prog m.c.w) m.A t Q E s:=h s Q E R₀ (by
 cases r with
 |ok a st'=>exact hok a st' rfl
 |exc k st'=>exact hexc k st' rfl
 |no=>exact absurd rfl hno)
theorem fc.shift{r:R α}{rel:Gs->α->β->Prop}{Q:β->Shared->Prop}{E:Value->Shared->Prop}{s:Shared}{g₁:Gs}(x:Ext g g₁){h:Heap}{tk:Tok}
  (P:fc m g r rel Q E s):fc m g₁ r rel Q E {s with heap:=h,toks:=tk}:=by
 cases r with
 |ok a st'=>exact fun g' h' tk' b e R q=>P g' h' tk' b (x.trans e) R q
 |exc k st'=>exact fun g' h' tk' b e R q=>P g' h' tk' b (x.trans e) R q
 |no=>exact P.elim
theorem fc.lO{r:R α}{rel:Gs->α->β->Prop}{Q:β->Shared->Prop}{E:Value->Shared->Prop}{s:Shared}(P:fc m g r rel Q E s):r≠.no:=fun e=>by subst e;exact P.elim
noncomputable def iZ (m:Am) (E:Value->Shared->Prop):Value->Shared->Prop:=fun x s'=>aq (model m.c.prog m.c.w) m.A (do noteFrame x m.env;theTreesLotGoes x) (fun _ s''=>E x s'') E s'
theorem iZ.of(O:bu m)(hm:m.env=m.cC){E:Value->Shared->Prop}{s:Shared}{st':St}{k e:Addr}{h':Heap}{tk:Tok}(R:Rel m g st' h')(X:ExcAt m.c g st'.H h' m.L e k)
  (P:∀ h',Rel m g st' h'->dr m.c g st'.H h' e k (some (rawInt m.L))->E (.ref e) {s with heap:=h',toks:=tk}):iZ m E (.ref e) {s with heap:=h',toks:=tk}:=
 bz (wpAny_bind (n9 (s:={s with heap:=h',toks:=tk}) O hm R X fun h'' R' X'=>wpAny_theTreesLotGoes (P h'' R' X')))
theorem oa(O:bu m){c:Code}{r:R Fl}{s:Shared}{Q:Flow->Shared->Prop}{E:Value->Shared->Prop}(P:bI m g r (aP m) Q E s)
  (h:∀ E',fc m g r (aP m) Q E' s->codeN (model m.c.prog m.c.w) m.A c (fun res s'=>match res with | .ok f=>Q f s' | .error e=>E' e s') s):aq (model m.c.prog m.c.w) m.A (runOwn c m.env) Q E s:=by
 unfold runOwn
 refine eT (mC (fM (h (fun x s'=>aq (model m.c.prog m.c.w) m.A (do
   if (<-field x 1)==.none then unsupported "frame.own-activation:exception-without-traceback"
   setFlight x m.env.frame) (fun _ s''=>E x s'') E s') ?_) fun res s' q=>?_))
 ·cases r with
  |ok a st'=>exact P
  |exc k st'=>
   intro g' h' tk e x R' X
   have X':=X
   obtain⟨oe,vs,a0,⟨fe,he,hc,hd,h0⟩,T,oT,ts,h1,fT,hTe,hoT,hdT,h3⟩:=X'
   refine bz (wpAny_bind (wpAny_field he hd h1 ?_))
   rw[if_neg (show ¬ ((Value.ref T==Value.none)=true) from Bool.false_ne_true)]
   rw[O.fe]
   exact lN (s:={s with heap:=h',toks:=tk}) (fr:=some m.L) R' X fun h'' R'' X''=>P g' h'' tk e x R'' ⟨_,.inr (.inr rfl),X''⟩
  |no=>exact P.elim
 ·cases res with
  |ok f=>exact q
  |error e=>exact q
theorem AW(O:bu m){c:Code}{r:R Fl}(h:sO m g st c r):Np m g st (runOwn c m.env) r (aP m):=fun s Q E R P=>oa O P fun E' PT=>h s Q E' R PT
theorem AX(O:bu m)(hm:m.env=m.cC){test:Expr}{b:List Stmt}{test':M Bool}{body':M Fl}(ht:cF m (isTrue test m.env (eval test m.env)) test' eI)(hb:cF m (execs b m.env) body' (aP m))(n:Nat):
  ∀ (g:Gs) (st:St),sO m g st (.whileLoop test b [] m.env) (eE test' body' n st):=by
 induction n with
 |zero=>exact fun _ _ _ _ _ _ P=>P.elim
 |succ n ih=>
  intro g st s Q E R P
  refine dy ?_
  show aq _ m.A ((whileTurn test b [] m.env).onRaise (fun x=>do noteFrame x m.env;theTreesLotGoes x)) _ _ s
  replace P:fc m g ((test'>>=fun t=>if t then body'>>=fun r=>jE r (eE test' body' n)else Pure.pure .next) st) (aP m) Q E s:=P
  refine eT ?_
  unfold whileTurn
  refine aG ((ht g st).use R (fun t st₁ e1 g₁ h₁ tk₁ t' x₁ R₁ q₁=>?_) (fun k st₁ e1 g₁ h₁ tk₁ e x₁ R₁ X=>?_) fun e1=>?_)
  ·rw[cg e1]at P
   rw[<-show t=t' from q₁]
   cases t with
   |false=>exact aG (aM (aM (P _ _ _ _ x₁ R₁ .next)))
   |true=>
    replace P:fc m g ((body'>>=fun r=>jE r (eE test' body' n)) st₁) (aP m) Q E s:=P
    refine g9 rfl (aG ((hb g₁ st₁).use (s:={s with heap:=h₁,toks:=tk₁}) R₁ (fun fl st₂ e2 g₂ h₂ tk₂ fl' x₂ R₂ q₂=>?_) (fun k st₂ e2 g₂ h₂ tk₂ e x₂ R₂ X=>?_) fun e2=>?_))
    ·rw[cg e2]at P
     cases fl with
     |next=>
      rw[show fl'=.next from q₂]
      exact aM ⟨rfl,ih g₂ st₂ _ Q E R₂ (P.shift (x₁.trans x₂))⟩
     |ret v=>
      obtain⟨r,rfl,hv⟩:=q₂
      exact aM (P g₂ h₂ tk₂ _ (x₁.trans x₂) R₂ (.ret hv))
    ·rw[dt e2]at P
     exact iZ.of (s:=s) O hm R₂ X fun h' R' X'=>P g₂ h' tk₂ e (x₁.trans x₂) R' X'
    ·rw[cL e2]at P;exact P.elim
  ·rw[dt e1]at P
   exact iZ.of (s:=s) O hm R₁ X fun h' R' X'=>P g₁ h' tk₁ e x₁ R' X'
  ·rw[cL e1]at P;exact P.elim
end
end
section
open _root_.PySem.SeqAt
noncomputable abbrev Am.x (m:Am) (os:List (Addr×Obj)):Am:={m with c:=m.c.at (os++m.c.X) m.c.fs m.c.N}
section
variable {c:Cx} {g:Gs} {H:Hp} {h h':Heap} {os:List (Addr×Obj)}
theorem sP:(cells (c.at (os++c.X) c.fs c.N) g H).Perm (os.map (fun p=>(p.1,(·=p.2)))++cells c g H):=by
 induction os with
 |nil=>exact List.Perm.refl _
 |cons p r ih=>
  have:=gO (c:=c.at (r++c.X) c.fs c.N) (g:=g) (H:=H) (I:=p.1) (ob:=p.2)
  exact this.trans (List.Perm.cons _ ih)
theorem Inv.AY(I:Inv (c.at (os++c.X) c.fs c.N) g H h):Inv c g H h:=by
 induction os with
 |nil=>exact I
 |cons p r ih=>exact ih (Inv.dO (c:=c.at (r++c.X) c.fs c.N) I)
theorem ba.drop{a:Addr}(F:ba (c.at (os++c.X) c.fs c.N) g H a):ba c g H a:=
 ⟨fun x hx=>F.1 x (sP.mem_iff.mpr (List.mem_append_right _ hx)),F.2⟩
theorem og{X:List (Addr×Obj)}{fs:List (Addr×(Str->Option Value))}{N:Addr}{sc:Scope}{env:Env}{lo:List (Option V)}(l:Loc c sc env g lo):Loc (c.at X fs N) sc env g lo:=⟨l.len,l.loc,l.bW⟩
theorem lP{X:List (Addr×Obj)}{fs:List (Addr×(Str->Option Value))}{N:Addr}{sc:Scope}{env:Env}{lo:List (Option V)}(l:Loc (c.at X fs N) sc env g lo):Loc c sc env g lo:=⟨l.len,l.loc,l.bW⟩
theorem dr.drop{e k:Addr}{fl:Option Value}(X:dr (c.at (os++c.X) c.fs c.N) g H h e k fl):dr c g H h e k fl:=by
 obtain⟨oe,vs,a0,I,h⟩:=X
 refine⟨oe,vs,a0,⟨I.free.drop,I.get,I.cls,I.data,I.zero⟩,?_⟩
 cases fl with
 |none=>exact h
 |some v=>
  obtain⟨T,oT,ts,J⟩:=h
  exact⟨T,oT,ts,J.one,J.free.drop,J.ne,J.get,J.data,J.three⟩
theorem ExcAt.drop{L e k:Addr}(X:ExcAt (c.at (os++c.X) c.fs c.N) g H h L e k):ExcAt c g H h L e k:=by
 obtain⟨fl,h1,h2⟩:=X
 exact⟨fl,h1,h2.drop⟩
end
section
variable {m:Am} {g:Gs} {st:St} {os:List (Addr×Obj)} {P:aQ} {K:Frag} {mg mb:Str->Option Value}
theorem Rel.dO{h:Heap}(R:Rel (m.x os) g st h):Rel m g st h:=⟨R.inv.AY,lP R.loc⟩
theorem bu.x(O:bu m):bu (m.x os):=⟨⟨O.env.kind,O.env.loc,O.env.bW,O.env.nz,O.env.locals,O.env.globals,O.env.builtins,O.env.nd,O.env.nb⟩,O.frames,O.ff,O.fe,O.fk,O.dep,O.gi,O.de,O.eH⟩
theorem ig.at{c:Cx}{X:List (Addr×Obj)}{fs:List (Addr×(Str->Option Value))}{N:Addr}(G:ig c P mg mb):ig (c.at X fs N) P mg mb:=⟨G.g,G.b,G.bm,G.all⟩
theorem cD.at{c:Cx}{X:List (Addr×Obj)}{fs:List (Addr×(Str->Option Value))}{N:Addr}(Q:cD c P K mg mb):cD (c.at X fs N) P K mg mb:=
 ⟨Q.KX,Q.lim,Q.T,Q.nd,Q.glob.at,Q.fld,Q.eqs,Q.aI⟩
theorem aA.x(G:aA m P K mg mb):aA (m.x os) P K mg mb:=⟨G.O.x,G.PK.at,G.sys,G.qs,G.lam⟩
theorem Am.O':(m.x os).VR=m.VR:=AP
structure Walk(m:Am)(g₀:Gs)(tgt:Expr)(itv:Value)(draw:V->M V)(bt:M Unit)(W:List (Addr×Obj)->List V->Prop):Prop where
 next:∀ (g:Gs) (os:List (Addr×Obj)) (v:V) (vs:List V) (st st₁:St) (x:V) (s:Shared) (Q:Value->Shared->Prop) (E E':Value->Shared->Prop),Ext g₀ g->W os (v::vs)->Rel (m.x os) g st s.heap->
  bt st=.ok () st->draw v st=.ok x st₁->
  (∀ g' h' tk b os',Ext g g'->W os' vs->Rel (m.x os') g' st₁ h'->m.VR g' x b->Q b {s with heap:=h',toks:=tk})->
  wpAny (model m.c.prog m.c.w) m.A (pyNext itv) (fun r s₁=>∃ b,r=some b∧wpAny (model m.c.prog m.c.w) m.A (letOwnedTupleGo tgt itv b) (fun _=>Q b) E' s₁) E s
 fin:∀ (g:Gs) (os:List (Addr×Obj)) (st:St) (s:Shared) (Q:Option Value->Shared->Prop) (E:Value->Shared->Prop),Ext g₀ g->W os []->Rel (m.x os) g st s.heap->bt st=.ok () st->
  (∀ h',Rel m g st h'->Q none {s with heap:=h'})->wpAny (model m.c.prog m.c.w) m.A (pyNext itv) Q E s
 calm:∀ st,bt st=.ok () st∨bt st=.no
 quiet:∀ v st,(∃ x st₁,draw v st=.ok x st₁)∨draw v st=.no
theorem Walk.turn{β:Type}{g₀:Gs}{tgt:Expr}{itv:Value}{draw:V->M V}{bt:M Unit}{W:List (Addr×Obj)->List V->Prop}(w:Walk m g₀ tgt itv draw bt W)
  {os:List (Addr×Obj)} {v:V} {vs:List V} {st₁:St} {x:V} {s:Shared} {Q:β->Shared->Prop} {E:Value->Shared->Prop} {hh:Value->Sem Unit} {n:Sem β} {k:Value->Sem β}
  (x₀:Ext g₀ g) (hW:W os (v::vs)) (R:Rel (m.x os) g st s.heap) (hc:bt st=.ok () st) (hd:draw v st=.ok x st₁)
  (h:∀ g' h' tk b os',Ext g g'->W os' vs->Rel (m.x os') g' st₁ h'->m.VR g' x b->aq (model m.c.prog m.c.w) m.A (k b) Q E {s with heap:=h',toks:=tk}):
  aq (model m.c.prog m.c.w) m.A ((pyNext itv).onRaise hh>>=fun r=>match r with |none=>n |some v=>letOwnedTupleGo tgt itv v>>=fun _=>k v) Q E s:=by
 refine ax (wpAny_onRaise (wpAny_mono (w.next g os v vs st st₁ x s (fun b s₁=>aq (model m.c.prog m.c.w) m.A (k b) Q E s₁) (fun _ _=>False) E x₀ hW R hc hd h) (fun r s₁ h₁=>?_) fun _ _ z=>z.elim))
 obtain⟨b,rfl,h₁⟩:=h₁
 exact ax h₁
noncomputable def stepK {α:Type} (bt:M Unit) (turn:V->M (Option α)) (xs:List V) (r:Option α):M (Option α):=if r.isSome then pure r else loop bt turn xs
theorem lQ{α:Type}{bt:M Unit}{turn:V->M (Option α)}{x:V}{xs:List V}:loop bt turn (x::xs)=(bt>>=fun _=>turn x>>=stepK bt turn xs):=rfl
theorem sQ{g₀:Gs}{tgt:Expr}{itv:Value}{draw:V->M V}{bt:M Unit}{W:List (Addr×Obj)->List V->Prop}{body:List Stmt}{tgt':V->M Unit}{body':M Fl}(O:bu m)(hm:m.env=m.cC)
  (w:Walk m g₀ tgt itv draw bt W)
  (ht:∀ os g st x rx,m.VR g x rx->Np (m.x os) g st (assign tgt m.env rx) (tgt' x st) df)
  (hb:∀ os,cF (m.x os) (execs body m.env) body' (aP (m.x os))) (vs:List V):
  ∀ (g:Gs) (os:List (Addr×Obj)) (st:St) (s:Shared) (Q:Flow->Shared->Prop) (E:Value->Shared->Prop),Ext g₀ g->W os vs->Rel (m.x os) g st s.heap->
   fc m g ((loop bt (fun v=>draw v>>=da tgt' (body'>>=d7)) vs>>=eF) st) (aP m) Q E s->
   codeN (model m.c.prog m.c.w) m.A (.forLoop tgt itv body [] m.env) (fun res s'=>match res with | .ok f=>Q f s' | .error e=>E e s') s:=by
 induction vs with
 |nil=>
  intro g os st s Q E x₀ hW R Pp
  refine dy ?_
  show aq _ m.A ((forTurn tgt itv body [] m.env).onRaise (fun x=>do noteFrame x m.env;theTreesLotGoes x)) _ _ s
  refine eT ?_
  unfold forTurn
  replace Pp:fc m g (((bt>>=fun _=>Pure.pure none)>>=eF) st) (aP m) Q E s:=Pp
  rw[M.bind_assoc]at Pp
  rcases w.calm st with hc |hc
  ·rw[cg hc]at Pp
   refine di (ax (wpAny_onRaise (w.fin g os st s _ _ x₀ hW R hc fun h' R'=>?_)))
   exact aM ⟨rfl,mB (codeAny_block (wpAny_execs_nil (Pp g h' s.toks .next (.refl g) R' .next)))⟩
  ·rw[cL hc]at Pp;exact Pp.elim
 |cons v vs ih=>
  intro g os st s Q E x₀ hW R Pp
  refine dy ?_
  show aq _ m.A ((forTurn tgt itv body [] m.env).onRaise (fun x=>do noteFrame x m.env;theTreesLotGoes x)) _ _ s
  refine eT ?_
  unfold forTurn
  have en:∀ {st₁ x},bt st=.ok () st->draw v st=.ok x st₁->(loop bt (fun v=>draw v>>=da tgt' (body'>>=d7)) (v::vs)>>=eF) st=(tgt' x>>=fun _=>body'>>=fun r=>d7 r>>=fun r=>stepK bt (fun v=>draw v>>=da tgt' (body'>>=d7)) vs r>>=eF) st₁:=fun hc hd=>by
   rw[lQ,M.bind_assoc,cg hc,M.bind_assoc,M.bind_assoc,cg hd]
   unfold da
   simp only[M.bind_assoc]
  rcases w.calm st with hc |hc
  ·rcases w.quiet v st with ⟨x,st₁,hd⟩ |hd
   ·rw[en hc hd]at Pp
    clear en
    generalize hL:stepK bt (fun v=>draw v>>=da tgt' (body'>>=d7)) vs=L at Pp
    refine di (w.turn x₀ hW R hc hd fun g₁ h₁ tk₁ b os₁ x₁ hW₁ R₁ hx=>?_)
    refine aG ((ht os₁ g₁ st₁ x b hx).use (s:={s with heap:=h₁,toks:=tk₁}) R₁ (fun u st₂ e2 g₂ h₂ tk₂ u' x₂ R₂ _=>?_) (fun k st₂ e2 g₂ h₂ tk₂ e x₂ R₂ X=>?_) fun e2=>?_)
    ·rw[cg e2]at Pp
     refine aG ((hb os₁ g₂ st₂).use (s:={s with heap:=h₂,toks:=tk₂}) R₂ (fun fl st₃ e3 g₃ h₃ tk₃ fl' x₃ R₃ q₃=>?_) (fun k st₃ e3 g₃ h₃ tk₃ e x₃ R₃ X=>?_) fun e3=>?_)
     ·rw[cg e3]at Pp
      have x03:Ext g g₃:=x₁.trans (x₂.trans x₃)
      cases fl with
      |next=>
       rw[show fl'=.next from q₃]
       subst hL
       exact aM ⟨rfl,ih g₃ os₁ st₃ {s with heap:=h₃,toks:=tk₃} Q E (x₀.trans x03) hW₁ R₃ (fc.shift x03 Pp)⟩
      |ret v=>
       obtain⟨r,rfl,hv⟩:=q₃
       subst hL
       exact aM (Pp g₃ h₃ tk₃ _ x03 R₃.dO (.ret hv))
     ·rw[dt e3]at Pp
      exact iZ.of (s:=s) O hm R₃.dO X.drop fun h' R' X'=>Pp g₃ h' tk₃ e (x₁.trans (x₂.trans x₃)) R' X'
     ·rw[cL e3]at Pp;exact Pp.elim
    ·rw[dt e2]at Pp
     exact iZ.of (s:=s) O hm R₂.dO X.drop fun h' R' X'=>Pp g₂ h' tk₂ e (x₁.trans x₂) R' X'
    ·rw[cL e2]at Pp;exact Pp.elim
   ·rw[lQ,M.bind_assoc,cg hc,M.bind_assoc,M.bind_assoc,cL hd]at Pp;exact Pp.elim
  ·rw[lQ,M.bind_assoc,cL hc]at Pp;exact Pp.elim
end
end
section
open _root_.PySem.SeqAt
section
variable {m:Am} {g g₀:Gs} {st:St} {os:List (Addr×Obj)} {h h':Heap}
theorem Rel.dP{I:Addr}{ob:Obj}(R:Rel (m.x ((I,ob)::os)) g st h):h.get? I=some ob:=Inv.dP (c:=m.c.at (os++m.c.X) m.c.fs m.c.N) R.inv
theorem Rel.jO{I:Addr}{ob ob':Obj}(R:Rel (m.x ((I,ob)::os)) g st h)(hs:∀ b o,b≠I->h.get? b=some o->h'.get? b=some o)(ho:h'.get? I=some ob'):Rel (m.x ((I,ob')::os)) g st h':=
 ⟨Inv.jO (c:=m.c.at (os++m.c.X) m.c.fs m.c.N) R.inv hs ho,og (lP R.loc)⟩
theorem Rel.lS{I:Addr}{ob:Obj}(R:Rel (m.x os) g st h)(hf:ba (m.x os).c g st.H I)(ho:h.get? I=some ob):Rel (m.x ((I,ob)::os)) g st h:=
 ⟨Inv.more (c:=m.c.at (os++m.c.X) m.c.fs m.c.N) (x:=(I,(·=ob))) R.inv (gO (c:=m.c.at (os++m.c.X) m.c.fs m.c.N)) hf ⟨ob,ho,rfl⟩ (fun _ _ e=>e) rfl R.inv.above R.inv.len R.inv.tabs,og (lP R.loc)⟩
theorem Rel.fU{I:Addr}{ob:Obj}(R:Rel (m.x os) g st h)(hf:h.get? I=none)(hk:∀ b o,h.get? b=some o->h'.get? b=some o)(ho:h'.get? I=some ob):Rel (m.x ((I,ob)::os)) g st h':=(R.keeps hk).lS (R.inv.free hf) ho
theorem Rel.gP{I:Addr}{ob:Obj}(R:Rel (m.x ((I,ob)::os)) g st h):ba (m.x os).c g st.H I:=Inv.gP (c:=m.c.at (os++m.c.X) m.c.fs m.c.N) R.inv
theorem ba.fU{I a:Addr}{ob:Obj}{H:Hp}(F:ba (m.x os).c g H a)(ne:I≠a):ba (m.x ((I,ob)::os)).c g H a:=ba.add (c:=m.c.at (os++m.c.X) m.c.fs m.c.N) F ne
theorem Rel.gQ{I:Addr}{ob:Obj}(R:Rel (m.x ((I,ob)::os)) g st h):Rel (m.x os) g st h:=⟨Inv.dO (c:=m.c.at (os++m.c.X) m.c.fs m.c.N) R.inv,og (lP R.loc)⟩
theorem Rel.x0(R:Rel m g st h):Rel (m.x []) g st h:=⟨R.inv,R.loc⟩
theorem Rel.of0(R:Rel (m.x []) g st h):Rel m g st h:=⟨R.inv,R.loc⟩
theorem Rel.oh{I:Addr}{ob:Obj}(R:Rel (m.x ((I,ob)::os)) g st h)(hs:Heap.ExtBut I h h'):Rel (m.x os) g st h':=
 ⟨R.gQ.inv.sG (P:=(·=I)) (fun _ e=>e▸R.gP) (fun b o n e=>hs b o n e),R.gQ.loc⟩
theorem Rel.Pa{I:Addr}{ob:Obj}(R:Rel (m.x [(I,ob)]) g st h):Rel m g st h:=R.dO
theorem Rel.toks(R:Rel m g st h)(hk:h'=h):Rel m g st h':=hk▸R
theorem AZ(o:Option (Nat×List V)):Still (bJ o):=by
 cases o with
 |none=>exact .pure _
 |some p=>exact(Still.b8 _ _).bind fun _=>e8 _
theorem A0{α:Type}{a b:α}{d:Decidable (a=b)}{st st':St}{r:Unit}(h:Lite.guard (@decide (a=b) d) st=.ok r st'):a=b:=of_decide_eq_true (ie h)
theorem lT{a:Nat}{xs:List V}(e:bJ (some (a,xs)) st=.ok () st):st.H[a]? =some (.list xs):=by
 obtain⟨ys,h1,h2⟩:=(Still.b8 _ _).inv e
 obtain⟨o,ho,hF⟩:=rB h1
 rw[show st.H[a]? =some o from ho,iU hF,show ys=xs from A0 h2]
theorem oj(o:Option (Nat×List V))(st:St):bJ o st=.ok () st∨bJ o st=.no:=(AZ o st).imp (fun h=>by obtain⟨_,e⟩:=h;exact e) id
theorem sR:∀ (v:V) (st:St),(∃ x st₁,(pure v:M V) st=.ok x st₁)∨(pure v:M V) st=.no:=fun v st=>.inl ⟨v,st,rfl⟩
theorem Rel.list{a:Nat}{l y:Addr}{xs:List V}(R:Rel m g st h)(hp:g.ρ[a]? =some (l,y))(ho:st.H[a]? =some (.list xs)):∃ vs n,h.get? l=some {cls:=.type "list",data:=.seq vs.toArray n}∧m.ay g xs vs:=by
 obtain⟨ob,h1,vs,n,h2,h3⟩:=R.inv.obj hp ho
 subst h2
 exact⟨vs,n,h1,h3⟩
theorem Rel.isList{a:Nat}{l y:Addr}{xs:List V}(R:Rel m g st h)(hp:g.ρ[a]? =some (l,y))(ho:st.H[a]? =some (.list xs)):∃ vs,h.IsList l vs.toArray∧m.ay g xs vs:=by
 obtain⟨vs,n,h1,h3⟩:=R.list hp ho
 exact⟨vs,⟨_,h1,rfl,n,rfl⟩,h3⟩
theorem aC.at{α β:Type}{R:α->β->Prop}{xs:List α}{ys:List β}(q:aC R xs ys){i:Nat}{x:α}(e:xs[i]? =some x):∃ y,ys[i]? =some y∧R x y:=aC.get q e
theorem aC.sS{α β:Type}{R:α->β->Prop}{xs:List α}{ys:List β}(q:aC R xs ys){i:Nat}(e:xs[i]? =none):ys[i]? =none:=List.getElem?_eq_none_iff.mpr (q.length▸List.getElem?_eq_none_iff.mp e)
theorem drop_cons{α:Type}{xs:List α}{i:Nat}{v:α}{vs:List α}(e:v::vs=xs.drop i):xs[i]? =some v∧vs=xs.drop (i+1):=by
 have h1:(xs.drop i)[0]? =some v:=by rw[<-e];rfl
 rw[List.getElem?_drop]at h1
 refine⟨by simpa using h1,?_⟩
 have:(xs.drop i).drop 1=vs:=by rw[<-e];rfl
 simp only[<-this,List.drop_drop]
theorem drop_nil{α:Type}{xs:List α}{i:Nat}(e:[]=xs.drop i):xs[i]? =none:=by
 rw[List.getElem?_eq_none_iff];exact List.drop_eq_nil_iff.mp e.symm
theorem A1{it v:Value}(tgt:Expr):letOwnedTupleGo tgt it v=if (tgt.ctorIdx==24||tgt.ctorIdx==25)=true then letOwnedTupleGo (.List [] default) it v else pure ():=
 Expr.casesOn (motive_1:=fun tgt=>letOwnedTupleGo tgt it v=if (tgt.ctorIdx==24||tgt.ctorIdx==25)=true then letOwnedTupleGo (.List [] default) it v else pure ()) tgt (fun _ _ _=>rfl) (fun _ _ _=>rfl) (fun _ _ _ _=>rfl) (fun _ _ _=>rfl) (fun _ _ _ _=>rfl) (fun _ _ _ _=>rfl) (fun _ _ _=>rfl) (fun _ _ _=>rfl) (fun _ _ _ _=>rfl) (fun _ _ _ _=>rfl) (fun _ _ _ _ _=>rfl) (fun _ _ _ _=>rfl) (fun _ _=>rfl) (fun _ _=>rfl) (fun _ _=>rfl) (fun _ _ _ _=>rfl) (fun _ _ _ _=>rfl) (fun _ _ _ _=>rfl) (fun _ _=>rfl) (fun _ _ _=>rfl) (fun _ _ _=>rfl) (fun _ _ _=>rfl) (fun _ _=>rfl) (fun _ _=>rfl) (fun _ _=>rfl) (fun _ _ _=>rfl) (fun _ _ _ _=>rfl)
theorem sT{M:Model}{A:Around}{E:Value->Shared->Prop}{s:Shared}{tgt:Expr}{it:Addr}{v:Value}{Q:Unit->Shared->Prop}{o:Obj}{T:String}(ho:s.heap.get? it=some o)(hc:o.cls=.type T)
  (hT:["enumerate","zip","dict_itemiterator","dict_reverseitemiterator","odict_iterator","itertools.zip_longest","itertools.pairwise"].contains T=false) (h:Q () s):wpAny M A (letOwnedTupleGo tgt (.ref it) v) Q E s:=by
 rw[A1]
 cases (tgt.ctorIdx==24||tgt.ctorIdx==25)with
 |false=>exact wpAny_pure h
 |true=>
  show wpAny M A (letOwnedTupleGo (.List [] default) (.ref it) v) Q E s
  cases v with
  |ref a'=>
   refine wpAny_bind (wpAny_load ho ?_)
   rw[hc]
   cases hd:o.data with
   |fields vs=>
    refine wpAny_of_eq (a:=()) ?_ h
    show(if (["enumerate","zip","dict_itemiterator","dict_reverseitemiterator","odict_iterator","itertools.zip_longest","itertools.pairwise"].contains T&&_)=true then _ else _)=_
    rw[hT,Bool.false_and]
    rfl
   |_=>exact wpAny_pure h
  |_=>exact wpAny_pure h
structure sU(l:Addr)(o:Obj)(i:Nat):Prop where
 cls:o.cls=.type "list_iterator"
 data:o.data=.fields #[.ref l,.int i 0]
theorem A2{tgt:Expr}{a:Nat}{l y it:Addr}{xs:List V}(O:bu m)(hv:m.A.handled=none)(hp:g₀.ρ[a]? =some (l,y)):
  Walk m g₀ tgt (.ref it) pure (bJ (some (a,xs))) (fun os rest=>bV fun i o=>bp (os=[(it,o)]) (sU l o i) (rest=xs.drop i)) where
 calm:=oj _
 quiet:=sR
 next g os v vs st st₁ x s Q E E' x₀ hW R hc hd k:=by
  obtain⟨i,o,rfl,h1,h3⟩:=hW
  cases hd
  obtain⟨e1,e2⟩:=drop_cons h3
  obtain⟨rs,hl,hr⟩:=R.isList (x₀.at hp) (lT hc)
  obtain⟨rv,q1,q2⟩:=hr.at e1
  refine wpAny_pyNext_list_item ⟨o,R.dP,h1.cls,h1.data⟩ hl (x:=rv) (List.getElem?_toArray.trans q1) fun h' hit' hs=>⟨rv,rfl,?_⟩
  obtain⟨o',ho',hc',hd'⟩:=hit'
  exact sT ho' hc' (by decide) (k g h' s.toks rv [(it,o')] (.refl g) ⟨i+1,o',rfl,⟨hc',hd'⟩,e2⟩ (R.jO (fun b _ hb q=>(hs.2 b hb).trans q) ho') q2)
 fin g os st s Q E x₀ hW R hc k:=by
  obtain⟨i,o,rfl,h1,h3⟩:=hW
  obtain⟨rs,hl,hr⟩:=R.isList (x₀.at hp) (lT hc)
  exact wpAny_pyNext_list_end hv ⟨o,R.dP,h1.cls,h1.data⟩ hl (List.getElem?_toArray.trans (hr.sS (drop_nil h3))) fun h' hs=>k h' (R.oh hs).of0
noncomputable abbrev oq (x left step:Int):Obj:={cls:=.type "range_iterator",dict:=none,data:=.fields #[rawInt x,rawInt left,rawInt step],slots:=#[]}
noncomputable def iu (x:Int) (n:Nat):List V:=(List.range n).map fun (k:Nat)=>V.int (x+(k:Int))
theorem lU(x:Int)(n:Nat):iu x (n+1)=V.int x::iu (x+1) n:=by
 unfold iu
 rw[List.range_succ_eq_map,List.map_cons,List.map_map]
 exact congr (congrArg List.cons (congrArg V.int (Int.add_zero x))) (List.map_congr_left fun k _=>congrArg V.int (by show x+((k+1:Nat):Int)=_;rw[Int.natCast_add,Int.add_comm (k:Int),Int.add_assoc];rfl))
theorem A3{tgt:Expr}{it:Addr}(hv:m.A.handled=none):
  Walk m g₀ tgt (.ref it) pure (bJ none) (fun os rest=>bV fun (x:Int) (n:Nat)=>os=[(it,oq x n 1)]∧rest=iu x n) where
 calm:=oj _
 quiet:=sR
 next g os v vs st st₁ x s Q E E' x₀ hW R hc hd k:=by
  obtain⟨y,n,rfl,h3⟩:=hW
  cases hd
  cases n with
  |zero=>contradiction
  |succ n=>
   rw[lU]at h3
   obtain⟨rfl,h5⟩:=List.cons.inj h3
   refine wpAny_pyNext_range_item (step:=1) R.dP (Int.natCast_pos.mpr (Nat.succ_pos n)) fun h' hit' hs=>⟨_,rfl,?_⟩
   rw[show((n+1:Nat):Int) -1=(n:Int) from(congrArg (· -1) (Int.natCast_add n 1)).trans (Int.add_sub_cancel _ _)]at hit'
   exact sT hit' rfl (by decide) (k g h' (s.toks+1) _ [(it,oq (y+1) n 1)] (.refl g) ⟨y+1,n,rfl,h5⟩ (R.jO (fun b _ hb q=>(hs.2 b hb).trans q) hit') (.int y _))
 fin g os st s Q E x₀ hW R hc k:=by
  obtain⟨y,n,rfl,h3⟩:=hW
  cases n with
  |zero=>exact wpAny_pyNext_range_end (step:=1) hv R.dP (Int.le_refl 0) fun h' hs=>k h' (R.oh hs).of0
  |succ n=>rw[lU]at h3;contradiction
noncomputable abbrev jP (it:Addr) (i:Int) (old:Value):Obj:={cls:=.type "enumerate",dict:=none,data:=.fields #[.none,.bool false,.ref it,rawInt i,.none,old],slots:=#[]}
theorem A4{xs:List V}{i:Nat}{x v:V}{st₁:St}(hi:xs[i]? =some x)(e:gI xs (.int (i:Int)) st=.ok v st₁):v=.ref st.H.length∧st₁={st with H:=st.H++[.tuple [.int i,x]]}:=by
 have e:(Lite.ar xs[i]? >>=fun x=>alloc (.tuple [.int (i:Int),x])) st=.ok v st₁:=e
 rw[hi]at e
 have e:alloc (.tuple [.int (i:Int),x]) st=.ok v st₁:=e
 cases e
 exact⟨rfl,rfl⟩
theorem A5(xs:List V)(v:V)(st:St):(∃ x st₁,gI xs v st=.ok x st₁)∨gI xs v st=.no:=by
 cases v with
 |int i=>
  show(∃ x st₁,(Lite.ar xs[i.toNat]? >>=fun x=>alloc (.tuple [.int i,x])) st=.ok x st₁)∨(Lite.ar xs[i.toNat]? >>=fun x=>alloc (.tuple [.int i,x])) st=.no
  cases xs[i.toNat]? with
  |none=>exact .inr rfl
  |some x=>exact .inl ⟨_,_,rfl⟩
 |_=>exact .inr rfl
structure A6(l e it:Addr)(os:List (Addr×Obj))(rest:List V)(len i:Nat)(o:Obj)(old:Value)(n:Nat):Prop where
 os:os=[(e,jP it i old),(it,o)]
 it:sU l o i
 len:i+n=len
 rest:rest=iu i n
theorem Rel.A7{e it:Addr}{i:Nat}{o o':Obj}{old rv:Value}{h₁ h₂:Heap}{x:V}{tk:Tok}(R:Rel (m.x [(e,jP it i old),(it,o)]) g st h)(hne:e≠it)(hk:∀ b ob,b≠e->b≠it->h.get? b=some ob->h₂.get? b=some ob)
  (he:h₂.get? e=some (jP it ((i:Int)+1) rv)) (hi:h₂.get? it=some o') (ht:h₂.get? h.objs.size=some {cls:=.type "tuple",data:=.seq #[.int i tk,rv]}) (hv:m.VR g x rv):
  Rel (m.x [(e,jP it ((i+1:Nat):Int) rv),(it,o')]) (g.lay (h.objs.size,h.objs.size)) {st with H:=st.H++[.tuple [.int (i:Int),x]]} h₂:=by
 have R2:=R.gQ
 have fE:ba m.c g st.H e:=R.gP.drop
 have fI:ba m.c g st.H it:=R2.gP
 have fT:ba m.c g st.H h.objs.size:=R.dO.inv.free (dq _)
 have R0:Rel (m.x []) g st h₂:=⟨R2.gQ.inv.sG (P:=fun b=>b=e∨b=it) (fun b q=>q.elim (fun q=>q▸fE) fun q=>q▸fI) fun b o q=>hk b o (fun z=>q (.inl z)) fun z=>q (.inr z),R2.gQ.loc⟩
 have R3:=(R0.lS fI hi).lS (ba.fU (os:=[]) fE (Ne.symm hne)) he
 exact R3.gK (o:=.tuple [.int (i:Int),x]) (ba.fU (ba.fU (os:=[]) fT (Nat.ne_of_lt (Heap.lt_size R2.dP))) (Nat.ne_of_lt (Heap.lt_size R.dP))) rfl ht ⟨[.int i tk,rv],0,rfl,.cons (.int _ _) (.cons (VR.mono (dc g _) hv) .nil)⟩
theorem A8{ts:List Expr}{x1}{pt:Pos}{a:Nat}{l y e it:Addr}{xs:List V}(hv:m.A.handled=none)(hp:g₀.ρ[a]? =some (l,y)):
  Walk m g₀ (.Tuple ts x1 pt) (.ref e) (gI xs) (bJ (some (a,xs))) (fun os rest=>eU fun i o old n=>A6 l e it os rest xs.length i o old n) where
 calm:=oj _
 quiet:=A5 xs
 next g os v vs st st₁ x s Q E E' x₀ hW R hc hd k:=by
  obtain⟨i,o,old,n,rfl,h1,hn,h4⟩:=hW
  cases n with
  |zero=>contradiction
  |succ n=>
   rw[lU]at h4
   obtain⟨rfl,h6⟩:=List.cons.inj h4
   obtain⟨rs,hl,hr⟩:=R.isList (x₀.at hp) (lT hc)
   have hi:i<xs.length:=hn▸Nat.lt_add_of_pos_right (Nat.succ_pos n)
   have hx:=List.getElem?_eq_getElem hi
   obtain⟨rv,q1,q2⟩:=hr.at hx
   obtain⟨rfl,rfl⟩:=A4 hx hd
   have hne:e≠it:=fun z=>R.gP.1 (it,(·=o)) ((sP (c:=m.c)).mem_iff.mpr (.head _)) z.symm
   refine wpAny_pyNext_enum_item (x:=rv) R.dP ⟨o,R.gQ.dP,h1.cls,h1.data⟩ hl (List.getElem?_toArray.trans q1) hne fun h' heo hit' ht hz hk=>⟨_,rfl,?_⟩
   refine wpAny_letOwnedTupleGo_enum heo fun h₂ he₂ hs₂=>?_
   obtain⟨o',ho',hc',hd'⟩:=hit'
   have hs₂:Heap.SameBut e h' h₂:=hs₂
   exact k _ h₂ (s.toks+1) _ _ (dc g (s.heap.objs.size,s.heap.objs.size)) ⟨i+1,o',rv,n,rfl,⟨hc',hd'⟩,(Nat.succ_add_eq_add_succ i n).trans hn,h6⟩
    (R.A7 (h₁:=h') (tk:=s.toks) hne (fun b ob b1 b2 q=>(hs₂.2 b b1).trans (hk b ob b1 b2 q)) he₂ ((hs₂.2 it (Ne.symm hne)).trans ho') ((hs₂.2 _ (Nat.ne_of_gt (Heap.lt_size R.dP))).trans ht) q2) (.ref R.last)
 fin g os st s Q E x₀ hW R hc k:=by
  obtain⟨i,o,old,n,rfl,h1,hn,h4⟩:=hW
  cases n with
  |succ n=>rw[lU]at h4;contradiction
  |zero=>
   obtain⟨rs,hl,hr⟩:=R.isList (x₀.at hp) (lT hc)
   exact wpAny_pyNext_enum_end hv R.dP ⟨o,R.gQ.dP,h1.cls,h1.data⟩ hl (List.getElem?_toArray.trans (hr.sS (List.getElem?_eq_none_iff.mpr (Nat.le_of_eq hn.symm)))) fun h' hs=>k h' ((R.gQ).oh hs).of0
end
end
section
open _root_.PySem.SeqAt
theorem ot{o:Expr}(h:iQ o=true)(attr:Str)(env:Env)(whole:Sem Value):attributeBase o attr env whole=whole:=by
 revert h
 exact Expr.casesOn (motive_1:=fun o=>iQ o=true->attributeBase o attr env whole=whole) o (fun _ _ _ _=>rfl) (fun _ _ _ _=>rfl) (fun _ _ _ _ _=>rfl) (fun _ _ _ _=>rfl) (fun _ _ _ _ _=>rfl) (fun _ _ _ _ _=>rfl) (fun _ _ _ _=>rfl) (fun _ _ _ _=>rfl) (fun _ _ _ _ _=>rfl) (fun _ _ _ _ _=>rfl) (fun _ _ _ _ _ _=>rfl) (fun _ _ _ _ _=>rfl) (fun _ _ _=>rfl) (fun _ _ _=>rfl) (fun _ _ _=>rfl) (fun _ _ _ _ _=>rfl) (fun a b c d=>fun h=>Bool.noConfusion h) (fun _ _ _ _ _=>rfl) (fun _ _ _=>rfl) (fun _ _ _ _=>rfl) (fun _ _ _ _=>rfl) (fun _ _ _ _=>rfl) (fun _ _ _=>rfl) (fun _ _ _=>rfl) (fun _ _ _=>rfl) (fun _ _ _ _=>rfl) (fun _ _ _ _ _=>rfl)
theorem ou{α β γ:Type}{M:Model}{A:Around}{f:Sem α}{k:α->Sem β}{l:β->Sem γ}{Q:γ->Shared->Prop}{E:Value->Shared->Prop}{s:Shared}(h:aq M A (f>>=fun a=>k a>>=l) Q E s):aq M A ((f>>=k)>>=l) Q E s:=fun Γ p hΓ n=>by
 have:=h Γ p hΓ n
 simp only[Sem.wp_bind']at this ⊢
 exact this
theorem A9{α β γ:Type}{M:Model}{A:Around}{vs:List Value}{f:Sem α}{k:α->Sem β}{l:β->Sem γ}{Q:γ->Shared->Prop}{E:Value->Shared->Prop}{s:Shared}(h:aq M A (f>>=fun a=>k a>>=l) Q E s):aq M A (holding vs (f>>=k)>>=l) Q E s:=fun Γ p hΓ n=>by
 have:=h Γ p hΓ n
 simp only[Sem.wp_bind',Sem.wp_holding]at this ⊢
 exact this
theorem Np.assoc{α β γ δ:Type}{m:Am}{g:Gs}{st:St}{f:Sem β}{k:β->Sem γ}{l:γ->Sem δ}{r:R α}{rel:Gs->α->δ->Prop}(h:Np m g st (f>>=fun a=>k a>>=l) r rel):Np m g st ((f>>=k)>>=l) r rel:=
 fun s Q E R P=>ou (h s Q E R P)
theorem Np.jQ{α β γ δ:Type}{m:Am}{g:Gs}{st:St}{vs:List Value}{f:Sem β}{k:β->Sem γ}{l:γ->Sem δ}{r:R α}{rel:Gs->α->δ->Prop}(h:Np m g st (f>>=fun a=>k a>>=l) r rel):Np m g st (PySem.holding vs (f>>=k)>>=l) r rel:=
 fun s Q E R P=>A9 (h s Q E R P)
section
variable {m:Am} {g:Gs} {st:St} {α:Type} {P:aQ} {K:Frag} {mg mb:Str->Option Value} {ev:Expr->M V}
theorem A'(H:aY m ev)(l:Expr)(op:Operator)(r:Expr)(p:Pos):Np m g st (eval (.BinOp l op r p) m.env) ((do let a<-ev l;let b<-ev r;binop op a b:M V) st) m.VR:=by
 rw[arm_eval_BinOp]
 refine Np.bind (H.snd l g st) fun a st₁ g₁ ra e1 x va=>?_
 refine Np.bind (Np.holding (H.snd r g₁ st₁)) fun b st₂ g₂ rb e2 x2 vb=>?_
 exact Np.standAt (Np.operate (β:=Unit) (yu (va.mono x2) vb).np)
theorem Ba(H:aY m ev)(x:Expr)(p:Pos):Np m g st (eval (.UnaryOp .Not x p) m.env) ((ev x>>=fun v=>truth v>>=fun b=>Pure.pure (V.bool (!b))) st) m.VR:=by
 rw[arm_eval_UnaryOp]
 refine Np.bind (H.snd x g st) fun a st₁ g₁ ra e1 x va=>Np.standAt (Np.holding (Np.dz fun b hb=>?_))
 subst hb
 rw[show ra=.bool b from va]
 exact(Wp.val (v:=.bool (!b)) fun s Q E R k=>not_value (wpAny_truthy_bool (k _ s.toks (.bool _)))).np
theorem Bb(H:aY m ev)(op:BoolOp)(vs:List Expr)(p:Pos):Np m g st (eval (.BoolOp op vs p) m.env) (kT ev op vs st) m.VR:=by
 rw[arm_eval_BoolOp];exact AM H p op vs g st
theorem Bc(G:aA m P K mg mb)(H:aY m ev)(l:Expr)(ops:List CmpOp)(rs:List Expr)(p:Pos):Np m g st (eval (.Compare l ops rs p) m.env) ((guard (decide (ops.length=rs.length))>>=fun _=>ev l>>=fun a=>gH ev a ops rs>>=fun t=>Pure.pure (V.bool t)) st) m.VR:=by
 rw[arm_eval_Compare]
 exact Np.aK fun hl=>Np.bind (H.snd l g st) fun a st₁ g₁ ra e1 x va=>AH G H p ops rs a ra g₁ st₁ (of_decide_eq_true hl) va
theorem Bd(G:aA m P K mg mb)(H:aY m ev)(o:Expr)(a:Str)(p:Pos):Np m g st (eval (.Attribute o a p) m.env) ((do guard (iQ o);let ov<-ev o;jv P ov a:M V) st) m.VR:=by
 rw[arm_eval_Attribute]
 refine Np.aK fun hp=>?_
 rw[ot hp]
 refine Np.bind (H.snd o g st) fun v st₁ g₁ rv e1 x vv=>Np.standAt ?_
 refine Np.around (Np.holding (Wp.rV G.PK vv).np) id (fun _ _ _ h=>h) fun s Q E h=>aG (dU h (fun r s' h'=>?_) fun _ _ h'=>h')
 exact ax (wpAny_letTemporaryGo (aM h'))
theorem Be(G:aA m P K mg mb)(H:aY m ev)(o i:Expr)(p:Pos):Np m g st (eval (.Subscript o i p) m.env) ((do let ov<-ev o;let iv<-ev i;aw ov iv:M V) st) m.VR:=by
 rw[arm_eval_Subscript]
 refine Np.bind (H.snd o g st) fun v st₁ g₁ rv e1 x vv=>?_
 refine Np.bind (Np.holding (H.snd i g₁ st₁)) fun w st₂ g₂ rw' e2 x2 vw=>Np.standAt ?_
 exact(yX G.PK (vv.mono x2) vw).np
theorem Bg(G:aA m P K mg mb)(H:aY m ev)(o:Expr)(lo hi:Option Expr)(sp p:Pos):
  Np m g st (eval (.Subscript o (.Slice lo hi none sp) p) m.env) ((do let ov<-ev o;let l<-iR ev lo;let h<-iR ev hi;iO ov l h:M V) st) m.VR:=by
 rw[arm_eval_Subscript]
 refine Np.bind (H.snd o g st) fun v st₁ g₁ rv e1 x vv=>?_
 show Np m g₁ st₁ (holding [rv] (valueOrNone (evalOpt lo m.env)>>=fun l=>holding [l] (valueOrNone (evalOpt hi m.env))>>=fun u=>holding [l,u] (Pure.pure Value.none)>>=fun s=>newFields "slice" [l,u,s])>>=fun i=>standAt p>>=fun _=>subscriptTail o (.Slice lo hi none sp) rv i) _ _
 refine Np.jQ ?_
 refine Np.bind (sF H lo) fun l st₂ g₂ rl e2 x2 vl=>Np.assoc ?_
 refine Np.bind (Np.holding (sF H hi)) fun u st₃ g₃ ru e3 x3 vu=>Np.assoc ?_
 have:=(y2 (st:=st₃) (sp:=p) (value:=o) (slice:=.Slice lo hi none sp) (vv.mono (x2.trans x3)) vl vu).np
 refine Np.step (c:=Value.none) (fun s Q E h=>wpAny_holding (wpAny_pure h)) ?_
 exact this
theorem Bh(H:aY m ev)(es:List Expr)(p:Pos)(h:es.all notStar=true):Np m g st (eval (.List es p) m.env) ((do let vs<-dD ev es;guard (decide (vs.length<=lim));alloc (.list vs):M V) st) m.VR:=by
 rw[arm_eval_List]
 refine Np.standAt (Np.bind (sE H es g st p h) fun vs st₁ g₁ rs e1 x va=>Np.aK fun hl=>?_)
 exact AN va (of_decide_eq_true hl)
theorem Bj(H:aY m ev)(es:List Expr)(k:Nat)(p:Pos)(h:es.all notStar=true):Np m g st (eval (.Tuple es k p) m.env) ((do let vs<-dD ev es;guard (decide (vs.length<=lim));alloc (.tuple vs):M V) st) m.VR:=by
 rw[arm_eval_Tuple]
 refine Np.standAt (Np.bind (sE H es g st p h) fun vs st₁ g₁ rs e1 x va=>Np.aK fun hl=>?_)
 exact AO va (of_decide_eq_true hl)
theorem Bl(G:aA m P K mg mb)(H:aY m ev)(n:Nat)(t b o:Expr)(p:Pos):Np m g st (eval (.IfExp t b o p) m.env) ((do if<-fz ev n t then ev b else ev o:M V) st) m.VR:=by
 rw[arm_eval_IfExp]
 refine Np.bind (lL G H n t g st) fun a st₁ g₁ b' e1 x hb=>?_
 rw[<-show a=b' from hb]
 cases a with
 |true=>exact H.snd b g₁ st₁
 |false=>exact H.snd o g₁ st₁
end
end
section
open _root_.PySem.SeqAt
noncomputable abbrev Keeps (M:Model) (h:Heap) (f:Value):Prop:=∃ k,(k=Keeper.frame∨k=Keeper.machine∨k=Keeper.boundFrame)∧Looks M h (keeperOf f) k
structure gp(m:Am)(P:aQ)(C:V->List V->Hp->CR):Prop where
 call:∀ (f:V) (args:List V) (rf:Value) (rargs:List Value) (g:Gs) (st:St),m.VR g f rf->m.ay g args rargs->Np m g st (PySem.call rf rargs) (aR P C m.lv f args st) m.VR
 keep:∀ (f:V) (args:List V) (rf:Value) (g:Gs) (st:St) (h:Heap),m.VR g f rf->Inv m.c g st.H h->aR P C m.lv f args st≠.no->Keeps (model m.c.prog m.c.w) h rf
section
variable {M:Model} {A:Around} {E:Value->Shared->Prop} {s:Shared}
theorem Bm{f:Value}{args:List (Bool×Sem Value)}{Q:Args->Shared->Prop}(hplain:args.any (·.1)=false)
  (h:aq M A (spliced args) (fun vs s'=>Q ⟨vs,[]⟩ s') E s):aq M A (evalArgs f true args []) Q E s:=by
 have e:evalArgs f true args []=(spliced args>>=fun vs=>PySem.holding (vs++(none:Option Value).toList) (evalAll []>>=fun ks=>Pure.pure vs>>=fun vs=>Pure.pure (⟨vs,([]:List Str).zip ks⟩:Args))):=by
  cases args with
  |nil=>rfl
  |cons a rest=>
   obtain⟨b,x⟩:=a
   cases b with
   |true=>contradiction
   |false=>rfl
 rw[e]
 exact aG (dU h (fun vs s' h'=>bQ (aG (aM (aG (aM (aM h')))))) fun _ _ x=>x)
theorem lV{pos:Pos}{f:Value}{first:List Value}{args:List (Bool×Sem Value)}{Q:Value->Shared->Prop}(hplain:args.any (·.1)=false)
  (h:aq M A (spliced args) (fun vs s₁=>Keeps M s₁.heap f∧aq M A (PySem.call f (first++vs)) Q E s₁) E s):aq M A (callWith pos f first args []) Q E s:=by
 unfold callWith
 refine aG (bQ (Bm hplain (dU h (fun vs s₁ h₁=>di ?_) fun _ _ x=>x)))
 obtain⟨k,hk',L⟩:=h₁.1
 rw[hplain]
 refine ax (L.here ?_)
 have tail:∀ {t:Sem Value},aq M A t Q E s₁->aq M A (t>>=fun r=>PySem.holding [r] point>>=fun _=>pure r) Q E s₁:=
  fun ht=>aG (dU ht (fun r s₂ hr=>aG (bQ (bz (wpAny_point (aM hr))))) fun _ _ x=>x)
 have marked (mk:Value):aq M A (callMarked mk f (first++vs) []) Q E s₁:=by unfold callMarked;exact xD h₁.2
 have br (mk:Value) {c:Prop} [Decidable c]:aq M A (if c then PySem.call f (first++vs)>>=fun r=>PySem.holding [r] point>>=fun _=>pure r else callMarked mk f (first++vs) []>>=fun r=>PySem.holding [r] point>>=fun _=>pure r) Q E s₁:=by
  by_cases h:c
  ·rw[if_pos h];exact tail h₁.2
  ·rw[if_neg h];exact tail (marked mk)
 rcases hk' with rfl |rfl |rfl
 ·exact(br plainCall (c:=args.length+2*([]:List (Option Str×Sem Value)).length>30))
 ·exact tail h₁.2
 ·exact(br callOfAMethodObject (c:=args.length+2*([]:List (Option Str×Sem Value)).length>30))
end
section
variable {m:Am} {g:Gs} {st:St} {α:Type} {P:aQ} {K:Frag} {mg mb:Str->Option Value} {ev:Expr->M V} {C:V->List V->Hp->CR}
theorem sV(H:aY m ev)(Cv:gp m P C){pos:Pos}{f:V}{rf:Value}{first:List V}{rfirst:List Value}(vf:m.VR g f rf)(v1:m.ay g first rfirst){args:List Expr}(ha:args.all notStar=true):
  Np m g st (callWith pos rf rfirst (backTo pos (starEach args m.env)) []) ((dD ev args>>=fun as=>aR P C m.lv f (first++as)) st) m.VR:=by
 intro s Q E R Pp
 simp only[iq ha,ir]
 refine lV (lF args) ((nY (fun e=>H.snd e) args g st).use R (fun as st₁ e1 g₁ h₁ tk₁ ras x₁ R₁ va=>?_) (fun k st₁ e1 g₁ h₁ tk₁ e x₁ R₁ X=>?_) fun e1=>?_)
 ·rw[cg e1]at Pp
  have vf':=vf.mono x₁
  have hn:aR P C m.lv f (first++as) st₁≠.no:=fun z=>by rw[z]at Pp;exact Pp.elim
  exact⟨Cv.keep f _ rf g₁ st₁ h₁ vf' R₁.inv hn,Cv.call f _ rf _ g₁ st₁ vf' (ay.append (v1.mono x₁) va) _ Q E R₁ (Pp.shift x₁)⟩
 ·rw[dt e1]at Pp;exact Pp g₁ h₁ tk₁ e x₁ R₁ X
 ·rw[cL e1]at Pp;exact Pp.elim
theorem Bn(H:aY m ev)(Cv:gp m P C)(x:Str)(p pos:Pos)(args:List Expr):
  Np m g st (eval (.Call (.Name x p) args [] pos) m.env) ((do guard (jz args);let fv<-ev (.Name x p);let as<-dD ev args;aR P C m.lv fv as:M V) st) m.VR:=by
 rw[arm_eval_Call_Name']
 refine Np.aK fun ho=>?_
 have ha:args.all notStar=true:=(Bool.and_eq_true_iff.mp ho).1
 refine Np.bind (H.snd (.Name x p) g st) fun fv st₁ g₁ rf e1 x₁ vf=>?_
 exact sV (first:=[]) H Cv vf .nil ha
theorem Bo(G:aA m P K mg mb)(H:aY m ev)(Cv:gp m P C)(o:Expr)(nm:Str)(apos pos:Pos)(args:List Expr):
  Np m g st (eval (.Call (.Attribute o nm apos) args [] pos) m.env) ((do
   guard (iQ o&&jz args&&(apos.endLine==pos.line))
   let ov<-ev o
   let fm<-getM P ov nm
   let as<-dD ev args
   aR P C m.lv fm.1 (fm.2++as):M V) st) m.VR:=by
 rw[arm_eval_Call]
 refine Np.aK fun ho=>?_
 obtain⟨h12,h3⟩:=Bool.and_eq_true_iff.mp ho
 obtain⟨h1,h2⟩:=Bool.and_eq_true_iff.mp h12
 obtain⟨ha,hl⟩:=Bool.and_eq_true_iff.mp h2
 rw[ot h1]
 refine Np.bind (H.snd o g st) fun ov st₁ g₁ ro e1 x₁ vo=>Np.standAt ?_
 unfold methodCall
 have hf:methodCallForm (args.length+([]:List Keyword).length) (backTo pos (starEach args m.env)) (backToKw pos (keywordEach [] m.env))=true:=by
  rw[iq ha,ir]
  unfold methodCallForm
  rw[all_plain]
  exact decide_eq_true (Nat.lt_of_lt_of_le (of_decide_eq_true hl) (by decide))
 rw[hf]
 refine Np.bind (f':=fun fm=>dD ev args>>=fun as=>aR P C m.lv fm.1 (fm.2++as)) (Np.holding (t:=getMethod ro nm _) (Az G.PK vo)) fun fm st₂ g₂ rfm e2 x₂ vm=>?_
 obtain⟨rf,rfirst⟩:=rfm
 have hp:methodCallPos true o m.env apos pos=pure pos:=by
  unfold methodCallPos
  rw[h3]
  rfl
 dsimp only
 rw[hp]
 refine Np.e9 ?_
 exact sV H Cv vm.1 vm.2 ha
end
end
section
open _root_.PySem.SeqAt
section
variable {m:Am} {g:Gs} {st:St} {os:List (Addr×Obj)}
theorem bI.drop{α β:Type}{r:R α}{rel:Gs->α->β->Prop}{Q:β->Shared->Prop}{E:Value->Shared->Prop}{s:Shared}(P:bI m g r rel Q E s):bI (m.x os) g r rel Q E s:=by
 cases r with
 |ok a st'=>exact fun g' h' tk b x R q=>P g' h' tk b x R.dO q
 |exc k st'=>exact fun g' h' tk b x R q=>P g' h' tk b x R.dO q.drop
 |no=>exact P
end
noncomputable def ow (c:Cx) (g:Gs):List (Nat×V)->List (Value×Value)->Prop:=aC fun a b=>VR c g (.str a.1) b.1∧VR c g a.2 b.2
section
variable {m:Am} {g:Gs} {st:St} {α:Type} {P:aQ} {K:Frag} {mg mb:Str->Option Value} {ev:Expr->M V}
theorem Bp(H:aY m ev)(pos:Pos)(ks:List (Option Expr)):∀ (vs:List Expr) (g:Gs) (st:St),Np m g st (evalPairs (pairTrees ks vs m.env pos)) (iS ev ks vs st) (ow m.c):=by
 induction ks with
 |nil=>exact fun vs g st=>by cases vs with |nil=>exact Np.pure .nil |cons _ _=>exact Np.no
 |cons k ks ih=>
  intro vs g st
  cases vs with
  |nil=>exact Np.no
  |cons v vs=>
   refine Np.ar fun k hk=>?_
   subst hk
   show Np m g st (evalPairs ((eval k m.env,do let x<-eval v m.env;standAt pos;pure x)::pairTrees ks vs m.env pos)) ((ev k>>=ek>>=fun kv=>ev v>>=fun vv=>iS ev ks vs>>=fun r=>Pure.pure ((kv,vv)::r)) st) _
   rw[evalPairs,M.bind_assoc]
   refine Np.bind (H.snd k g st) fun a st₁ g₁ ra e1 x1 va=>Np.ek fun kk hk=>?_
   subst hk
   refine Np.jQ (Np.bind (H.snd v g₁ st₁) fun b st₂ g₂ rb e2 x2 vb=>Np.assoc (Np.standAt (Np.e9 ?_)))
   exact Np.bind (Np.holding (ih vs g₂ st₂)) fun r st₃ g₃ rr e3 x3 vr=>Np.pure (.cons ⟨va.mono (x2.trans x3),vb.mono x3⟩ vr)
theorem jR{α β:Type}{F:M α}{k:α->M β}{st st':St}{r:β}(e:(F>>=k) st=.ok r st'):bV fun x st₁=>F st=.ok x st₁∧k x st₁=.ok r st':=by
 cases q:F st with
 |ok x st₁=>rw[cg q]at e;exact⟨x,st₁,rfl,e⟩
 |exc c s=>rw[dt q]at e;contradiction
 |no=>rw[cL q]at e;contradiction
theorem pairs_len{ev:Expr->M V}{ks:List (Option Expr)}:∀ {vs:List Expr} {st st':St} {r:List (Nat×V)},iS ev ks vs st=.ok r st'->r.length=ks.length:=by
 induction ks with
 |nil=>
  intro vs st st' r e
  obtain⟨_,_,_,e⟩:=jR (F:=guard vs.isEmpty) e
  rw[fA e];rfl
 |cons k ks ih=>
  intro vs st st' r e
  cases vs with
  |nil=>contradiction
  |cons v vs=>
   obtain⟨_,_,_,e⟩:=jR e
   obtain⟨_,_,_,e⟩:=jR e
   obtain⟨_,_,_,e⟩:=jR e
   obtain⟨_,_,q,e⟩:=jR e
   rw[fA e]
   exact congrArg (·+1) (ih q)
theorem Bq{c:Cx}{g:Gs}{prog:Program}{w:World}{r:List (Nat×V)}{vs:List (Value×Value)}(q:ow c g r vs):∃ kvs,Carries (PySem.strKind prog w) vs kvs∧Pairs c g (fun a b=>c.T[a]? =some b) r kvs:=by
 refine aC.fold q ⟨[],trivial,.nil⟩ fun x y _ _ h _ ih=>?_
 obtain⟨kvs,h1,h2⟩:=ih
 obtain⟨rk,rv⟩:=y
 obtain⟨⟨z,t,e,z3⟩,z2⟩:=h
 have e:rk=.str z t:=e
 subst e
 exact⟨(z,rv)::kvs,⟨nM _ _ _ _,rfl,h1⟩,.cons ⟨z3,z2⟩ h2⟩
theorem aC.Br{α β:Type}{R:α->β->Prop}{l:List α}{l':List β}(q:aC R l l'){y:β}:y∈l'->∃ x∈l,R x y:=
 aC.fold q (fun h=>by contradiction) fun a b as bs h _ ih hy=>(List.mem_cons.mp hy).elim (fun e=>⟨a,.head _,e▸h⟩) fun hy=>by
  obtain⟨x,h1,h2⟩:=ih hy
  exact⟨x,.tail _ h1,h2⟩
theorem nodup_keys{c:Cx}{g:Gs}(nd:c.T.Nodup){r:List (Nat×V)}{kvs:List (Str×Value)}(q:Pairs c g (fun a b=>c.T[a]? =some b) r kvs):(r.map (·.1)).Nodup->(kvs.map (·.1)).Nodup:=by
 refine aC.fold q (fun _=>List.nodup_nil) fun a b as bs h t ih hn=>?_
 obtain⟨n1,n2⟩:=List.nodup_cons.mp hn
 refine List.nodup_cons.mpr ⟨fun hm=>n1 ?_,ih n2⟩
 obtain⟨z,hz,e⟩:=List.mem_map.mp hm
 have t:aC (fun a b=>c.T[a.1]? =some b.1∧VR c g a.2 b.2) as bs:=t
 obtain⟨y,h1,h2⟩:=t.Br hz
 exact List.mem_map.mpr ⟨y,h1,rQ nd h2.1 (e▸h.1)⟩
theorem Bt(p:Pos):Np m g st (eval (.Dict [] [] p) m.env) (alloc (.dict []) st) m.VR:=by
 rw[eval_Dict_empty]
 refine Np.standAt (Wp.lC (o:=.dict []) rfl (fun s Q E R k=>?_) fun g p ob h=>h).np
 have:=Heap.dictOf_iff.mp (Heap.DictOf.new (knd:=intKind m.c.prog m.c.w) s.heap)
 obtain⟨ob,h1,h2⟩:=this
 rw[Heap.get?_push_size _ rfl]at h1
 obtain rfl:=Option.some.inj h1
 unfold newDict
 exact wpAny_newObj_type (k s.heap _ s.toks R rfl ⟨[],h2,.nil⟩)
theorem Bu{prog:Program}{w:World}{Kt:Type}[DecidableEq Kt]{knd:KeyKind prog w Kt}{A:Around}{E:Value->Shared->Prop}{s:Shared}{pairs:List (Sem Value×Sem Value)}{Q:Addr->Shared->Prop}(hlen:pairs.length<=15)
  (h:aq (model prog w) A (evalPairs pairs) (fun vs s₁=>∃ kvs,vs.length<=15∧Carries knd vs kvs∧s₁.heap.DictOf knd s.heap.objs.size []∧
   ∀ h',h'.DictOf knd s.heap.objs.size (merged [] kvs)->Heap.SameBut s.heap.objs.size s₁.heap h'->Q s.heap.objs.size {s₁ with heap:=h',toks:=s₁.toks+vs.length}) E
   {s with heap:=s.heap.push {cls:=.type "dict",data:=.dict #[]}}):
  aq (model prog w) A (subDict pairs) Q E s:=by
 unfold subDict
 refine ax (wpAny_alloc ?_)
 refine aG (bQ ?_)
 rw[if_pos hlen]
 refine aG (dU h (fun vs s₁ h₁=>?_) fun _ _ e=>e)
 obtain⟨kvs,hvl,hc,hm,hQ⟩:=h₁
 have hsz:([]:List (Kt×Value)).length+kvs.length<=sizeLine:=by
  rw[List.length_nil,Nat.zero_add,hc.length]
  exact Nat.le_trans hvl (by decide)
 refine bQ ?_
 refine ax (wpAny_storeAll (knd:=knd) vs kvs [] s₁ _ hc hm hsz fun h' hm' hs'=>?_)
 exact aM (aM (hQ h' hm' hs'))
theorem Bv(G:aA m P K mg mb)(H:∀ os,aY (m.x os) ev)(p:Pos)(k:Option Expr)(ks:List (Option Expr))(vs:List Expr):Np m g st (eval (.Dict (k::ks) vs p) m.env) ((do
   guard (decide (ks.length<=14)&&(k::ks).all (·.isSome)&&decide ((k::ks).length=vs.length))
   let kvs<-iS ev (k::ks) vs
   guard (decide (kvs.map (·.1)).Nodup)
   alloc (.cI kvs):M V) st) m.VR:=by
 refine Np.aK fun hg=>?_
 obtain⟨hg,hlen⟩:=Bool.and_eq_true_iff.mp hg
 obtain⟨hl,hall⟩:=Bool.and_eq_true_iff.mp hg
 have hlen:=of_decide_eq_true hlen
 have hn:(pairTrees (k::ks) vs m.env p).length=(k::ks).length:=pairTrees_length _ _ _ _ hall hlen
 have hl15:(pairTrees (k::ks) vs m.env p).length<=15:=hn▸Nat.succ_le_succ (of_decide_eq_true hl)
 rw[arm_eval_Dict,zip_pairTrees _ _ _ _ hall hlen,dictDisplay_pairs _ (fun z=>by rw[z]at hn;contradiction) (Nat.lt_of_le_of_lt hl15 (by decide))]
 refine Np.standAt ?_
 intro s Q E R Pp
 refine aG (Bu (knd:=PySem.strKind m.c.prog m.c.w) hl15 ?_)
 obtain⟨ob,ho,hob⟩:=Heap.dictOf_iff.mp (Heap.DictOf.new (knd:=PySem.strKind m.c.prog m.c.w) s.heap)
 have R1:Rel (m.x [(s.heap.objs.size,ob)]) g st (s.heap.push {cls:=.type "dict",data:=.dict #[]}):=R.x0.fU (dq _) (fun b o e=>Heap.get?_push_of_some _ e) ho
 refine((Bp (H [(s.heap.objs.size,ob)]) p (k::ks) vs g st).use (s:={s with heap:=s.heap.push {cls:=.type "dict",data:=.dict #[]}}) R1 (fun r st₁ e1 g₁ h₁ tk₁ rs x₁ R₁ q₁=>?_) (fun k st₁ e1 g₁ h₁ tk₁ e x₁ R₁ X=>?_) fun e1=>?_)
 ·rw[cg e1]at Pp
  replace q₁:ow m.c g₁ r rs:=q₁
  obtain⟨kvs,hc,hk⟩:=Bq (prog:=m.c.prog) (w:=m.c.w) q₁
  by_cases nd:(r.map (·.1)).Nodup
  ·rw[show Lite.guard (decide (r.map (·.1)).Nodup)=Pure.pure () by unfold Lite.guard;rw[decide_eq_true nd];rfl]at Pp
   have hle:rs.length<=15:=by
    rw[<-q₁.length,pairs_len e1,<-hn];exact hl15
   refine⟨kvs,hle,hc,Heap.dictOf_iff.mpr ⟨ob,Rel.dP (os:=[]) R₁,hob⟩,fun h' hm hs=>aM ?_⟩
   rw[merged_nil_of_nodup _ (nodup_keys G.PK.nd hk nd)]at hm
   obtain⟨ob',ho',hob'⟩:=Heap.dictOf_iff.mp hm
   have R2:Rel m g₁ st₁ h':=(Rel.jO (os:=[]) R₁ (fun b _ hb q=>(hs.2 b hb).trans q) ho').dO
   have R3:=R2.gK (o:=.cI r) (Rel.gP (os:=[]) R₁) rfl ho' ⟨kvs,hob',aC.imp (fun _ _ q=>⟨q.1,q.2.mono (dc g₁ _)⟩) hk⟩
   exact Pp _ h' _ _ (x₁.trans (dc g₁ _)) R3 (.ref R2.last)
  ·rw[show Lite.guard (decide (r.map (·.1)).Nodup)=Lite.no by unfold Lite.guard;rw[decide_eq_false nd];rfl]at Pp
   exact Pp.elim
 ·rw[dt e1]at Pp;exact Pp g₁ h₁ tk₁ e x₁ R₁.dO X.drop
 ·rw[cL e1]at Pp;exact Pp.elim
end
end
section
open _root_.PySem.SeqAt
section
variable {m:Am} {g:Gs} {st:St} {os:List (Addr×Obj)}
theorem sW{b:Int}(h:0<=b):Builtin.Range.rangeSize 0 b 1=b:=by
 show(if (0:Int)<b then (b-0-1)/1+1 else 0)=b
 by_cases hb:0<b
 ·rw[if_pos hb,Int.ediv_one];lia
 ·rw[if_neg hb];lia
theorem Bw{b:Int}(h0:0<=b)(h1:b<2 ^ 60):Builtin.Range.small 0 b 1=true:=by
 have f:∀ x:Int,0<=x->x<2 ^ 62->Builtin.Range.rangeFitsLong x=true:=fun x h h'=>by
  unfold Builtin.Range.rangeFitsLong
  rw[decide_eq_true (by lia),decide_eq_true (by lia)];rfl
 have f1:=f 0 (by decide) (by decide)
 have f2:=f 1 (by decide) (by decide)
 have f3:=f b h0 (by lia)
 unfold Builtin.Range.small
 rw[sW h0]
 rw[f1,f2,f3,if_pos (by decide),show b+(1-1)=b from Int.add_zero b,f3,Bool.or_true]
 rfl
noncomputable def oz (m:Am) (g:Gs) (st:St) (items:List V) (o:Option (Nat×List V)) (h h':Heap) (it:Addr):Prop:=
 bV fun (os:List (Addr×Obj)) (W:List (Addr×Obj)->List V->Prop)=>gE (∀ b ob,h.get? b=some ob->h'.get? b=some ob) (Rel (m.x os) g st h') (W os items)
  (∀ m':Am,m'.c.b₀=m.c.b₀->m'.c.T=m.c.T->m'.c.prog=m.c.prog->m'.c.w=m.c.w->m'.A.handled=none->bu m'->∀ g' tgt,Ext g g'->Walk m' g' tgt (.ref it) pure (bJ o) W)
  (∀ (A:Around) (s':Shared) (Q:Value->Shared->Prop) (E:Value->Shared->Prop),(∀ ob,h'.get? it=some ob->s'.heap.get? it=some ob)->Q (.ref it) s'->wpAny (model m.c.prog m.c.w) A (pyIter (.ref it)) Q E s')
theorem Rel.sX{h:Heap}{ob:Obj}(R:Rel m g st h)(hf:ob.isFreed=false):Rel (m.x [(h.objs.size,ob)]) g st (h.push ob):=R.x0.fU (dq _) (fun _ _ e=>Heap.get?_push_of_some _ e) (Heap.get?_push_size _ hf)
theorem Bx{a:Nat}{x y:Addr}{xs:List V}{h:Heap}(R:Rel m g st h)(hp:g.ρ[a]? =some (x,y)):oz m g st xs (some (a,xs)) h (h.push {cls:=.type "list_iterator",data:=.fields #[.ref x,.int 0 0]}) h.objs.size:=
 ⟨[(h.objs.size,_)],_,fun _ _ e=>Heap.get?_push_of_some _ e,R.sX rfl,⟨0,_,rfl,⟨rfl,rfl⟩,rfl⟩,fun m' h1 h2 h3 h4 h5 h6 g' tgt x'=>A2 h6 h5 (x'.at hp),fun A s' Q E hs hq=>wpAny_pyIter_listiter (l:=x) (i:=0) ⟨_,hs _ (Heap.get?_push_size _ rfl),rfl,rfl⟩ hq⟩
theorem By{b:Int}:(rangeInts b).map V.int=iu 0 b.toNat:=by
 unfold rangeInts iu
 rw[List.map_map]
 exact List.map_congr_left fun k _=>congrArg V.int (Int.zero_add (k:Int)).symm
theorem Bz{b:Int}{h:Heap}(R:Rel m g st h)(h0:0<=b):oz m g st ((rangeInts b).map V.int) none h (h.push (oq 0 (Builtin.Range.rangeSize 0 b 1) 1)) h.objs.size:=by
 rw[sW h0,By,show b=(b.toNat:Int) from(Int.toNat_of_nonneg h0).symm]
 exact⟨[(h.objs.size,_)],_,fun _ _ e=>Heap.get?_push_of_some _ e,R.sX rfl,⟨0,b.toNat,rfl,rfl⟩,fun m' h1 h2 h3 h4 h5 h6 g' tgt x'=>A3 h5,fun A s' Q E hs hq=>wpAny_pyIter_rangeiter (hs _ (Heap.get?_push_size _ rfl)) hq⟩
theorem BA{v:V}{r:List V×Option (Nat×List V)}{st':St}(e:iter v st=.ok r st'):st'=st∧∃ a,v=.ref a∧((∃ xs,st.H[a]? =some (.list xs)∧r=(xs,some (a,xs)))∨∃ b,bp (st.H[a]? =some (.range b)) (jD b=true) (r=((rangeInts b).map .int,none))):=by
 obtain⟨a,hA,e⟩:=iV e
 obtain⟨ob,q,e⟩:=(Still.obj _).inv e
 have q:=rC q
 cases ob with
 |list xs=>
  obtain⟨_,hl,e⟩:=(e8 _).inv e
  exact⟨rA e,a,gh hA,.inl ⟨xs,q,fA e⟩⟩
 |range b=>
  obtain⟨_,hg,e⟩:=(e8 _).inv e
  exact⟨rA e,a,gh hA,.inr ⟨b,q,ie hg,fA e⟩⟩
 |_=>exact iW e
theorem sY(O:bu m)(hv:m.A.handled=none){v:V}{rv:Value}{r:List V×Option (Nat×List V)}{st':St}(vv:m.VR g v rv)(e:iter v st=.ok r st'){s:Shared}{Q:Value->Shared->Prop}{E:Value->Shared->Prop}(R:Rel m g st s.heap)
  (hQ:∀ h' it,oz m g st r.1 r.2 s.heap h' it->Q (.ref it) {s with heap:=h'}):wpAny (model m.c.prog m.c.w) m.A (pyIter rv) Q E s:=by
 obtain⟨_,a,rfl,h⟩:=BA e
 obtain⟨x,y,rfl,hp⟩:=vv
 rcases h with ⟨xs,q,rfl⟩ | ⟨b,q,hg,rfl⟩
 ·obtain⟨vs,hL,hr⟩:=R.isList hp q
  exact wpAny_pyIter_list hL (hQ _ _ (Bx R hp))
 ·obtain⟨ob,h1,t,u,v,rfl⟩:=R.inv.obj hp q
  obtain⟨g0,g1⟩:=Bool.and_eq_true_iff.mp hg
  have g0:=of_decide_eq_true g0
  exact wpAny_pyIter_range h1 (Bw g0 (of_decide_eq_true g1)) (hQ _ _ (Bz R g0))
end
end
section
open _root_.PySem.SeqAt
section
variable {m:Am} {g:Gs} {st:St} {α:Type} {P:aQ} {K:Frag} {mg mb:Str->Option Value} {ev:Expr->M V}
theorem BB{M:Model}{A:Around}{E:Value->Shared->Prop}{s:Shared}{env:Env}{name:Str}{c:Addr}{v₀:Option Value}{v:Value}{Q:Unit->Shared->Prop}(hk:env.scope.kind=.function)(hl:env.kindOf name=some .cell∨env.kindOf name=some .free)
  (hc:env.cells.lookup name=some c) (hv:s.heap.IsCell c v₀)
  (h:∀ h',h'.IsCell c (some v)->Heap.SameBut c s.heap h'->Q () {s with heap:=h'}):wpAny M A (storeName env name v) Q E s:=by
 have e:storeName env name v=(cellOf env name>>=fun c=>cellSet c (some v)):=by
  unfold storeName Env.blockKind
  rw[hk]
  rcases hl with hl |hl<;>(rw[hl];rfl)
 rw[e]
 exact wpAny_bind (wpAny_cellOf hc (wpAny_cellSet hv h))
theorem BC(O:bu m){i j:Nat}{p q:Str×NameKind}(hi:m.sc.names[i]? =some p)(hj:m.sc.names[j]? =some q):p.1=q.1↔i=j:=by
 have h1:(m.sc.names.map (·.1))[i]? =some p.1:=by rw[List.getElem?_map,hi];rfl
 have h2:(m.sc.names.map (·.1))[j]? =some q.1:=by rw[List.getElem?_map,hj];rfl
 refine⟨fun e=>(List.getElem?_inj (List.getElem?_eq_some_iff.mp h1).1 O.env.nd).mp (h1.trans (e▸h2.symm)),fun e=>?_⟩
 subst e
 exact congrArg Prod.fst (Option.some.inj (hi.symm.trans hj))
theorem Rel.av(O:bu m){h h':Heap}{i:Nat}{x:Str}{v:V}{r:Value}(R:Rel m g st h)(hi:m.sc.names[i]? =some (x,NameKind.local))(hv:m.VR g v r)
  (hn:h'.Ns m.c.N (fun y=>if y=x then some r else g.m y)) (hs:Heap.SameBut m.c.N h h'):Rel m {g with m:=fun y=>if y=x then some r else g.m y} {st with lo:=st.lo.set i (some v)} h':=by
 refine⟨R.inv.rm (fun b hb=>hs.2 b hb) hn,⟨List.length_set.trans R.loc.len,fun j y w e e'=>?_,fun j y k e hk=>?_⟩⟩
 ·show ct m.c g w (if y=x then some r else g.m y)
  by_cases hij:i=j
  ·subst hij
   have hlt:i<st.lo.length:=by rw[R.loc.len];exact(List.getElem?_eq_some_iff.mp hi).1
   rw[List.getElem?_set_self hlt]at e'
   rw[if_pos (congrArg Prod.fst (Option.some.inj (e.symm.trans hi))),<-Option.some.inj e']
   exact .some hv
  ·rw[List.getElem?_set_ne hij]at e'
   rw[if_neg fun z=>hij ((BC O hi e).mp z.symm)]
   exact R.loc.loc j y w e e'
 ·have ne:i≠j:=fun z=>by
   have z:NameKind.local=k:=congrArg Prod.snd (Option.some.inj (hi.symm.trans (z▸e)))
   subst z
   rcases hk with hk |hk<;>contradiction
  obtain⟨a,y',z,h1,h2⟩:=R.loc.bW j y k e hk
  exact⟨a,y',z,(List.getElem?_set_ne ne).trans h1,h2⟩
theorem oA(O:bu m){x:Str}{v:V}{rv:Value}(vv:m.VR g v rv):Np m g st (bindName m.env x rv) (store m.sc x v st) df:=by
 have nr:=lq m.sc x
 unfold store
 generalize dn m.sc x=r at nr
 cases r with
 |bad=>exact Np.no
 |glob=>exact Np.no
 |loc i=>
  intro s Q E R Pp
  have hn:=R.inv.ns
  rw[<-O.env.locals]at hn
  refine bz (wpAny_bindName (wpAny_storeName_local (O.env.loc x nr.2) hn (fun h' hn' hs'=>?_) (by rw[O.env.kind];rfl)))
  rw[O.env.locals]at hn' hs'
  exact Pp {g with m:=fun y=>if y=x then some rv else g.m y} h' (s.toks+1) () ⟨List.prefix_rfl,fun _ q=>q⟩ (R.av O nr.1 vv hn' hs') trivial
 |bW i=>
  obtain⟨_,a,hk,b⟩:=nr
  show Np m g st _ (match fN i st with |some c=>.ok () {st with H:=st.H.set c.1 (.cell (some v))} |none=>.no) df
  cases hc:fN i st with
  |none=>exact Np.no
  |some c=>
   intro s Q E R Pp
   obtain⟨c1,c2⟩:=rG hc
   obtain⟨aa,y,z,e1,e2,e3⟩:=R.loc.bW i x _ a hk
   rw[nB (Option.some.inj (Option.some.inj (e1.symm.trans c1)))]at e2
   obtain⟨obj,h1,r,h2,h3⟩:=R.inv.obj e2 c2
   refine bz (wpAny_bindName (BB O.env.kind (O.env.bW x b) e3 ⟨obj,h1,h2⟩ fun h' hc' hs'=>?_))
   obtain⟨ob',k1,k2⟩:=hc'
   exact Pp g h' s.toks () (.refl g) (R.put (o':=.cell (some v)) e2 c2 rfl rfl (fun b hb=>hs'.2 b hb) k1 ⟨some rv,k2,.some vv⟩) trivial
theorem sZ(O:bu m){x:Str}{p:Pos}{v:V}{rv:Value}(vv:m.VR g v rv):Np m g st (assign (.Name x p) m.env rv) (store m.sc x v st) df:=Np.standAt (oA O vv)
theorem BD(G:aA m P K mg mb){o v:V}{ro rv:Value}{p:Pos}{vs ws:Value->List Value}(vo:m.VR g o ro)(vv:m.VR g v rv):
  Np m g st (newFields "slice" [.none,.none,.none]>>=fun i=>standAt p>>=fun _=>PySem.holding (vs i) (setItem ro i rv)>>=fun _=>PySem.release (ws i) []) (hU o v st) df:=by
 unfold hU
 refine Np.bq fun a ha=>?_
 subst ha
 refine Np.ey fun b hb=>Np.eV fun x hx=>?_
 subst hx
 refine Np.aK fun hg=>?_
 obtain⟨h1,h2⟩:=Bool.and_eq_true_iff.mp hg
 have h1:=of_decide_eq_true h1
 have h2:=of_decide_eq_true h2
 obtain⟨y,z,rfl,hp⟩:=vo
 obtain⟨t,rfl⟩:=vv
 intro s Q E R Pp
 refine ax (wpAny_newObj_type ?_)
 have hb':=R.inv.bx hp hb
 refine di (aG (bQ (dU (E':=E) (Q:=fun _ s'=>Q () s') ?_ (fun _ s' q=>bz (wpAny_release q)) fun _ _ q=>q)))
 refine zT G.O.eH (b:=b) (Heap.get?_push_of_some _ hb') (Heap.IsSliceOf.new _ _ _ _) h1 h2 fun h' hs hx=>?_
 refine Pp g h' s.toks () (.refl g) ?_ trivial
 have R1:=R.push {cls:=.type "slice",data:=.fields [Value.none,.none,.none].toArray}
 exact⟨R1.inv.putK hp hb rfl rfl hs hx rfl,R.loc⟩
theorem Np.after{β δ:Type}{t:Sem β}{k:β->Sem δ}{r:R α}{rel:Gs->α->β->Prop}{rel':Gs->α->δ->Prop}(h:Np m g st t r rel)(f:β->δ)(hr:∀ g' a b,rel g' a b->rel' g' a (f b))
  (hk:∀ (b:β) (s:Shared) (Q:δ->Shared->Prop) (E:Value->Shared->Prop),Q (f b) s->wpAny (model m.c.prog m.c.w) m.A (k b) Q E s):Np m g st (t>>=k) r rel':=
 Np.around h f hr fun s Q E h=>aG (dU h (fun b s' q=>bz (hk b s' Q E q)) fun _ _ q=>q)
theorem BE{env:Env}{r:List Expr}(e:Expr):notStar e=true->assignEach (e::r) env=(false,assign e env)::assignEach r env:=
 Expr.casesOn (motive_1:=fun e=>notStar e=true->assignEach (e::r) env=(false,assign e env)::assignEach r env) e (fun _ _ _ _=>rfl) (fun _ _ _ _=>rfl) (fun _ _ _ _ _=>rfl) (fun _ _ _ _=>rfl) (fun _ _ _ _ _=>rfl) (fun _ _ _ _ _=>rfl) (fun _ _ _ _=>rfl) (fun _ _ _ _=>rfl) (fun _ _ _ _ _=>rfl) (fun _ _ _ _ _=>rfl) (fun _ _ _ _ _ _=>rfl) (fun _ _ _ _ _=>rfl) (fun _ _ _=>rfl) (fun _ _ _=>rfl) (fun _ _ _=>rfl) (fun _ _ _ _ _=>rfl) (fun _ _ _ _ _=>rfl) (fun _ _ _ _ _=>rfl) (fun _ _ _=>rfl) (fun _ _ _ _=>rfl) (fun _ _ _ _=>rfl) (fun _ _ _ _=>rfl) (fun a b=>fun h=>Bool.noConfusion h) (fun _ _ _=>rfl) (fun _ _ _=>rfl) (fun _ _ _ _=>rfl) (fun _ _ _ _ _=>rfl)
theorem BF{env:Env}{ts:List Expr}(h:ts.all notStar=true):assignEach ts env=ts.map fun t=>(false,assign t env):=by
 induction ts with
 |nil=>rfl
 |cons e r ih=>
  obtain⟨h1,h2⟩:=Bool.and_eq_true_iff.mp (List.all_cons▸h)
  rw[BE e h1,ih h2];rfl
theorem BG(G:aA m P K mg mb)(H:aY m ev){o i:Expr}{p:Pos}{v:V}{rv:Value}(vv:m.VR g v rv):
  Np m g st (assign (.Subscript o i p) m.env rv) ((do let ov<-ev o;let iv<-ev i;bA ov iv v:M Unit) st) df:=by
 rw[arm_assign_Subscript]
 refine Np.bind (Np.holding (H.snd o g st)) fun ov st₁ g₁ ro e1 x₁ vo=>?_
 refine Np.bind (Np.holding (H.snd i g₁ st₁)) fun iv st₂ g₂ ri e2 x₂ vi=>Np.standAt ?_
 exact Np.after (Np.holding (r7 G.PK (vo.mono x₂) vi (vv.mono (x₁.trans x₂))).np) id (fun _ _ _ h=>h) fun _ s Q E h=>wpAny_release h
theorem BH(G:aA m P K mg mb)(H:aY m ev){o:Expr}{sp p:Pos}{v:V}{rv:Value}(vv:m.VR g v rv):
  Np m g st (assign (.Subscript o (.Slice none none none sp) p) m.env rv) ((do let ov<-ev o;hU ov v:M Unit) st) df:=by
 rw[arm_assign_Subscript]
 refine Np.bind (Np.holding (H.snd o g st)) fun ov st₁ g₁ ro e1 x₁ vo=>?_
 refine Np.jQ (f:=Pure.pure Value.none) (k:=fun l=>PySem.holding [l] (Pure.pure Value.none)>>=fun u=>PySem.holding [l,u] (Pure.pure Value.none)>>=fun s=>newFields "slice" [l,u,s]) (Np.e9 ?_)
 refine Np.assoc (Np.step (c:=Value.none) (fun s Q E h=>wpAny_holding (wpAny_pure h)) ?_)
 refine Np.assoc (Np.step (c:=Value.none) (fun s Q E h=>wpAny_holding (wpAny_pure h)) ?_)
 exact BD (st:=st₁) G vo (vv.mono x₁)
theorem BI{f:Expr->V->M Unit}(hf:∀ (t:Expr) (v:V) (rv:Value) (g:Gs) (st:St),m.VR g v rv->Np m g st (assign t m.env rv) (f t v st) df)(ts:List Expr):
  ∀ (xs:List V) (rs:List Value) (g:Gs) (st:St),m.ay g xs rs->Np m g st (assignInOrder (ts.map fun t=>assign t m.env) rs) (jB f ts xs st) df:=by
 induction ts with
 |nil=>exact fun _ _ _ _ _=>Np.pure trivial
 |cons t ts ih=>
  intro xs rs g st q
  cases xs with
  |nil=>rw[show rs=[] from q];exact Np.pure trivial
  |cons x xs=>
   obtain⟨r,rs,rfl,a,q⟩:=q
   show Np m g st (PySem.holding _ (assign t m.env _)>>=fun _=>assignInOrder (ts.map fun t=>assign t m.env) _) ((f t x>>=fun _=>jB f ts xs) st) _
   exact Np.bind (Np.holding (hf t x _ g st a)) fun _ st₁ g₁ _ e1 x₁ _=>ih xs _ g₁ st₁ (ay.mono x₁ q)
theorem BJ(O:bu m){ts:List Expr}{f:Expr->V->M Unit}(hf:∀ (t:Expr) (v:V) (rv:Value) (g:Gs) (st:St),m.VR g v rv->Np m g st (assign t m.env rv) (f t v st) df)(h1:m.lv=true){a:Nat}{x y:Addr}(hp:g.ρ[a]? =some (x,y)){xs:List V}(hxs:st.H[a]? =some (.tuple xs))(hl:xs.length=ts.length):
  Np m g st (unpack (.ref x) (ts.map fun t=>(false,assign t m.env))) (jB f ts xs st) df:=by
 intro s Q E R Pp
 obtain⟨rs,ht,hr⟩:=R.inv.tuple hp hxs
 unfold unpack
 have e1:(ts.map fun t=>(false,assign t m.env)).length=rs.toArray.size:=by rw[List.length_map,List.size_toArray,<-hr.length,hl]
 have e2:(ts.map fun t=>(false,assign t m.env)).findIdx? (·.1)=none:=List.findIdx?_eq_none_iff.mpr (List.forall_mem_map.mpr fun _ _=>rfl)
 have e3:(ts.map fun t=>(false,assign t m.env)).map (·.2)=ts.map fun t=>assign t m.env:=List.map_map
 rw[e1,e2,e3]
 refine aG (bQ (bz (wpAny_unpackItems_tuple (O.de h1) ht fun h' hs=>?_)))
 have R':Rel m g st h':=R.keeps fun b o e=>hs b o (fun z=>nomatch (z▸dq s.heap).symm.trans e) e
 exact BI hf ts xs rs g st hr {s with heap:=h'} Q E R' (Pp.shift (.refl g))
theorem BK(G:aA m P K mg mb)(H:aY m ev){o i:Expr}{p:Pos}{v:V}{rv:Value}(vv:m.VR g v rv):Np m g st (assign (.Subscript o i p) m.env rv) (qM ev o i v st) df:=by
 refine qm (motive:=fun i w=>Np m g st (assign (.Subscript o i p) m.env rv) (qL ev o i v w st) df) (fun lo hi stp sp=>?_) (fun i _=>BG G H vv) i
 refine Np.aK fun hg=>?_
 obtain⟨hg,h3⟩:=Bool.and_eq_true_iff.mp hg
 obtain⟨h1,h2⟩:=Bool.and_eq_true_iff.mp hg
 rw[show lo=none from Option.isNone_iff_eq_none.mp h1,show hi=none from Option.isNone_iff_eq_none.mp h2,show stp=none from Option.isNone_iff_eq_none.mp h3]
 exact BH G H vv
theorem lW(G:aA m P K mg mb)(H:aY m ev)(n:Nat):∀ (t:Expr) (v:V) (rv:Value) (g:Gs) (st:St),m.VR g v rv->Np m g st (assign t m.env rv) (asg P m.lv ev m.sc n t v st) df:=by
 induction n with
 |zero=>exact fun _ _ _ _ _ _=>Np.no
 |succ n ih=>
  intro t v rv g st vv
  refine iL (motive:=fun t w=>Np m g st (assign t m.env rv) (jC P m.lv ev m.sc (asg P m.lv ev m.sc n) v w st) df) (fun x p=>sZ G.O vv) (fun o a p=>?_) (fun o i p=>BK G H vv) (fun ts k p=>?_) (fun _=>Np.no) t
  ·rw[arm_assign_Attribute]
   refine Np.bind (Np.holding (H.snd o g st)) fun ov st₁ g₁ ro e1 x₁ vo=>Np.standAt ?_
   exact Np.after (Np.holding (Wp.rW G.PK vo (vv.mono x₁)).np) id (fun _ _ _ h=>h) fun _ s Q E h=>wpAny_release h
  ·refine Np.aK fun hg=>?_
   obtain⟨h1,h2⟩:=Bool.and_eq_true_iff.mp hg
   refine Np.bq fun a ha=>?_
   subst ha
   refine Np.ew fun xs hxs=>Np.aK fun hl=>?_
   obtain⟨x,y,rfl,hp⟩:=vv
   rw[arm_assign_Tuple,BF h2]
   exact Np.standAt (BJ G.O ih h1 hp hxs (of_decide_eq_true hl))
end
end
section
open _root_.PySem.SeqAt
theorem fV{b:Bool}(h:(!b)=true):b=false:=by cases b with |false=>rfl |true=>exact h.symm
theorem BL{α β γ:Type}[BEq α][LawfulBEq α]{F:α->β->γ}{l:List (α×β)}{x:α}:(l.map fun p=>(p.1,F p.1 p.2)).lookup x=(l.lookup x).map (F x):=by
 induction l with
 |nil=>rfl
 |cons p r ih=>
  rw[List.map_cons,List.lookup_cons,List.lookup_cons]
  cases h:x==p.1 with
  |true=>rw[beq_iff_eq.mp h];rfl
  |false=>exact ih
noncomputable def jS (env:Env) (n:Str) (k:NameKind):NameKind:=if (k==NameKind.free&&env.scope.kind==.function&&env.kindOf n==some .cell)then .cell else k
theorem BM{env:Env}{names:List (Str×NameKind)}{x:Str}{k:NameKind}(h:names.lookup x=some k):
  (names.map fun (n,k)=>if (k==NameKind.free&&env.scope.kind==.function&&env.kindOf n==some .cell)then (n,NameKind.cell)else (n,k)).lookup x=some (jS env x k):=by
 have e:(fun (p:Str×NameKind)=>match p with | (n,k)=>if (k==NameKind.free&&env.scope.kind==.function&&env.kindOf n==some .cell)then (n,NameKind.cell)else (n,k))=fun p=>(p.1,jS env p.1 p.2):=funext fun p=>(apply_ite (Prod.mk p.1) _ _ _).symm
 exact(congrArg (fun f=>(names.map f).lookup x) e).trans (BL.trans (congrArg (Option.map (jS env x)) h))
noncomputable def jT (env:Env) (acc:List (Str×Addr)) (p:Str×NameKind):List (Str×Addr):=if (p.2==NameKind.free)=true then (p.1,(env.cells.lookup p.1).getD 0)::acc else acc
noncomputable def gq (env:Env) (names:List (Str×NameKind)) (acc:List (Str×Addr)):List (Str×Addr):=names.foldl (jT env) acc
theorem BN{env:Env}{names:List (Str×NameKind)}(h:∀ q∈names,q.2=.free->(env.cells.lookup q.1).isSome=true):∀ (acc:List (Str×Addr)),
  (forIn names acc (fun (q:Str×NameKind) (cs:List (Str×Addr))=>if (q.2==NameKind.free)=true then do let a<-cellOf env q.1;pure (ForInStep.yield ((q.1,a)::cs))else pure (ForInStep.yield cs)):Sem (List (Str×Addr)))=pure (gq env names acc):=by
 induction names with
 |nil=>exact fun acc=>List.forIn_nil
 |cons p r ih=>
  intro acc
  have ih:=ih fun q hq=>h q (.tail _ hq)
  rw[List.forIn_cons]
  show _=pure (gq env r (jT env acc p))
  unfold jT
  by_cases hk:(p.2==NameKind.free)=true
  ·obtain⟨a,ha⟩:=Option.isSome_iff_exists.mp (h p (.head _) (beq_iff_eq.mp hk))
   have e:cellOf env p.1=pure a:=by unfold cellOf;rw[ha]
   rw[if_pos hk,if_pos hk,e,ha]
   exact ih _
  ·rw[if_neg hk,if_neg hk]
   exact ih _
theorem oB{scope:Scope}{env:Env}(h:∀ q∈scope.names,q.2=.free->(env.cells.lookup q.1).isSome=true):closureFor scope env=pure (gq env scope.names []):=by
 unfold closureFor
 rw[<-BN h []]
 exact bind_pure _
theorem BO{env:Env}{names:List (Str×NameKind)}(h:∀ q∈names,q.2=.free->(env.cells.lookup q.1).isSome=true):∀ (acc:List (Str×Addr)),(∀ q∈acc,env.cells.lookup q.1=some q.2)->∀ q∈gq env names acc,env.cells.lookup q.1=some q.2:=by
 induction names with
 |nil=>exact fun acc h=>h
 |cons p r ih=>
  refine fun acc ha=>ih (fun q hq=>h q (.tail _ hq)) _ ?_
  unfold jT
  by_cases hk:(p.2==NameKind.free)=true
  ·rw[if_pos hk]
   obtain⟨a,hc⟩:=Option.isSome_iff_exists.mp (h p (.head _) (beq_iff_eq.mp hk))
   exact List.forall_mem_cons.mpr ⟨by rw[hc];rfl,ha⟩
  ·rw[if_neg hk];exact ha
theorem BP{env:Env}{x:Str}{names:List (Str×NameKind)}:∀ (acc:List (Str×Addr)),(x,NameKind.free)∈names∨(acc.lookup x).isSome=true->((gq env names acc).lookup x).isSome=true:=by
 induction names with
 |nil=>exact fun acc h=>h.elim (fun h=>nomatch h) id
 |cons p r ih=>
  refine fun acc h=>ih _ ?_
  unfold jT
  rcases h with h |h
  ·rcases List.mem_cons.mp h with rfl |h
   ·right;rw[if_pos (beq_self_eq_true _),List.lookup_cons,beq_self_eq_true];rfl
   ·exact .inl h
  ·right
   by_cases hk:(p.2==NameKind.free)=true
   ·rw[if_pos hk,List.lookup_cons]
    cases x==p.1 with
    |true=>rfl
    |false=>exact h
   ·rw[if_neg hk];exact h
theorem s7{env:Env}{names:List (Str×NameKind)}{x:Str}{a:Addr}(h:∀ q∈names,q.2=.free->(env.cells.lookup q.1).isSome=true)(hx:(x,NameKind.free)∈names)(ha:env.cells.lookup x=some a):(gq env names []).lookup x=some a:=by
 obtain⟨b,hb⟩:=Option.isSome_iff_exists.mp (BP [] (.inl hx))
 rw[hb,<-ha]
 exact(BO h [] (fun _ q=>nomatch q) (x,b) (mem_of_lookup hb)).symm
theorem jU{sc:Scope}(h:eY sc=true):(gE (sc.kind=.function) (sc.isGenerator=false) (sc.isCoroutine=false) ((sc.names.map (·.1)).Nodup) (∀ q∈sc.names,(q.1==("__debug__":Str))=false∧(q.1==("__classdict__":Str))=false)):=by
 obtain⟨h,h5⟩:=Bool.and_eq_true_iff.mp h
 obtain⟨h,h4⟩:=Bool.and_eq_true_iff.mp h
 obtain⟨h,h3⟩:=Bool.and_eq_true_iff.mp h
 obtain⟨h1,h2⟩:=Bool.and_eq_true_iff.mp h
 refine⟨of_decide_eq_true h1,fV h2,fV h3,of_decide_eq_true h4,fun q hq=>?_⟩
 have z:=Bool.and_eq_true_iff.mp (List.all_eq_true.mp h5 q hq)
 exact⟨fV z.1,fV z.2⟩
theorem lookup_at{l:List (Str×NameKind)}(nd:(l.map (·.1)).Nodup){i:Nat}{x:Str}{k:NameKind}(e:l[i]? =some (x,k)):l.lookup x=some k:=by
 induction l generalizing i with
 |nil=>exact ag e
 |cons p r ih=>
  obtain⟨n1,n2⟩:=List.nodup_cons.mp nd
  rw[List.lookup_cons]
  cases i with
  |zero=>rw[Option.some.inj e,beq_self_eq_true]
  |succ i=>
   have e':r[i]? =some (x,k):=e
   rw[show(x==p.1)=false from beq_eq_false_iff_ne.mpr fun z=>n1 (List.mem_map.mpr ⟨_,List.mem_of_getElem? e',z⟩)]
   exact ih n2 e'
noncomputable abbrev Am.comp (m:Am) (m₀:Str->Option Value) (scope:Scope) (cl:List (Str×Addr)) (C:Addr):Am:={m with c:=m.c.at m.c.X ((m.c.N,m₀)::m.c.fs) C,sc:=mark scope,env:=compEnvC scope cl C m.env}
section
variable {m:Am} {g:Gs} {st:St} {P:aQ} {K:Frag} {mg mb:Str->Option Value} {scope:Scope} {cl:List (Str×Addr)} {C:Addr} {m₀:Str->Option Value}
theorem bu.comp(O:bu m)(hs:eY scope=true):bu (m.comp m₀ scope cl C):=by
 obtain⟨s1,s2,s3,s4,s5⟩:=jU hs
 have key:∀ {x:Str} {k:NameKind},scope.names.lookup x=some k->(compEnvC scope cl C m.env).kindOf x=some (jS m.env x k):=fun h=>BM h
 refine⟨⟨s1,fun x h=>?_,fun x h=>?_,fun x h=>?_,rfl,O.env.globals,O.env.builtins,s4,s5⟩,O.frames,O.ff,O.fe,fun e he=>?_,O.dep,O.gi,O.de,O.eH⟩
 ·rw[key h];rfl
 ·rcases h with h |h
  ·left;rw[key h];rfl
  ·rw[key h]
   unfold jS
   by_cases hc:(NameKind.free==NameKind.free&&m.env.scope.kind==.function&&m.env.kindOf x==some .cell)=true
   ·rw[if_pos hc];exact .inl rfl
   ·rw[if_neg hc];exact .inr rfl
 ·rw[key h];rfl
 ·obtain⟨h1,a,h2,h3⟩:=O.fk e he
  refine⟨h1,a,h2,?_⟩
  right
  rw[List.map_cons]
  exact h3
theorem aA.comp(G:aA m P K mg mb)(hs:eY scope=true):aA (m.comp m₀ scope cl C) P K mg mb:=⟨G.O.comp hs,G.PK.at,G.sys,G.qs,fun h=>nomatch h⟩
noncomputable def oE (c':Cx) (g':Gs) (env env':Env) (p:Str×NameKind) (v:Option V):Prop:=bp (p.2=.local->ct c' g' v (g'.m p.1))
 (p.2=.free->dm fun a b z=>dW (v=some (V.ref a)) (g'.ρ[a]? =some (b,z)) (env'.cells.lookup p.1=some b) ((env.cells.lookup p.1).isSome=true)) (p.2≠.cell)
structure CompI(c':Cx)(g':Gs)(env env':Env)(names:List (Str×NameKind))(lo':List (Option V)):Prop where
 len:lo'.length=names.length
 loc:∀ (i:Nat) (y:Str) (v:Option V),names[i]? =some (y,NameKind.local)->lo'[i]? =some v->ct c' g' v (g'.m y)
 bW:∀ (i:Nat) (y:Str) (k:NameKind),names[i]? =some (y,k)->k=.cell∨k=.free->∃ a b z,lo'[i]? =some (some (V.ref a))∧g'.ρ[a]? =some (b,z)∧env'.cells.lookup y=some b
 free:∀ q∈names,q.2=.free->(env.cells.lookup q.1).isSome=true
 oF:∀ q∈names,q.2≠.cell
theorem BQ{sc:Scope}{lo:List (Option V)}{env:Env}{c:Cx}(l:Loc c sc env g lo){g':Gs}(x:Ext g g')(hm:∀ y,g'.m y=none){env':Env}{c':Cx}{p:Str×NameKind}(hcl:∀ (a:Addr),p.2=NameKind.free->env.cells.lookup p.1=some a->env'.cells.lookup p.1=some a)
  {v:Option V} (e:mY sc lo p.1 p.2=some v):oE c' g' env env' p v:=by
 obtain⟨y,k⟩:=p
 cases k with
 | «local»=>rw[<-Option.some.inj e];exact⟨fun _=>by rw[hm];exact .none,fun z=>NameKind.noConfusion z,fun z=>NameKind.noConfusion z⟩
 |globalImplicit=>exact⟨fun z=>NameKind.noConfusion z,fun z=>NameKind.noConfusion z,fun z=>NameKind.noConfusion z⟩
 |free=>
  refine⟨fun z=>NameKind.noConfusion z,fun z=>?_,fun z=>NameKind.noConfusion z⟩
  replace e:(match dn sc y with | .bW i=>lo[i]?.join.map some |_=>none)=some v:=e
  have nr:=lq sc y
  generalize dn sc y=r at e nr
  cases r with
  |bW i=>
   obtain⟨_,a,hk,_⟩:=nr
   obtain⟨aa,bb,zz,q1,q2,q3⟩:=l.bW i y _ a hk
   replace e:lo[i]?.join.map some=some v:=e
   rw[q1]at e
   have e:some (V.ref aa)=v:=Option.some.inj e
   exact⟨aa,bb,zz,e.symm,x.at q2,hcl bb rfl q3,by rw[q3];rfl⟩
  |_=>exact ag e
 |_=>exact ag e
theorem BR{sc:Scope}{lo:List (Option V)}{Q:Str×NameKind->Option V->Prop}{names:List (Str×NameKind)}(h:∀ p∈names,∀ v,mY sc lo p.1 p.2=some v->Q p v):∀ {lo':List (Option V)},fQ sc lo names=some lo'->aC Q names lo':=by
 induction names with
 |nil=>exact fun e=>Option.some.inj e▸.nil
 |cons p r ih=>
  intro lo' e
  obtain⟨v,e1,e⟩:=Option.bind_eq_some_iff.mp e
  obtain⟨l',e2,rfl⟩:=Option.map_eq_some_iff.mp e
  exact .cons (h p (.head _) v e1) (ih (fun p hp=>h p (.tail _ hp)) e2)
theorem oG{sc:Scope}{lo:List (Option V)}{env:Env}{c:Cx}(l:Loc c sc env g lo){g':Gs}(x:Ext g g')(hm:∀ y,g'.m y=none){env':Env}{c':Cx}{names:List (Str×NameKind)}(hcl:∀ (y:Str) (a:Addr),(y,NameKind.free)∈names->env.cells.lookup y=some a->env'.cells.lookup y=some a)
  {lo':List (Option V)} (e:fQ sc lo names=some lo'):CompI c' g' env env' names lo':=by
 have q:aC (oE c' g' env env') names lo':=BR (fun p hp v ev=>BQ l x hm (fun a hk=>hcl p.1 a (hk▸hp)) ev) e
 have mem:∀ p∈names,∃ v,oE c' g' env env' p v:=fun p hp=>by
  obtain⟨i,hi⟩:=List.getElem?_of_mem hp
  obtain⟨v,_,h⟩:=q.get hi
  exact⟨v,h⟩
 refine⟨q.length.symm,fun i y v a b=>?_,fun i y k a b=>?_,fun p hp hf=>?_,fun p hp=>?_⟩
 ·obtain⟨v',h1,h2⟩:=q.get a
  exact Option.some.inj (h1.symm.trans b)▸h2.1 rfl
 ·obtain⟨v',h1,h2⟩:=q.get a
  rcases b with b |b
  ·exact absurd b h2.3
  ·obtain⟨a,b,z,rfl,h3,h4,_⟩:=h2.2 b
   exact⟨a,b,z,h1,h3,h4⟩
 ·obtain⟨v,h⟩:=mem p hp
  obtain⟨_,_,_,_,_,_,h⟩:=h.2 hf
  exact h
 ·obtain⟨v,h⟩:=mem p hp
  exact h.3
end
end
section
open _root_.PySem.SeqAt
noncomputable def eJ {α:Type} (m:Am) (g:Gs) (r:R α) (Q:Shared->Prop) (s:Shared):Prop:=match r with
 | .ok _ st'=>∀ g' h' tk,Ext g g'->Rel m g' st' h'->Q {s with heap:=h',toks:=tk}
 | .exc _ _=>False
 | .no=>False
theorem eJ.shift{α:Type}{m:Am}{g g₁:Gs}{r:R α}{Q:Shared->Prop}{s:Shared}(x:Ext g g₁){h:Heap}{tk:Tok}(P:eJ m g r Q s):eJ m g₁ r Q {s with heap:=h,toks:=tk}:=by
 cases r with
 |ok a st'=>exact fun g' h' tk' e R=>P g' h' tk' (x.trans e) R
 |exc k st'=>exact P.elim
 |no=>exact P.elim
theorem eJ.imp{α:Type}{m:Am}{g:Gs}{r:R α}{Q Q':Shared->Prop}{s:Shared}(P:eJ m g r Q s)(h:∀ s,Q s->Q' s):eJ m g r Q' s:=by
 cases r with
 |ok a st'=>exact fun g' h' tk' e R=>h _ (P g' h' tk' e R)
 |exc k st'=>exact P.elim
 |no=>exact P.elim
section
variable {m:Am} {g:Gs} {st:St} {os:List (Addr×Obj)} {P:aQ} {K:Frag} {mg mb:Str->Option Value}
theorem Walk.BS{β:Type}{g₀:Gs}{tgt:Expr}{itv:Value}{draw:V->M V}{bt:M Unit}{W:List (Addr×Obj)->List V->Prop}(w:Walk m g₀ tgt itv draw bt W)
  {v:V} {vs:List V} {st₁:St} {x:V} {s:Shared} {Q:β->Shared->Prop} {E:Value->Shared->Prop} {n:Sem β} {k:Value->Sem β}
  (x₀:Ext g₀ g) (hW:W os (v::vs)) (R:Rel (m.x os) g st s.heap) (hc:bt st=.ok () st) (hd:draw v st=.ok x st₁)
  (h:∀ g' h' tk b os',Ext g g'->W os' vs->Rel (m.x os') g' st₁ h'->m.VR g' x b->aq (model m.c.prog m.c.w) m.A (k b) Q E {s with heap:=h',toks:=tk}):
  aq (model m.c.prog m.c.w) m.A (pyNext itv>>=fun r=>match r with |none=>n |some v=>letOwnedTupleGo tgt itv v>>=fun _=>k v) Q E s:=by
 refine ax (wpAny_mono (w.next g os v vs st st₁ x s (fun b s₁=>aq (model m.c.prog m.c.w) m.A (k b) Q E s₁) (fun _ _=>False) E x₀ hW R hc hd h) (fun r s₁ h₁=>?_) fun _ _ z=>z.elim)
 obtain⟨b,rfl,h₁⟩:=h₁
 exact ax h₁
theorem BU{env:Env}(l:List Expr):(forIn l false fun c r=>if r=true then do let ok<-isTrue c env (eval c env);pure (ForInStep.yield ok)else pure (ForInStep.yield r):Sem Bool)=pure false:=by
 induction l with
 |nil=>rw[List.forIn_nil]
 |cons a l ih=>rw[List.forIn_cons];exact ih
theorem BV{env:Env}{f:Expr->M Bool}(H:∀ e,cF m (isTrue e env (eval e env)) (f e) eI)(ifs:List Expr):∀ (g:Gs) (st:St),
  Np m g st (forIn ifs true fun c r=>if r=true then do let ok<-isTrue c env (eval c env);pure (ForInStep.yield ok)else pure (ForInStep.yield r)) (hZ f .And ifs st) eI:=by
 induction ifs with
 |nil=>exact fun g st=>by rw[List.forIn_nil];exact Np.pure rfl
 |cons e r ih=>
  intro g st
  rw[List.forIn_cons]
  show Np m g st ((isTrue e env (eval e env)>>=fun ok=>pure (ForInStep.yield ok))>>=_) ((f e>>=fun t=>if jA .And t then Pure.pure t else hZ f .And r) st) _
  refine Np.assoc (Np.bind (H e g st) fun b st₁ g₁ b' e1 x hb=>Np.e9 ?_)
  rw[<-show b=b' from hb]
  cases b with
  |true=>exact ih g₁ st₁
  |false=>
   show Np m g₁ st₁ (forIn r false _) ((Pure.pure false:M Bool) st₁) _
   rw[BU]
   exact Np.pure rfl
theorem BW(G:aA m P K mg mb)(hv:m.A.handled=none){a y:V}{ra ry:Value}(va:m.VR g a ra)(vy:m.VR g y ry):Np m g st (PySem.call (.builtin "list.append") [ra,ry]) (bi P "list.append" [a,y] st) m.VR:=
 sq G.O (fun _=>hv) G.sys (.cons va (.cons vy .nil)) (fun z=>nomatch z)
theorem BX(G:∀ os,aA (m.x os) P K mg mb){g₀:Gs}{t it elt:Expr}{ifs:List Expr}{scope:Scope}{pos:Pos}{itv:Value}{bt:M Unit}{W:List (Addr×Obj)->List V->Prop}
  {tgt':V->M Unit} {f:Expr->M Bool} {elt':M V} {acc:V} {racc:Value} (hv:m.A.handled=none) (w:Walk m g₀ t itv pure bt W) (va:m.VR g₀ acc racc)
  (ht:∀ os g st x rx,m.VR g x rx->Np (m.x os) g st (assign t m.env rx) (tgt' x st) df)
  (hi:∀ os e,cF (m.x os) (isTrue e m.env (eval e m.env)) (f e) eI)
  (he:∀ os,cF (m.x os) (eval elt m.env) elt' (m.x os).VR) (vs:List V):
  ∀ (g:Gs) (os:List (Addr×Obj)) (st:St) (s:Shared) (R:Result->Shared->Prop),Ext g₀ g->W os vs->Rel (m.x os) g st s.heap->
   eJ m g (loop bt (fR P tgt' f ifs elt' acc) vs st) (fun s'=>R (.ok .next) s') s->
   codeN (model m.c.prog m.c.w) m.A (.compLoop (.ListComp elt [⟨t,it,ifs,0⟩] scope pos) 0 itv racc m.env) R s:=by
 induction vs with
 |nil=>
  intro g os st s R x₀ hW Rl Pp
  refine dy ?_
  show aq _ m.A ((compTurn (.ListComp elt [⟨t,it,ifs,0⟩] scope pos) 0 itv racc m.env).onRaise (fun x=>do noteFrame x m.env;theTreesLotGoes x)) _ _ s
  refine eT ?_
  rw[compTurn_list]
  replace Pp:eJ m g ((bt>>=fun _=>Pure.pure none) st) (fun s'=>R (.ok .next) s') s:=Pp
  rcases w.calm st with hc |hc
  ·rw[cg hc]at Pp
   refine di (ax (w.fin g os st s _ _ x₀ hW Rl hc fun h' R'=>?_))
   exact aM (Pp g h' s.toks (.refl g) R')
  ·rw[cL hc]at Pp;exact Pp.elim
 |cons v vs ih=>
  intro g os st s R x₀ hW Rl Pp
  refine dy ?_
  show aq _ m.A ((compTurn (.ListComp elt [⟨t,it,ifs,0⟩] scope pos) 0 itv racc m.env).onRaise (fun x=>do noteFrame x m.env;theTreesLotGoes x)) _ _ s
  refine eT ?_
  rw[compTurn_list]
  have en:loop bt (fR P tgt' f ifs elt' acc) (v::vs)=(bt>>=fun _=>tgt' v>>=fun _=>hZ f .And ifs>>=fun ok=>(if ok then elt'>>=fun y=>bi P "list.append" [acc,y]>>=fun _=>Pure.pure none else Pure.pure none)>>=stepK bt (fR P tgt' f ifs elt' acc) vs):=by
   rw[lQ]
   unfold fR
   simp only[M.bind_assoc]
  rw[en]at Pp
  clear en
  have hL0:∀ st,stepK bt (fR P tgt' f ifs elt' acc) vs none st=loop bt (fR P tgt' f ifs elt' acc) vs st:=fun _=>rfl
  generalize loop bt (fR P tgt' f ifs elt' acc) vs=L at ih hL0
  generalize stepK bt (fR P tgt' f ifs elt' acc) vs=L0 at Pp hL0
  rcases w.calm st with hc |hc
  ·rw[cg hc]at Pp
   refine di (w.BS (x:=v) (st₁:=st) x₀ hW Rl hc rfl fun g₁ h₁ tk₁ b os₁ x₁ hW₁ R₁ hx=>?_)
   refine aG ((ht os₁ g₁ st v b hx).use (s:={s with heap:=h₁,toks:=tk₁}) R₁ (fun u st₂ e2 g₂ h₂ tk₂ u' x₂ R₂ _=>?_) (fun k st₂ e2 g₂ h₂ tk₂ e x₂ R₂ X=>?_) fun e2=>?_)
   ·rw[cg e2]at Pp
    refine aG ((BV (hi os₁) ifs g₂ st₂).use (s:={s with heap:=h₂,toks:=tk₂}) R₂ (fun ok st₃ e3 g₃ h₃ tk₃ ok' x₃ R₃ q₃=>?_) (fun k st₃ e3 g₃ h₃ tk₃ e x₃ R₃ X=>?_) fun e3=>?_)
    ·rw[cg e3]at Pp
     rw[<-show ok=ok' from q₃]
     have x03:Ext g g₃:=x₁.trans (x₂.trans x₃)
     cases ok with
     |false=>
      replace Pp:eJ m g (L0 none st₃) (fun s'=>R (.ok .next) s') s:=Pp
      rw[hL0]at Pp
      exact aM ⟨rfl,ih g₃ os₁ st₃ {s with heap:=h₃,toks:=tk₃} R (x₀.trans x03) hW₁ R₃ (Pp.shift x03)⟩
     |true=>
      replace Pp:eJ m g (((elt'>>=fun y=>bi P "list.append" [acc,y]>>=fun _=>Pure.pure none)>>=L0) st₃) (fun s'=>R (.ok .next) s') s:=Pp
      rw[M.bind_assoc]at Pp
      show aq _ m.A ((eval elt m.env>>=fun y=>PySem.call (.builtin "list.append") [racc,y]>>=fun _=>pure ())>>=fun _=>again _) _ _ _
      refine ou (aG ((he os₁ g₃ st₃).use (s:={s with heap:=h₃,toks:=tk₃}) R₃ (fun y st₄ e4 g₄ h₄ tk₄ ry x₄ R₄ q₄=>?_) (fun k st₄ e4 g₄ h₄ tk₄ e x₄ R₄ X=>?_) fun e4=>?_))
      ·rw[cg e4,M.bind_assoc]at Pp
       have x04:Ext g g₄:=x03.trans x₄
       refine ou (aG ((BW (m:=m.x os₁) (G os₁) hv (va.mono (x₀.trans x04)) q₄).use (s:={s with heap:=h₄,toks:=tk₄}) R₄ (fun u st₅ e5 g₅ h₅ tk₅ ru x₅ R₅ q₅=>?_) (fun k st₅ e5 g₅ h₅ tk₅ e x₅ R₅ X=>?_) fun e5=>?_))
       ·rw[cg e5]at Pp
        replace Pp:eJ m g (L0 none st₅) (fun s'=>R (.ok .next) s') s:=Pp
        rw[hL0]at Pp
        have x05:Ext g g₅:=x04.trans x₅
        exact ax (wpAny_pure (aM ⟨rfl,ih g₅ os₁ st₅ {s with heap:=h₅,toks:=tk₅} R (x₀.trans x05) hW₁ R₅ (Pp.shift x05)⟩))
       ·rw[dt e5]at Pp;exact Pp.elim
       ·rw[cL e5]at Pp;exact Pp.elim
      ·rw[dt e4]at Pp;exact Pp.elim
      ·rw[cL e4]at Pp;exact Pp.elim
    ·rw[dt e3]at Pp;exact Pp.elim
    ·rw[cL e3]at Pp;exact Pp.elim
   ·rw[dt e2]at Pp;exact Pp.elim
   ·rw[cL e2]at Pp;exact Pp.elim
  ·rw[cL hc]at Pp;exact Pp.elim
end
end
section
open _root_.PySem.SeqAt
theorem s8{env:Env}{x:Value}(it:Expr):(it.ctorIdx==7)=false->foldedSetIterable it env x=pure x:=
 Expr.casesOn (motive_1:=fun it=>(it.ctorIdx==7)=false->foldedSetIterable it env x=pure x) it (fun _ _ _ _=>rfl) (fun _ _ _ _=>rfl) (fun _ _ _ _ _=>rfl) (fun _ _ _ _=>rfl) (fun _ _ _ _ _=>rfl) (fun _ _ _ _ _=>rfl) (fun _ _ _ _=>rfl) (fun _ _ _ h=>Bool.noConfusion h) (fun _ _ _ _ _=>rfl) (fun _ _ _ _ _=>rfl) (fun _ _ _ _ _ _=>rfl) (fun _ _ _ _ _=>rfl) (fun _ _ _=>rfl) (fun _ _ _=>rfl) (fun _ _ _=>rfl) (fun _ _ _ _ _=>rfl) (fun _ _ _ _ _=>rfl) (fun _ _ _ _ _=>rfl) (fun _ _ _=>rfl) (fun _ _ _ _=>rfl) (fun _ _ _ _=>rfl) (fun _ _ _ _=>rfl) (fun _ _ _=>rfl) (fun _ _ _=>rfl) (fun _ _ _=>rfl) (fun _ _ _ _=>rfl) (fun _ _ _ _ _=>rfl)
section
variable {m:Am} {g:Gs} {st:St} {os:List (Addr×Obj)} {P:aQ} {K:Frag} {mg mb:Str->Option Value} {C:V->List V->Hp->CR} {lv:Bool}
theorem s9(v:V):Still (iter v):=.bind (.ar _) fun a=>.bind (.obj a) fun o=>by
 cases o with
 |list xs=>exact .bind (e8 _) fun _=>.pure _
 |range b=>exact .bind (e8 _) fun _=>.pure _
 |_=>exact .no
theorem BY{prog:Program}{w:World}{A:Around}{R:Result->Shared->Prop}{s:Shared}{elt target iter ifs rest scope pos acc env}{it:Addr}
  (h0:codeN (model prog w) A (.compLoop (.ListComp elt (⟨target,iter,ifs,0⟩::rest) scope pos) 0 (.ref it) acc env) R s)
  (h:∀ (A:Around) (Q:Value->Shared->Prop) (E:Value->Shared->Prop),Q (.ref it) s->wpAny (model prog w) A (pyIter (.ref it)) Q E s):
  codeN (model prog w) A (.compStart (.ListComp elt (⟨target,iter,ifs,0⟩::rest) scope pos) 0 (.ref it) acc env) R s:=by
 refine dy ?_
 show aq _ A ((compStart (.ListComp elt (⟨target,iter,ifs,0⟩::rest) scope pos) 0 (.ref it) acc env).onRaise (fun x=>do noteFrame x env;standAt theWindowsPlace)) _ _ s
 refine eT ?_
 unfold compStart
 show aq _ _ (ask>>=_) _ _ s
 refine ax (wpAny_askSetting ?_)
 cases hc:({program:=(model prog w).prog,params:=(model prog w).w.params}:Setting).params.followText "comprehension-iter-twice" with
 |true=>exact g9 rfl (aM (And.intro rfl h0))
 |false=>exact cH rfl (ax (wpAny_rule (di (ax (h A _ _ (aM (And.intro rfl h0)))))))
noncomputable def lX {α:Type} (v:V) (lo:List (Option V)):R α->R V
 | .ok _ s=>.ok v {s with lo:=lo}
 | .exc _ _=>.no
 | .no=>.no
theorem BZ{α:Type}{f:M α}{lo':List (Option V)}{v:V}{st:St}:(inBlock lo' f>>=fun _=>(pure v:M V)) st=lX v st.lo (f {st with lo:=lo'}):=by
 show M.bind (inBlock lo' f) (fun _=>(pure v:M V)) st=_
 unfold M.bind inBlock
 cases f {st with lo:=lo'}<;>rfl
noncomputable abbrev Gs.bare (g:Gs):Gs:={g with m:=fun x=>([]:List (Str×Value)).reverse.lookup x}
noncomputable abbrev i7:Obj:={cls:=.type "list",data:=.seq ([]:List Value).toArray}
noncomputable def CompEnd (m:Am) (g₀ g g₂:Gs) (C:Addr) (lo:List (Option V)) (v:V) (Q:Value->Shared->Prop) (E:Value->Shared->Prop) (s s':Shared):Prop:=
 eU fun (st':St) (g':Gs) (m₁:Str->Option Value) (tk:Tok)=>gE (s'={s with heap:=s'.heap,toks:=tk}) (s'.heap.Ns C m₁) (Ext g₂ g') (bI m g₀ (.ok v {st' with lo:=lo}:R V) m.VR Q E s)
  (∀ h'' m'',h''.Ns C m''->Heap.SameBut C s'.heap h''->Rel m {g' with m:=g.m} {st' with lo:=lo} h'')
theorem B0{g₀ g₂:Gs}{C₁:Addr}{lo:List (Option V)}{v:V}{Q E:Value->Shared->Prop}{scope:Scope}{cl:List (Str×Addr)}{s:Shared}{h:Heap}{tk:Tok}{r:Lite.R (Option Unit)}(l:Loc m.c m.sc m.env g lo)(x:Ext g g₂)(ha:m.c.b₀.objs.size<=m.c.N)
  (hr:bI m g₀ (lX v lo r) m.VR Q E s):eJ (m.comp g.m scope cl C₁) g₂ r (CompEnd m g₀ g g₂ C₁ lo v Q E s) {s with heap:=h,toks:=tk}:=by
 cases r with
 |exc c s'=>exact hr.elim
 |no=>exact hr.elim
 |ok a st'=>exact fun g' h' tk xx Rf=>⟨st',g',g'.m,tk,rfl,Rf.inv.ns,xx,hr,fun h'' m'' hn hs=>⟨Inv.exit (c:=m.c) (m₀:=g.m) (g:={g' with m:=m''}) (Rf.inv.rm hs.2 hn) ha,l.mono ⟨x.ρ.trans xx.ρ,fun y hy=>xx.cd y (x.cd y hy)⟩ rfl⟩⟩
theorem B1{h₂ h₃:Heap}{scope:Scope}{cl:List (Str×Addr)}{lo':List (Option V)}{H:Hp}(lo:Loc m.c m.sc m.env g st.lo)(R:Rel (m.x os) g {st with H:=H} h₂)(hcl:∀ (y:Str) (a:Addr),(y,NameKind.free)∈scope.names->m.env.cells.lookup y=some a->cl.lookup y=some a)
  (e:fQ m.sc st.lo scope.names=some lo') (hk:∀ b o,h₂.get? b=some o->h₃.get? b=some o) (hsz:m.c.b₀.objs.size<=h₂.objs.size) (hns:h₃.Ns h₂.objs.size g.bare.m):Rel ((m.comp g.m scope cl h₂.objs.size).x os) g.bare {lo:=lo',H:=H} h₃:=by
 have l:=oG (c':=((m.comp g.m scope cl h₂.objs.size).x os).c) lo (g':=g.bare) ⟨List.prefix_rfl,fun _ q=>q⟩ (fun _=>rfl) (env':=compEnvC scope cl h₂.objs.size m.env) hcl e
 exact⟨Inv.enter (c:=(m.x os).c) R.inv (dq _) hk hns hsz,l.len,l.loc,l.bW⟩
theorem B2{scope:Scope}{cl:List (Str×Addr)}{C₁:Addr}(nd:(scope.names.map (·.1)).Nodup):∀ x∈(scope.names.filter fun x=>(x.2==.local||x.2==.cell)&&x.1 != (".0":Str)).reverse,x.2=.local->Env.kindOf (compEnvC scope cl C₁ m.env) x.1=some .local:=fun x hx hl=>by
 obtain⟨i,hi⟩:=List.getElem?_of_mem (List.mem_filter.mp (List.mem_reverse.mp hx)).1
 exact lookup_relabel_local (lookup_at nd (hi.trans (congrArg (fun k=>some (x.1,k)) hl)))
theorem B3{t:Sem Value}{evn:Scope->Expr->M V}{n:Nat}{elt tg:Expr}{ifs:List Expr}{scope:Scope}{x:V}(h:∀ io lo',(m.lv&&eY scope)=true->iter x st=.ok io st->fQ m.sc st.lo scope.names=some lo'->
  Np m g st t (lX (.ref st.H.length) st.lo (loop (bJ io.2) (fR P (asg P m.lv (evn (mark scope)) (mark scope) 3 tg) (fz (evn (mark scope)) n) ifs (evn (mark scope) elt) (.ref st.H.length)) io.1 {lo:=lo',H:=st.H++[.list []]})) m.VR):
  Np m g st t (comp P m.lv evn n m.sc elt tg ifs scope x st) m.VR:=
 Np.aK fun hg=>Np.bJ (s9 x) fun io e2=>gj (st:={st with H:=st.H++[.list []]}) (Pr:=fun r=>Np m g st t r m.VR) Np.no fun lo' e3=>by
  rw[BZ];exact h io lo' hg e2 e3
theorem B4{M:Model}{A:Around}{vs vs':List Value}{code:Code}{k:Except Value Flow->Sem Value}{Q E:Value->Shared->Prop}{R:Result->Shared->Prop}{s:Shared}(hc:codeN M A code R s)(h:∀ r s',R r s'->(match r with | .ok a=>aq M A (k (.ok a)) Q E s' | .error e=>aq M A (k (.error e)) Q E s')):
  aq M A (holding vs ((holding vs' (PySem.run code)).attempt>>=k)) Q E s:=bQ (aG (qj (bQ (mC (fM hc fun r s' q=>h r s' q)))))
noncomputable def ta (m:Am) (g:Gs) (st:St) (t:Expr) (scope:Scope) (lo':List (Option V)) (io:List V×Option (Nat×List V)) (os:List (Addr×Obj)) (W:List (Addr×Obj)->List V->Prop) (cl:List (Str×Addr)) (C₁:Addr) (g₂:Gs) (it' ra:Addr) (h:Heap):Prop:=kK
 (W os io.1) (Rel ((m.comp g.m scope cl C₁).x os) g₂ {lo:=lo',H:=st.H++[.list []]} h) (VR m.c g₂ (.ref st.H.length) (.ref ra)) (bu (m.comp g.m scope cl C₁)->Walk (m.comp g.m scope cl C₁) g₂ t (.ref it') pure (bJ io.2) W)
 (Ext g g₂) (Loc m.c m.sc m.env g st.lo) (m.c.b₀.objs.size<=m.c.N) (∀ (A:Around) (s:Shared) (Q E:Value->Shared->Prop),s.heap=h->Q (.ref it') s->wpAny (model m.c.prog m.c.w) A (pyIter (.ref it')) Q E s)
theorem B5(O:bu m)(hv:m.A.handled=none){it t:Expr}{scope:Scope}{pos:Pos}{rx:Value}{x:V}{io:List V×Option (Nat×List V)}{lo':List (Option V)}{k:Value->Value->Env->Sem Value}(hset:(it.ctorIdx==7)=false)(sk:scope.kind=.function)(vx:m.VR g x rx)(e2:iter x st=.ok io st)(e3:fQ m.sc st.lo scope.names=some lo')
  {s:Shared} {Q E:Value->Shared->Prop} (R₁:Rel m g st s.heap)
  (hk:∀ os W cl C₁ g₂ it' ra h tk,ta m g st t scope lo' io os W cl C₁ g₂ it' ra h->aq (model m.c.prog m.c.w) m.A (k (.ref it') (.ref ra) (newEnv scope C₁ m.env.globals cl m.env.qual none .none (some m.env) m.env.builtins)) Q E {s with heap:=h,toks:=tk}):
  aq (model m.c.prog m.c.w) m.A ((pure rx:Sem Value)>>=fun x=>standAt pos>>=fun _=>foldedSetIterable it m.env x>>=fun x=>holding [x] (pyIter x)>>=fun it=>newList []>>=fun acc=>closureFor scope m.env>>=fun cl=>newFunctionEnv scope m.env.globals cl [] m.env.qual none .none (some m.env)>>=fun cenv=>k it acc cenv) Q E s:=by
 refine ax (wpAny_pure (di (ax (wpAny_of_eq (s8 it hset) ?_))))
 refine aG (bQ (bz (sY O hv vx e2 R₁ fun h₂ itA hB=>?_)))
 obtain⟨os,W,keep,R₂,hW,walk,self⟩:=hB
 refine ax (wpAny_newList ?_ (by decide))
 have R₃:Rel (m.x os) (g.lay (h₂.objs.size,h₂.objs.size)) {st with H:=st.H++[.list []]} (h₂.push i7):=R₂.nO (o:=.list []) (ob:=i7) rfl rfl ⟨[],0,rfl,.nil⟩
 have hlast:=R₂.last (p:=(h₂.objs.size,h₂.objs.size))
 have xg:=dc g (h₂.objs.size,h₂.objs.size)
 have l4:=(oG (c':=m.c) R₁.loc (g':=g.bare) ⟨List.prefix_rfl,fun _ q=>q⟩ (fun _=>rfl) (env':=m.env) (fun _ _ _ h=>h) e3)
 refine ax (wpAny_of_eq (oB l4.free) (ax (wpAny_newFunctionEnv l4.oF (fun x hx=>nomatch hx) (fun h₃ hns hsb=>?_) sk)))
 have keepH:∀ b ob,(h₂.push i7).get? b=some ob->h₃.get? b=some ob:=fun b ob e=>hsb.extBut b ob (Nat.ne_of_lt (Heap.lt_size e)) (Heap.get?_push_of_some _ e)
 have hsz:m.c.b₀.objs.size<=(h₂.push i7).objs.size:=by
  obtain⟨ob,h2,_⟩:=R₃.inv.sat (m.c.N,bE g.m) (.head _)
  exact Nat.le_of_lt (Nat.lt_of_le_of_lt R₃.inv.above (Heap.lt_size h2))
 exact hk os W (gq m.env scope.names []) (h₂.push i7).objs.size (g.lay (h₂.objs.size,h₂.objs.size)).bare itA h₂.objs.size h₃ _ ⟨hW,B1 (g:=g.lay (h₂.objs.size,h₂.objs.size)) (R₁.loc.mono xg rfl) R₃ (fun y a hy ha=>s7 l4.free hy ha) e3 keepH hsz hns,VR.ref hlast,fun h=>walk (m.comp g.m scope (gq m.env scope.names []) (h₂.push i7).objs.size) rfl rfl rfl rfl hv h _ t ⟨xg.ρ,xg.cd⟩,⟨xg.ρ,xg.cd⟩,R₁.loc,R₁.inv.above,fun A s Q E e hq=>self A s Q E (fun ob e'=>e▸keepH _ _ (Heap.get?_push_of_some _ e')) hq⟩
theorem B6(O:bu m)(hv:m.A.handled=none){elt t it:Expr}{ifs:List Expr}{scope:Scope}{pos pos':Pos}{rx:Value}{x:V}{io:List V×Option (Nat×List V)}{lo':List (Option V)}{r:Lite.R (Option Unit)}(hset:(it.ctorIdx==7)=false)(sk:scope.kind=.function)(nd:(scope.names.map (·.1)).Nodup)
  (vx:m.VR g x rx) (e2:iter x st=.ok io st) (e3:fQ m.sc st.lo scope.names=some lo')
  (hL:∀ os W cl C₁ g₂ it' ra (s:Shared) (Q:Shared->Prop),ta m g st t scope lo' io os W cl C₁ g₂ it' ra s.heap->eJ (m.comp g.m scope cl C₁) g₂ r Q s->
   codeN (model m.c.prog m.c.w) m.A (.compLoop (.ListComp elt [⟨t,it,ifs,0⟩] scope pos) 0 (.ref it') (.ref ra) (compEnvC scope cl C₁ m.env)) (fun r s'=>r=.ok .next∧Q s') s):
  Np m g st (comprehension (.ListComp elt [⟨t,it,ifs,0⟩] scope pos) scope m.env pos' (newList []) false (pure rx)) (lX (.ref st.H.length) st.lo r) m.VR:=by
 intro s Q E R₁ Pp
 refine B5 O hv hset sk vx e2 e3 R₁ fun os W cl C₁ g₂ itA ra h tk B=>B4 (BY (hL os W cl C₁ g₂ itA _ _ _ B (B0 B.p6 B.p5 B.p7 Pp)) fun A Q E hq=>B.p8 A _ Q E rfl hq) fun r s' hr=>?_
 obtain⟨rfl,st',g',m₁,tk,hs',hn',xg',hp,hrel⟩:=hr
 refine aG (bQ (bz (wpAny_comp_letGo sk _ s' m₁ (B2 nd) hn' fun h'' m'' hn'' hs''=>aM ?_)))
 rw[hs']
 exact hp {g' with m:=g.m} h'' tk _ ⟨(B.p5.trans xg').ρ,(B.p5.trans xg').cd⟩ (hrel h'' m'' hn'' hs'') ((VR.mono xg' B.p3))
theorem B7(G:aA m P K mg mb){n:Nat}(ih:∀ m',aA m' P K mg mb->m'.d=m.d->aY m' (ev P C m'.lv n m'.sc))(elt t it:Expr)(ifs:List Expr)(scope:Scope)(pos:Pos):
  Np m g st (eval (.ListComp elt [⟨t,it,ifs,0⟩] scope pos) m.env) ((ev P C m.lv n m.sc it>>=fun x=>comp P m.lv (ev P C m.lv n) n m.sc elt t ifs scope x) st) m.VR:=by
 have H:=ih m G rfl
 show Np m g st (eval it m.env>>=fun x=>comprehension (.ListComp elt [⟨t,it,ifs,0⟩] scope pos) scope m.env (firstIterPos [⟨t,it,ifs,0⟩] pos) (newList []) false (pure x)) _ _
 refine Np.bind (H.snd it g st) fun x st₁ g₁ rx e1 x₁ vx=>B3 fun io lo' hg e2 e3=>?_
 obtain⟨hlv,hsc⟩:=Bool.and_eq_true_iff.mp hg
 have hv:=G.O.de hlv
 obtain⟨s1,s2,s3,s4,s5⟩:=jU hsc
 have hset:(it.ctorIdx==7)=false:=by
  cases h:it.ctorIdx==7 with
  |false=>rfl
  |true=>exact iW ((H.jN it st h).symm.trans e1)
 refine B6 G.O hv hset s1 s4 vx e2 e3 fun os W cl C₁ g₂ it' ra s Q B Pl=>?_
 have Gc:=aA.comp (m₀:=g₁.m) (cl:=cl) (C:=C₁) G hsc
 have ihx:=fun os=>ih _ (Gc.x (os:=os)) rfl
 exact BX (acc:=.ref st₁.H.length) (racc:=.ref ra) (fun os=>Gc.x (os:=os)) hv (B.p4 Gc.O) B.p3 (fun os g st x rx vx=>lW Gc.x (ihx os) 3 t x rx g st vx) (fun os e=>lL Gc.x (ihx os) n e) (fun os=>(ihx os).snd elt) io.1 g₂ os _ s _ (.refl _) B.p1 B.p2 (Pl.imp fun s' h=>⟨rfl,h⟩)
end
end
section
open _root_.PySem.SeqAt
noncomputable def tc (pos pos':Pos):Bool:=(pos.line:Int)==pos'.line&&(pos.col:Int)==pos'.col
theorem B8{pos pos':Pos}{c cv:Value}:∀ (l:List Value),TriplesOk l->codeAmong pos' (l++[rawInt pos.line,rawInt pos.col,c])=some cv->codeAmong pos' l=some cv∨cv=c:=by
 intro l
 fun_induction TriplesOk l with
 |case1=>
  intro _ h
  have h:(if (tc pos pos':Bool)=true then some c else none)=some cv:=h
  cases hb:tc pos pos' with
  |true=>rw[hb]at h;exact .inr (Option.some.inj h).symm
  |false=>rw[hb]at h;exact ag h
 |case2 a t b u x rest ih=>
  intro h1 h
  by_cases hc:(a==pos'.line&&b==pos'.col)=true
  ·left;rw[List.cons_append,List.cons_append,List.cons_append,codeAmong,if_pos hc]at h;rw[codeAmong,if_pos hc];exact h
  ·rw[List.cons_append,List.cons_append,List.cons_append,codeAmong,if_neg hc]at h;rw[codeAmong,if_neg hc];exact ih h1 h
 |case3 l h1 h2=>intro h;exact h.elim
theorem e7.mono{cd cd':List (Addr×Obj)}{q:Str}{ps:Array Value}(h:e7 cd q ps)(hc:∀ x∈cd,x∈cd'):e7 cd' q ps:=
 ⟨h.1,fun pos cv e=>by obtain⟨c',o,vs,t,h1,h2,h3,h4⟩:=h.2 pos cv e;exact⟨c',o,vs,t,h1,hc _ h2,h3,h4⟩⟩
theorem e7.snoc{cd:List (Addr×Obj)}{q:Str}{ps:Array Value}{pos:Pos}{c':Addr}{oc:Obj}{vs:Array Value}{t:Tok}(h:e7 cd q ps)(hd:oc.data=.fields vs)(hv:vs[1]? =some (.str q t)):
  e7 (cd++[(c',oc)]) q (ps++#[rawInt pos.line,rawInt pos.col,.ref c']):=by
 unfold e7
 rw[Array.toList_append]
 refine⟨TriplesOk_snoc _ _ _ _ h.1,fun pos' cv q'=>?_⟩
 rcases B8 _ h.1 q' with z |z
 ·exact(h.mono (fun x hx=>List.mem_append_left _ hx)).2 pos' cv z
 ·exact⟨c',oc,vs,t,z,List.mem_append_right _ (.head _),hd,hv⟩
theorem aC.split{α β:Type}{R:α->β->Prop}{l:List α}{l':List β}(q:aC R l l'){x:α}:x∈l->dm fun l1' y l2'=>bp (l'=l1'++y::l2') (R x y) (∀ S:α->β->Prop,(∀ a b,R a b->S a b)->∀ y',S x y'->aC S l (l1'++y'::l2')):=
 aC.fold q (fun h=>nomatch h) fun a b as bs h t ih hx=>by
  rcases List.mem_cons.mp hx with rfl |hx
  ·exact⟨[],b,bs,rfl,h,fun S hS y' hy=>.cons hy (aC.imp hS t)⟩
  ·obtain⟨l1,y,l2,e,hr,hs⟩:=ih hx
   exact⟨b::l1,y,l2,congrArg (b::·) e,hr,fun S hS y' hy=>.cons (hS _ _ h) (hs S hS y' hy)⟩
section
variable {c:Cx} {g:Gs} {H:Hp} {h h':Heap}
noncomputable def fg (p:Addr×Array Value):Cell:=(p.1,(·=tabObj p.2))
noncomputable def gs (p:Addr×Obj):Cell:=(p.1,(·=p.2))
noncomputable def jV (c:Cx) (g:Gs) (t:List (Addr×Array Value)):List Cell:=(c.N,bE g.m)::(c.fs.map (fun f=>(f.1,bE f.2))++(c.X.map gs++t.map fg))
noncomputable abbrev Gs.coded (g:Gs) (t:List (Addr×Array Value)) (p:Addr×Obj):Gs:={g with tb:=t,cd:=g.cd++[p]}
theorem oH{t1 t2:List (Addr×Array Value)}{x:Addr×Array Value}(ht:g.tb=t1++x::t2):cells c g H=jV c g t1++fg x::(t2.map fg++(g.cd.map gs++b9 c g g.ρ H)):=by
 show(c.N,bE g.m)::((c.fs.map (fun f=>(f.1,bE f.2))++c.X.map gs++g.tb.map fg++g.cd.map gs)++b9 c g g.ρ H)=_
 rw[ht,List.map_append,List.map_cons]
 unfold jV
 simp only[List.append_assoc,List.cons_append]
theorem Inv.coded{t1 t2:List (Addr×Array Value)}{T c':Addr}{ps ps':Array Value}{oc:Obj}(I:Inv c g H h)(ht:g.tb=t1++(T,ps)::t2)(hx:Heap.ExtBut T h h')(hT:h'.get? T=some (tabObj ps'))(hn:h.get? c'=none)(hc:h'.get? c'=some oc)
  (hq:TabsOk c (g.coded (t1++(T,ps')::t2) (c',oc))):Inv c (g.coded (t1++(T,ps')::t2) (c',oc)) H h':=by
 have xg:Ext g (g.coded (t1++(T,ps')::t2) (c',oc)):=⟨List.prefix_rfl,fun x hx=>List.mem_append_left _ hx⟩
 have F:=I.free hn
 have old:=oH (c:=c) (H:=H) ht
 have new:(cells c (g.coded (t1++(T,ps')::t2) (c',oc)) H).Perm ((c',(·=oc))::(jV c g t1++fg (T,ps')::(t2.map fg++(g.cd.map gs++b9 c (g.coded (t1++(T,ps')::t2) (c',oc)) g.ρ H)))):=by
  have e:cells c (g.coded (t1++(T,ps')::t2) (c',oc)) H=(jV c g t1++fg (T,ps')::(t2.map fg++g.cd.map gs))++gs (c',oc)::b9 c (g.coded (t1++(T,ps')::t2) (c',oc)) g.ρ H:=by
   refine(oH (g:=g.coded (t1++(T,ps')::t2) (c',oc)) (c:=c) (H:=H) rfl).trans ?_
   rw[List.map_append]
   simp only[List.append_assoc,List.cons_append]
   rfl
  rw[e]
  refine List.perm_middle.trans (List.Perm.of_eq ?_)
  simp only[List.append_assoc,List.cons_append]
  rfl
 have wk:cu (jV c g t1++fg (T,ps')::(t2.map fg++(g.cd.map gs++b9 c g g.ρ H))) _:=(cu.refl _).append (.cons ⟨rfl,fun _ q=>q⟩ ((cu.refl _).append ((cu.refl _).append (nf xg g.ρ H))))
 have S:=old▸I.sat
 have W:=old▸I.low
 have N:=old▸I.cJ
 have w:c.b₀.get? T=none:=W (fg (T,ps)) (List.mem_append_right _ (.head _))
 have ea:=wk.addrs.trans ((k7 (P:=(·=tabObj ps))).trans (congrArg (List.map (·.1)) old.symm))
 refine⟨fun b o e=>hx b o (fun z=>nomatch (z▸w).symm.trans e) (I.base b o e),I.above,I.len,fun x hx'=>List.forall_mem_cons.mpr ⟨⟨oc,hc,rfl⟩,wk.sat (ni S N hx hT rfl)⟩ x (new.mem_iff.mp hx'),(new.map (·.1)).nodup_iff.mpr (List.nodup_cons.mpr ⟨fun q=>?_,ea▸I.cJ⟩),
  fun x hx'=>(List.forall_mem_cons (p:=fun x:Cell=>c.b₀.get? x.1=none) (a:=gs (c',oc))).mpr ⟨F.2,wk.all (Q:=fun a=>c.b₀.get? a=none) (k8 W w)⟩ x (new.mem_iff.mp hx'),hq⟩
 obtain⟨y,hy,e⟩:=List.mem_map.mp (ea▸q)
 exact F.1 y hy e
end
section
variable {m:Am} {g:Gs} {st:St} {P:aQ} {K:Frag} {mg mb:Str->Option Value}
theorem td{g':Gs}{h':Heap}{body:Expr}{scope:Scope}{lo':List (Option V)}{z:q6}{Q E:Value->Shared->Prop}{s:Shared}{tk:Tok}(R:Rel m g' st h')(x:Ext g g')(C:∀ ob,ob=kla_obj "<lambda>" z.qual ⟨[],[],none,[],[],none,[]⟩ body scope z.cl z.pm z.c' z.gf->q7 g'.ρ g'.cd body scope lo' ob z)
  (Pp:bI m g (.ok (.ref st.H.length) {st with H:=st.H++[.cQ body scope lo']}) m.VR Q E s):Q (.ref h'.objs.size) {s with heap:=h'.push (kla_obj "<lambda>" z.qual ⟨[],[],none,[],[],none,[]⟩ body scope z.cl z.pm z.c' z.gf),toks:=tk}:=
 Pp _ _ tk _ (x.trans (dc g' _)) (R.nO (o:=.cQ body scope lo') rfl rfl (iT.mono (dc g' _) ⟨z,C _ rfl⟩)) (VR.ref R.last)
theorem B9(G:aA m P K mg mb)(body:Expr)(scope:Scope)(p:Pos):Np m g st (eval (.Lambda ⟨[],[],none,[],[],none,[]⟩ body scope p) m.env) (m3 m.sc body scope st) m.VR:=by
 refine Np.aK fun hg=>?_
 obtain⟨hg1,hall⟩:=Bool.and_eq_true_iff.mp hg
 obtain⟨hgen,hsc⟩:=Bool.and_eq_true_iff.mp hg1
 obtain⟨cc,T,l1,l2,l3,l4,l5⟩:=G.lam (fV hgen)
 refine Np.ar (o:=fQ m.sc st.lo scope.names) (f:=fun lo'=>alloc (.cQ body scope lo')) fun lo' e3=>?_
 intro s Q E R Pp
 have k:=oG (c':=m.c) R.loc (g':={g with m:=fun _=>none}) ⟨List.prefix_rfl,fun _ q=>q⟩ (fun _=>rfl) (env':=m.env) (fun _ _ _ h=>h) e3
 have kX:∀ (i:Nat) (x:Str) (k:NameKind),scope.names[i]? =some (x,k)->k=NameKind.globalImplicit∨(k=NameKind.free∧dm fun a y z=>bp (lo'[i]? =some (some (V.ref a))) (g.ρ[a]? =some (y,z)) ((gq m.env scope.names []).lookup x=some y)):=fun i x kd e=>by
  rcases Bool.or_eq_true_iff.mp (List.all_eq_true.mp hall _ (List.mem_of_getElem? e))with z |z
  ·have z:kd=.free:=beq_iff_eq.mp z
   obtain⟨a,b,w,h1,h2,h3⟩:=k.bW i x kd e (.inr z)
   exact .inr ⟨z,a,b,w,h1,h2,s7 k.free (z▸List.mem_of_getElem? e) h3⟩
  ·exact .inl (beq_iff_eq.mp z)
 obtain⟨t1,⟨T',ps⟩,t2,e2,hr,hs⟩:=aC.split R.inv.tabs l3
 obtain⟨hTT,htbl⟩:=hr
 have hTT:T=T':=hTT
 subst hTT
 obtain⟨oT,hT,hoT⟩:=R.inv.sat (fg (T,ps)) (by rw[oH e2];exact List.mem_append_right _ (.head _))
 have hT:=hT.trans (congrArg some hoT)
 have hgl:s.heap.Ns mainGlobals mg:=G.PK.glob.g.keeps R.inv.base
 have hbi:s.heap.BuiltinsAt mg T:=by
  obtain⟨bm,o,b1,b2,b3,b4,b5,b6⟩:=l5
  exact⟨bm,o,b1,b2,b3,b4,R.inv.base _ _ b5,b6⟩
 have hCd:=l2.keeps R.inv.base
 refine bz (kla_eval rfl ?_)
 cases hf:codeAmong p ps.toList with
 |some cv=>
  obtain⟨c',oc,vs,t,rfl,h2,h3,h4⟩:=htbl.2 _ _ hf
  exact kla_makeFunctionHit (oB k.free) G.O.env.globals hgl l1 hCd hT htbl.1 hf hbi fun gf h' tk hk hsz=>td (z:=⟨_,_,_,c',gf,oc,vs,t⟩) (R.keeps hk) (.refl g) (fun ob e=>⟨e,h2,h3,h4,k.len,hsc,kX⟩) Pp
 |none=>
  refine kla_makeFunction (oB k.free) G.O.env.globals hgl l1 hCd hT htbl.1 hf l4 hbi fun c' gf h' tk hx hge hlt hrec htb=>?_
  obtain⟨c₂,oc,vs,t,q1,hoc,hd,hv⟩:=hrec
  have q1:c'=c₂:=Value.ref.inj q1
  subst q1
  have I1:=R.inv.coded e2 hx htb (ic hge) hoc (hs (fun q p=>q.1=p.1∧e7 (g.cd++[(c',oc)]) q.2 p.2) (fun a b q=>⟨q.1,q.2.mono fun x hx=>List.mem_append_left _ hx⟩) (T,_) ⟨rfl,htbl.snoc hd hv⟩)
  have xg:Ext g (g.coded (t1++(T,ps++#[rawInt p.line,rawInt p.col,.ref c'])::t2) (c',oc)):=⟨List.prefix_rfl,fun x hx=>List.mem_append_left _ hx⟩
  exact td (z:=⟨_,_,_,c',gf,oc,vs,t⟩) ⟨I1,R.loc.mono xg rfl⟩ xg (fun ob e=>⟨e,List.mem_append_right _ (.head _),hd,hv,k.len,hsc,kX⟩) Pp
end
end
section
open _root_.PySem.SeqAt
section
variable {P:aQ} {K:Frag} {mg mb:Str->Option Value} {C:V->List V->Hp->CR} {lv:Bool} {n:Nat} {sc:Scope}
theorem Pb(e:Expr):ev P C lv 0 sc e=no:=rfl
theorem Pc(es:List Expr)(k:Nat)(p:Pos)(n:Nat):ev P C lv n sc (.Set es k p)=no:=by cases n<;>rfl
theorem cx{p:Prop}(h:false=true):p:=Bool.noConfusion h
theorem Ca{motive:Expr->Prop}(h1:∀ a b c,motive (.Set a b c))(e:Expr):(e.ctorIdx==7)=true->motive e:=
 Expr.casesOn (motive_1:=fun e=>(e.ctorIdx==7)=true->motive e) e (fun x0 x1 x2=>cx) (fun x0 x1 x2=>cx) (fun x0 x1 x2 x3=>cx) (fun x0 x1 x2=>cx) (fun x0 x1 x2 x3=>cx) (fun x0 x1 x2 x3=>cx) (fun x0 x1 x2=>cx) (fun a b c=>fun _=>h1 a b c) (fun x0 x1 x2 x3=>cx) (fun x0 x1 x2 x3=>cx) (fun x0 x1 x2 x3 x4=>cx) (fun x0 x1 x2 x3=>cx) (fun x0 x1=>cx) (fun x0 x1=>cx) (fun x0 x1=>cx) (fun x0 x1 x2 x3=>cx) (fun x0 x1 x2 x3=>cx) (fun x0 x1 x2 x3=>cx) (fun x0 x1=>cx) (fun x0 x1 x2=>cx) (fun x0 x1 x2=>cx) (fun x0 x1 x2=>cx) (fun x0 x1=>cx) (fun x0 x1=>cx) (fun x0 x1=>cx) (fun x0 x1 x2=>cx) (fun x0 x1 x2 x3=>cx)
theorem isEmpty_nil{α:Type}{l:List α}(h:l.isEmpty=true):l=[]:=List.isEmpty_iff.mp h
theorem isNone_none{α:Type}{o:Option α}(h:o.isNone=true):o=none:=Option.isNone_iff_eq_none.mp h
theorem Cb{a:Arguments}(h:mZ a=true):a=⟨[],[],none,[],[],none,[]⟩:=by
 obtain⟨a1,a2,a3,a4,a5,a6,a7⟩:=a
 obtain⟨h,h7⟩:=Bool.and_eq_true_iff.mp h
 obtain⟨h,h6⟩:=Bool.and_eq_true_iff.mp h
 obtain⟨h,h5⟩:=Bool.and_eq_true_iff.mp h
 obtain⟨h,h4⟩:=Bool.and_eq_true_iff.mp h
 obtain⟨h,h3⟩:=Bool.and_eq_true_iff.mp h
 obtain⟨h1,h2⟩:=Bool.and_eq_true_iff.mp h
 rw[show a1=[] from isEmpty_nil h1,show a2=[] from isEmpty_nil h2,show a3=none from isNone_none h3,show a4=[] from isEmpty_nil h4,show a5=[] from isEmpty_nil h5,show a6=none from isNone_none h6,show a7=[] from isEmpty_nil h7]
section
variable {m:Am} {g:Gs} {st:St} {ev:Expr->M V}
theorem Cc(H:aY m ev)(op:UnaryOp)(x:Expr)(p:Pos):Np m g st (eval (.UnaryOp op x p) m.env) (m4 ev op x st) m.VR:=
 UnaryOp.casesOn (motive:=fun op=>Np m g st (eval (.UnaryOp op x p) m.env) (m4 ev op x st) m.VR) op Np.no (Np.aK fun _=>Np.res (congrFun (M.bind_assoc (ev x) truth _) st) (Ba H x p)) Np.no Np.no
theorem Cd(G:aA m P K mg mb)(H:aY m ev)(o i:Expr)(p:Pos):Np m g st (eval (.Subscript o i p) m.env) (qR ev o i st) m.VR:=
 qm (motive:=fun i w=>Np m g st (eval (.Subscript o i p) m.env) (qQ ev o i w st) m.VR) (fun a b c sp=>Np.aK fun h=>by rw[show c=none from isNone_none h];exact Bg G H o a b sp p) (fun i _=>Be G H o i p) i
theorem Ce(G:aA m P K mg mb)(H:aY m ev)(Cv:gp m P C)(f:Expr)(args:List Expr)(kws:List Keyword)(p:Pos):Np m g st (eval (.Call f args kws p) m.env) (qP P C m.lv ev f args kws p st) m.VR:=
 Np.aK fun h=>by
  rw[isEmpty_nil h]
  exact iL (motive:=fun f w=>Np m g st (eval (.Call f args [] p) m.env) (qO P C m.lv ev args p w st) m.VR) (fun x p'=>Bn H Cv x p' p args) (fun o nm apos=>Bo G H Cv o nm apos p args) (fun _ _ _=>Np.no) (fun _ _ _=>Np.no) (fun _=>Np.no) f
theorem Cf(G:aA m P K mg mb)(H:∀ os,aY (m.x os) ev)(ks:List (Option Expr))(vs:List Expr)(p:Pos):Np m g st (eval (.Dict ks vs p) m.env) (qS ev ks vs st) m.VR:=by
 cases ks with
 |nil=>exact Np.aK fun h=>by rw[isEmpty_nil h];exact Bt p
 |cons k ks=>exact Bv G H p k ks vs
theorem Cg(G:aA m P K mg mb){n:Nat}(ih:∀ m',aA m' P K mg mb->m'.d=m.d->aY m' (Lite.ev P C m'.lv n m'.sc))(elt:Expr)(gens:List Comprehension)(scope:Scope)(p:Pos):
  Np m g st (eval (.ListComp elt gens scope p) m.env) (qN P m.lv (Lite.ev P C m.lv n) n m.sc elt gens scope st) m.VR:=by
 cases gens with
 |nil=>exact Np.no
 |cons c r=>
  refine Np.aK fun h=>?_
  obtain⟨h1,h2⟩:=Bool.and_eq_true_iff.mp h
  obtain⟨t,it,ifs,a⟩:=c
  rw[isEmpty_nil h1,show a=0 from of_decide_eq_true h2]
  exact B7 G ih elt t it ifs scope p
theorem Ci(G:aA m P K mg mb)(a:Arguments)(body:Expr)(scope:Scope)(p:Pos):Np m g st (eval (.Lambda a body scope p) m.env) ((guard (mZ a)>>=fun _=>m3 m.sc body scope) st) m.VR:=
 Np.aK fun h=>by rw[Cb h];exact B9 G body scope p
end
theorem te{d:Nat}(HC:∀ m',aA m' P K mg mb->m'.d=d->gp m' P C)(n:Nat):∀ (m:Am),aA m P K mg mb->m.d=d->aY m (ev P C m.lv n m.sc):=by
 induction n with
 |zero=>exact fun m G hd=>⟨fun e g st=>Np.no,fun e st h=>rfl⟩
 |succ n ev_ih=>
  intro m G hd
  have ih:∀ m',aA m' P K mg mb->m'.d=m.d->aY m' (ev P C m'.lv n m'.sc):=fun m' G' hd'=>ev_ih m' G' (hd'.trans hd)
  have H:=ih m G rfl
  refine⟨fun e g st=>?_,fun e st h=>Ca (motive:=fun e=>ev P C m.lv (n+1) m.sc e st=.no) (fun _ _ _=>rfl) e h⟩
  exact Expr.casesOn (motive_1:=fun e=>Np m g st (eval e m.env) (ev P C m.lv (n+1) m.sc e st) m.VR) e (fun op vs p=>Bb H op vs p) (fun x0 x1 x2=>Np.no) (fun l op r p=>A' H l op r p) (fun op x p=>Cc H op x p) (fun a body scope p=>Ci G a body scope p) (fun t b o p=>Bl G H n t b o p) (fun ks vs p=>Cf G (fun os=>ih (m.x os) G.x rfl) ks vs p) (fun x0 x1 x2=>Np.no) (fun elt gens scope p=>Cg G ih elt gens scope p) (fun x0 x1 x2 x3=>Np.no) (fun x0 x1 x2 x3 x4=>Np.no) (fun x0 x1 x2 x3=>Np.no) (fun x0 x1=>Np.no) (fun x0 x1=>Np.no) (fun x0 x1=>Np.no) (fun l ops rs p=>Bc G H l ops rs p) (fun f args kws p=>Ce G H (HC m G hd) f args kws p) (fun x0 x1 x2 x3=>Np.no) (fun x0 x1=>Np.no) (fun c x1 x2=>AB G.PK c) (fun o a p=>Bd G H o a p) (fun o i p=>Cd G H o i p) (fun x0 x1=>Np.no) (fun x p=>(nC G.PK.glob G.O x p g st).np) (fun es p=>Np.aK fun h=>Bh H es p h) (fun es k p=>Np.aK fun h=>Bj H es k p h) (fun x0 x1 x2 x3=>Np.no)
end
end
section
open _root_.PySem.SeqAt
noncomputable def DfltIs (h:Heap) (dv:Value):Prop:=dv=.none∨eU fun T o xs n=>bp (dv=.ref T) (h.get? T=some o) (o.data=.seq xs n)
theorem DfltIs.items{M:Model}{A:Around}{E:Value->Shared->Prop}{s:Shared}{dv:Value}(h:DfltIs s.heap dv){Q:Option (Array Value)->Shared->Prop}(hq:∀ o,Q o s):wpAny M A (seqItems? dv) Q E s:=by
 rcases h with rfl | ⟨T,o,xs,n,rfl,ho,hd⟩
 ·exact wpAny_bind (wpAny_pure (wpAny_pure (hq none)))
 ·exact wpAny_seqItems ho hd (hq _)
theorem tf{x:Str}{names:List Str}{vals:List Value}(hl:vals.length=names.length)(hx:x∈names):((names.zip vals).lookup x).isNone=false:=by
 induction names generalizing vals with
 |nil=>exact nomatch hx
 |cons y r ih=>
  cases vals with
  |nil=>exact Nat.noConfusion hl
  |cons v vs=>
   rw[List.zip_cons_cons,List.lookup_cons]
   cases q:x==y with
   |true=>rfl
   |false=>exact ih (Nat.succ.inj hl) ((List.mem_cons.mp hx).resolve_left fun e=>by rw[e,beq_self_eq_true]at q;exact Bool.noConfusion q)
theorem Cj{α β:Type}{f g:α->Option β}{l:List α}(h:∀ x∈l,f x=g x):l.filterMap f=l.filterMap g:=by
 induction l with
 |nil=>rfl
 |cons x r ih=>rw[List.filterMap_cons,List.filterMap_cons,h x (.head _),ih fun y hy=>h y (.tail _ hy)]
theorem Ck{names:List Str}{vals:List Value}(nd:names.Nodup)(hl:vals.length=names.length):(names.filterMap fun n=>((names.zip vals).lookup n).map (n,·))=names.zip vals:=by
 induction names generalizing vals with
 |nil=>rfl
 |cons y r ih=>
  cases vals with
  |nil=>exact Nat.noConfusion hl
  |cons v vs=>
   obtain⟨n1,n2⟩:=List.nodup_cons.mp nd
   rw[List.zip_cons_cons,List.filterMap_cons,List.lookup_cons,beq_self_eq_true]
   refine congrArg ((y,v)::·) ((Cj fun x hx=>?_).trans (ih n2 (Nat.succ.inj hl)))
   rw[List.lookup_cons,show(x==y)=false from beq_eq_false_iff_ne.mpr fun e=>n1 (e▸hx)]
theorem Cm{acc:List (Str×Value)}(l:List (Str×Value))(h:∀ x∈l,(acc.lookup x.1).isNone=false):(forIn l acc (fun x r=>if (List.lookup x.1 r).isNone=true then pure (ForInStep.yield (r++[(x.1,x.2)]))else pure (ForInStep.yield r)):Sem (List (Str×Value)))=pure acc:=by
 induction l with
 |nil=>exact List.forIn_nil
 |cons p r ih=>
  rw[List.forIn_cons,h p (.head _)]
  exact ih fun x hx=>h x (.tail _ hx)
theorem Cn{S B:Type}{M:Model}{A:Around}{Q:B->Shared->Prop}{E:Value->Shared->Prop}{s:Shared}{dv:Value}{c1 c2:Option (Array Value)->Bool}{e1 e2:Option (Array Value)->Sem B}{fill:Option (Array Value)->Sem S}{fin:S->Sem B}{acc:S}{b:B}(hd:DfltIs s.heap dv)
  (h1:∀ o,c1 o=false) (h2:∀ o,c2 o=false) (h3:∀ o,fill o=pure acc) (h4:fin acc=pure b) (hq:Q b s):wpAny M A (seqItems? dv>>=fun o=>if c1 o=true then e1 o else if c2 o=true then e2 o else fill o>>=fin) Q E s:=
 wpAny_bind (hd.items fun o=>by
  rw[h1,h2,h3]
  exact wpAny_bind (wpAny_pure (wpAny_of_eq h4 hq)))
theorem th{s:Shared}{fd:FuncData}{ps:List Arg}{kd:List (Option Expr)}{ds:List Expr}{vals:List Value}(hp:fd.params=⟨[],ps,none,[],kd,none,ds⟩)(nd:(ps.map (·.arg)).Nodup)(hD:DfltIs s.heap fd.defaults)
  (h1:vals.length=(ps.map (·.arg)).length):BindsTo s fd ⟨vals,[]⟩ ((ps.map (·.arg)).zip vals):=by
 intro M A E Q hq
 obtain⟨f1,f2,params,f4,f5,f6,f7,f8,f9,f10,f11,f12,f13,f14,f15⟩:=fd
 subst hp
 refine Cn (s:=s) hD (fun o=>?_) (fun o=>?_) (fun o=>Cm _ fun x hx=>?_) rfl ?_
 ·show(decide (vals.length>(ps.map (·.arg)).length)&&_)=false
  rw[decide_eq_false (by rw[h1];exact Nat.lt_irrefl _)];rfl
 ·show(!(List.filter (fun n=>(((ps.map (·.arg)).zip vals).lookup n).isNone) (List.take _ (ps.map (·.arg)))).isEmpty)=false
  rw[List.filter_eq_nil_iff.mpr fun x hx h=>Bool.noConfusion ((tf h1 (List.mem_of_mem_take hx)).symm.trans h)];rfl
 ·exact tf h1 (List.mem_of_mem_drop (List.of_mem_zip hx).1)
 ·show Q (List.filterMap _ (ps.map (·.arg)++[])) s
  rw[List.append_nil]
  exact(Ck nd h1).symm▸hq
end
section
open _root_.PySem.SeqAt
theorem ti{α:Type}{x y:α}{l:List α}(h:¬ x∈y::l):x≠y∧¬ x∈l:=⟨fun e=>h (e▸.head _),fun q=>h (.tail _ q)⟩
theorem oI{x y:Str}(h:x≠y):(x==y)=false:=beq_eq_false_iff_ne.mpr h
theorem lookup_miss{α:Type}{x:Str}{l:List (Str×α)}(h:x ∉ l.map (·.1)):l.lookup x=none:=by
 induction l with
 |nil=>rfl
 |cons p r ih=>
  obtain⟨h1,h2⟩:=ti h
  rw[List.lookup_cons,oI h1]
  exact ih h2
theorem tj{F:List (Str×Value)->(Str->Option Value)->Str->Option Value}{x:Str}(h0:∀ m,F [] m x=m x)(h1:∀ n v r m,∃ m',F ((n,v)::r) m x=F r m' x∧m' x=if x=n then some v else m x){l:List (Str×Value)}(nd:(l.map (·.1)).Nodup):∀ {m:Str->Option Value},F l m x=(l.lookup x).or (m x):=by
 induction l with
 |nil=>exact h0 _
 |cons p r ih=>
  intro m
  obtain⟨n1,n2⟩:=List.nodup_cons.mp nd
  obtain⟨m',e1,e2⟩:=h1 p.1 p.2 r m
  rw[e1,ih n2,e2,List.lookup_cons]
  by_cases e:x=p.1
  ·subst e
   rw[if_pos rfl,beq_self_eq_true,lookup_miss n1];rfl
  ·rw[if_neg e,oI e]
theorem Co{x n:Str}{v:Value}{m:Str->Option Value}{c:Prop}[Decidable c](h:x=n->c):(if c then fun y=>if y=n then some v else m y else m) x=if x=n then some v else m x:=by
 by_cases hc:c
 ·rw[if_pos hc]
 ·rw[if_neg hc,if_neg fun e=>hc (h e)]
theorem Cp{x n:Str}{v:Value}{m:Str->Option Value}{c:Prop}[Decidable c](h:x=n->¬ c):(if c then m else fun y=>if y=n then some v else m y) x=if x=n then some v else m x:=by
 by_cases hc:c
 ·rw[if_pos hc,if_neg fun e=>h e hc]
 ·rw[if_neg hc]
theorem Cr{k:Str->Option NameKind}{l:List (Str×Value)}{x:Str}(nd:(l.map (·.1)).Nodup)(hk:k x=some .local):bindL k l (fun _=>none) x=l.lookup x:=
 (tj (F:=bindL k) (fun _=>rfl) (fun n v r m=>⟨_,rfl,Co fun e=>e▸hk⟩) nd).trans (Option.or_none ..)
theorem Cs{k:Str->Option NameKind}{l:List (Str×Value)}{x:Str}(nd:(l.map (·.1)).Nodup)(hk:k x≠some .local):bindC k l (fun _=>none) x=l.lookup x:=
 (tj (F:=bindC k) (fun _=>rfl) (fun n v r m=>⟨_,rfl,Cp fun e=>e▸hk⟩) nd).trans (Option.or_none ..)
theorem oJ{x:Str}{r:List (Str×NameKind)}{n:Nat}{acc:List (Str×Addr)}:cellsFrom n ((x,NameKind.cell)::r) acc=cellsFrom (n+1) r ((x,n)::acc):=rfl
theorem oK{x:Str}{k:NameKind}{r:List (Str×NameKind)}{n:Nat}{acc:List (Str×Addr)}(hk:k≠.cell):cellsFrom n ((x,k)::r) acc=cellsFrom n r acc:=if_neg fun e=>hk (beq_iff_eq.mp e)
theorem tm{x:Str}{names:List (Str×NameKind)}(h:x ∉ names.map (·.1)):∀ {n:Nat} {acc:List (Str×Addr)},(cellsFrom n names acc).lookup x=acc.lookup x:=by
 induction names with
 |nil=>exact rfl
 |cons p r ih=>
  intro n acc
  obtain⟨y,k⟩:=p
  obtain⟨h1,h2⟩:=ti h
  by_cases hk:k=.cell
  ·rw[hk,oJ,ih h2,List.lookup_cons,oI h1]
  ·rw[oK hk,ih h2]
noncomputable abbrev i8 (c:Cx) (g:Gs):List (Str×V)->List (Str×Value)->Prop:=aC fun p q=>p.1=q.1∧VR c g p.2 q.2
theorem i8.lookup{c:Cx}{g:Gs}{b:List (Str×V)}{l:List (Str×Value)}(q:i8 c g b l)(x:Str):ct c g (b.lookup x) (l.lookup x):=
 aC.fold q ct.none fun p p' as bs a _ ih=>by
  rw[List.lookup_cons,List.lookup_cons,<-a.1]
  cases x==p.1 with
  |true=>exact .some a.2
  |false=>exact ih
theorem i8.zip{c:Cx}{g:Gs}{vs:List V}{rs:List Value}(q:ay c g vs rs):∀ names:List Str,i8 c g (names.zip vs) (names.zip rs):=
 aC.fold q (fun names=>by rw[List.zip_nil_right,List.zip_nil_right];exact .nil) fun v w as bs a _ ih names=>by
  cases names with
  |nil=>exact .nil
  |cons n r=>exact .cons ⟨rfl,a⟩ (ih r)
theorem Inv.Ct{c:Cx}{g:Gs}{H:Hp}{h:Heap}{a n:Addr}{o:O}(I:Inv c g H h)(F:ba c g H a)(ne:n≠a)(p:o.cU=false):ba c (g.lay (n,n)) (H++[o]) a:=by
 refine⟨fun z hz=>?_,F.2⟩
 rw[rh I,jK (n,n) p]at hz
 rcases List.mem_append.mp hz with hz |hz
 ·exact rj.all (Q:=(·≠a)) F.1 z hz
 ·rw[List.mem_singleton.mp hz];exact ne
theorem Cu{x:Str}{r:List (Str×NameKind)}{b:List (Str×V)}:dN ((x,.cell)::r) b=[O.cell (b.lookup x)]++dN r b:=rfl
theorem Cw{x:Str}{k:NameKind}{r:List (Str×NameKind)}{b:List (Str×V)}(hk:k≠.cell):dN ((x,k)::r) b=dN r b:=
 congrArg (List.map _) (List.filter_cons_of_neg fun e=>hk (beq_iff_eq.mp e))
theorem oL{x:Str}{k:NameKind}{r:List (Str×NameKind)}{b:List (Str×V)}{base:Nat}(hk:k≠.cell):∃ e,cX ((x,k)::r) b base=e::cX r b base∧(k=.local->e=b.lookup x):=by
 cases k with
 |cell=>exact absurd rfl hk
 | «local»=>exact⟨_,rfl,fun _=>rfl⟩
 |_=>exact⟨_,rfl,fun e=>NameKind.noConfusion e⟩
theorem Cy{c:Cx}{h:Heap}{b:List (Str×V)}{cm:Str->Option Value}{cs:List (Str×Addr)}(hcell:∀ x a,cs.lookup x=some a->h.IsCell a (cm x))(r:List (Str×NameKind)):
  ∀ (n:Nat) (acc:List (Str×Addr)) (g:Gs) (H:Hp),Inv c g H h->(r.map (·.1)).Nodup->(∀ x,(x,NameKind.cell)∈r->ct c g (b.lookup x) (cm x))->(∀ x∈r.map (·.1),(cellsFrom n r acc).lookup x=cs.lookup x)->(∀ a,n<=a->ba c g H a)->
   ∃ g',dW (Ext g g') (g'.m=g.m) (Inv c g' (H++dN r b) h) (∀ (i:Nat) (x:Str),r[i]? =some (x,NameKind.cell)->dm fun a y z=>bp ((cX r b H.length)[i]? =some (some (V.ref a))) (g'.ρ[a]? =some (y,z)) (cs.lookup x=some y)):=by
 induction r with
 |nil=>exact fun n acc g H I _ _ _ _=>⟨g,.refl g,rfl,(List.append_nil H).symm▸I,fun i x e=>ag e⟩
 |cons p r ih=>
  intro n acc g H I nd hb hcs hf
  obtain⟨x,k⟩:=p
  obtain⟨n1,n2⟩:=List.nodup_cons.mp nd
  by_cases hk:k=.cell
  ·subst hk
   have hx:cs.lookup x=some n:=by
    rw[<-hcs x (.head _),oJ,tm n1,List.lookup_cons,beq_self_eq_true]
   obtain⟨ob,ho,hd⟩:=hcell x n hx
   have I1:=I.gK (a:=n) (o:=.cell (b.lookup x)) (ob:=ob) (hf n (Nat.le_refl _)) rfl ho ⟨cm x,hd,(hb x (.head _)).mono (dc g _)⟩
   obtain⟨g',x1,x2,I2,x3⟩:=ih (n+1) ((x,n)::acc) (g.lay (n,n)) (H++[.cell (b.lookup x)]) I1 n2 (fun y hy=>(hb y (.tail _ hy)).mono (dc g _)) (fun y hy=>hcs y (.tail _ hy))
    fun a ha=>I.Ct (hf a (Nat.le_of_succ_le ha)) (Nat.ne_of_lt ha) rfl
   refine⟨g',(dc g _).trans x1,x2,by rw[Cu,<-List.append_assoc];exact I2,fun i y e=>?_⟩
   cases i with
   |zero=>
    have hl:(g.lay (n,n)).ρ[H.length]? =some (n,n):=I.len▸List.getElem?_concat_length
    exact⟨H.length,n,n,rfl,x1.at hl,(congrArg (fun p=>cs.lookup p.1) (Option.some.inj e)).symm.trans hx⟩
   |succ i=>
    obtain⟨a,u,z,w1,w2,w3⟩:=x3 i y e
    rw[List.length_append]at w1
    exact⟨a,u,z,w1,w2,w3⟩
  ·rw[oK hk]at hcs
   obtain⟨g',x1,x2,I2,x3⟩:=ih n acc g H I n2 (fun y hy=>hb y (.tail _ hy)) (fun y hy=>hcs y (.tail _ hy)) hf
   refine⟨g',x1,x2,by rw[Cw hk];exact I2,fun i y e=>?_⟩
   cases i with
   |zero=>exact absurd (congrArg Prod.snd (Option.some.inj e)) hk
   |succ i=>
    obtain⟨e',h1,_⟩:=oL (b:=b) (x:=x) (r:=r) (base:=H.length) hk
    rw[h1]
    exact x3 i y e
theorem Pd{x:Str}{r:List (Str×NameKind)}{b:List (Str×V)}{base:Nat}:cX ((x,.cell)::r) b base=some (.ref base)::cX r b (base+1):=rfl
theorem Cz{b:List (Str×V)}(names:List (Str×NameKind)):∀ {base:Nat},(cX names b base).length=names.length:=by
 induction names with
 |nil=>exact rfl
 |cons p r ih=>
  intro base
  obtain⟨x,k⟩:=p
  by_cases hk:k=.cell
  ·rw[hk];exact congrArg (·+1) ih
  ·obtain⟨e',h1,_⟩:=oL (b:=b) (x:=x) (r:=r) (base:=base) hk
   rw[h1];exact congrArg (·+1) ih
theorem CA{b:List (Str×V)}{x:Str}(names:List (Str×NameKind)):∀ {base i:Nat},names[i]? =some (x,NameKind.local)->(cX names b base)[i]? =some (b.lookup x):=by
 induction names with
 |nil=>exact fun e=>ag e
 |cons p r ih=>
  intro base i e
  obtain⟨y,k⟩:=p
  by_cases hk:k=.cell
  ·subst hk
   cases i with
   |zero=>exact NameKind.noConfusion (congrArg Prod.snd (Option.some.inj e))
   |succ i=>exact ih e
  ·obtain⟨e',h1,h2⟩:=oL (b:=b) (x:=y) (r:=r) (base:=base) hk
   rw[h1]
   cases i with
   |zero=>have z:=Option.some.inj e;exact congrArg some ((h2 (congrArg Prod.snd z)).trans (congrArg (fun p=>b.lookup p.1) z))
   |succ i=>exact ih e
end
section
open _root_.PySem.SeqAt
noncomputable def i9 (c:Cx) (mg:Str->Option Value) (a:Addr) (f:Fn):Prop:=
 iJ fun o fd ps kd ds=>kK (c.b₀.get? a=some o) (o.data=.func fd) (fd.scope.names=f.scope.names) (eY fd.scope=true) (∀ q∈f.scope.names,q.2≠.free) (fd.closure=[]) (fd.globals=mainGlobals) (kK (fd.builtins=builtinsNs) (c.b₀.CodeRec fd.code fd.qualname) (fd.body=.stmts f.body) (fd.params=⟨[],ps,none,[],kd,none,ds⟩) (ps.map (·.arg)=f.params) (f.params.Nodup) (DfltIs c.b₀ fd.defaults)
  (And (∀ x∈f.params,f.scope.names.lookup x=some .local∨f.scope.names.lookup x=some .cell) (f.scope.isGenerator=false->∃ cc T,fd.code=.ref cc∧CodeHd c.b₀ cc T∧(T,fd.qualname++".<locals>."++"<lambda>")∈c.Qs∧mainGlobals≠T∧c.b₀.BuiltinsAt mg T)))
noncomputable abbrev Am.of (c:Cx) (X:List (Addr×Obj)) (fs:List (Addr×(Str->Option Value))) (fr:List Env) (A:Around) (sc:Scope) (env:Env) (L:Addr) (d:Nat):Am:=
 {c:=c.at X fs L,sc:=sc,env:=env,A:=A,L:=L,cC:=env,outer:=fr,lv:=true,d:=d}
noncomputable abbrev Am.fn (m:Am) (m₀:Str->Option Value) (A:Around) (sc:Scope) (env:Env) (L:Addr) (d:Nat):Am:=
 {c:=m.c.at m.c.X ((m.c.N,m₀)::m.c.fs) L,sc:=sc,env:=env,A:=A,L:=L,cC:=env,outer:=m.cC::m.outer,lv:=true,d:=d}
structure fC(m:Am)(A:Around):Prop where
 frames:A.frames=some (m.cC::m.outer)
 de:A.handled=none
 eH:A.guards=some []
 dep:A.depth<=m.A.depth+2
 gi:A.units<=m.A.units+12
noncomputable def lY:Flow->Value
 | .ret v=>v
 |_=>.none
section
variable {m:Am} {g:Gs} {st:St} {P:aQ} {K:Frag} {mg mb:Str->Option Value}
theorem CB{names:List (Str×NameKind)}{x:Str}:∀ {n:Nat} {acc:List (Str×Addr)},(names.map (·.1)).Nodup->names.lookup x=some .cell->((cellsFrom n names acc).lookup x).isSome=true:=by
 induction names with
 |nil=>exact fun _ e=>ag e
 |cons p r ih=>
  intro n acc nd e
  obtain⟨y,k⟩:=p
  obtain⟨n1,n2⟩:=List.nodup_cons.mp nd
  rw[List.lookup_cons]at e
  cases q:x==y with
  |true=>
   rw[q]at e
   rw[show k=.cell from Option.some.inj e,oJ,tm (by rw[beq_iff_eq.mp q];exact n1),List.lookup_cons,q]
   rfl
  |false=>
   rw[q]at e
   by_cases hk:k=.cell
   ·rw[hk];exact ih n2 e
   ·rw[oK hk];exact ih n2 e
noncomputable def bodyOf (b:FuncBody) (env:Env):Code:=match b with
 | .stmts b=>.func b env
 | .expr e=>.expr e env
theorem CC(b:FuncBody)(env:Env):(bodyOf b env).quiet=true:=by cases b<;>rfl
noncomputable def tn (c:Value) (q0:Str) (jp:Str->Sem PySem.Fin):Sem PySem.Fin:=match c with
 | .none=>pure q0>>=jp
 |c=>field c 1>>=fun v=>match v with
  | .str q _=>pure q>>=jp
  |_=>pure q0>>=jp
noncomputable def CD (g c:Bool) (x y z w:Sem PySem.Fin):Sem PySem.Fin:=match g,c with
 |false,false=>x
 |true,false=>y
 |false,true=>z
 |true,true=>w
theorem CE(a:Addr)(fd:FuncData)(args:Args):∃ X Y Z:Env->Sem PySem.Fin,callFunction a fd args=tn fd.code fd.qualname fun q=>bindArgs fd args>>=fun bs=>newFunctionEnv fd.scope fd.globals fd.closure bs (q++".<locals>.") (some a) fd.code none fd.builtins>>=fun env=>enterFrame>>=fun _=>CD fd.scope.isGenerator fd.scope.isCoroutine (again (bodyOf fd.body env)) (X env) (Y env) (Z env):=
 ⟨_,_,_,rfl⟩
theorem CF{M:Model}{A:Around}{s:Shared}{c:Value}{q0:Str}{jp:Str->Sem PySem.Fin}{Q:PySem.Fin->Shared->Prop}{E:Value->Shared->Prop}(hcd:s.heap.CodeRec c q0)(h:aq M A (jp q0) Q E s):aq M A (tn c q0 jp) Q E s:=by
 obtain⟨cc,o',vsc,tq,rfl,hoc,hdc,hq⟩:=hcd
 exact aG (bz (wpAny_field hoc hdc hq (aG (aM h))))
theorem CG{M:Model}{A:Around}{s:Shared}{a:Addr}{o:Obj}{fd:FuncData}{args:Args}{Q:PySem.Fin->Shared->Prop}{E:Value->Shared->Prop}(h1:s.heap.get? a=some o)(h2:o.data=.func fd)(h:aq M A (callFunction a fd args) Q E s):aq M A (callAny (.ref a) args) Q E s:=by
 obtain⟨oc,od,data,sl⟩:=o
 have h2:data=.func fd:=h2
 subst h2
 show aq M A (load a>>=_) _ _ s
 exact ax (wpAny_load h1 h)
theorem tr{prog:Program}{w:World}{A:Around}{a:Addr}{o:Obj}{fd:FuncData}{rs:List Value}{bs:List (Str×Value)}{Rr:Result->Shared->Prop}{s:Shared}(h1:s.heap.get? a=some o)(h2:o.data=.func fd)(s2:fd.scope.isGenerator=false)(s3:fd.scope.isCoroutine=false)
  (hcd:s.heap.CodeRec fd.code fd.qualname) (B:BindsTo s fd ⟨rs,[]⟩ bs) (hdep:A.depth<recursionLimit)
  (h:wpAny (model prog w) A.in1 (newFunctionEnv fd.scope fd.globals fd.closure bs (fd.qualname++".<locals>.") (some a) fd.code none fd.builtins) (fun env s'=>s'.heap.NoLimit∧codeN (model prog w) A (bodyOf fd.body env) Rr s') (fun e s'=>Rr (.error e) s') s):
  codeN (model prog w) A (.call (.ref a) ⟨rs,[]⟩) Rr s:=by
 refine dy (CG (A:=A.in1) h1 h2 ?_)
 obtain⟨X,Y,Z,e⟩:=CE a fd ⟨rs,[]⟩
 rw[e,s2,s3]
 exact CF hcd (ax (B _ _ _ _ (ax (wpAny_mono h (fun env s' z=>ax (wpAny_enterFrame z.1 hdep (aM ⟨CC fd.body env,z.2⟩))) fun _ _ z=>z))))
theorem tu{c:Cx}{X:List (Addr×Obj)}{fs:List (Addr×(Str->Option Value))}{fr:List Env}{A:Around}{sc fsc:Scope}{cl:List (Str×Addr)}{qual:Str}{self:Option Addr}{code:Value}{L:Addr}{d:Nat}{env:Env}(he:env=newEnv fsc L mainGlobals cl qual self code none builtinsNs)
  (e:fsc.names=sc.names) (hs:eY fsc=true) (hfr:A.frames=some fr) (hhd:A.handled=none) (hgr:A.guards=some []) (hdp:A.depth+1+4*(d+1)<recursionLimit) (hun:A.units+3+24*(d+1)<cLine)
  (hfk:∀ e∈fr,e.scope.kind=.function∧∃ a,e.frame=some a∧a∈fs.map (·.1)):bu (Am.of c X fs fr (A.deeper env) sc env L d):=by
 subst he
 obtain⟨s1,s2,s3,s4,s5⟩:=jU hs
 have eK:∀ {y:Str} {k:NameKind},sc.names.lookup y=some k->fsc.names.lookup y=some k:=fun h=>(congrArg _ e).trans h
 refine⟨⟨s1,fun y h=>eK h,fun y h=>h.imp eK eK,fun y h=>eK h,rfl,rfl,rfl,e▸s4,e▸s5⟩,?_,rfl,rfl,fun e he'=>?_,hdp,hun,fun _=>hhd,hgr⟩
 ·show A.frames.map _=_;rw[hfr];rfl
 ·rcases List.mem_cons.mp he' with rfl |he'
  ·exact⟨s1,L,rfl,.head _⟩
  ·obtain⟨q1,a',q2,q3⟩:=hfk e he'
   exact⟨q1,a',q2,.tail _ q3⟩
theorem CH{xs:List Str}:∀ {ys:List Value},xs.Nodup->((xs.zip ys).map (·.1)).Nodup:=by
 induction xs with
 |nil=>exact fun _=>List.nodup_nil
 |cons x xs ih=>
  intro ys nd
  obtain⟨n1,n2⟩:=List.nodup_cons.mp nd
  cases ys with
  |nil=>exact List.nodup_nil
  |cons y ys=>
   refine List.nodup_cons.mpr ⟨fun hm=>?_,ih n2⟩
   obtain⟨z,hz,e⟩:=List.mem_map.mp hm
   exact n1 ((show z.1=x from e)▸(List.of_mem_zip hz).1)
theorem CI{f:Fn}{args:List V}{b:List (Str×V)}(h:binds f args=some b):args.length=f.params.length∧b=f.params.zip args:=by
 unfold binds at h
 by_cases e:args.length=f.params.length
 ·rw[if_pos e]at h;exact⟨e,(Option.some.inj h).symm⟩
 ·rw[if_neg e]at h;exact ag h
theorem CJ{c:Cx}{X:List (Addr×Obj)}{fs:List (Addr×(Str->Option Value))}{fr:List Env}{H:Hp}{f:Fn}{d:Nat}{A:Around}{L:Addr}{h₁:Heap}{b:List (Str×V)}{bs:List (Str×Value)}{env:Env}{fsc:Scope}(h3:fsc.names=f.scope.names)(s4:(fsc.names.map (·.1)).Nodup)(h5:∀ q∈f.scope.names,q.2≠.free)
  (eK:∀ y,env.kindOf y=fsc.names.lookup y) (eC:env.cells=cellsFrom (L+1) fsc.names []) (rb:i8 c g b bs) (nd:(bs.map (·.1)).Nodup) (hcell:∀ y c',env.cells.lookup y=some c'->h₁.IsCell c' (bindC env.kindOf bs (fun _=>none) y))
  (I:Inv (c.at X fs L) {g with m:=bindL env.kindOf bs fun _=>none} H h₁) (hF:∀ a,L+1<=a->ba (c.at X fs L) {g with m:=bindL env.kindOf bs fun _=>none} H a):
  ∃ g',Ext g g'∧Rel (Am.of c X fs fr A f.scope env L d) g' ⟨cX f.scope.names b H.length,H++dN f.scope.names b⟩ h₁:=by
 have xs:Ext g {g with m:=bindL env.kindOf bs fun _=>none}:=⟨List.prefix_rfl,fun _ h=>h⟩
 rw[h3]at eK eC s4
 have kd {i:Nat} {y:Str} {k:NameKind} (hi:f.scope.names[i]? =some (y,k)):env.kindOf y=some k:=(eK y).trans (lookup_at s4 hi)
 obtain⟨g',xg,em,I₂,hcel⟩:=Cy (c:=c.at X fs L) (b:=b) hcell f.scope.names (L+1) [] _ H I s4 (fun y hy=>by
   obtain⟨i,hi⟩:=List.getElem?_of_mem hy
   rw[Cs nd (by rw[kd hi];exact fun z=>NameKind.noConfusion (Option.some.inj z))]
   exact(rb.lookup y).mono xs) (fun y _=>by rw[eC]) hF
 refine⟨g',xs.trans xg,I₂,Cz _,fun i y v e e'=>?_,fun i y k e hk=>?_⟩
 ·rw[CA _ e]at e'
  rw[<-Option.some.inj e',em]
  show ct _ g' (b.lookup y) (bindL env.kindOf bs (fun _=>none) y)
  rw[Cr nd (kd e)]
  exact(rb.lookup y).mono (xs.trans xg)
 ·rcases hk with rfl |rfl
  ·obtain⟨a,y,z,q1,q2,q3⟩:=hcel i y e
   exact⟨a,y,z,q1,q2,q3⟩
  ·exact absurd rfl (h5 _ (List.mem_of_getElem? e))
theorem tv{c:Cx}{X:List (Addr×Obj)}{fs:List (Addr×(Str->Option Value))}{fr:List Env}{H:Hp}(PK:cD c P K mg mb)(sys:∃ o,c.b₀.get? sysModules=some o)(qs:∀ q∈P.tabs,q∈c.Qs){a:Addr}{f:Fn}(F:i9 c mg a f){d:Nat}{A:Around}
  (hfr:A.frames=some fr) (hhd:A.handled=none) (hgr:A.guards=some []) (hdp:A.depth+1+4*(d+1)<recursionLimit) (hun:A.units+3+24*(d+1)<cLine) (hfk:∀ e∈fr,e.scope.kind=.function∧∃ a,e.frame=some a∧a∈fs.map (·.1))
  {args:List V} {rs:List Value} {b:List (Str×V)} (hb:binds f args=some b) {s:Shared} (keepb:∀ b o,c.b₀.get? b=some o->s.heap.get? b=some o) (va:ay c g args rs)
  (hI:∀ m' h',(∀ b o,s.heap.get? b=some o->h'.get? b=some o)->h'.Ns s.heap.objs.size m'->Inv (c.at X fs s.heap.objs.size) {g with m:=m'} H h')
  (hF:∀ m' a,s.heap.objs.size+1<=a->ba (c.at X fs s.heap.objs.size) {g with m:=m'} H a)
  {Rr:Result->Shared->Prop}
  (k:∀ env g' h' tk,aA (Am.of c X fs fr (A.deeper env) f.scope env s.heap.objs.size d) P K mg mb->Ext g g'->(∀ b o,s.heap.get? b=some o->h'.get? b=some o)->
   Rel (Am.of c X fs fr (A.deeper env) f.scope env s.heap.objs.size d) g' ⟨cX f.scope.names b H.length,H++dN f.scope.names b⟩ h'->
   aq (model c.prog c.w) (A.deeper env) (execs f.body env) (fun fl s₂=>Rr (.ok (.ret (lY fl))) s₂) (fun e s₂=>aq (model c.prog c.w) (A.deeper env) (leaving env e) (fun _ s₃=>Rr (.error e) s₃) (fun e' s₃=>Rr (.error e') s₃) s₂) {s with heap:=h',toks:=tk}):
  codeN (model c.prog c.w) A (.call (.ref a) ⟨rs,[]⟩) Rr s:=by
 obtain⟨o,fd,ps,kd,ds,h1,h2,h3,h4,h5,h6,h7,h8,h9,h10,h11,h12,h13,h14,h17,h18⟩:=F
 obtain⟨s1,s2,s3,s4,s5⟩:=jU h4
 obtain⟨b1,rfl⟩:=CI hb
 have lR:rs.length=f.params.length:=(ay.length va).symm.trans b1
 have hD:DfltIs s.heap fd.defaults:=h14.imp id fun⟨T,o,xs,n,e1,e2,e3⟩=>⟨T,o,xs,n,e1,keepb _ _ e2,e3⟩
 have B:=th (s:=s) (vals:=rs) h11 (h12▸h13) hD (h12▸lR)
 rw[h12]at B
 have nd:((f.params.zip rs).map (·.1)).Nodup:=CH h13
 refine tr (keepb _ _ h1) h2 s2 s3 (h9.keeps keepb) B (Nat.lt_of_le_of_lt (Nat.le_trans (Nat.le_add_right _ 1) (Nat.le_add_right _ _)) hdp) ?_
 rw[h6,h10]
 refine wpAny_newFunctionEnv_cells s1 (fun x hx=>(h17 x.1 (List.of_mem_zip hx).1).imp (fun q=>h3▸q) fun q=>⟨h3▸q,CB s4 (h3▸q)⟩) fun env he s' x=>?_
 rw[h7,h8]at he
 have x0:=x.toInCall
 obtain⟨h₁,tk₁,rfl⟩:=x0.same
 have hk₁:∀ b o,s.heap.get? b=some o->h₁.get? b=some o:=x0.keep
 refine⟨(PK.lim.keeps keepb).keeps hk₁,dy ?_⟩
 show aq _ (A.deeper env) (point>>=fun _=>(execs f.body env).onRaise (leaving env)>>=_) _ _ _
 have eL:env.locals=s.heap.objs.size:=he▸rfl
 obtain⟨g',xg,Rf⟩:=CJ (fr:=fr) (A:=A.deeper env) (d:=d) h3 s4 h5 (fun y=>he▸rfl) (he▸rfl) (i8.zip va f.params) nd x.cell (hI _ h₁ hk₁ (eL▸x0.ns)) (fun a ha=>hF _ a ha)
 have Gf:aA (Am.of c X fs fr (A.deeper env) f.scope env s.heap.objs.size d) P K mg mb:=by
  refine⟨tu he h3 h4 hfr hhd hgr hdp hun hfk,PK.at,sys,qs,fun hgen=>?_⟩
  obtain⟨cc',T,l1,l⟩:=h18 hgen
  exact⟨cc',T,(he▸rfl:env.code=fd.code).trans l1,(he▸rfl:env.qual=fd.qualname++".<locals>.")▸l⟩
 refine qi (aG (eT (dU (k env g' h₁ tk₁ Gf xg hk₁ Rf) (fun fl s₂ h=>?_) fun _ _ h=>h)))
 cases fl<;>exact aM h
theorem tw{c:Cx}{H:Hp}{h:Heap}(I:Inv c g H h):c.b₀.objs.size<=h.objs.size:=by
 obtain⟨ob,q,_⟩:=I.sat (c.N,bE g.m) (.head _)
 exact Nat.le_of_lt (Nat.lt_of_le_of_lt I.above (Heap.lt_size q))
theorem fC.oM{A:Around}(HA:fC m A)(O:bu m){d:Nat}(hd:m.d=d+1):A.depth+1+4*(d+1)<recursionLimit:=by
 have:=HA.dep;have:=O.dep;rw[hd]at this;lia
theorem fC.tx{A:Around}(HA:fC m A)(O:bu m){d:Nat}(hd:m.d=d+1):A.units+3+24*(d+1)<cLine:=by
 have:=HA.gi;have:=O.gi;rw[hd]at this;lia
theorem tA(G:aA m P K mg mb){a:Addr}{f:Fn}(F:i9 m.c mg a f){d:Nat}(hd:m.d=d+1){A:Around}(HA:fC m A){args:List V}{rs:List Value}{b:List (Str×V)}(hb:binds f args=some b){s:Shared}(R:Rel m g st s.heap)(va:m.ay g args rs)
  {Rr:Result->Shared->Prop}
  (k:∀ env L g' h' tk,aA (m.fn g.m (A.deeper env) f.scope env L d) P K mg mb->Ext g g'->(∀ b o,s.heap.get? b=some o->h'.get? b=some o)->s.heap.get? L=none->
   Rel (m.fn g.m (A.deeper env) f.scope env L d) g' ⟨cX f.scope.names b st.H.length,st.H++dN f.scope.names b⟩ h'->
   aq (model m.c.prog m.c.w) (A.deeper env) (execs f.body env) (fun fl s₂=>Rr (.ok (.ret (lY fl))) s₂) (fun e s₂=>aq (model m.c.prog m.c.w) (A.deeper env) (leaving env e) (fun _ s₃=>Rr (.error e) s₃) (fun e' s₃=>Rr (.error e') s₃) s₂) {s with heap:=h',toks:=tk}):
  codeN (model m.c.prog m.c.w) A (.call (.ref a) ⟨rs,[]⟩) Rr s:=by
 refine tv (c:=m.c) (X:=m.c.X) (fs:=(m.c.N,g.m)::m.c.fs) (fr:=m.cC::m.outer) (H:=st.H) G.PK G.sys G.qs F HA.frames HA.de HA.eH (d:=d) (HA.oM G.O hd) (HA.tx G.O hd) G.O.fk hb R.inv.base va (fun m' h' hk hns=>Inv.enter (L:=s.heap.objs.size) R.inv (dq _) hk hns (tw R.inv)) (fun m' a ha=>?_)
  fun env g' h' tk Gf x0 hk Rf=>k env s.heap.objs.size g' h' tk Gf x0 hk (dq _) Rf
 have F:=R.inv.free (ic (h:=s.heap) (a:=a) (Nat.le_of_succ_le ha))
 refine⟨fun z hz=>?_,F.2⟩
 rw[lM]at hz
 rcases List.mem_cons.mp hz with rfl |hz
 ·exact Nat.ne_of_lt ha
 ·exact F.1 z hz
end
end
section
open _root_.PySem.SeqAt
section
variable {c:Cx} {g:Gs} {H:Hp} {h:Heap} {L:Addr} {m₀:Str->Option Value}
theorem ba.leave{a:Addr}(F:ba (c.at c.X ((c.N,m₀)::c.fs) L) g H a):ba c {g with m:=m₀} H a:=
 ⟨fun x hx=>F.1 x ((lM (c:=c) (g:={g with m:=m₀}) (m':=g.m) (L:=L) (H:=H))▸.tail _ hx),F.2⟩
theorem dr.leave{e k:Addr}{fl:Option Value}(X:dr (c.at c.X ((c.N,m₀)::c.fs) L) g H h e k fl):dr c {g with m:=m₀} H h e k fl:=by
 obtain⟨oe,vs,a0,I,h⟩:=X
 refine⟨oe,vs,a0,⟨I.free.leave,I.get,I.cls,I.data,I.zero⟩,?_⟩
 cases fl with
 |none=>exact h
 |some v=>
  obtain⟨T,oT,ts,J⟩:=h
  exact⟨T,oT,ts,J.one,J.free.leave,J.ne,J.get,J.data,J.three⟩
end
section
variable {m:Am} {g g':Gs} {st st':St} {P:aQ} {K:Frag} {mg mb:Str->Option Value}
theorem Rel.leave{A:Around}{sc:Scope}{env:Env}{L:Addr}{d:Nat}{h h':Heap}(R:Rel m g st h)(R':Rel (m.fn g.m A sc env L d) g' st' h')(x:Ext g g'):Rel m {g' with m:=g.m} {lo:=st.lo,H:=st'.H} h':=
 ⟨Inv.exit (c:=m.c) R'.inv R.inv.above,R.loc.mono ⟨x.ρ,x.cd⟩ rfl⟩
theorem tB{A:Around}{sc:Scope}{env:Env}{L:Addr}{d:Nat}{v:V}{r:Value}{m₀:Str->Option Value}(q:(m.fn m₀ A sc env L d).VR g' v r):m.VR {g' with m:=m₀} v r:=VR.mono (g:=g') (g':={g' with m:=m₀}) ⟨List.prefix_rfl,fun _ h=>h⟩ q
noncomputable def lZ:Fl->V
 | .next=>.none
 | .ret v=>v
noncomputable def i' {α:Type} (f:α->V) (lo:List (Option V)):R α->R V
 | .ok r s=>.ok (f r) {s with lo:=lo}
 | .exc k s=>.exc k {s with lo:=lo}
 | .no=>.no
theorem tC{α β:Type}{t:Sem β}{r:Lite.R α}{rel:Gs->α->β->Prop}{f:α->V}{fb:β->Value}{A:Around}{sc:Scope}{env:Env}{L:Addr}{d:Nat}{st₁:St}{g₁:Gs}{h h₁:Heap}(hn:Np (m.fn g.m A sc env L d) g₁ st₁ t r rel)(O:bu (m.fn g.m A sc env L d))(R:Rel m g st h)(x:Ext g g₁)(R₁:Rel (m.fn g.m A sc env L d) g₁ st₁ h₁)
  (hr:∀ g' a b,rel g' a b->m.VR {g' with m:=g.m} (f a) (fb b)) {s:Shared} {tk:Tok} {Q E:Value->Shared->Prop} (Pp:bI m g (i' f st.lo r) m.VR Q E s):
  aq (model m.c.prog m.c.w) A t (fun b s₂=>Q (fb b) s₂) (fun e s₂=>aq (model m.c.prog m.c.w) A (leaving env e) (fun _ s₃=>E e s₃) (fun e' s₃=>E e' s₃) s₂) {s with heap:=h₁,toks:=tk}:=by
 have xe (g₂:Gs) (x₂:Ext g₁ g₂):Ext g {g₂ with m:=g.m}:=⟨(x.trans x₂).ρ,(x.trans x₂).cd⟩
 refine hn.use (s:={s with heap:=h₁,toks:=tk}) R₁ (fun a st₂ e2 g₂ h₂ tk₂ b x₂ R₂ q₂=>?_) (fun k st₂ e2 g₂ h₂ tk₂ e x₂ R₂ X=>?_) fun e2=>?_
 ·rw[e2]at Pp
  exact Pp _ h₂ tk₂ _ (xe g₂ x₂) (R.leave R₂ (x.trans x₂)) (hr g₂ a b q₂)
 ·rw[e2]at Pp
  refine bz (wpAny_bind (n9 (s:={s with heap:=h₂,toks:=tk₂}) O rfl R₂ X fun h₃ R₃ X₃=>?_))
  exact lN (s:={s with heap:=h₃,toks:=tk₂}) (fr:=none) R₃ X₃ fun h₄ R₄ X₄=>Pp {g₂ with m:=g.m} h₄ tk₂ e (xe g₂ x₂) (R.leave R₄ (x.trans x₂)) ⟨some .none,.inr (.inl rfl),X₄.leave⟩
 ·rw[e2]at Pp;exact Pp.elim
theorem CK(G:aA m P K mg mb){a:Addr}{f:Fn}(F:i9 m.c mg a f){d:Nat}(hd:m.d=d+1){A:Around}(HA:fC m A){args:List V}{rs:List Value}{b:List (Str×V)}(hb:binds f args=some b){s:Shared}(R:Rel m g st s.heap)(va:m.ay g args rs){body:M Fl}
  (hbody:∀ m',aA m' P K mg mb->m'.d=d->m'.lv=true->m'.sc=f.scope->m'.env=m'.cC->∀ g st,Np m' g st (execs f.body m'.env) (body st) (aP m')) {Q:Value->Shared->Prop} {E:Value->Shared->Prop}
  (Pp:bI m g (i' lZ st.lo (body ⟨cX f.scope.names b st.H.length,st.H++dN f.scope.names b⟩)) m.VR Q E s):
  codeN (model m.c.prog m.c.w) A (.call (.ref a) ⟨rs,[]⟩) (fun r s'=>match r with | .ok (.ret v)=>Q v s' | .ok _=>False | .error e=>E e s') s:=by
 refine tA G F hd HA hb R va fun env L g' h' tk Gf x0 hk hL Rf=>?_
 exact tC (fb:=lY) (hbody _ Gf rfl rfl rfl rfl g' _) Gf.O R x0 Rf (fun g₂ a b q=>by
  cases a with
  |next=>rw[show b=.next from q];exact VR.none
  |ret v=>obtain⟨r,rfl,hv⟩:=q;exact tB hv) Pp
end
end
section
open _root_.PySem.SeqAt
section
variable {m:Am} {g g':Gs} {st st':St} {P:aQ} {K:Frag} {mg mb:Str->Option Value}
theorem code_at{h:Heap}{H:Hp}(I:Inv m.c g H h){c':Addr}{oc:Obj}(hm:(c',oc)∈g.cd):h.get? c'=some oc:=by
 obtain⟨o',q1,q2⟩:=I.sat (c',(·=oc)) (.tail _ (List.mem_append_left _ (List.mem_append_right _ (List.mem_map_of_mem (f:=fun p:Addr×Obj=>((p.1,(·=p.2)):Cell)) hm))))
 exact q1.trans (congrArg some q2)
theorem CL(G:aA m P K mg mb){a:Nat}{e:Expr}{sc:Scope}{lo:List (Option V)}{rf:Value}{d:Nat}(hd:m.d=d+1){A:Around}(HA:fC m A){s:Shared}(R:Rel m g st s.heap)(vf:m.VR g (.ref a) rf)(ho:st.H[a]? =some (.cQ e sc lo)){body:M V}
  (hbody:∀ m',aA m' P K mg mb->m'.d=d->m'.lv=true->m'.sc=mark sc->m'.env=m'.cC->∀ g st,Np m' g st (eval e m'.env) (body st) m'.VR) {Q:Value->Shared->Prop} {E:Value->Shared->Prop}
  (Pp:bI m g (i' id st.lo (body ⟨lo,st.H⟩)) m.VR Q E s):
  codeN (model m.c.prog m.c.w) A (.call rf ⟨[],[]⟩) (fun r s'=>match r with | .ok (.ret v)=>Q v s' | .ok _=>False | .error e=>E e s') s:=by
 obtain⟨x,y,rfl,hp⟩:=vf
 obtain⟨ob,hob,⟨qual,cl,pm,c',gf,oc,vs,tq⟩,rfl,hcd,hdc,hq,hlen,hsc,hnames⟩:=R.inv.obj hp ho
 obtain⟨s1,s2,s3,s4,s5⟩:=jU hsc
 have B:=th (s:=s) (fd:=kla_fn "<lambda>" qual ⟨[],[],none,[],[],none,[]⟩ e sc cl pm (.ref c') gf) (vals:=[]) rfl List.nodup_nil (.inl rfl) rfl
 have oF:∀ q∈sc.names,q.2≠.cell:=fun q hq z=>by
  obtain⟨i,hi⟩:=List.getElem?_of_mem hq
  rcases hnames i q.1 q.2 hi with h | ⟨h,_⟩<;>exact NameKind.noConfusion (z.symm.trans h)
 refine tr hob rfl s2 s3 ⟨c',oc,vs,tq,rfl,code_at R.inv hcd,hdc,hq⟩ B (Nat.lt_of_le_of_lt (Nat.le_trans (Nat.le_add_right _ 1) (Nat.le_add_right _ _)) (HA.oM G.O hd)) (wpAny_newFunctionEnv oF (fun z hz=>nomatch hz) (fun h₁ hns hsb=>?_) s1)
 have hk₁:∀ b o,s.heap.get? b=some o->h₁.get? b=some o:=fun b o e=>hsb.extBut b o (Nat.ne_of_lt (Heap.lt_size e)) (Heap.get?_push_of_some _ e)
 refine⟨(G.PK.lim.keeps R.inv.base).keeps hk₁,dy ?_⟩
 generalize he:newEnv sc s.heap.objs.size mainGlobals cl (qual++".<locals>.") (some x) (.ref c') none builtinsNs=env
 show aq _ (A.deeper env) (point>>=fun _=>(eval e env).onRaise (leaving env)>>=fun v=>ret v) _ _ _
 have O:bu (m.fn g.m (A.deeper env) (mark sc) env s.heap.objs.size d):=tu he.symm rfl hsc HA.frames HA.de HA.eH (HA.oM G.O hd) (HA.tx G.O hd) G.O.fk
 have Rf:Rel (m.fn g.m (A.deeper env) (mark sc) env s.heap.objs.size d) g.bare ⟨lo,st.H⟩ h₁:=by
  refine⟨Inv.enter (L:=s.heap.objs.size) R.inv (dq _) hk₁ hns (tw R.inv),hlen,fun i y' v e e'=>?_,fun i y' k e hk=>?_⟩
  ·rcases hnames i y' _ e with h | ⟨h,_⟩<;>exact NameKind.noConfusion h
  ·rcases hnames i y' k e with h | ⟨h,b1,b2,b3,b4,b5,b6⟩
   ·rcases hk with z |z<;>exact NameKind.noConfusion (z.symm.trans h)
   ·exact⟨b1,b2,b3,b4,b5,(he▸rfl:env.cells=cl)▸b6⟩
 exact qi (aG (eT (dU (tC (f:=id) (fb:=id) (hbody _ ⟨O,G.PK.at,G.sys,G.qs,fun h=>nomatch h⟩ rfl rfl rfl rfl g.bare ⟨lo,st.H⟩) O R ⟨List.prefix_rfl,fun _ h=>h⟩ Rf (fun _ _ _ q=>tB q) Pp) (fun v s₂ h=>aM h) fun _ _ h=>h)))
end
end
section
open _root_.PySem.SeqAt
section
variable {prog:Program} {w:World} {A:Around} {E:Value->Shared->Prop} {s:Shared}
noncomputable abbrev mk (A:Around) (C:Addr) (rest:List Value):Around:=A.under (.builtin "type.__call__" ⟨.ref C::rest,[]⟩)
structure Made(M:Model)(h:Heap)(C:Addr)(newId:String):Prop where
 obj:∃ oc od cd sl,h.get? C=some ⟨oc,od,.cls cd,sl⟩
 mro:∃ c l,Looks M h (mroOf (.ref C)) (c::l)
 made:Looks M h (Bind.madeBy (.ref C)) (some newId)
 call:Looks M h (specialOf (.ref C) "__call__") (some (.builtin "type.__call__"))
 typ:Looks M h (isInstance (.ref C) (.type "type")) true
theorem CM{newId:String}{C:Addr}{rest:List Value}{R:Result->Shared->Prop}(Y:Made (model prog w) s.heap C newId)
  (h:aq (model prog w) (mk A C rest) (Builtin.«type.__call__» ⟨.ref C::rest,[]⟩) (fun fin s'=>match fin with | .done f=>R (.ok f) s' | .again c'=>c'.quiet=true∧codeN (model prog w) A c' R s') (fun e s'=>R (.error e) s') s):
  codeN (model prog w) A (.call (.ref C) ⟨rest,[]⟩) R s:=by
 obtain⟨⟨oc,od,cd,sl,hC⟩,hmro,made,call,typ⟩:=Y
 refine dy ?_
 show aq _ A.in1 (callAny (.ref C) ⟨rest,[]⟩) _ _ _
 show aq _ A.in1 (load C>>=_) _ _ _
 refine ax (wpAny_load hC ?_)
 show aq _ _ (callAny.viaDunder (.ref C) _) _ _ _
 unfold callAny.viaDunder
 refine ax (call.here ?_)
 dsimp only
 rw[tc_bind]
 refine aG (aM (aG (aM ?_)))
 refine aM (a:=Fin.again (.call (.builtin "type.__call__") ⟨.ref C::rest,[]⟩)) (And.intro rfl (dy ?_))
 show aq _ A.in1 (do checkBuiltinCall "type.__call__" _;again (.builtin "type.__call__" _)) _ _ _
 refine aG (bz (check_slot tc_kind tc_split typ (tc_args _ _ _) (aM ⟨Code.quiet_builtin _ (by decide+kernel),mD entry_typeCall (by decide+kernel) h⟩)))
theorem tD{newId:String}{C:Addr}{rest:List Value}{Q:Value->Shared->Prop}(Y:Made (model prog w) s.heap C newId)
  (hnew:wpAny (model prog w) (mk A C rest) (PySem.call (.builtin newId) (.ref C::rest)) (fun obj s₁=>∃ x init,obj=.ref x∧Looks (model prog w) s₁.heap (isInstance (.ref x) (.ref C)) true∧Looks (model prog w) s₁.heap (specialOf (.ref x) "__init__") (some init)∧
   Looks (model prog w) s₁.heap (bindSpecial init (.ref x)) (init,[.ref x])∧aq (model prog w) (mk A C rest) (PySem.call init (.ref x::rest)) (fun r s₂=>r=.none∧Q (.ref x) s₂) E s₁) E s):
  codeN (model prog w) A (.call (.ref C) ⟨rest,[]⟩) (fun r s'=>match r with | .ok (.ret v)=>Q v s' | .ok _=>False | .error e=>E e s') s:=by
 refine CM Y ?_
 obtain⟨-,⟨c,l,hmro⟩,made, -, -⟩:=Y
 unfold Builtin.«type.__call__»
 dsimp only
 refine cH rfl ?_
 refine ax (hmro.here ?_)
 refine cH rfl ?_
 refine ax (made.here ?_)
 dsimp only
 refine aG (aM ?_)
 refine aG (bQ (bz (wpAny_mono hnew (fun obj s₁ h₁=>?_) fun _ _ e=>e)))
 obtain⟨x,init,rfl,i1,i2,i3,h₁⟩:=h₁
 refine ax (i1.here ?_)
 refine cH rfl ?_
 refine aG (bQ ?_)
 unfold callSpecial?
 refine ax (i2.here ?_)
 dsimp only
 refine bQ (ax (i3.here ?_))
 refine aG (dU h₁ (fun r s₂ h₂=>?_) fun _ _ e=>e)
 obtain⟨rfl,h₂⟩:=h₂
 refine aM ?_
 dsimp only
 refine cH rfl ?_
 exact aM h₂
end
end
section
open _root_.PySem.SeqAt
section
variable {m:Am} {g:Gs} {st:St} {α:Type} {P:aQ} {K:Frag} {mg mb:Str->Option Value} {ev:Expr->M V}
theorem CN(G:aA m P K mg mb)(x:Str):Np m g st (loadName m.env x) (name P m.sc x st) m.VR:=(yj G.PK.glob G.O x).np
theorem gu{ex:Stmt->M Fl}(H:∀ s,cF m (exec s m.env) (ex s) (aP m))(ss:List Stmt):∀ (g:Gs) (st:St),Np m g st (execs ss m.env) (bC ex ss st) (aP m):=by
 induction ss with
 |nil=>exact fun g st=>Np.pure .next
 |cons s ss ih=>
  intro g st
  rw[arm_execs_cons]
  refine Np.bind (H s g st) fun fl st₁ g₁ fl' e1 x q=>?_
  cases fl with
  |next=>rw[show fl'=.next from q];exact ih g₁ st₁
  |ret v=>obtain⟨r,rfl,hv⟩:=q;exact Np.pure (.ret hv)
theorem tE(O:bu m):interactive m.env=false:=by
 unfold interactive
 rw[O.env.kind]
 rfl
theorem oN{line:Nat}{env:Env}(t:Option Expr)(v:Expr):jF v=true->swapsWith v t line env=pure false:=
 Expr.casesOn (motive_1:=fun v=>jF v=true->swapsWith v t line env=pure false) v (fun _ _ _ _=>rfl) (fun _ _ _ _=>rfl) (fun _ _ _ _ _=>rfl) (fun _ _ _ _=>rfl) (fun _ _ _ _ _=>rfl) (fun _ _ _ _ _=>rfl) (fun _ _ _ _=>rfl) (fun _ _ _ _=>rfl) (fun _ _ _ _ h=>Bool.noConfusion h) (fun _ _ _ _ h=>Bool.noConfusion h) (fun _ _ _ _ _ h=>Bool.noConfusion h) (fun _ _ _ _ _=>rfl) (fun _ _ _=>rfl) (fun _ _ _=>rfl) (fun _ _ _=>rfl) (fun _ _ _ _ _=>rfl) (fun _ _ _ _ _=>rfl) (fun _ _ _ _ _=>rfl) (fun _ _ _=>rfl) (fun _ _ _ _=>rfl) (fun _ _ _ _=>rfl) (fun _ _ _ _=>rfl) (fun _ _ _=>rfl) (fun _ _ _=>rfl) (fun _ _ _=>rfl) (fun _ _ _ _=>rfl) (fun _ _ _ _ _=>rfl)
noncomputable abbrev oO (p:Pos) (v:Value):Sem Flow:=dropValue (.JoinedStr [] p) p v
theorem tF{p:Pos}{v:Value}{s:Shared}{Q:Flow->Shared->Prop}{E:Value->Shared->Prop}(h:Q .next s):wpAny (model m.c.prog m.c.w) m.A (oO p v) Q E s:=by
 cases v with
 |ref a=>exact wpAny_bind (wpAny_standAt (wpAny_bind (wpAny_runValue (codeAny_builtin entry_let_go (show wpAny _ _ (ret .none) _ _ s from wpAny_pure (wpAny_pure h))))))
 |_=>exact wpAny_pure h
set_option smartUnfolding false in
theorem tG(p:Pos)(v:Value)(e:Expr):dropValue e p v=pure .next∨dropValue e p v=oO p v:=
 Expr.casesOn (motive_1:=fun e=>dropValue e p v=pure .next∨dropValue e p v=oO p v) e (fun x0 x1 x2=>.inr rfl) (fun x0 x1 x2=>.inr rfl) (fun x0 x1 x2 x3=>.inr rfl) (fun x0 x1 x2=>.inr rfl) (fun x0 x1 x2 x3=>.inr rfl) (fun x0 x1 x2 x3=>.inr rfl) (fun x0 x1 x2=>.inr rfl) (fun x0 x1 x2=>.inr rfl) (fun x0 x1 x2 x3=>.inr rfl) (fun x0 x1 x2 x3=>.inr rfl) (fun x0 x1 x2 x3 x4=>.inr rfl) (fun x0 x1 x2 x3=>.inr rfl) (fun x0 x1=>.inr rfl) (fun x0 x1=>.inr rfl) (fun x0 x1=>.inr rfl) (fun x0 x1 x2 x3=>.inr rfl) (fun x0 x1 x2 x3=>.inr rfl) (fun x0 x1 x2 x3=>.inr rfl) (fun x0 x1=>.inr rfl) (fun x0 x1 x2=>.inr rfl) (fun x0 x1 x2=>.inr rfl) (fun x0 x1 x2=>.inr rfl) (fun x0 x1=>.inr rfl) (fun x0 x1=>.inl rfl) (fun x0 x1=>.inr rfl) (fun x0 x1 x2=>.inr rfl) (fun x0 x1 x2 x3=>.inr rfl)
theorem CO(G:aA m P K mg mb)(H:aY m ev)(v:Expr)(p:Pos):Np m g st (exec (.Expr v p) m.env) ((do guard (jF v);let _<-ev v;return .next:M Fl) st) (aP m):=by
 rw[arm_exec_Expr,tE G.O]
 refine Np.aK fun hn=>Np.standAt ?_
 rw[if_neg Bool.false_ne_true,oN _ _ hn]
 refine Np.e9 ?_
 rw[if_neg Bool.false_ne_true]
 refine Np.bind (H.snd v g st) fun a st₁ g₁ r e1 x q s Q E R Pp=>bz ?_
 have h:=Pp g₁ s.heap s.toks .next (.refl g₁) R .next
 rcases tG p r v with e |e
 ·rw[e];exact wpAny_pure h
 ·rw[e];exact tF h
theorem CP(p:Pos):Np m g st (exec (.Pass p) m.env) ((pure .next:M Fl) st) (aP m):=by
 rw[arm_exec_Pass];exact Np.standAt (Np.pure .next)
theorem CQ(p:Pos):Np m g st (exec (.Return none p) m.env) ((pure (.ret .none):M Fl) st) (aP m):=by
 rw[arm_exec_Return]
 exact Np.standAt (Np.pure (.ret .none))
theorem CS(H:aY m ev)(e:Expr)(p:Pos):Np m g st (exec (.Return (some e) p) m.env) ((do let v<-ev e;return .ret v:M Fl) st) (aP m):=by
 rw[arm_exec_Return]
 refine Np.standAt ?_
 show Np m g st (eval e m.env>>=fun v=>pure (Flow.ret v)) _ _
 exact Np.bind (H.snd e g st) fun a st₁ g₁ r e1 x q=>Np.pure (.ret q)
theorem CT(G:aA m P K mg mb)(H:aY m ev){ex:Stmt->M Fl}(HX:∀ s,cF m (exec s m.env) (ex s) (aP m))(n:Nat)(t:Expr)(b o:List Stmt)(p:Pos):
  Np m g st (exec (.If t b o p) m.env) ((do if<-fz ev n t then bC ex b else bC ex o:M Fl) st) (aP m):=by
 rw[arm_exec_If]
 refine Np.standAt (Np.bind (lL G H n t g st) fun a st₁ g₁ b' e1 x hb=>?_)
 rw[<-show a=b' from hb]
 cases a with
 |true=>exact gu HX b g₁ st₁
 |false=>exact gu HX o g₁ st₁
theorem CU(G:aA m P K mg mb)(H:aY m ev)(o i:Expr)(sp p:Pos):Np m g st (exec (.Delete [.Subscript o i sp] p) m.env) ((do let ov<-ev o;let iv<-ev i;hV ov iv;return .next:M Fl) st) (aP m):=by
 rw[arm_exec_Delete]
 refine Np.standAt ?_
 simp only[arm_deleteEach_cons,arm_deleteEach_nil,arm_delete_Subscript]
 simp only[bind_assoc]
 refine Np.bind (H.snd o g st) fun ov st₁ g₁ ro e1 x₁ vo=>?_
 refine Np.bind (Np.holding (H.snd i g₁ st₁)) fun iv st₂ g₂ ri e2 x₂ vi=>Np.standAt ?_
 refine Np.bind (Np.holding (y8 (vo.mono x₂) vi).np) fun u st₃ g₃ u' e3 x₃ _=>?_
 exact Np.release (Np.e9 (Np.pure .next))
end
end
section
open _root_.PySem.SeqAt
theorem CV{α β:Type}{f:α->Option β}{l:List α}(h:(l.filterMap f).length=l.length):∀ a∈l,∃ b,f a=some b:=by
 induction l with
 |nil=>exact fun _ h=>nomatch h
 |cons a l ih=>
  cases q:f a with
  |none=>
   rw[List.filterMap_cons_none q]at h
   exact absurd (h▸List.length_filterMap_le f l) (Nat.not_succ_le_self _)
  |some b=>
   rw[List.filterMap_cons_some q]at h
   exact List.forall_mem_cons.mpr ⟨⟨b,q⟩,ih (Nat.succ.inj h)⟩
theorem CW{α:Type}{c1 c2 c3 c4 c5:Bool}{a b U:α}:(if c1=true then a else if c2=true then a else if c3=true then a else if c4=true then a else if c5=true then U else b)=a∨bp (c1=false) (c3=false) ((if c1=true then a else if c2=true then a else if c3=true then a else if c4=true then a else if c5=true then U else b)=if c5=true then U else b):=by
 cases c1 with
 |true=>exact .inl rfl
 |false=>cases c2 with
  |true=>exact .inl rfl
  |false=>cases c3 with
   |true=>exact .inl rfl
   |false=>cases c4 with
    |true=>exact .inl rfl
    |false=>exact .inr ⟨rfl,rfl,rfl⟩
theorem tH{α:Type}{l:List α}(h:l.length=2):∃ a b,l=[a,b]:=by
 cases l with
 |nil=>exact Nat.noConfusion h
 |cons a l=>cases l with
  |nil=>exact Nat.noConfusion (Nat.succ.inj h)
  |cons b l=>cases l with
   |nil=>exact⟨a,b,rfl⟩
   |cons c l=>exact Nat.noConfusion (Nat.succ.inj (Nat.succ.inj h))
theorem CX{env:Env}{x n:Str}{q:Pos}{b:Bool}(h:(if (env.kindOf x==some .local&&b)=true then some x else none)=some n):∃ q',Expr.Name x q=.Name n q'∧env.kindOf n=some .local:=by
 by_cases hc:(env.kindOf x==some .local&&b)=true
 ·rw[if_pos hc]at h
  have h:=Option.some.inj h
  subst h
  exact⟨q,rfl,beq_iff_eq.mp (Bool.and_eq_true_iff.mp hc).1⟩
 ·rw[if_neg hc]at h;exact ag h
theorem CY(ts vs:List Expr)(k p k' p')(env:Env):∃ (f:Expr->Option Str) (c1 c2 c4:Bool) (U:Sem (Option (List Str))),(∀ e n,f e=some n->∃ q,e=.Name n q∧env.kindOf n=some .local)∧
  swappedStores [.Tuple ts k p] (.Tuple vs k' p') env=if c1=true then pure none else if c2=true then pure none else if ((ts.filterMap f).length != ts.length||(ts.filterMap f).eraseDups.length != (ts.filterMap f).length)=true then pure none else if c4=true then pure none else if vs.all (constantsAlone 8)=true then U else pure (some (ts.filterMap f)):=by
 refine⟨_,_,_,_,_,fun e n=>?_,rfl⟩
 exact Expr.casesOn e (fun x0 x1 x2=>fun h=>ag h) (fun x0 x1 x2=>fun h=>ag h) (fun x0 x1 x2 x3=>fun h=>ag h) (fun x0 x1 x2=>fun h=>ag h) (fun x0 x1 x2 x3=>fun h=>ag h) (fun x0 x1 x2 x3=>fun h=>ag h) (fun x0 x1 x2=>fun h=>ag h) (fun x0 x1 x2=>fun h=>ag h) (fun x0 x1 x2 x3=>fun h=>ag h) (fun x0 x1 x2 x3=>fun h=>ag h) (fun x0 x1 x2 x3 x4=>fun h=>ag h) (fun x0 x1 x2 x3=>fun h=>ag h) (fun x0 x1=>fun h=>ag h) (fun x0 x1=>fun h=>ag h) (fun x0 x1=>fun h=>ag h) (fun x0 x1 x2 x3=>fun h=>ag h) (fun x0 x1 x2 x3=>fun h=>ag h) (fun x0 x1 x2 x3=>fun h=>ag h) (fun x0 x1=>fun h=>ag h) (fun x0 x1 x2=>fun h=>ag h) (fun x0 x1 x2=>fun h=>ag h) (fun x0 x1 x2=>fun h=>ag h) (fun x0 x1=>fun h=>ag h) (fun x q=>fun h=>CX h) (fun x0 x1=>fun h=>ag h) (fun x0 x1 x2=>fun h=>ag h) (fun x0 x1 x2 x3=>fun h=>ag h)
theorem CZ(ts:List Expr)(k p)(v:Expr)(env:Env):swappedStores [.Tuple ts k p] v env=pure none∨dm fun vs k' p'=>v=.Tuple vs k' p':=Expr.casesOn (motive_1:=fun v=>swappedStores [.Tuple ts k p] v env=pure none∨dm fun vs k' p'=>v=.Tuple vs k' p') v (fun x0 x1 x2=>.inl rfl) (fun x0 x1 x2=>.inl rfl) (fun x0 x1 x2 x3=>.inl rfl) (fun x0 x1 x2=>.inl rfl) (fun x0 x1 x2 x3=>.inl rfl) (fun x0 x1 x2 x3=>.inl rfl) (fun x0 x1 x2=>.inl rfl) (fun x0 x1 x2=>.inl rfl) (fun x0 x1 x2 x3=>.inl rfl) (fun x0 x1 x2 x3=>.inl rfl) (fun x0 x1 x2 x3 x4=>.inl rfl) (fun x0 x1 x2 x3=>.inl rfl) (fun x0 x1=>.inl rfl) (fun x0 x1=>.inl rfl) (fun x0 x1=>.inl rfl) (fun x0 x1 x2 x3=>.inl rfl) (fun x0 x1 x2 x3=>.inl rfl) (fun x0 x1 x2 x3=>.inl rfl) (fun x0 x1=>.inl rfl) (fun x0 x1 x2=>.inl rfl) (fun x0 x1 x2=>.inl rfl) (fun x0 x1 x2=>.inl rfl) (fun x0 x1=>.inl rfl) (fun x0 x1=>.inl rfl) (fun x0 x1=>.inl rfl) (fun a b c=>.inr ⟨a,b,c,rfl⟩) (fun x0 x1 x2 x3=>.inl rfl)
theorem C0(t v:Expr)(env:Env):(t.ctorIdx==24)=false->swappedStores [t] v env=pure none∨dm fun ts k p=>t=.Tuple ts k p:=Expr.casesOn (motive_1:=fun t=>(t.ctorIdx==24)=false->swappedStores [t] v env=pure none∨dm fun ts k p=>t=.Tuple ts k p) t (fun x0 x1 x2=>fun _=>.inl rfl) (fun x0 x1 x2=>fun _=>.inl rfl) (fun x0 x1 x2 x3=>fun _=>.inl rfl) (fun x0 x1 x2=>fun _=>.inl rfl) (fun x0 x1 x2 x3=>fun _=>.inl rfl) (fun x0 x1 x2 x3=>fun _=>.inl rfl) (fun x0 x1 x2=>fun _=>.inl rfl) (fun x0 x1 x2=>fun _=>.inl rfl) (fun x0 x1 x2 x3=>fun _=>.inl rfl) (fun x0 x1 x2 x3=>fun _=>.inl rfl) (fun x0 x1 x2 x3 x4=>fun _=>.inl rfl) (fun x0 x1 x2 x3=>fun _=>.inl rfl) (fun x0 x1=>fun _=>.inl rfl) (fun x0 x1=>fun _=>.inl rfl) (fun x0 x1=>fun _=>.inl rfl) (fun x0 x1 x2 x3=>fun _=>.inl rfl) (fun x0 x1 x2 x3=>fun _=>.inl rfl) (fun x0 x1 x2 x3=>fun _=>.inl rfl) (fun x0 x1=>fun _=>.inl rfl) (fun x0 x1 x2=>fun _=>.inl rfl) (fun x0 x1 x2=>fun _=>.inl rfl) (fun x0 x1 x2=>fun _=>.inl rfl) (fun x0 x1=>fun _=>.inl rfl) (fun x0 x1=>fun _=>.inl rfl) (fun a b=>fun h=>Bool.noConfusion h) (fun ts k p=>fun _=>.inr ⟨ts,k,p,rfl⟩) (fun x0 x1 x2 x3=>fun _=>.inl rfl)
theorem C1{ts:List Expr}{env:Env}{f:Expr->Option Str}{c:Bool}(hf:∀ e n,f e=some n->∃ q,e=.Name n q∧env.kindOf n=some .local)(h3:((ts.filterMap f).length != ts.length||(ts.filterMap f).eraseDups.length != (ts.filterMap f).length)=false)(h:(ts.any notName||(!c&&decide (ts.length=2)))=true):
  c=false∧eU fun n1 q1 n2 q2=>gE (ts=[.Name n1 q1,.Name n2 q2]) (ts.filterMap f=[n1,n2]) (n1≠n2) (env.kindOf n1=some .local) (env.kindOf n2=some .local):=by
 obtain⟨l1,l2⟩:=Bool.or_eq_false_iff.mp h3
 have full:=CV (bne_eq_false_iff_eq.mp l1)
 have l2:=bne_eq_false_iff_eq.mp l2
 rcases Bool.or_eq_true_iff.mp h with h |h
 ·obtain⟨t,ht,hn⟩:=List.any_eq_true.mp h
  obtain⟨b,hb⟩:=full t ht
  obtain⟨q,rfl,_⟩:=hf t b hb
  exact Bool.noConfusion hn
 obtain⟨h4,h5⟩:=Bool.and_eq_true_iff.mp h
 obtain⟨a,b,rfl⟩:=tH (of_decide_eq_true h5)
 obtain⟨n1,e1⟩:=full a (.head _)
 obtain⟨n2,e2⟩:=full b (.tail _ (.head _))
 obtain⟨q1,rfl,k1⟩:=hf a n1 e1
 obtain⟨q2,rfl,k2⟩:=hf b n2 e2
 have en:[Expr.Name n1 q1,.Name n2 q2].filterMap f=[n1,n2]:=by rw[List.filterMap_cons_some e1,List.filterMap_cons_some e2];rfl
 rw[en]at l2
 refine⟨fV h4,n1,q1,n2,q2,rfl,en,fun e=>?_,k1,k2⟩
 rw[e,List.eraseDups_cons,List.filter_cons_of_neg (by rw[beq_self_eq_true];exact Bool.false_ne_true)]at l2
 exact Nat.noConfusion (Nat.succ.inj l2)
theorem C2(t v:Expr)(env:Env)(h:qT t v=true)(hl:(t.ctorIdx==24)=false):
  swappedStores [t] v env=pure none∨gF fun n1 q1 n2 q2 k p=>gE (t=.Tuple [.Name n1 q1,.Name n2 q2] k p) (swappedStores [t] v env=pure (some [n1,n2])) (n1≠n2) (env.kindOf n1=some .local) (env.kindOf n2=some .local):=by
 rcases C0 t v env hl with e | ⟨ts,k,p,rfl⟩
 ·exact .inl e
 rcases CZ ts k p v env with e | ⟨vs,k',p',rfl⟩
 ·exact .inl e
 obtain⟨f,c1,c2,c4,U,hf,e⟩:=CY ts vs k p k' p' env
 rw[e]
 rcases CW (c1:=c1) (c2:=c2) (c3:=((ts.filterMap f).length != ts.length||(ts.filterMap f).eraseDups.length != (ts.filterMap f).length)) (c4:=c4) (c5:=vs.all (constantsAlone 8)) (a:=pure none) (b:=pure (some (ts.filterMap f))) (U:=U)with z | ⟨-,h3,z⟩
 ·exact .inl z
 obtain⟨h4,n1,q1,n2,q2,e1,e2,ne,k1,k2⟩:=C1 (c:=vs.all (constantsAlone 8)) hf h3 h
 rw[z,h4,e2,e1]
 exact .inr ⟨n1,q1,n2,q2,k,p,rfl,rfl,ne,k1,k2⟩
section
variable {m:Am} {g:Gs} {st:St} {α:Type} {P:aQ} {K:Frag} {mg mb:Str->Option Value} {ev:Expr->M V}
theorem C3(t:Expr):(t.ctorIdx==24||t.ctorIdx==22)=true->eW t=.other:=
 Expr.casesOn (motive_1:=fun t=>(t.ctorIdx==24||t.ctorIdx==22)=true->eW t=.other) t (fun _ _ _ h=>Bool.noConfusion h) (fun _ _ _ h=>Bool.noConfusion h) (fun _ _ _ _ h=>Bool.noConfusion h) (fun _ _ _ h=>Bool.noConfusion h) (fun _ _ _ _ h=>Bool.noConfusion h) (fun _ _ _ _ h=>Bool.noConfusion h) (fun _ _ _ h=>Bool.noConfusion h) (fun _ _ _ h=>Bool.noConfusion h) (fun _ _ _ _ h=>Bool.noConfusion h) (fun _ _ _ _ h=>Bool.noConfusion h) (fun _ _ _ _ _ h=>Bool.noConfusion h) (fun _ _ _ _ h=>Bool.noConfusion h) (fun _ _ h=>Bool.noConfusion h) (fun _ _ h=>Bool.noConfusion h) (fun _ _ h=>Bool.noConfusion h) (fun _ _ _ _ h=>Bool.noConfusion h) (fun _ _ _ _ h=>Bool.noConfusion h) (fun _ _ _ _ h=>Bool.noConfusion h) (fun _ _ h=>Bool.noConfusion h) (fun _ _ _ h=>Bool.noConfusion h) (fun _ _ _ h=>Bool.noConfusion h) (fun _ _ _ h=>Bool.noConfusion h) (fun _ _ _=>rfl) (fun _ _ h=>Bool.noConfusion h) (fun _ _ _=>rfl) (fun _ _ _ h=>Bool.noConfusion h) (fun _ _ _ _ h=>Bool.noConfusion h)
theorem C4{env:Env}(t:Expr):(t.ctorIdx==22)=false->(assignEach [t] env).map (·.2)=[assign t env]:=
 Expr.casesOn (motive_1:=fun t=>(t.ctorIdx==22)=false->(assignEach [t] env).map (·.2)=[assign t env]) t (fun _ _ _ _=>rfl) (fun _ _ _ _=>rfl) (fun _ _ _ _ _=>rfl) (fun _ _ _ _=>rfl) (fun _ _ _ _ _=>rfl) (fun _ _ _ _ _=>rfl) (fun _ _ _ _=>rfl) (fun _ _ _ _=>rfl) (fun _ _ _ _ _=>rfl) (fun _ _ _ _ _=>rfl) (fun _ _ _ _ _ _=>rfl) (fun _ _ _ _ _=>rfl) (fun _ _ _=>rfl) (fun _ _ _=>rfl) (fun _ _ _=>rfl) (fun _ _ _ _ _=>rfl) (fun _ _ _ _ _=>rfl) (fun _ _ _ _ _=>rfl) (fun _ _ _=>rfl) (fun _ _ _ _=>rfl) (fun _ _ _ _=>rfl) (fun _ _ _ _=>rfl) (fun _ _ h=>Bool.noConfusion h) (fun _ _ _=>rfl) (fun _ _ _=>rfl) (fun _ _ _ _=>rfl) (fun _ _ _ _ _=>rfl)
theorem tI(O:bu m){x:Str}(h:m.env.kindOf x=some .local):(∃ i,m.sc.names[i]? =some (x,.local)∧∀ v,store m.sc x v=av i v)∨∀ v,store m.sc x v=no:=by
 have nr:=lq m.sc x
 unfold store
 generalize dn m.sc x=r at nr
 cases r with
 |loc i=>exact .inl ⟨i,nr.1,fun _=>rfl⟩
 |bW i=>
  obtain⟨_,_,_,b⟩:=nr
  rcases O.env.bW x b with w |w<;>exact NameKind.noConfusion (Option.some.inj (h.symm.trans w))
 |_=>exact .inr fun _=>rfl
theorem C5(O:bu m){n1 n2:Str}(h1:m.env.kindOf n1=some .local)(h2:m.env.kindOf n2=some .local)(ne:n1≠n2)(v1 v2:V)(k:M Unit):(store m.sc n1 v1>>=fun _=>store m.sc n2 v2>>=fun _=>k) st=(store m.sc n2 v2>>=fun _=>store m.sc n1 v1>>=fun _=>k) st:=by
 rcases tI O h1 with ⟨i,a1,e1⟩ |e1<;>rcases tI O h2 with ⟨j,a2,e2⟩ |e2<;>rw[e1,e2]
 ·have hij:i≠j:=fun e=>ne (congrArg Prod.fst (Option.some.inj (a1.symm.trans (e▸a2))))
  exact congrArg (fun l=>k {st with lo:=l}) (List.set_comm _ _ hij)
 all_goals rfl
theorem C6(G:aA m P K mg mb){n1 n2:Str}{q1 q2:Pos}{x:V}{rx:Value}(h1:m.env.kindOf n1=some .local)(h2:m.env.kindOf n2=some .local)(ne:n1≠n2)(vx:m.VR g x rx):
  Np m g st (unpackItems rx 2 none>>=fun items=>assignInOrder [bindName m.env n2,bindName m.env n1] items.reverse>>=fun _=>pure Flow.next) ((jC P m.lv ev m.sc (asg P m.lv ev m.sc 2) x (.tup [.Name n1 q1,.Name n2 q2])>>=fun _=>pure Fl.next) st) (aP m):=by
 unfold jC
 rw[M.bind_assoc]
 refine Np.aK fun hg=>?_
 rw[M.bind_assoc]
 refine Np.bq fun a ha=>?_
 subst ha
 rw[M.bind_assoc]
 refine Np.ew fun xs hxs=>?_
 rw[M.bind_assoc]
 refine Np.aK fun hlen=>?_
 obtain⟨y,z,rfl,hp⟩:=vx
 obtain⟨x1,x2,rfl⟩:=tH (of_decide_eq_true hlen)
 show Np m g st _ ((((store m.sc n1 x1>>=fun _=>store m.sc n2 x2>>=fun _=>(Pure.pure ():M Unit))>>=fun _=>(Pure.pure Fl.next:M Fl))) st) _
 rw[show(((store m.sc n1 x1>>=fun _=>store m.sc n2 x2>>=fun _=>(Pure.pure ():M Unit))>>=fun _=>(Pure.pure Fl.next:M Fl))) st=((store m.sc n2 x2>>=fun _=>store m.sc n1 x1>>=fun _=>(Pure.pure ():M Unit))>>=fun _=>(Pure.pure Fl.next:M Fl)) st from congrArg (fun r=>M.bind (fun _=>r) (fun _=>(Pure.pure Fl.next:M Fl)) st) (C5 G.O h1 h2 ne x1 x2 _),M.bind_assoc]
 intro s Q E R Pp
 obtain⟨rs,ht,hr⟩:=R.inv.tuple hp hxs
 obtain⟨r1,_,rfl,v1,hr⟩:=hr
 obtain⟨r2,_,rfl,v2,hr⟩:=hr
 have hr:_=[]:=hr
 subst hr
 show aq _ _ (unpackItems (.ref y) ([r1,r2]:List Value).toArray.size none>>=_) _ _ _
 refine ax (wpAny_unpackItems_tuple (G.O.de (Bool.and_eq_true_iff.mp hg).1) ht fun h' hs'=>?_)
 have R':Rel m g st h':=R.keeps fun b o e=>hs' b o (fun z=>ag ((dq s.heap).symm.trans (z▸e))) e
 have hN:Np m g st (assignInOrder [bindName m.env n2,bindName m.env n1] [r2,r1]>>=fun _=>pure Flow.next) ((store m.sc n2 x2>>=fun _=>(store m.sc n1 x1>>=fun _=>(Pure.pure ():M Unit))>>=fun _=>(Pure.pure Fl.next:M Fl)) st) (aP m):=by
  show Np m g st ((PySem.holding [r1] (bindName m.env n2 r2)>>=fun _=>PySem.holding [] (bindName m.env n1 r1)>>=fun _=>pure ())>>=fun _=>pure Flow.next) _ _
  refine Np.assoc (Np.bind (Np.holding (oA G.O v2)) fun _ st₁ g₁ _ _ x₁ _=>?_)
  rw[M.bind_assoc]
  exact Np.assoc (Np.bind (Np.holding (oA G.O (v1.mono x₁))) fun _ st₂ g₂ _ _ x₂ _=>Np.e9 (Np.pure .next))
 exact hN {s with heap:=h'} Q E R' Pp
theorem C7(G:aA m P K mg mb)(H:aY m ev)(ts:List Expr)(v:Expr)(p:Pos):Np m g st (exec (.Assign ts v p) m.env) (qU P m.lv ev m.sc ts v st) (aP m):=by
 refine Np.ar fun t ht=>Np.aK fun hg=>?_
 rw[mJ ht,arm_exec_Assign]
 obtain⟨h1,h2⟩:=Bool.and_eq_true_iff.mp hg
 refine Np.standAt ?_
 rw[show swapsWithSole [t] v p.line m.env=pure false from oN (some t) v h1]
 refine Np.e9 ?_
 rw[if_neg Bool.false_ne_true]
 refine Np.bind (H.snd v g st) fun x st₁ g₁ rx e1 x₁ vx=>?_
 cases ho:t.ctorIdx==24||t.ctorIdx==22 with
 |true=>
  show Np m g₁ st₁ _ ((jC P m.lv ev m.sc (asg P m.lv ev m.sc 2) x (eW t)>>=fun _=>pure Fl.next) st₁) _
  rw[C3 t ho];exact Np.no
 |false=>
  obtain⟨o1,o2⟩:=Bool.or_eq_false_iff.mp ho
  rcases C2 t v m.env h2 o1 with hs | ⟨n1,q1,n2,q2,k,p',rfl,hs,ne,k1,k2⟩
  ·rw[hs,C4 t o2]
   exact Np.e9 (Np.bind (lW G H 3 t x rx g₁ st₁ vx) fun _ st₂ g₂ _ _ _ _=>Np.pure .next)
  ·rw[hs]
   refine Np.e9 ?_
   show Np m g₁ st₁ (rule "assign.swapped-stores">>=fun _=>unpackItems rx 2 none>>=fun items=>assignInOrder [bindName m.env n2,bindName m.env n1] items.reverse>>=fun _=>pure Flow.next) _ _
   exact Np.step (c:=()) (fun s Q E h=>wpAny_rule h) (C6 G k1 k2 ne vx)
end
end
section
open _root_.PySem.SeqAt
section
variable {m:Am} {g:Gs} {st:St} {α:Type} {P:aQ} {K:Frag} {mg mb:Str->Option Value} {ev:Expr->M V}
theorem C8(G:aA m P K mg mb)(H:aY m ev)(x:Str)(np:Pos)(op:Operator)(v:Expr)(p:Pos):Np m g st (exec (.AugAssign (.Name x np) op v p) m.env) ((do
   let a<-name P m.sc x
   let b<-ev v
   store m.sc x (<-bF op a b)
   return .next:M Fl) st) (aP m):=by
 rw[arm_exec_AugAssign]
 refine Np.standAt (Np.bind (CN G x) fun a st₁ g₁ ra e1 x₁ va=>?_)
 refine Np.bind (Np.holding (H.snd v g₁ st₁)) fun b st₂ g₂ rb e2 x₂ vb=>Np.standAt ?_
 refine Np.bind (Np.operate (β:=Unit) (nF (va.mono x₂) vb).np) fun c st₃ g₃ rc e3 x₃ vc=>?_
 have e:(standAt np>>=fun _=>bindName m.env x rc>>=fun _=>(pure Flow.next:Sem Flow))=(assign (.Name x np) m.env rc>>=fun _=>pure Flow.next):=by simp only[PySem.assign_Name,bind_assoc]
 rw[e]
 exact Np.bind (sZ G.O vc) fun _ _ _ _ _ _ _=>Np.pure .next
theorem C9(G:aA m P K mg mb)(H:aY m ev)(o:Expr)(a:Str)(tp:Pos)(op:Operator)(v:Expr)(p:Pos):Np m g st (exec (.AugAssign (.Attribute o a tp) op v p) m.env) ((do
   let ov<-ev o
   let old<-jv P ov a
   let b<-ev v
   kP P ov a (<-bF op old b)
   return .next:M Fl) st) (aP m):=by
 rw[arm_exec_AugAssign_2]
 refine Np.standAt (Np.bind (H.snd o g st) fun ov st₁ g₁ ro e1 x₁ vo=>?_)
 refine Np.jQ (Np.standAt (Np.assoc (Np.bind (Wp.rV G.PK vo).np fun old st₂ g₂ rold e2 x₂ vold=>?_)))
 refine Np.assoc (Np.bind (Np.holding (H.snd v g₂ st₂)) fun b st₃ g₃ rb e3 x₃ vb=>Np.assoc (Np.standAt ?_))
 refine Np.bind (Np.operate (β:=Unit) (nF (vold.mono x₃) vb).np) fun c st₄ g₄ rc e4 x₄ vc=>Np.standAt ?_
 refine Np.bind (Np.holding (Wp.rW G.PK (vo.mono (x₂.trans (x₃.trans x₄))) vc).np) fun _ st₅ g₅ _ e5 x₅ _=>?_
 exact Np.release (Np.pure .next)
theorem C'{ro ri rc:Value}(i:Expr):isSlice i=false->augStore i ro ri rc=(holding [rc,ro,ri] (setItem ro ri rc)>>=fun _=>release [rc,ro,ri] []>>=fun _=>pure Flow.next):=
 Expr.casesOn (motive_1:=fun i=>isSlice i=false->augStore i ro ri rc=(holding [rc,ro,ri] (setItem ro ri rc)>>=fun _=>release [rc,ro,ri] []>>=fun _=>pure Flow.next)) i (fun _ _ _ _=>rfl) (fun _ _ _ _=>rfl) (fun _ _ _ _ _=>rfl) (fun _ _ _ _=>rfl) (fun _ _ _ _ _=>rfl) (fun _ _ _ _ _=>rfl) (fun _ _ _ _=>rfl) (fun _ _ _ _=>rfl) (fun _ _ _ _ _=>rfl) (fun _ _ _ _ _=>rfl) (fun _ _ _ _ _ _=>rfl) (fun _ _ _ _ _=>rfl) (fun _ _ _=>rfl) (fun _ _ _=>rfl) (fun _ _ _=>rfl) (fun _ _ _ _ _=>rfl) (fun _ _ _ _ _=>rfl) (fun _ _ _ _ _=>rfl) (fun _ _ _=>rfl) (fun _ _ _ _=>rfl) (fun _ _ _ _=>rfl) (fun _ _ _ _=>rfl) (fun _ _ _=>rfl) (fun _ _ _=>rfl) (fun _ _ _=>rfl) (fun _ _ _ _=>rfl) (fun _ _ _ _ h=>Bool.noConfusion h)
theorem Dc(G:aA m P K mg mb)(H:aY m ev)(o i:Expr)(hi:isSlice i=false)(sp:Pos)(op:Operator)(v:Expr)(p:Pos):Np m g st (exec (.AugAssign (.Subscript o i sp) op v p) m.env) ((do
    let ov<-ev o
    let iv<-ev i
    let old<-aw ov iv
    let b<-ev v
    bA ov iv (<-bF op old b)
    return .next:M Fl) st) (aP m):=by
 rw[arm_exec_AugAssign_3]
 refine Np.standAt (Np.bind (H.snd o g st) fun ov st₁ g₁ ro e1 x₁ vo=>?_)
 refine Np.bind (Np.holding (H.snd i g₁ st₁)) fun iv st₂ g₂ ri e2 x₂ vi=>?_
 refine Np.jQ (Np.standAt (Np.assoc (Np.bind (yV G.PK (vo.mono x₂) vi).np fun old st₃ g₃ rold e3 x₃ vold=>?_)))
 refine Np.assoc (Np.bind (Np.holding (H.snd v g₃ st₃)) fun b st₄ g₄ rb e4 x₄ vb=>Np.assoc (Np.standAt ?_))
 refine Np.bind (Np.operate (β:=Unit) (nF (vold.mono x₄) vb).np) fun c st₅ g₅ rc e5 x₅ vc=>Np.standAt ?_
 have x:=x₃.trans (x₄.trans x₅)
 rw[C' i hi]
 exact Np.bind (Np.holding (r7 G.PK (vo.mono (x₂.trans x)) (vi.mono x) vc).np) fun _ st₆ g₆ _ e6 x₆ _=>Np.release (Np.pure .next)
theorem Dd(G:aA m P K mg mb)(hm:m.env=m.cC)(H:aY m ev){ex:Stmt->M Fl}(HX:∀ s,cF m (exec s m.env) (ex s) (aP m))(n:Nat)(t:Expr)(b:List Stmt)(p:Pos)(k:Nat):
  Np m g st (exec (.While t b [] p) m.env) (eE (fz ev n t) (bC ex b) k st) (aP m):=by
 rw[arm_exec_While]
 exact Np.standAt (AW G.O (AX G.O hm (lL G H n t) (gu HX b) k g st))
theorem De(H:aY m ev){it:Expr}{x:V}{st st':St}(e:ev it st=.ok x st'):(it.ctorIdx==7)=false:=by
 cases h:it.ctorIdx==7 with
 |false=>rfl
 |true=>exact iW ((H.jN it st h).symm.trans e)
theorem Df(G:aA m P K mg mb)(hm:m.env=m.cC)(hlv:m.lv=true)(ih:∀ os,aY (m.x os) ev){ex:Stmt->M Fl}(HX:∀ os s,cF (m.x os) (exec s m.env) (ex s) (aP (m.x os)))(t it:Expr)(body:List Stmt)(p:Pos):
  Np m g st (exec (.For t it body [] p) m.env) (plainS P m.lv ev (bC ex body) m.sc t it st) (aP m):=by
 have H:aY m ev:=⟨(ih []).snd,(ih []).jN⟩
 show Np m g st (standAt p>>=fun _=>eval it m.env>>=fun x=>foldedSetIterable it m.env x>>=fun x=>standAt it.pos>>=fun _=>holding [x] (pyIter x)>>=fun i=>runOwn (.forLoop t i body [] m.env) m.env) _ _
 refine Np.standAt (Np.bind (H.snd it g st) fun x st₁ g₁ rx e1 x₁ vx=>?_)
 rw[s8 it (De H e1)]
 refine Np.e9 (Np.standAt (Np.bJ (s9 x) fun io e2 s Q E R Pp=>?_))
 refine aG (bQ (bz (sY G.O (G.O.de hlv) vx e2 R fun h₂ itA hB=>?_)))
 obtain⟨os,W,keep,R₂,hW,walk,self⟩:=hB
 exact oa G.O (s:={s with heap:=h₂}) Pp fun E' PT=>sQ G.O hm (walk m rfl rfl rfl rfl (G.O.de hlv) G.O g₁ t (.refl _)) (fun os g st x rx vx=>lW G.x (ih os) 3 t x rx g st vx) (fun os=>gu (HX os) body) io.1 g₁ os st₁ _ Q E' (.refl _) hW R₂ PT
noncomputable def jW {β δ α:Type} (m:Am) (g:Gs) (st:St) (t:Sem β) (K:β->Sem δ) (r:R α) (rel:Gs->α->δ->Prop):Prop:=
 ∀ (s:Shared) (Q:δ->Shared->Prop) (E:Value->Shared->Prop),Rel m g st s.heap->bI m g r rel Q E s->aq (model m.c.prog m.c.w) m.A t (fun v s'=>aq (model m.c.prog m.c.w) m.A (K v) Q E s') E s
theorem Dg{α β:Type}(H:aY m ev){pos:Pos}{e:Expr}{rf:Value}{K:Value->Sem β}{F:V->M α}{rel:Gs->α->β->Prop}(ha:notStar e=true)(hk:∀ h,Keeps (model m.c.prog m.c.w) h rf)
  (h:∀ w st₁ g₁ rw,m.VR g₁ w rw->jW m g₁ st₁ (PySem.call rf [rw]) K (F w st₁) rel):Np m g st (callWith pos rf [] (backTo pos (starEach [e] m.env)) []>>=K) ((ev e>>=F) st) rel:=by
 intro s Q E R Pp
 rw[iq (show [e].all notStar=true from Bool.and_eq_true_iff.mpr ⟨ha,rfl⟩),ir]
 refine aG (lV (lF [e]) ?_)
 show aq _ _ (eval e m.env>>=fun v=>holding [v] (pure [])>>=fun vs=>pure (v::vs)) _ _ _
 refine aG ((H.snd e g st).use R (fun w st₂ e2 g₂ h₂ tk₂ rw' x₂ R₂ vw=>?_) (fun k st₂ e2 g₂ h₂ tk₂ ee x₂ R₂ X=>?_) fun e2=>?_)
 ·rw[cg e2]at Pp
  exact aG (bQ (aM (aM ⟨hk _,h w st₂ g₂ rw' vw {s with heap:=h₂,toks:=tk₂} Q E R₂ (Pp.shift x₂)⟩)))
 ·rw[dt e2]at Pp;exact Pp g₂ h₂ tk₂ ee x₂ R₂ X
 ·rw[cL e2]at Pp;exact Pp.elim
theorem Dh{n:String}{v:V}(h:ql n v=true):v=.ty n:=by
 cases v with
 |ty x=>exact congrArg V.ty (beq_iff_eq.mp h)
 |_=>exact Bool.noConfusion h
theorem Di{t:Expr}(h:isTup t=true):dm fun ts k p=>t=.Tuple ts k p:=by
 revert h
 exact Expr.casesOn (motive_1:=fun t=>isTup t=true->dm fun ts k p=>t=.Tuple ts k p) t (fun _ _ _ h=>Bool.noConfusion h) (fun _ _ _ h=>Bool.noConfusion h) (fun _ _ _ _ h=>Bool.noConfusion h) (fun _ _ _ h=>Bool.noConfusion h) (fun _ _ _ _ h=>Bool.noConfusion h) (fun _ _ _ _ h=>Bool.noConfusion h) (fun _ _ _ h=>Bool.noConfusion h) (fun _ _ _ h=>Bool.noConfusion h) (fun _ _ _ _ h=>Bool.noConfusion h) (fun _ _ _ _ h=>Bool.noConfusion h) (fun _ _ _ _ _ h=>Bool.noConfusion h) (fun _ _ _ _ h=>Bool.noConfusion h) (fun _ _ h=>Bool.noConfusion h) (fun _ _ h=>Bool.noConfusion h) (fun _ _ h=>Bool.noConfusion h) (fun _ _ _ _ h=>Bool.noConfusion h) (fun _ _ _ _ h=>Bool.noConfusion h) (fun _ _ _ _ h=>Bool.noConfusion h) (fun _ _ h=>Bool.noConfusion h) (fun _ _ _ h=>Bool.noConfusion h) (fun _ _ _ h=>Bool.noConfusion h) (fun _ _ _ h=>Bool.noConfusion h) (fun _ _ h=>Bool.noConfusion h) (fun _ _ h=>Bool.noConfusion h) (fun _ _ h=>Bool.noConfusion h) (fun ts k p=>fun _=>⟨ts,k,p,rfl⟩) (fun _ _ _ _ h=>Bool.noConfusion h)
theorem Dj(G:aA m P K mg mb)(hm:m.env=m.cC)(hlv:m.lv=true)(ih:∀ os,aY (m.x os) ev){ex:Stmt->M Fl}(HX:∀ os s,cF (m.x os) (exec s m.env) (ex s) (aP (m.x os))){ts:List Expr}{k}{tp q:Pos}{body:List Stmt}{w:V}{rw':Value}(vw:m.VR g w rw'):
  jW m g st (PySem.call (.type "enumerate") [rw']) (fun x=>standAt q>>=fun _=>holding [x] (pyIter x)>>=fun i=>runOwn (.forLoop (.Tuple ts k tp) i body [] m.env) m.env) ((bq w>>=fun a=>bH a>>=fun xs=>guard (decide (xs.length<=lim))>>=fun _=>
   loop (bJ (some (a,xs))) (fun v=>gI xs v>>=da (asg P m.lv ev m.sc 3 (.Tuple ts k tp)) (bC ex body>>=d7)) ((List.range xs.length).map fun (k:Nat)=>V.int (k:Int))>>=eF) st) (aP m):=by
 refine gj (Pr:=fun r=>jW m g st _ _ r (aP m)) (fun _ _ _ _ P=>P.elim) fun a ha=>fB iU (Pr:=fun r=>jW m g st _ _ r (aP m)) (fun _ _ _ _ P=>P.elim) fun xs ho=>gM (e8 _) (Pr:=fun r=>jW m g st _ _ r (aP m)) (fun _ _ _ _ P=>P.elim) fun _ hl s Q E R Pp=>?_
 rw[gh ha]at vw
 obtain⟨l,y,rfl,hp⟩:=vw
 obtain⟨rs,hL,hr⟩:=R.isList hp ho
 refine bz (call_enumerate_list hL fun h' he hit hz hk=>di (aG (bQ (bz (wpAny_pyIter_enum he ?_)))))
 obtain⟨oi,hi1,hi2,hi3⟩:=hit
 have Rf:Rel (m.x [(s.heap.objs.size+1,jP s.heap.objs.size 0 .none),(s.heap.objs.size,oi)]) g st h':=
  (R.x0.fU (dq _) hk hi1).lS (ba.fU (os:=[]) (R.inv.free (ic (Nat.le_succ _))) (Nat.ne_of_lt (Nat.lt_succ_self _))) he
 refine oa (s:={s with heap:=h'}) G.O Pp fun E' PT=>sQ G.O hm (A8 (ts:=ts) (x1:=k) (pt:=tp) (it:=s.heap.objs.size) (G.O.de hlv) hp) (fun os g st x rx vx=>lW G.x (ih os) 3 _ x rx g st vx) (fun os=>gu (HX os) body) _ g _ st _ Q E' (.refl _) ⟨0,oi,.none,xs.length,rfl,⟨hi2,hi3⟩,Nat.zero_add _,?_⟩ Rf PT
 exact List.map_congr_left fun k _=>congrArg V.int (Int.zero_add (k:Int)).symm
theorem Dm(G:aA m P K mg mb)(hm:m.env=m.cC)(hlv:m.lv=true)(ih:∀ os,aY (m.x os) ev)(hname:∀ x p,ev (.Name x p)=name P m.sc x){ex:Stmt->M Fl}(HX:∀ os s,cF (m.x os) (exec s m.env) (ex s) (aP (m.x os)))(t e:Expr)(f:Str)(np cp:Pos)(body:List Stmt)(p:Pos):
  Np m g st (exec (.For t (.Call (.Name f np) [e] [] cp) body [] p) m.env) (qZ P m.lv ev (bC ex body) m.sc t f e st) (aP m):=by
 show Np m g st (standAt p>>=fun _=>eval (.Call (.Name f np) [e] [] cp) m.env>>=fun x=>standAt cp>>=fun _=>holding [x] (pyIter x)>>=fun i=>runOwn (.forLoop t i body [] m.env) m.env) _ _
 refine Np.standAt (Np.aK fun hg=>?_)
 obtain⟨ht,hs⟩:=Bool.and_eq_true_iff.mp hg
 have H:aY m ev:=⟨(ih []).snd,(ih []).jN⟩
 obtain⟨ts,k,tp,rfl⟩:=Di ht
 rw[arm_eval_Call_Name']
 refine Np.assoc (Np.bind (by rw[<-hname f np];exact H.snd (.Name f np) g st) fun fv st₁ g₁ rf e1 x₁ vf=>Np.aK fun hf=>?_)
 rw[Dh hf]at vf
 rw[show rf=.type "enumerate" from vf]
 exact Dg H hs (fun _=>⟨.machine,.inr (.inl rfl),Looks.of_pure rfl⟩) fun w st₂ g₂ rw' vw=>Dj G hm hlv ih HX vw
end
end
section
open _root_.PySem.SeqAt
structure gw(P:aQ)(K:Frag):Prop where
 one:∀ c,isExc P c=true->(clsIn K c).isSome=true∧instIn K (.ref c) (.type "tuple")=some false∧subIn K (.ref c) (.type "BaseException")=some true
 two:∀ c d,isExc P c=true->isExc P d=true->subIn K (.ref c) (.ref d)=some (decide (d=c))
section
variable {m:Am} {g:Gs} {st:St} {α:Type} {P:aQ} {K:Frag} {mg mb:Str->Option Value} {ev:Expr->M V}
theorem Dn(x:Str):Still (name P m.sc x):=fun st=>rF m.sc x st
theorem Dp{c:Addr}(e:(clsIn K c).isSome=true):eU fun a b cd d=>K.lookup c=some ⟨a,b,.cls cd,d⟩:=by
 unfold clsIn at e
 cases h:K.lookup c with
 |none=>rw[h]at e;exact Bool.noConfusion e
 |some o=>
  rw[h]at e
  obtain⟨a,b,data,d⟩:=o
  cases data with
  |cls cd=>exact⟨a,b,cd,d,rfl⟩
  |_=>exact Bool.noConfusion e
theorem Dq{K:Frag}{M:Model}{h:Heap}(X:K.In h){c:Addr}(e:(clsIn K c).isSome=true):Looks M h (isType (.ref c)) true:=by
 obtain⟨a,b,cd,d,ho⟩:=Dp e
 exact(Looks.ld (part:=some headPart) (X _ _ ho)).andThen .now
theorem Dr(XK:gw P K){M:Model}{h:Heap}(X:K.In h){e k d:Addr}{oe:Obj}(he:h.get? e=some oe)(hc:oe.cls=.ref k)(hk:isExc P k=true)(hd:isExc P d=true):Looks M h (excMatches (.ref e) (.ref d)) (decide (d=k)):=by
 obtain⟨d1,d2,d3⟩:=XK.one d hd
 unfold excMatches
 refine(looks_instIn X d2).andThen ?_
 simp only[Bool.false_eq_true,if_false]
 refine Looks.now.andThen ?_
 simp only[List.forIn_cons,List.forIn_nil]
 have ex:Looks M h (isExcClass (.ref d)) true:=by
  unfold isExcClass
  refine(Dq X d1).andThen ?_
  exact looks_subIn X d3
 simp only[bind_assoc]
 refine ex.andThen ?_
 simp only[Bool.not_true,Bool.false_eq_true,if_false,pure_bind]
 have ty:Looks M h (typeOf (.ref e)) (.ref k):=(Looks.ld (part:=some headPart) he).andThen (by rw[hc];exact .now)
 refine ty.andThen ((looks_subIn X (XK.two k d hk hd)).andThen ?_)
 cases decide (d=k)with
 |true=>exact Looks.of_pure rfl
 |false=>exact Looks.of_pure rfl
noncomputable abbrev Am.marked (m:Am) (e:Addr):Am:={m with A:=m.A.mark (some (.ref e)),lv:=false}
theorem aA.marked(G:aA m P K mg mb)(e:Addr):aA (m.marked e) P K mg mb:=
 ⟨⟨G.O.env,G.O.frames,G.O.ff,G.O.fe,G.O.fk,G.O.dep,G.O.gi,(fun h=>nomatch h),G.O.eH⟩,G.PK,G.sys,G.qs,G.lam⟩
theorem Rel.marked{h:Heap}(R:Rel m g st h)(e:Addr):Rel (m.marked e) g st h:=⟨R.inv,R.loc⟩
theorem Rel.unmarked{h:Heap}{e:Addr}(R:Rel (m.marked e) g st h):Rel m g st h:=⟨R.inv,R.loc⟩
theorem aP.unmarked{e:Addr}{a:Fl}{b:Flow}(q:aP (m.marked e) g a b):aP m g a b:=q
theorem tJ{M:Model}{A:Around}{env:Env}{E:Value->Shared->Prop}{s:Shared}{c:Code}{e:Addr}{Q:Flow->Shared->Prop}(h:codeN M (A.mark (some (.ref e))) c (fun r s'=>∃ f,r=.ok f∧Q f s') s):aq M A (runOwn c env (some (.ref e))) Q E s:=by
 unfold runOwn
 refine eT (mC (fM h fun r s' hr=>?_) (by intro z;cases z))
 obtain⟨f,rfl,hq⟩:=hr
 exact hq
theorem Ds{Z:Prop}{nm:Str->M V}{bC:List Stmt->M Fl}{c:Addr}{t:Option Expr}{nm':Option Str}{body:List Stmt}{pos:Pos}{hs:List ExceptHandler}(hn:∀ x,Still (nm x))(h0:handlers P nm bC c (.ExceptHandler t nm' body pos::hs) st=.no->Z)
  (h:∀ x q d b bs,t=some (.Name x q)->nm'=none->body=b::bs->nm x st=.ok (.af d) st->(isExc P c&&isExc P d)=true->handlers P nm bC c (.ExceptHandler t nm' body pos::hs) st=(if d=c then calm (bC body)else handlers P nm bC c hs) st->Z):Z:=by
 generalize hr:handlers P nm bC c (.ExceptHandler t nm' body pos::hs) st=r at h0 h
 replace hr:(guard (nm'.isNone&&!body.isEmpty)>>=fun _=>ar (t.bind jr)>>=fun x=>nm x>>=fun v=>hM v>>=fun d=>guard (isExc P c&&isExc P d)>>=fun _=>if d=c then calm (bC body)else handlers P nm bC c hs) st=r:=hr
 revert hr
 refine gM (e8 _) (Pr:=fun r'=>r'=r->Z) (fun e=>h0 e.symm) fun _ h1=>gj (Pr:=fun r'=>r'=r->Z) (fun e=>h0 e.symm) fun x hx=>gM (hn x) (Pr:=fun r'=>r'=r->Z) (fun e=>h0 e.symm) fun v hv=>gj (Pr:=fun r'=>r'=r->Z) (fun e=>h0 e.symm) fun d hd=>gM (e8 _) (Pr:=fun r'=>r'=r->Z) (fun e=>h0 e.symm) fun _ h2 e=>?_
 obtain⟨t',rfl,hx⟩:=Option.bind_eq_some_iff.mp hx
 obtain⟨q,rfl⟩:=mK hx
 obtain⟨h4,h3⟩:=Bool.and_eq_true_iff.mp (ie h1)
 cases body with
 |nil=>exact Bool.noConfusion h3
 |cons b bs=>exact h x q d b bs rfl (Option.isNone_iff_eq_none.mp h4) rfl (lg hd▸hv) (ie h2) e.symm
theorem Dt(G:aA m P K mg mb)(XK:gw P K){s:Shared}{e k d:Addr}{x:Str}{p pos:Pos}{fl:Option Value}(R:Rel m g st s.heap)(X:dr m.c g st.H s.heap e k fl)(hn:name P m.sc x st=.ok (.af d) st)(hg:(isExc P k&&isExc P d)=true):
  codeN (model m.c.prog m.c.w) (m.A.mark (some (.ref e))) (.handlers (.ref e) [.ExceptHandler (some (.Name x p)) none [] pos] m.env) (fun r s'=>∃ f,r=.ok f∧f=(if decide (d=k)=true then Flow.brk else .next)∧s'=s) s:=by
 obtain⟨hk,hd⟩:=Bool.and_eq_true_iff.mp hg
 obtain⟨hx,hl⟩:=lr (m:=m.marked e) (g:=g) G.PK.glob (G.marked e).O hn
 obtain⟨oe,vs,a0,I,_⟩:=X
 refine dy ?_
 show aq _ (m.A.mark (some (.ref e))) ((standAt pos>>=fun _=>eval (.Name x p) m.env>>=fun ty=>standAt pos>>=fun _=>excMatches (.ref e) ty>>=fun b=>pure (if b=true then Flow.brk else .next)).onRaise (fun x=>do noteFrame x m.env;theTreesLotGoes x)>>=fun f=>pure (PySem.Fin.done f)) _ _ s
 refine aG (eT (di (ax (wpAny_Name (hl s _ _ (R.marked e) fun r hr=>?_) hx))))
 rw[show r=.ref d from hr]
 exact di (ax ((Dr XK (G.PK.KX.keeps R.inv.base) I.get I.cls hk hd).here (aM (aM ⟨_,rfl,rfl,rfl⟩))))
theorem Du(G:aA m P K mg mb){s:Shared}{e k:Addr}{exb:Stmt->M Fl}(HB:∀ s,cF (m.marked e) (exec s m.env) (exb s) (aP (m.marked e))){b:Stmt}{bs:List Stmt}{pos:Pos}(R:Rel m g st s.heap)(X:dr m.c g st.H s.heap e k (some .none)){Q:Flow->Shared->Prop}{E:Value->Shared->Prop}
  (Pp:bI m g (calm (bC exb (b::bs)) st) (aP m) Q E s):codeN (model m.c.prog m.c.w) (m.A.mark (some (.ref e))) (.handlers (.ref e) [.ExceptHandler none none (b::bs) pos] m.env) (fun r s'=>∃ f,r=.ok f∧Q f s') s:=by
 refine dy ?_
 show aq _ (m.A.mark (some (.ref e))) ((standAt pos>>=fun _=>setFlight (.ref e) none>>=fun _=>execs (b::bs) m.env).onRaise (fun x=>do noteFrame x m.env;theTreesLotGoes x)>>=fun f=>pure (PySem.Fin.done f)) _ _ s
 refine aG (eT (di (ax (lN (m:=m.marked e) (fr:=none) (R.marked e) X fun h' R' _=>?_))))
 unfold calm at Pp
 refine(gu (m:=m.marked e) HB (b::bs) g st).use (s:={s with heap:=h'}) R' (fun fl st₂ e2 g₂ h₂ tk₂ fl' x₂ R₂ q₂=>?_) (fun kk st₂ e2 g₂ h₂ tk₂ ee x₂ R₂ X₂=>?_) fun e2=>?_
 ·rw[e2]at Pp
  exact aM ⟨_,rfl,Pp g₂ h₂ tk₂ fl' x₂ R₂.unmarked q₂.unmarked⟩
 ·rw[e2]at Pp;exact Pp.elim
 ·rw[e2]at Pp;exact Pp.elim
theorem Dv(G:aA m P K mg mb)(XK:gw P K){e k:Addr}{exb:Stmt->M Fl}(HB:∀ s,cF (m.marked e) (exec s m.env) (exb s) (aP (m.marked e))){s:Shared}{Q:Flow->Shared->Prop}{E:Value->Shared->Prop}(R:Rel m g st s.heap)(X:dr m.c g st.H s.heap e k (some .none))(hs:List ExceptHandler)
  (Pp:bI m g (handlers P (name P m.sc) (bC exb) k hs st) (aP m) Q E s):aq (model m.c.prog m.c.w) m.A (handleBy (.ref e) m.env hs) Q E s:=by
 induction hs with
 |nil=>exact Pp.elim
 |cons h hs ih=>
  obtain⟨t,nm,body,pos⟩:=h
  refine Ds (P:=P) (st:=st) (nm:=name P m.sc) (bC:=bC exb) (c:=k) (t:=t) (nm':=nm) (body:=body) (pos:=pos) (hs:=hs) Dn (fun z=>?_) (fun x q d b bs e1 e2 e3 hn hg z=>?_)
  ·rw[z]at Pp;exact Pp.elim
  ·subst e1
   subst e2
   subst e3
   rw[z]at Pp
   show aq _ _ (holding [.ref e] (runOwn (.handlers (.ref e) [.ExceptHandler (some (.Name x q)) none [] pos] m.env) m.env (some (.ref e)))>>=_) _ _ s
   refine aG (bQ (tJ (fM (Dt G XK R X hn hg) fun r s' hr=>?_)))
   obtain⟨f,rfl,rfl,rfl⟩:=hr
   refine⟨_,rfl,?_⟩
   by_cases hdk:d=k
   ·rw[if_pos hdk]at Pp
    rw[decide_eq_true hdk]
    show aq _ _ (pure true>>=fun _=>holding [.ref e] (runOwn (.handlers (.ref e) [.ExceptHandler none none (b::bs) pos] m.env) m.env (some (.ref e)))>>=fun f=>pure f) _ _ _
    exact aG (aM (aG (bQ (tJ (fM (Du G HB R X Pp) fun r s' ⟨f,e,h⟩=>⟨f,e,aM h⟩)))))
   ·rw[if_neg hdk]at Pp
    rw[decide_eq_false hdk]
    show aq _ _ (pure false>>=fun _=>handleBy (.ref e) m.env hs) _ _ _
    exact aG (aM (ih Pp))
theorem Dw(G:aA m P K mg mb)(XK:gw P K)(hm:m.env=m.cC){ex exb:Stmt->M Fl}(HX:∀ s,cF m (exec s m.env) (ex s) (aP m))(HB:∀ e s,cF (m.marked e) (exec s m.env) (exb s) (aP (m.marked e)))(body:List Stmt)(hs:List ExceptHandler)(p:Pos):
  Np m g st (exec (.Try body hs [] [] p) m.env) (attempt (bC ex body) (fun c=>handlers P (name P m.sc) (bC exb) c hs) st) (aP m):=by
 rw[arm_exec_Try]
 refine Np.standAt ?_
 intro s Q E R Pp
 unfold attempt at Pp
 show aq _ _ ((execs body m.env).attempt>>=_) _ _ _
 refine aG (qj ((gu HX body g st).use R (fun fl st₂ e2 g₂ h₂ tk₂ fl' x₂ R₂ q₂=>?_) (fun k st₂ e2 g₂ h₂ tk₂ e x₂ R₂ X₂=>?_) fun e2=>?_))
 ·rw[e2]at Pp
  cases fl with
  |next=>rw[show fl'=.next from q₂];exact aM (Pp g₂ h₂ tk₂ _ x₂ R₂ .next)
  |ret v=>obtain⟨r,rfl,hv⟩:=q₂;exact aM (Pp g₂ h₂ tk₂ _ x₂ R₂ (.ret hv))
 ·rw[e2]at Pp
  cases hs with
  |nil=>exact Pp.elim
  |cons hd hs=>
   show aq _ _ (noteFrame (.ref e) m.env>>=fun _=>setFlight (.ref e) none>>=fun _=>handleBy (.ref e) m.env (hd::hs)) _ _ _
   refine ax (n9 (s:={s with heap:=h₂,toks:=tk₂}) G.O hm R₂ X₂ fun h₃ R₃ X₃=>?_)
   refine ax (lN (s:={s with heap:=h₃,toks:=tk₂}) (fr:=none) R₃ X₃ fun h₄ R₄ X₄=>?_)
   exact Dv G XK (HB e) R₄ X₄ (hd::hs) (Pp.shift x₂)
 ·rw[e2]at Pp;exact Pp.elim
end
end
section
open _root_.PySem.SeqAt
section
variable {P:aQ} {K:Frag} {mg mb:Str->Option Value} {C:V->List V->Hp->CR} {lv:Bool} {n:Nat} {sc:Scope}
theorem Dx{x:Str}{p:Pos}:ev P C lv bD sc (.Name x p)=name P sc x:=rfl
noncomputable def jX (P:aQ) (K:Frag) (mg mb:Str->Option Value) (C:V->List V->Hp->CR) (d:Nat):Prop:=
 ∀ m,aA m P K mg mb->m.d=d->m.env=m.cC->aY m (ev P C m.lv bD m.sc)->∀ (x:Str) (np:Pos) (args:List Expr) (cp p:Pos) (g:Gs) (st:St),
  Np m g st (exec (.Raise (some (.Call (.Name x np) args [] cp)) none p) m.env) (m6 P m.lv (ev P C m.lv bD m.sc) m.sc x args st) (aP m)
theorem Dy{it:Expr}{q:Str×Expr}(h:m5 it=some q):∃ np cp,it=.Call (.Name q.1 np) [q.2] [] cp:=by
 obtain⟨c,hc,h1⟩:=Option.bind_eq_some_iff.mp h
 obtain⟨x,hx,h2⟩:=Option.bind_eq_some_iff.mp h1
 obtain⟨e,he,h3⟩:=Option.bind_eq_some_iff.mp h2
 obtain⟨cp,rfl⟩:=qp hc
 obtain⟨np,e1⟩:=mK hx
 rw[e1,mJ he]
 cases hb:c.2.2.isEmpty with
 |false=>rw[hb]at h3;exact ag h3
 |true=>
  rw[hb]at h3
  have h3:=Option.some.inj h3
  subst h3
  exact⟨np,cp,by rw[isEmpty_nil hb]⟩
section
variable {m:Am} {g:Gs} {st:St} {ev:Expr->M V}
theorem Dz(H:aY m ev)(e:Option Expr)(p:Pos):Np m g st (exec (.Return e p) m.env) (retS ev e st) (aP m):=by
 cases e with
 |none=>exact CQ p
 |some e=>exact CS H e p
theorem DA(G:aA m P K mg mb)(H:aY m ev)(t:Expr)(op:Operator)(v:Expr)(p:Pos):Np m g st (exec (.AugAssign t op v p) m.env) (qW P ev m.sc t op v st) (aP m):=
 iL (motive:=fun t w=>Np m g st (exec (.AugAssign t op v p) m.env) (qV P ev m.sc op v w st) (aP m)) (fun x np=>C8 G H x np op v p) (fun o a tp=>C9 G H o a tp op v p) (fun o i sp=>Np.aK fun h=>Dc G H o i (fV h) sp op v p) (fun _ _ _=>Np.no) (fun _=>Np.no) t
theorem DB(G:aA m P K mg mb)(H:aY m ev)(ts:List Expr)(p:Pos):Np m g st (exec (.Delete ts p) m.env) (qY ev ts st) (aP m):=
 Np.ar fun x hx=>Np.aK fun _=>by
  obtain⟨t,ht,hx⟩:=Option.bind_eq_some_iff.mp hx
  obtain⟨sp,rfl⟩:=xJ hx
  rw[mJ ht]
  exact CU G H x.1 x.2 sp p
theorem DD(G:aA m P K mg mb)(hm:m.env=m.cC)(hlv:m.lv=true)(ih:∀ os,aY (m.x os) ev)(hname:∀ x p,ev (.Name x p)=name P m.sc x){ex:Stmt->M Fl}(HX:∀ os s,cF (m.x os) (exec s m.env) (ex s) (aP (m.x os)))(t it:Expr)(body:List Stmt)(p:Pos):
  Np m g st (exec (.For t it body [] p) m.env) (m7 P m.lv ev (bC ex body) m.sc t it st) (aP m):=by
 have pl:Np m g st (exec (.For t it body [] p) m.env) (plainS P m.lv ev (bC ex body) m.sc t it st) (aP m):=Df G hm hlv ih HX t it body p
 unfold m7
 cases hc:m5 it with
 |none=>exact pl
 |some q=>
  obtain⟨np,cp,rfl⟩:=Dy hc
  dsimp only
  cases q.1==("enumerate":Str)with
  |true=>exact Dm G hm hlv ih hname HX t q.2 q.1 np cp body p
  |false=>
   cases q.1==("reversed":Str)with
   |true=>exact Np.no
   |false=>exact pl
theorem DE(RZ:∀ (x:Str) (np:Pos) (args:List Expr) (cp p:Pos) (g:Gs) (st:St),Np m g st (exec (.Raise (some (.Call (.Name x np) args [] cp)) none p) m.env) (m6 P m.lv ev m.sc x args st) (aP m))(e c:Option Expr)(p:Pos):
  Np m g st (exec (.Raise e c p) m.env) (qX P m.lv ev m.sc e c st) (aP m):=
 Np.ar fun d hd=>Np.ar fun x hx=>Np.aK fun h=>by
  obtain⟨h1,h2⟩:=Bool.and_eq_true_iff.mp h
  obtain⟨e',rfl,hd⟩:=Option.bind_eq_some_iff.mp hd
  obtain⟨cp,rfl⟩:=qp hd
  obtain⟨np,e1⟩:=mK hx
  rw[e1,isNone_none h1,isEmpty_nil h2]
  exact RZ x np d.2.1 cp p g st
end
theorem tK{d:Nat}(XK:gw P K)(HC:∀ m',aA m' P K mg mb->m'.d=d->gp m' P C)(RZ:jX P K mg mb C d)(n:Nat):∀ (m:Am),aA m P K mg mb->m.env=m.cC->m.d=d->∀ s,cF m (exec s m.env) (ex P C n m.lv m.sc s) (aP m):=by
 induction n with
 |zero=>exact fun m G hm hd s g st=>Np.no
 |succ n ih=>
  intro m G hm hd s g st
  have EV:∀ m',aA m' P K mg mb->m'.d=d->aY m' (ev P C m'.lv bD m'.sc):=fun m' G' h=>te HC bD m' G' h
  have H:=EV m G hd
  have HX:=ih m G hm hd
  exact Stmt.casesOn (motive_2:=fun s=>Np m g st (exec s m.env) (ex P C (n+1) m.lv m.sc s st) (aP m)) s (fun x0 x1 x2 x3 x4 x5 x6 x7 x8 x9=>Np.no) (fun x0 x1 x2 x3 x4 x5 x6 x7 x8 x9=>Np.no) (fun x0 x1 x2 x3 x4 x5 x6 x7 x8 x9 x10=>Np.no) (fun e p=>Dz H e p) (fun ts p=>DB G H ts p) (fun ts v p=>C7 G H ts v p) (fun x0 x1 x2 x3 x4 x5 x6=>Np.no) (fun t op v p=>DA G H t op v p) (fun x0 x1 x2 x3 x4=>Np.no) (fun t it body o p=>Np.aK fun h=>by rw[isEmpty_nil (Bool.and_eq_true_iff.mp h).1];exact DD G hm (Bool.and_eq_true_iff.mp h).2 (fun os=>EV (m.x os) G.x hd) (fun x p=>Dx) (fun os=>ih (m.x os) G.x hm hd) t it body p) (fun x0 x1 x2 x3 x4=>Np.no) (fun t b o p=>Np.aK fun h=>by rw[isEmpty_nil h];exact Dd G hm H HX bD t b p 1000) (fun t b o p=>CT G H HX bD t b o p) (fun x0 x1 x2=>Np.no) (fun x0 x1 x2=>Np.no) (fun x0 x1 x2=>Np.no) (fun e c p=>DE (RZ m G hd hm H) e c p) (fun body hs o f p=>Np.aK fun h=>by rw[isEmpty_nil (Bool.and_eq_true_iff.mp h).1,isEmpty_nil (Bool.and_eq_true_iff.mp h).2];exact Dw G XK hm HX (fun e=>ih (m.marked e) (G.marked e) hm hd) body hs p) (fun x0 x1 x2 x3 x4=>Np.no) (fun x0 x1 x2=>Np.no) (fun x0 x1=>Np.no) (fun x0 x1 x2 x3=>Np.no) (fun x0 x1=>Np.no) (fun x0 x1=>Np.no) (fun v p=>CO G H v p) (fun p=>CP p) (fun x0=>Np.no) (fun x0=>Np.no)
end
end
section
open _root_.PySem.SeqAt
structure jY(m:Am)(C:V->List V->Hp->CR):Prop where
 call:∀ (f:V) (args:List V) (rf:Value) (rargs:List Value) (g:Gs) (st:St) (A:Around) (s:Shared) (Q:Value->Shared->Prop) (E:Value->Shared->Prop),fC m A->m.VR g f rf->m.ay g args rargs->m.lv=true->Rel m g st s.heap->
  bI m g (Lite.call C true f args st) m.VR Q E s->codeN (model m.c.prog m.c.w) A (.call rf ⟨rargs,[]⟩) (fun r s'=>match r with | .ok (.ret v)=>Q v s' | .ok _=>False | .error e=>E e s') s
 keep:∀ (f:V) (args:List V) (rf:Value) (g:Gs) (st:St) (h:Heap),m.VR g f rf->Inv m.c g st.H h->m.lv=true->Lite.call C true f args st≠.no->Keeps (model m.c.prog m.c.w) h rf
structure fh(P:aQ)(K:Frag)(mg:Str->Option Value):Prop where
 fn:∀ c:Cx,K.In c.b₀->BMod c.b₀ mg->c.T=P.T->(∀ q∈P.tabs,q∈c.Qs)->∀ a f,P.fn a=some f->i9 c mg a f
 tL:∀ a f,P.fn a=some f->keepIn K (.ref a)=true
 cls:∀ C init,P.cls.lookup C=some init->makesIn K C=true∧findIn K (.ref C) "__init__"=some (some (.ref init))∧typeIn K (.ref init)=some (.type "function")∧keepIn K (.ref C)=true
theorem DF(C:Addr)(rest:List Value):(Code.builtin "type.__call__" ⟨.ref C::rest,[]⟩).weight=1:=by rfl
theorem DG(C:Addr)(rest:List Value):(Code.builtin "type.__call__" ⟨.ref C::rest,[]⟩).cUnits=1:=by rfl
theorem DH(C:Addr)(rest:List Value):(Code.builtin "type.__call__" ⟨.ref C::rest,[]⟩).isGuard=false:=by
 show guardIds.contains "type.__call__"=false
 decide+kernel
section
variable {m:Am} {g:Gs} {st:St} {P:aQ} {K:Frag} {mg mb:Str->Option Value} {C:V->List V->Hp->CR}
theorem DI(G:aA m P K mg mb)(hlv:m.lv=true):fC m m.A:=⟨G.O.frames,G.O.de hlv,G.O.eH,by lia,by lia⟩
theorem tM(G:aA m P K mg mb)(hlv:m.lv=true)(c:Addr)(rest:List Value):fC m (mk m.A c rest):=by
 refine⟨?_,G.O.de hlv,?_,?_,?_⟩
 ·show pushEnvs (Code.builtin "type.__call__" ⟨.ref c::rest,[]⟩).envs m.A.frames=_
  exact G.O.frames
 ·show pushGuards (Code.builtin "type.__call__" ⟨.ref c::rest,[]⟩).guards m.A.guards=_
  unfold Code.guards
  rw[DH]
  exact G.O.eH
 ·show m.A.depth+(Code.builtin "type.__call__" ⟨.ref c::rest,[]⟩).weight<=_
  rw[DF];lia
 ·show m.A.units+(Code.builtin "type.__call__" ⟨.ref c::rest,[]⟩).cUnits<=_
  rw[DG];lia
theorem DJ{K:Frag}{M:Model}{h:Heap}{c:Addr}(Y:Makes M h c):Made M h c "object.__new__":=by
 obtain⟨⟨oc,od,cd,sl,hC,e1,e2,e4⟩,made,base,self,top,call,typ⟩:=Y
 have hm:Looks M h (mroOf (.ref c)) cd.mro:=((Looks.ld (part:=none) hC).andThen .now).andThen .now
 generalize cd.mro=mr at hm e4
 cases mr with
 |nil=>exact Bool.noConfusion e4
 |cons c' l=>exact⟨⟨oc,od,cd,sl,hC⟩,⟨c',l,hm⟩,made,call,typ⟩
theorem Rel.DK{h:Heap}{x dx c:Addr}(R:Rel m g st h)(fx:ba m.c g st.H x)(fd:ba m.c g st.H dx)(ne:x≠dx)(hx:h.get? x=some (instObj c dx))(hd:h.get? dx=some emptyDict):Rel m (g.lay (x,dx)) {st with H:=st.H++[.inst c []]} h:=
 ⟨R.inv.lay (List.nodup_cons.mpr ⟨fun q=>ne (List.mem_singleton.mp q),List.nodup_cons.mpr ⟨fun q=>(nomatch q),List.nodup_nil⟩⟩) (List.forall_mem_cons.mpr ⟨⟨fx,_,hx,rfl⟩,List.forall_mem_cons.mpr ⟨⟨fd,_,hd,[],0,rfl,.nil⟩,fun _ q=>(nomatch q)⟩⟩),R.loc.mono (dc g _) rfl⟩
theorem DL(G:aA m P K mg mb)(T:fh P K mg)(RO:jY m C)(hlv:m.lv=true){c init:Addr}(hc:P.cls.lookup c=some init){args:List V}{rargs:List Value}(va:m.ay g args rargs):
  Np m g st (PySem.call (.ref c) rargs) ((alloc (.inst c [])>>=fun x=>Lite.call C true (.af init) (x::args)>>=mI>>=fun _=>pure x) st) m.VR:=by
 obtain⟨t1,t2,t3,t4⟩:=T.cls c init hc
 intro s Q E R Pp
 have X:=G.PK.KX.keeps R.inv.base
 have Y:=makes_of (M:=model m.c.prog m.c.w) X t1
 have hi:=looks_findIn (M:=model m.c.prog m.c.w) X t2
 obtain⟨hh,gg,dd,tt,oo⟩:=s
 refine fw (tD (DJ (K:=K) Y) (wpAny_call (new_K (init:=.ref init) Y hi (.inl rfl) ?_)))
 have k:∀ b o,hh.get? b=some o->((hh.push emptyDict).push (instObj c hh.objs.size)).get? b=some o:=fun b o e=>Heap.get?_push_of_some _ (Heap.get?_push_of_some _ e)
 have hx:((hh.push emptyDict).push (instObj c hh.objs.size)).get? (hh.objs.size+1)=some (instObj c hh.objs.size):=by rw[<-Heap.size_push hh emptyDict];exact Heap.get?_push_size _ rfl
 have hdx:((hh.push emptyDict).push (instObj c hh.objs.size)).get? hh.objs.size=some emptyDict:=Heap.get?_push_of_some _ (Heap.get?_push_size _ rfl)
 have t1':Looks (model m.c.prog m.c.w) ((hh.push emptyDict).push (instObj c hh.objs.size)) (typeOf (.ref (hh.objs.size+1))) (.ref c):=(Looks.ld hx).andThen .now
 refine⟨hh.objs.size+1,.ref init,rfl,t1'.andThen (Y.self.keeps k),t1'.andThen (hi.keeps k),(bind_fn X _ t3).keeps k,?_⟩
 have R1:=(R.keeps k).DK (R.inv.free (ic (Nat.le_succ _))) (R.inv.free (dq hh)) (Nat.succ_ne_self _) hx hdx
 have hlast:=R.last (p:=(hh.objs.size+1,hh.objs.size))
 have xg:=dc g (hh.objs.size+1,hh.objs.size)
 refine fw (fM (RO.call (.af init) (V.ref st.H.length::args) (.ref init) (.ref (hh.objs.size+1)::rargs) (g.lay (hh.objs.size+1,hh.objs.size)) {st with H:=st.H++[.inst c []]} _ ⟨(hh.push emptyDict).push (instObj c hh.objs.size),gg,dd,tt,oo⟩ (fun r s₂=>r=.none∧Q (.ref (hh.objs.size+1)) s₂) E (tM G hlv c rargs) (.af init) (.cons (VR.ref hlast) (ay.mono xg va)) hlv R1 ?_) fun r s' h=>h)
 replace Pp:bI m g (((Lite.call C true (.af init) (V.ref st.H.length::args)>>=mI)>>=fun _=>pure (V.ref st.H.length)) {st with H:=st.H++[.inst c []]}) m.VR Q E ⟨hh,gg,dd,tt,oo⟩:=Pp
 rw[M.bind_assoc]at Pp
 cases hr:Lite.call C true (.af init) (V.ref st.H.length::args) {st with H:=st.H++[.inst c []]} with
 |ok v st₂=>
  rw[cg hr]at Pp
  intro g' h' tk r x Rr q
  revert Pp
  refine gj (Pr:=fun r'=>bI m g r' m.VR Q E _->_) (fun P=>P.elim) fun _ hv Pp=>?_
  rw[rp hv]at q
  exact⟨q,Pp g' h' tk _ (xg.trans x) Rr (VR.ref (x.at hlast))⟩
 |exc kk st₂=>
  rw[dt hr]at Pp
  exact fun g' h' tk e x Rr q=>Pp g' h' tk e (xg.trans x) Rr q
 |no=>rw[cL hr]at Pp;exact Pp.elim
theorem jZ{b c:Bool}(h:(b||c)=true)(hc:c=false):b=true:=(Bool.or_eq_true_iff.mp h).resolve_right fun e=>Bool.noConfusion (hc.symm.trans e)
theorem DM(G:aA m P K mg mb)(T:fh P K mg)(RO:jY m C){args:List V}{rf:Value}{rargs:List Value}(va:m.ay g args rargs)(f:V):m.VR g f rf->(m.lv||kS f)=true->Np m g st (PySem.call rf rargs) (mX P C m.lv f args st) m.VR:=by
 have key:∀ f,m.VR g f rf->m.lv=true->Np m g st (PySem.call rf rargs) (Lite.call C m.lv f args st) m.VR:=fun f vf hlv s Q E R Pp=>fw (RO.call f args rf rargs g st m.A s Q E (DI G hlv) vf va hlv R (hlv▸Pp))
 cases f with
 |af a=>
  intro vf hg
  have hlv:=jZ hg rfl
  rw[show rf=.ref a from vf]at key ⊢
  show Np m g st _ (jy C m.lv a args (P.cls.lookup a) st) _
  cases hc:P.cls.lookup a with
  |some init=>rw[hlv];exact DL G T RO hlv hc va
  |none=>exact key _ rfl hlv
 |ref a=>exact fun vf hg=>key _ vf (jZ hg rfl)
 |bi id=>
  intro vf hg
  rw[show rf=.builtin id from vf]
  exact sq G.O (fun ne=>(Bool.or_eq_true_iff.mp hg).elim G.O.de fun h=>absurd (beq_iff_eq.mp h) ne) G.sys va fun e=>e▸Av G.O G.PK (by have:=G.O.gi;lia) va
 |ty n=>
  intro vf hg
  rw[show rf=.type n from vf]
  exact Ao G.O (G.O.de (jZ hg rfl)) va
 |_=>exact fun _ _=>Np.no
theorem DN(G:aA m P K mg mb)(T:fh P K mg)(RO:jY m C){args:List V}{rf:Value}{h:Heap}(I:Inv m.c g st.H h)(f:V):m.VR g f rf->(m.lv||kS f)=true->mX P C m.lv f args st≠.no->Keeps (model m.c.prog m.c.w) h rf:=by
 have key:∀ f,m.VR g f rf->m.lv=true->Lite.call C m.lv f args st≠.no->Keeps (model m.c.prog m.c.w) h rf:=fun f vf hlv hn=>RO.keep f args rf g st h vf I hlv (hlv▸hn)
 cases f with
 |af a=>
  intro vf hg hn
  replace hn:jy C m.lv a args (P.cls.lookup a) st≠.no:=hn
  cases hc:P.cls.lookup a with
  |some init=>rw[show rf=.ref a from vf];exact keeps_K (T.cls a init hc).2.2.2 h (G.PK.KX.keeps I.base)
  |none=>rw[hc]at hn;exact key (.af a) vf (jZ hg rfl) hn
 |ref a=>exact fun vf hg hn=>key _ vf (jZ hg rfl) hn
 |bi id=>intro vf _ _;rw[show rf=.builtin id from vf];exact⟨.machine,.inr (.inl rfl),Looks.of_pure rfl⟩
 |ty n=>intro vf _ _;rw[show rf=.type n from vf];exact⟨.machine,.inr (.inl rfl),Looks.of_pure rfl⟩
 |_=>exact fun _ _ hn=>absurd rfl hn
theorem tN(G:aA m P K mg mb)(T:fh P K mg)(RO:jY m C):gp m P C where
 call f args rf rargs g st vf va:=Np.aK fun hg=>DM G T RO va f vf hg
 keep f args rf g st h vf I hn:=by
  cases hg:(m.lv||kS f)with
  |false=>exact absurd (by unfold aR;rw[hg];rfl) hn
  |true=>exact DN G T RO I f vf hg (fun e=>hn (by unfold aR;rw[hg];exact e))
end
end
section
open _root_.PySem.SeqAt
section
variable {m:Am} {g:Gs} {st:St} {P:aQ} {K:Frag} {mg mb:Str->Option Value}
noncomputable def fi (lo:List (Option V)):CR->R V
 | .ok v H=>.ok v ⟨lo,H⟩
 | .exc c H=>.exc c ⟨lo,H⟩
 | .no=>.no
theorem tO{C:V->List V->Hp->CR}{f:V}{args:List V}:Lite.call C true f args st=fi st.lo (C f args st.H):=by
 show(match C f args st.H with | .ok v H=>R.ok v {st with H:=H} | .exc c H=>R.exc c {st with H:=H} | .no=>R.no)=_
 cases C f args st.H<;>rfl
theorem DO{lo:List (Option V)}(r:R Fl):fi lo (gJ r)=i' lZ lo r:=by
 cases r with
 |ok fl s=>cases fl<;>rfl
 |_=>rfl
theorem DP{lo:List (Option V)}(r:R V):fi lo (kW r)=i' id lo r:=by cases r<;>rfl
theorem l0{α:Type}{o:Option α}{F:α->CR}{lo:List (Option V)}(h:fi lo (ia o F)≠.no):∃ a,o=some a:=by
 cases o with
 |none=>exact absurd rfl h
 |some a=>exact⟨a,rfl⟩
theorem bI.lO{α β:Type}{r:R α}{rel:Gs->α->β->Prop}{Q:β->Shared->Prop}{E:Value->Shared->Prop}{s:Shared}(P:bI m g r rel Q E s):r≠.no:=fun e=>by subst e;exact P.elim
theorem DQ{o:O}{c:Expr×Scope×List (Option V)}(h:m8 o=some c):o=.cQ c.1 c.2.1 c.2.2:=by
 cases o with
 |cQ e sc lo=>rw[<-Option.some.inj h]
 |_=>exact ag h
theorem tP{n:Nat}{a:Nat}{args:List V}(h:fi st.lo (jG P (run P n) a args st.H)≠.no):∃ e sc lo,st.H[a]? =some (.cQ e sc lo)∧args=[]∧fi st.lo (jG P (run P n) a args st.H)=i' id st.lo (ev P (run P n) true bD (mark sc) e ⟨lo,st.H⟩):=by
 obtain⟨c,hc⟩:=l0 h
 obtain⟨o,ho,hc'⟩:=Option.bind_eq_some_iff.mp hc
 unfold jG at h ⊢
 rw[hc]at h ⊢
 cases args with
 |nil=>exact⟨_,_,_,ho.trans (congrArg some (DQ hc')),rfl,DP _⟩
 |cons _ _=>exact absurd rfl h
theorem DR(XK:gw P K)(T:fh P K mg){n:Nat}(RZ:jX P K mg mb (run P n) (n+1))(HC:∀ m',aA m' P K mg mb->m'.d=n+1->gp m' P (run P n))(G:aA m P K mg mb)(hd:m.d=n+1+1){args:List V}{rf:Value}{rargs:List Value}{A:Around}{s:Shared}{Q E:Value->Shared->Prop}(HA:fC m A)(va:m.ay g args rargs)(R:Rel m g st s.heap)(f:V):
  m.VR g f rf->bI m g (fi st.lo (m9 P (run P n) f args st.H)) m.VR Q E s->codeN (model m.c.prog m.c.w) A (.call rf ⟨rargs,[]⟩) (fun r s'=>match r with | .ok (.ret v)=>Q v s' | .ok _=>False | .error e=>E e s') s:=by
 cases f with
 |af a=>
  intro vf Pp
  rw[show rf=.ref a from vf]
  replace Pp:bI m g (fi st.lo (runC P (run P n) a args st.H)) m.VR Q E s:=Pp
  obtain⟨f,hf⟩:=l0 Pp.lO
  unfold runC at Pp
  rw[hf]at Pp
  obtain⟨b,hb⟩:=l0 (o:=binds f args) Pp.lO
  replace Pp:bI m g (fi st.lo (ia (binds f args) fun b=>gJ (bC (ex P (run P n) bD true f.scope) f.body ⟨cX f.scope.names b st.H.length,st.H++dN f.scope.names b⟩))) m.VR Q E s:=Pp
  rw[hb]at Pp
  replace Pp:bI m g (fi st.lo (gJ (bC (ex P (run P n) bD true f.scope) f.body ⟨cX f.scope.names b st.H.length,st.H++dN f.scope.names b⟩))) m.VR Q E s:=Pp
  rw[DO]at Pp
  exact CK G (T.fn m.c G.PK.KX G.PK.glob.bm G.PK.T G.qs a f hf) hd HA hb R va (body:=bC (ex P (run P n) bD true f.scope) f.body) (fun m' G' h1 h2 h3 h4 g' st'=>gu (fun s=>h2▸h3▸tK XK HC RZ bD m' G' h4 h1 s) f.body g' st') Pp
 |ref a=>
  intro vf Pp
  replace Pp:bI m g (fi st.lo (jG P (run P n) a args st.H)) m.VR Q E s:=Pp
  obtain⟨e,sc,lo,ho,ha,e'⟩:=tP Pp.lO
  rw[e']at Pp
  rw[ha]at va
  rw[show rargs=[] from va]
  exact CL G hd HA R vf ho (body:=ev P (run P n) true bD (mark sc) e) (fun m' G' h1 h2 h3 h4 g' st'=>h2▸h3▸(te HC bD m' G' h1).snd e g' st') Pp
 |_=>exact fun _ Pp=>Pp.elim
theorem DS(T:fh P K mg){n:Nat}(G:aA m P K mg mb){args:List V}{rf:Value}{h:Heap}(I:Inv m.c g st.H h)(f:V):m.VR g f rf->fi st.lo (m9 P (run P n) f args st.H)≠.no->Keeps (model m.c.prog m.c.w) h rf:=by
 cases f with
 |af a=>
  intro vf hn
  rw[show rf=.ref a from vf]
  obtain⟨f,hf⟩:=l0 (o:=P.fn a) hn
  exact keeps_K (T.tL a f hf) h (G.PK.KX.keeps I.base)
 |ref a=>
  intro vf hn
  obtain⟨e,sc,lo,ho,_⟩:=tP hn
  obtain⟨x,y,rfl,hp⟩:=vf
  obtain⟨ob,hob,z,hz⟩:=I.obj hp ho
  have hob:=hob.trans (congrArg some hz.ob)
  exact⟨.frame,.inl rfl,(Looks.ld (part:=none) hob).andThen .now⟩
 |_=>exact fun _ hn=>absurd rfl hn
theorem DT(XK:gw P K)(T:fh P K mg)(RZ:∀ n,jX P K mg mb (run P n) (n+1))(n:Nat):∀ (m:Am),aA m P K mg mb->m.d=n+1->jY m (run P n):=by
 induction n with
 |zero=>exact fun m G hd=>⟨fun f args rf rargs g st A s Q E HA vf va hlv R Pp=>Pp.elim,fun f args rf g st h vf I hlv hn=>absurd rfl hn⟩
 |succ n ih=>exact fun m G hd=>⟨fun f args rf rargs g st A s Q E HA vf va hlv R Pp=>DR XK T (RZ n) (fun m' G' h=>tN G' T (ih m' G' h)) G hd HA va R f vf (tO (C:=run P (n+1))▸Pp),fun f args rf g st h vf I hlv hn=>DS T G I f vf (tO (C:=run P (n+1))▸hn)⟩
end
end
section
open _root_.PySem.SeqAt
section
variable {prog:Program} {w:World} {A:Around} {E:Value->Shared->Prop} {h:Heap} {g:Array GenState} {d:Drawn} {t:Nat} {os:OsState}
variable {nm q:Str} {C N:Addr} {bs bm:List Value} {hdct:Bool} {sn:List Str} {sub:List Value} {ab:Bool} {col:Option Bool} {dd:Option Addr} {k0 k1 k2 k3 k5:Option Value}
theorem DU{M:Model}{rest:List Value}{Q:Unit->Shared->Prop}(hC:h.get? C=some (excClassObj nm q C N bs bm hdct sn sub ab col dd k0 k1 k2 k3 k5 "ValueError.__new__"))(b1:bm.contains (.type "ValueError")=true)
  (hq:Q () ⟨h,g,d,t,os⟩):wpAny M A (checkBuiltinCall "ValueError.__new__" ⟨.ref C::rest,[]⟩) Q E ⟨h,g,d,t,os⟩:=by
 have F:=PySem.F.excBase_ValueError
 have hcont:(Value.ref C::bm).contains (.type "ValueError")=true:=by simp only[List.contains_cons,b1,Bool.or_true]
 have hstar:=F.noStar
 simp only[checkBuiltinCall,F.newKind,F.newSplit,F.newRow]
 repeat (first |refine wpAny_loadPart_at hC ?_ | (refine wpAny_isSubtype_exc hC ?_;rw[hcont]) |refine wpAny_staticBase_exc hC ?_ |refine wpAny_madeBy_exc hC ?_ |simp only[bne_self_eq_false,Bool.false_eq_true,if_false] |wp_step)
 exact hq
noncomputable abbrev cV (C t:Addr):Obj:={cls:=.ref C,data:=.fields #[.ref t,.none,.none,.none,.bool false,.none]}
noncomputable abbrev iw (rest:List Value):Obj:={cls:=.type "tuple",data:=.seq rest.toArray}
theorem DV{rest:List Value}{Q:Value->Shared->Prop}(hC:h.get? C=some (excClassObj nm q C N bs bm hdct sn sub ab col dd k0 k1 k2 k3 k5 "ValueError.__new__"))(b1:bm.contains (.type "ValueError")=true)
  (b2:bm.contains (.type "AttributeError")=false) (b3:bm.contains (.type "NameError")=false) (hrest:rest.length<=sizeLine)
  (hq:Q (.ref (h.objs.size+1)) ⟨(h.push (iw rest)).push (cV C h.objs.size),g,d,t,os⟩):
  wpAny (model prog w) A (PySem.call (.builtin "ValueError.__new__") (.ref C::rest)) Q E ⟨h,g,d,t,os⟩:=by
 have F:=PySem.F.excBase_ValueError
 refine wpAny_call (codeAny_call_builtin_code (Code.quiet_builtin _ F.quiet) (DU hC b1 ?_))
 have hends:=F.ends
 have hcB:(Value.ref C::bm).contains (.type "ValueError")=true:=by simp only[List.contains_cons,b1,Bool.or_true]
 have hcA:(Value.ref C::bm).contains (.type "AttributeError")=false:=by simp only[List.contains_cons,b2];rfl
 have hcN:(Value.ref C::bm).contains (.type "NameError")=false:=by simp only[List.contains_cons,b3];rfl
 refine codeAny_builtinAt F.entry ?_
 unfold Builtin.«BaseException.__new__»
 refine PySem.wpAt_bind ?_
 show PySem.wpAt _ _ _ (stack>>=_) _ _ _
 refine PySem.wpAt_bind (PySem.wpAt_stack fun p below=>PySem.wpAt_of_wpAny ?_)
 wp_walk
 refine PySem.wpAt_of_wpAny ?_
 rw[F.owner]
 repeat (first |with_reducible refine wpAny_madeHere_exc F.canon hC ?_ |with_reducible refine wpAny_loadPart_at hC ?_ | (with_reducible refine wpAny_isSubtype_exc hC ?_;first |rw[hcB] |rw[hcA] |rw[hcN]) |wp_step)
 show Q _ _
 rw[Heap.size_push]
 exact hq
end
end
section
open _root_.PySem.SeqAt Builtin Builtin.ObjectAttr Builtin.BaseException
noncomputable def j0:List Value->List Value
 | .ref _::r=>j0 r
 |l=>l
noncomputable abbrev j4:List Value:=[.type "ValueError",.type "Exception",.type "BaseException",.type "object"]
theorem tQ(self:Value):∀ {l:List Value},j0 l=j4->refuseLoop self "__setattr__" l=pure ()
 | [],e=>nomatch e
 | .ref c::r,e=>by rw[refuseLoop_ref];exact tQ self e
 | .none::_,e=>nomatch e
 | .ellipsis::_,e=>nomatch e
 | .notImplemented::_,e=>nomatch e
 | .bool _::_,e=>nomatch e
 | .int _ _::_,e=>nomatch e
 | .float _ _::_,e=>nomatch e
 | .str _ _::_,e=>nomatch e
 | .bytes _ _::_,e=>nomatch e
 | .builtin _::_,e=>nomatch e
 | .type n::r,e=>by
  have e:(.type n::r:List Value)=j4:=e
  rw[e]
  exact PySem.F.store_ValueError.passes self
theorem onHeap{α:Type}{M:Model}{A:Around}{t:Sem α}{r:α}{Q:α->Shared->Prop}{E:Value->Shared->Prop}{h:Heap}{s:Shared}(x:Looks M h t r)(e:s.heap=h)(q:Q r s):wpAny M A t Q E s:=x A Q E s (fun b o z=>by rw[e];exact z) q
section
variable {prog:Program} {w:World} {A:Around} {E:Value->Shared->Prop} {s:Shared} {K:Frag} {e c:Addr} {ob:Obj} {vs:Array Value}
theorem DW{name:Str}{v:Value}{cd:ClassData}{Q:Unit->Shared->Prop}(X:K.In s.heap)(he:s.heap.get? e=some ob)(hc:ob.cls=.ref c)(hd:ob.dict=none)(hf:ob.data=.fields vs)
  (f1:findIn K (.ref c) "__setattr__"=some (some (.builtin "object.__setattr__"))) (f2:takerIn K c name=some none) (f3:clsIn K c=some cd) (f4:cd.hasDict=true) (f5:j0 cd.mro=j4) (f6:subIn K (.ref c) (.type "object")=some true)
  (hq:∀ h' tk,(∀ b o,b≠e->s.heap.get? b=some o->h'.get? b=some o)->(∃ dx,h'.get? e=some {ob with dict:=some dx})->Q () {s with heap:=h',toks:=tk}):
  wpAny (model prog w) A (setAttr (.ref e) name v) Q E s:=by
 have SF:=PySem.F.store_ValueError
 have ty:∀ h',h'.get? e=some ob->Looks (model prog w) h' (typeOf (.ref e)) (.ref c):=fun h' he=>(Looks.ld (part:=some headPart) he).andThen (by rw[hc];exact .now)
 unfold setAttr callSpecial?
 refine wpAny_bind (wpAny_mkText ?_)
 unfold specialOf
 refine wpAny_bind (wpAny_bind (wpAny_bind (onHeap (ty s.heap he) rfl (onHeap (looks_findIn X f1) rfl ?_))))
 dsimp only
 refine wpAny_holding ?_
 rw[SF.slot.bind (.ref e)]
 refine wpAny_bind (wpAny_pure (wpAny_bind (wpAny_call (codeAny_call_builtin SF.slot.plain SF.entry ?_))))
 have isO:Looks (model prog w) s.heap (isInstance (.ref e) (.type "object")) true:=(ty s.heap he).andThen (looks_subIn X f6)
 refine @check_slot (model prog w) _ _ {s with toks:=s.toks+1} "object.__setattr__" "object" "__setattr__" (.ref e) [.str name s.toks,v] [] _ SF.kind SF.split isO (SF.args (.ref e) (.str name s.toks) v) ?_
 have hm:Looks (model prog w) s.heap (mroOf (.ref c)) cd.mro:=(looks_clsIn X f3).andThen .now
 obtain⟨attr,ha,hr⟩:=Option.bind_eq_some_iff.mp f2
 have L3:Looks (model prog w) s.heap (storeTaker? attr) none:=by
  cases attr with
  |none=>exact .now
  |some a=>
   obtain⟨b,hb,hb2⟩:=Option.map_eq_some_iff.mp hr
   refine(looks_takesIn X hb).andThen ?_
   cases b with
   |true=>contradiction
   |false=>exact .now
 show wpAny _ _ (Builtin.«object.__setattr__» ⟨[.ref e,.str name s.toks,v],[]⟩) _ _ _
 simp only[osa_eq,refuse_eq]
 refine wpAny_bind (wpAny_bind (onHeap (ty s.heap he) rfl (wpAny_bind (onHeap hm rfl ?_))))
 rw[tQ _ f5]
 refine wpAny_pure (wpAny_bind (onHeap (ty s.heap he) rfl (wpAny_bind (onHeap (looks_findIn X ha) rfl (wpAny_bind (onHeap L3 rfl ?_))))))
 dsimp only
 unfold storeInOwnDict
 refine wpAny_bind (wpAny_pure ?_)
 rw[if_neg (by simp)]
 unfold ownDictForStores instanceDict
 refine wpAny_bind (wpAny_bind (wpAny_loadPart he ?_))
 rw[hc]
 refine wpAny_bind (onHeap (looks_clsIn X f3) rfl ?_)
 simp only[f4,hd]
 simp only[Bool.not_true,Bool.false_eq_true,if_false,typeHasDict,Bool.or_self]
 rw[hf]
 dsimp only
 have hes:e≠s.heap.objs.size:=Nat.ne_of_lt (Heap.lt_size he)
 have he₁:(s.heap.push emptyDict).get? e=some ob:=Heap.get?_push_of_some _ he
 have hfr:({ob with dict:=some s.heap.objs.size}:Obj).isFreed=false:=by
  have:=(Heap.get?_some_iff.mp he).2
  obtain⟨oc,od,odt,osl⟩:=ob
  cases odt<;>first |rfl |exact this
 refine wpAny_bind (wpAny_alloc (wpAny_bind (wpAny_update he₁ ?_)))
 have hgd:((s.heap.push emptyDict).update e fun o=>{o with dict:=some s.heap.objs.size}).get? s.heap.objs.size=some emptyDict:=
  (Heap.get?_update_other _ _ (Ne.symm (Ne.symm hes))).trans (Heap.get?_push_size _ rfl)
 have hge:=Heap.get?_update_self (fun o:Obj=>{o with dict:=some s.heap.objs.size}) he₁ hfr
 have de:((s.heap.push emptyDict).update e fun o=>{o with dict:=some s.heap.objs.size}).Ns s.heap.objs.size (fun _=>none):=⟨_,#[],_,hgd,rfl,fun e he=>absurd he (by simp),fun _=>rfl⟩
 show wpAny _ _ (pure (some s.heap.objs.size)) _ _ _
 refine wpAny_pure ?_
 dsimp only
 show wpAny _ _ (storeInDict s.heap.objs.size (.str name s.toks) name v) _ _ _
 unfold storeInDict newKeyGuard
 refine wpAny_bind (wpAny_pure (wpAny_bind (wpAny_nsSet1 (Heap.Ns1.of_empty de) fun h' hn' hs=>?_)))
 obtain⟨oD,esD,epD,hoD,hdD,hcD⟩:=hn'.count (Within.cons name v Within.nil)
 refine wpAny_bind (wpAny_lookBehind hoD (by rw[hdD];exact pastItsLine_dict (Nat.le_trans hcD (by simp only[List.length_cons,List.length_nil,sizeLine_eq];omega))) ?_)
 refine wpAny_pure ?_
 refine wpAny_pure (wpAny_pure ?_)
 refine hq h' _ (fun b o hb hbo=>?_) ⟨s.heap.objs.size,?_⟩
 ·exact(hs.2 b (Nat.ne_of_lt (Heap.lt_size hbo))).trans ((Heap.get?_update_other _ _ (Ne.symm hb)).trans (Heap.get?_push_of_some _ hbo))
 ·exact(hs.2 e hes).trans hge
theorem DX{t0:Addr}{r:Value}{Q:Value->Shared->Prop}{oC:Value}{oD:Option Addr}{cd:ClassData}{oS:Array (Option Value)}(X:K.In s.heap)(hC:s.heap.get? c=some ⟨oC,oD,.cls cd,oS⟩)(he:s.heap.get? e=some (cV c t0))(f1:subIn K (.ref c) (.type "ValueError")=some true)
  (hq:∀ h' t2,(∀ b o,b≠e->s.heap.get? b=some o->h'.get? b=some o)->h'.get? e=some (cV c t2)->Q .none {s with heap:=h'}):
  wpAny (model prog w) A (PySem.call (.builtin "ValueError.__init__") [.ref e,r]) Q E s:=by
 have F:=PySem.F.excBase_ValueError
 have ty:Looks (model prog w) s.heap (typeOf (.ref e)) (.ref c):=(Looks.ld (part:=some headPart) he).andThen .now
 have iM:Looks (model prog w) s.heap (isInstance (.ref e) (.type "ValueError")) true:=ty.andThen (looks_subIn X f1)
 refine wpAny_call (codeAny_call_builtin F.init.plain F.initEntry ?_)
 have hshort:=F.noStar
 simp only[checkBuiltinCall,F.initKind,F.initSplit,F.initRow]
 refine wpAny_bind (iM.here ?_)
 simp only[Bool.not_true,Bool.false_eq_true,if_false]
 repeat (first |with_reducible refine wpAny_load hC ?_ |with_reducible refine wpAny_loadPart hC ?_ |wp_step)
 have hes:e≠s.heap.objs.size:=Nat.ne_of_lt (Heap.lt_size he)
 have he₁:(s.heap.push (iw [r])).get? e=some (cV c t0):=Heap.get?_push_of_some _ he
 refine hq _ s.heap.objs.size (fun b o hb hbo=>?_) ?_
 ·exact(Heap.get?_update_other _ _ (Ne.symm hb)).trans (Heap.get?_push_of_some _ hbo)
 ·exact Heap.get?_update_self _ he₁ rfl
end
end
section
open _root_.PySem.SeqAt
noncomputable def ja (body:List Stmt):Prop:=∃ p1 p2 p3 p4 p5 p6 p7 p8 p9 p10:Pos,body=[.Expr (.Call (.Attribute (.Name "ValueError" p1) "__init__" p2) [.Name "self" p3,.Name "reason" p4] [] p5) p6,.Assign [.Attribute (.Name "self" p7) "reason" p8] (.Name "reason" p9) p10]∧(p2.endLine==p5.line)=true
noncomputable abbrev gx:List (Str×NameKind):=[("self",.local),("reason",.local),("ValueError",.globalImplicit)]
structure l6(P:aQ)(K:Frag)(c:Addr):Prop where
 obj:gF fun nm q N bs bm sn=>gF fun sub ab col dd k0 k1=>dm fun k2 k3 k5=>(gE (K.lookup c=some (excClassObj nm q c N bs bm true sn sub ab col dd k0 k1 k2 k3 k5 "ValueError.__new__")) (bm.contains (.type "ValueError")=true) (bm.contains (.type "AttributeError")=false) (bm.contains (.type "NameError")=false) (j0 (.ref c::bm)=j4))
 call:specialIn K (.ref c) "__call__"=some (some (.builtin "type.__call__"))
 typ:instIn K (.ref c) (.type "type")=some true
 DY:typeIn K (.ref c)=some (.type "type")
 keep:keepIn K (.ref c)=true
 self:subIn K (.ref c) (.ref c)=some true
 top:subIn K (.ref c) (.type "object")=some true
 ve:subIn K (.ref c) (.type "ValueError")=some true
 be:subIn K (.ref c) (.type "BaseException")=some true
 init:bV fun fI f=>(kJ (findIn K (.ref c) "__init__"=some (some (.ref fI))) (typeIn K (.ref fI)=some (.type "function")) (P.fn fI=some f) (ja f.body) (f.params=[("self":Str),("reason":Str)]) (f.scope.names=gx))
 set:findIn K (.ref c) "__setattr__"=some (some (.builtin "object.__setattr__"))
 reason:takerIn K c "reason"=some none
structure j5(P:aQ)(K:Frag):Prop where
 exc:∀ c,P.dA.contains c=true->l6 P K c
 init:findCls K (.type "ValueError") (.type "type") "__init__"=some (.val (.builtin "ValueError.__init__"))
 g:P.G.lookup ("ValueError":Str)=some (V.ty "ValueError")
section
variable {m:Am} {g:Gs} {st:St} {os:List (Addr×Obj)} {P:aQ} {K:Frag} {mg mb:Str->Option Value} {C:V->List V->Hp->CR}
theorem Rel.tR{h h':Heap}{e:Addr}(R:Rel m g st h)(F:ba m.c g st.H e)(hk:∀ b o,b≠e->h.get? b=some o->h'.get? b=some o):Rel m g st h':=
 ⟨⟨fun b o q=>hk b o (fun z=>by simp only[z,F.2]at q;contradiction) (R.inv.base b o q),R.inv.above,R.inv.len,fun x hx=>let ⟨o,q1,q2⟩:=R.inv.sat x hx;⟨o,hk _ _ (F.1 x hx) q1,q2⟩,R.inv.cJ,R.inv.low,R.inv.tabs⟩,R.loc⟩
theorem DZ{sc:Scope}(h:sc.names=gx):dn sc "self"=.loc 0:=by unfold dn;rw[h];rfl
theorem D0{sc:Scope}(h:sc.names=gx):dn sc "reason"=.loc 1:=by unfold dn;rw[h];rfl
theorem D2{sc:Scope}(h:sc.names=gx):dn sc "ValueError"=.glob:=by unfold dn;rw[h];rfl
theorem D3:typeOf (.type "ValueError")=pure (.type "type"):=by kernel_rfl
theorem D4:handedIn (.builtin "ValueError.__init__")=true:=by decide+kernel
theorem D5:Manifest.isStub "ValueError"=false:=by decide+kernel
theorem D6{v:Expr}{p:Pos}{r:Value}{s:Shared}{Q:Flow->Shared->Prop}{E:Value->Shared->Prop}(h:Q .next s):wpAny (model m.c.prog m.c.w) m.A (dropValue v p r) Q E s:=by
 rcases tG p r v with e |e
 ·rw[e];exact wpAny_pure h
 ·rw[e];exact tF h
theorem D7{env:Env}{pos:Pos}{args:List Expr}(ha:args.all notStar=true)(hl:args.length<20):methodCallForm (args.length+([]:List Keyword).length) (backTo pos (starEach args env)) (backToKw pos (keywordEach [] env))=true:=by
 rw[iq ha,ir]
 unfold methodCallForm
 rw[all_plain]
 exact decide_eq_true (Nat.lt_of_lt_of_le hl (by decide))
theorem D8{env:Env}{o:Expr}{apos pos:Pos}(h3:(apos.endLine==pos.line)=true):methodCallPos true o env apos pos=pure pos:=by
 unfold methodCallPos
 rw[h3]
 rfl
noncomputable def D9 (P:aQ) (sc:Scope) (e:Expr):M V:=match eW e with
 | .name x _=>name P sc x
 |_=>no
theorem Pe(G:aA m P K mg mb)(e:Expr):cF m (eval e m.env) (D9 P m.sc e) m.VR:=fun g st=>
 iL (motive:=fun e w=>Np m g st (eval e m.env) ((match w with | .name x _=>name P m.sc x |_=>no:M V) st) m.VR) (fun x p=>(nC G.PK.glob G.O x p g st).np) (fun _ _ _=>Np.no) (fun _ _ _=>Np.no) (fun _ _ _=>Np.no) (fun _=>Np.no) e
theorem j6(G:aA m P K mg mb){x:Str}{v:V}(e:name P m.sc x st=.ok v st)(p:Pos)(s:Shared)(Q:Value->Shared->Prop)(E:Value->Shared->Prop)(R:Rel m g st s.heap)(k:∀ r,m.VR g v r->Q r s):wpAny (model m.c.prog m.c.w) m.A (eval (.Name x p) m.env) Q E s:=
 have L:=lr (g:=g) G.PK.glob G.O e
 wpAny_Name (L.2 s Q E R k) L.1
theorem aA.dO(G:aA (m.x os) P K mg mb):aA m P K mg mb:=
 ⟨⟨⟨G.O.env.kind,G.O.env.loc,G.O.env.bW,G.O.env.nz,G.O.env.locals,G.O.env.globals,G.O.env.builtins,G.O.env.nd,G.O.env.nb⟩,G.O.frames,G.O.ff,G.O.fe,G.O.fk,G.O.dep,G.O.gi,G.O.de,G.O.eH⟩,G.PK.at (X:=m.c.X) (fs:=m.c.fs) (N:=m.c.N),G.sys,G.qs,G.lam⟩
theorem D'(G:aA m P K mg mb)(RT:j5 P K){c:Addr}(EK:l6 P K c){body:List Stmt}(hb:ja body)(hn:m.sc.names=gx){e:Addr}{k:Nat}(hlo:st.lo=[some (.af e),some (.str k),none]){t0:Addr}{s:Shared}{E:Value->Shared->Prop}
  (R:Rel (m.x [(e,cV c t0)]) g st s.heap):
  aq (model m.c.prog m.c.w) m.A (execs body m.env) (fun fl s₂=>fl=.next∧eU fun h3 tk3 dx t2=>(dW (s₂={s with heap:=h3,toks:=tk3}) (Rel m g st h3) (ba m.c g st.H e) (h3.get? e=some {cV c t2 with dict:=some dx}))) E s:=by
 obtain⟨p1,p2,p3,p4,p5,p6,p7,p8,p9,p10,rfl,hp⟩:=hb
 have F:ba m.c g st.H e:=R.gP.drop
 have R0:Rel m g st s.heap:=R.dO
 have he:s.heap.get? e=some (cV c t0):=R.dP
 obtain⟨nm,q,N,bs,bm,sn,sub,ab,col,dd',k0,k1,k2,k3,k5,hK,b1,b2,b3,b4⟩:=EK.obj
 have X:=G.PK.KX.keeps R0.inv.base
 have hC:s.heap.get? c=some (excClassObj nm q c N bs bm true sn sub ab col dd' k0 k1 k2 k3 k5 "ValueError.__new__"):=X _ _ hK
 have hcls:clsIn K c=some {name:=nm,bases:=bs,mro:=.ref c::bm,ns:=N,qualname:=q,hasDict:=true,slotNames:=sn,subclasses:=sub,abstract:=ab,collection:=col,hasDel:=false}:=by unfold clsIn;rw[hK]
 have l1:name P m.sc "ValueError" st=.ok (.ty "ValueError") st:=by
  unfold name;rw[D2 hn];show ar (P.G.lookup ("ValueError":Str)) st=_;rw[RT.g];rfl
 have l2:name P m.sc "self" st=.ok (.af e) st:=by
  unfold name;rw[DZ hn];show ae 0 st=_;unfold ae;rw[hlo];rfl
 have l3:name P m.sc "reason" st=.ok (.str k) st:=by
  unfold name;rw[D0 hn];show ae 1 st=_;unfold ae;rw[hlo];rfl
 simp only[arm_execs_cons,arm_exec_Expr,tE G.O]
 refine aG (di ?_)
 simp only[Bool.false_eq_true,if_false]
 rw[oN _ _ rfl]
 refine aG (aM ?_)
 simp only[Bool.false_eq_true,if_false]
 rw[arm_eval_Call,ot rfl]
 refine aG (aG (bz (j6 G l1 p1 s _ _ R0 fun r hr=>?_)))
 cases hr
 refine di ?_
 unfold methodCall
 rw[D7 rfl (by simp)]
 refine ax (wpAny_holding ?_)
 refine method_type (T:="ValueError") (v:=.builtin "ValueError.__init__") R0.inv.fr G.PK.KX ?_ ?_ ?_ ?_ ?_
 ·exact D3
 ·exact D5
 ·exact RT.init
 ·exact D4
 dsimp only
 rw[D8 hp]
 refine aG (aM ?_)
 rw[iq rfl,ir]
 have hsp:∀ (s:Shared) (Q:List Value->Shared->Prop),Rel m g st s.heap->(∀ rk,m.VR g (.str k) rk->Q [.ref e,rk] s)->aq (model m.c.prog m.c.w) m.A (spliced ([(.Name "self" p3),(.Name "reason" p4)].map fun e=>(false,eval e m.env))) Q E s:=by
  intro s Q R hq
  rw[List.map_cons,List.map_cons,List.map_nil,spliced]
  refine aG (bz (j6 G l2 p3 s _ _ R fun r hr=>?_))
  cases hr
  simp only[Bool.false_eq_true,if_false]
  refine aG (aM ?_)
  refine aG (bQ ?_)
  rw[spliced]
  refine aG (bz (j6 G l3 p4 s _ _ R fun r hr=>?_))
  simp only[Bool.false_eq_true,if_false]
  refine aG (aM ?_)
  refine aG (bQ ?_)
  rw[spliced]
  exact aM (aM (aM (hq r hr)))
 refine lV (lF _) (hsp {s with toks:=s.toks+1} _ R0 fun rk hk=>⟨⟨.machine,.inr (.inl rfl),Looks.of_pure rfl⟩,?_⟩)
 show aq _ m.A (PySem.call (.builtin "ValueError.__init__") [.ref e,rk]) _ _ _
 refine bz (DX (s:={s with toks:=s.toks+1}) (K:=K) X hC he EK.ve fun h1 t2 hk1 he1=>?_)
 have R1:Rel m g st h1:=R0.tR F hk1
 refine bz (D6 ?_)
 dsimp only
 simp only[arm_execs_cons,arm_exec_Assign]
 refine aG (di ?_)
 have hsw:swapsWithSole [.Attribute (.Name "self" p7) "reason" p8] (.Name "reason" p9) p10.line m.env=pure false:=rfl
 rw[hsw]
 refine aG (aM ?_)
 simp only[Bool.false_eq_true,if_false]
 refine aG (bz (j6 G l3 p9 _ _ _ R1 fun r hr=>?_))
 have hs2:swappedStores [.Attribute (.Name "self" p7) "reason" p8] (.Name "reason" p9) m.env=pure none:=rfl
 rw[hs2]
 refine aG (aM ?_)
 show aq _ m.A (assign (.Attribute (.Name "self" p7) "reason" p8) m.env r>>=fun _=>pure Flow.next) _ _ _
 rw[arm_assign_Attribute]
 refine aG (aG (bQ (bz (j6 G l2 p7 _ _ _ R1 fun r2 hr2=>?_))))
 cases hr2
 refine di ?_
 refine aG (bQ (bz ?_))
 refine DW (K:=K) (c:=c) (G.PK.KX.keeps R1.inv.base) he1 rfl rfl rfl EK.set EK.reason hcls rfl b4 EK.top fun h3 tk3 hk3 he3=>?_
 obtain⟨dx,he3⟩:=he3
 refine bz (wpAny_release ?_)
 refine aM ?_
 rw[arm_execs_nil]
 exact aM ⟨rfl,h3,tk3,dx,t2,rfl,R1.tR F hk3,F,he3⟩
theorem Ea(G:aA m P K mg mb)(T:fh P K mg)(RT:j5 P K)(hlv:m.lv=true){d:Nat}(hd:m.d=d+1){c:Addr}(hc:P.dA.contains c=true){k:Nat}{rk:Value}{s:Shared}{Q:Value->Shared->Prop}{E:Value->Shared->Prop}(R:Rel m g st s.heap)(vk:m.VR g (.str k) rk)
  (hQ:∀ h' tk e dx t2 g',Ext g g'->Rel m g' st h'->ba m.c g' st.H e->h'.get? e=some {cV c t2 with dict:=some dx}->Q (.ref e) {s with heap:=h',toks:=tk}):
  aq (model m.c.prog m.c.w) m.A (PySem.call (.ref c) [rk]) Q E s:=by
 have EK:=RT.exc c hc
 obtain⟨nm,q,N,bs,bm,sn,sub,ab,col,dd',k0,k1,k2,k3,k5,hK,b1,b2,b3,b4⟩:=EK.obj
 obtain⟨fI,f,i1,i2,i3,i4,i5,i6⟩:=EK.init
 obtain⟨hh,gg,dd,tt,oo⟩:=s
 have X:=G.PK.KX.keeps R.inv.base
 have hC:hh.get? c=some (excClassObj nm q c N bs bm true sn sub ab col dd' k0 k1 k2 k3 k5 "ValueError.__new__"):=X _ _ hK
 have hcls:clsIn K c=some {name:=nm,bases:=bs,mro:=.ref c::bm,ns:=N,qualname:=q,hasDict:=true,slotNames:=sn,subclasses:=sub,abstract:=ab,collection:=col,hasDel:=false}:=by unfold clsIn;rw[hK]
 have Y:Made (model m.c.prog m.c.w) hh c "ValueError.__new__":=
  ⟨⟨_,_,_,_,hC⟩,⟨_,_,fun A Q E s kk q=>by
   obtain⟨h1,g1,d1,t1,o1⟩:=s
   exact wpAny_mroOf_exc (kk _ _ hC) q⟩,fun A Q E s kk q=>by
   obtain⟨h1,g1,d1,t1,o1⟩:=s
   exact wpAny_madeBy_exc (kk _ _ hC) q,looks_specialIn X EK.call,looks_instIn X EK.typ⟩
 refine fw (tD Y (DV hC b1 b2 b3 (by rw[sizeLine_eq];simp) ?_))
 have kp:∀ b o,hh.get? b=some o->((hh.push (iw [rk])).push (cV c hh.objs.size)).get? b=some o:=fun b o e=>Heap.get?_push_of_some _ (Heap.get?_push_of_some _ e)
 have he:((hh.push (iw [rk])).push (cV c hh.objs.size)).get? (hh.objs.size+1)=some (cV c hh.objs.size):=by heap_get
 have X2:=X.keeps kp
 have ty:Looks (model m.c.prog m.c.w) ((hh.push (iw [rk])).push (cV c hh.objs.size)) (typeOf (.ref (hh.objs.size+1))) (.ref c):=(Looks.ld (part:=some headPart) he).andThen .now
 refine⟨hh.objs.size+1,.ref fI,rfl,ty.andThen (looks_subIn X2 EK.self),ty.andThen (looks_findIn X2 i1),bind_fn X2 _ i2,?_⟩
 have R1:Rel (m.x [(hh.objs.size+1,cV c hh.objs.size)]) g st ((hh.push (iw [rk])).push (cV c hh.objs.size)):=
  R.x0.fU (ic (h:=hh) (by lia)) kp he
 have F:=T.fn m.c G.PK.KX G.PK.glob.bm G.PK.T G.qs fI f i3
 have F':i9 (m.x [(hh.objs.size+1,cV c hh.objs.size)]).c mg fI f:=T.fn (m.x [(hh.objs.size+1,cV c hh.objs.size)]).c G.PK.KX G.PK.glob.bm G.PK.T G.qs fI f i3
 have hb:binds f [V.af (hh.objs.size+1),V.str k]=some [(("self":Str),V.af (hh.objs.size+1)),(("reason":Str),V.str k)]:=by
  unfold binds
  rw[i5]
  rfl
 refine fw (fM (tA (m:=m.x [(hh.objs.size+1,cV c hh.objs.size)]) G.x F' hd (tM (m:=m.x [(hh.objs.size+1,cV c hh.objs.size)]) G.x hlv c [rk]) hb (s:=⟨(hh.push (iw [rk])).push (cV c hh.objs.size),gg,dd,tt,oo⟩) R1 (.cons (.af _) (.cons vk .nil))
  (Rr:=fun r s'=>match r with | .ok (.ret v)=>(v=.none∧Q (.ref (hh.objs.size+1)) s') | .ok _=>False | .error e=>E e s') ?_) fun r s' h=>h)
 intro env L g' h' tk Gf x0 keep hL Rf
 have hlo:cX f.scope.names [(("self":Str),V.af (hh.objs.size+1)),(("reason":Str),V.str k)] st.H.length=[some (.af (hh.objs.size+1)),some (.str k),none]:=by rw[i6];rfl
 have hce:dN f.scope.names [(("self":Str),V.af (hh.objs.size+1)),(("reason":Str),V.str k)]=[]:=by rw[i6];rfl
 simp only[hlo,hce,List.append_nil]at Rf
 have Gd:aA (m.fn g.m ((mk m.A c [rk]).deeper env) f.scope env L d) P K mg mb:=aA.dO (os:=[(hh.objs.size+1,cV c hh.objs.size)]) Gf
 refine dU (D' (m:=m.fn g.m ((mk m.A c [rk]).deeper env) f.scope env L d) (st:=⟨_,st.H⟩) (s:=⟨h',gg,dd,tk,oo⟩) (E:=fun _ _=>False) Gd RT EK i4 i6 rfl Rf) (fun fl s₂ h=>?_) fun _ _ h=>h.elim
 obtain⟨rfl,h3,tk3,dx,t2,rfl,R3,F3,d3⟩:=h
 refine⟨rfl,?_⟩
 exact hQ h3 tk3 (hh.objs.size+1) dx t2 {g' with m:=g.m} ⟨x0.ρ,x0.cd⟩ (Rel.leave (st':=⟨[some (.af (hh.objs.size+1)),some (.str k),none],st.H⟩) R R3 x0) (ba.leave F3) d3
end
end
section
open _root_.PySem.SeqAt
section
variable {m:Am} {g:Gs} {st:St} {P:aQ} {K:Frag} {mg mb:Str->Option Value} {C:V->List V->Hp->CR}
theorem Eb(G:aA m P K mg mb){c:Addr}(EK:l6 P K c)(hv:m.A.handled=none){s:Shared}{E:Value->Shared->Prop}{Q:Flow->Shared->Prop}(R:Rel m g st s.heap){e:Addr}{dx t2:Addr}(he:s.heap.get? e=some {cV c t2 with dict:=some dx})
  (hE:E (.ref e) s):aq (model m.c.prog m.c.w) m.A (excFromValue (.ref e) "exceptions must derive from BaseException") (fun e' s'=>aq (model m.c.prog m.c.w) m.A (do
   let e'<-if<-isType (.ref e)then PySem.holding [e'] (raisedFor (.ref e) e')else raisedInstance e'
   setFlight e' none
   (raiseNew e':Sem Flow)) Q E s') E s:=by
 have X:=G.PK.KX.keeps R.inv.base
 have ty:Looks (model m.c.prog m.c.w) s.heap (typeOf (.ref e)) (.ref c):=(Looks.ld (part:=some headPart) he).andThen .now
 have nt:Looks (model m.c.prog m.c.w) s.heap (isType (.ref e)) false:=(Looks.ld (part:=some headPart) he).andThen .now
 have ix:Looks (model m.c.prog m.c.w) s.heap (isExcClass (.ref e)) false:=by
  unfold isExcClass
  exact nt.andThen .now
 have ib:Looks (model m.c.prog m.c.w) s.heap (isInstance (.ref e) (.type "BaseException")) true:=ty.andThen (looks_subIn X EK.be)
 have ex:Looks (model m.c.prog m.c.w) s.heap (excFromValue (.ref e) "exceptions must derive from BaseException") (.ref e):=by
  unfold excFromValue
  refine ix.andThen ?_
  simp only[Bool.false_eq_true,if_false]
  refine ib.andThen ?_
  exact .now
 refine bz (ex.here ?_)
 have ri:Looks (model m.c.prog m.c.w) s.heap (raisedInstance (.ref e)) (.ref e):=by
  unfold raisedInstance
  refine ty.andThen ((looks_typeIn X EK.DY).andThen ?_)
  exact .now
 refine ax (nt.here ?_)
 simp only[Bool.false_eq_true,if_false]
 refine ax (ri.here ?_)
 refine ax ?_
 unfold setFlight
 refine wpAny_bind (wpAny_field he rfl rfl ?_)
 refine wpAny_pure ?_
 exact bz (wpAny_raiseNew_none hv hE)
theorem Ec{α β:Type}{ev:Expr->M V}(H:aY m ev){pos:Pos}{args:List Expr}{rf:Value}{K':Value->Sem β}{F:List V->M α}{rel:Gs->α->β->Prop}(ha:args.all notStar=true)
  (h:∀ as st₁ g₁ ras s Q E,m.ay g₁ as ras->Rel m g₁ st₁ s.heap->bI m g₁ (F as st₁) rel Q E s->Keeps (model m.c.prog m.c.w) s.heap rf∧aq (model m.c.prog m.c.w) m.A (PySem.call rf ras) (fun v s'=>aq (model m.c.prog m.c.w) m.A (K' v) Q E s') E s):Np m g st (callWith pos rf [] (backTo pos (starEach args m.env)) []>>=K') ((dD ev args>>=F) st) rel:=by
 intro s Q E R Pp
 rw[iq ha,ir]
 refine aG (lV (lF args) ((nY (fun e=>H.snd e) args g st).use R (fun as st₁ e1 g₁ h₁ tk₁ ras x₁ R₁ va=>?_) (fun k st₁ e1 g₁ h₁ tk₁ e x₁ R₁ X=>?_) fun e1=>?_))
 ·rw[cg e1]at Pp
  exact h as st₁ g₁ ras {s with heap:=h₁,toks:=tk₁} Q E va R₁ (Pp.shift x₁)
 ·rw[dt e1]at Pp;exact Pp g₁ h₁ tk₁ e x₁ R₁ X
 ·rw[cL e1]at Pp;exact Pp.elim
theorem Ed{β:Type}{Z:Prop}{c:Addr}{as:List V}{rel:Gs->Fl->β->Prop}{Q:β->Shared->Prop}{E:Value->Shared->Prop}{s:Shared}(h:∀ k,as=[.str k]->m.lv=true->P.dA.contains c=true->bI m g (.exc c st:Lite.R Fl) rel Q E s->Z):bI m g (cS P m.lv c as st) rel Q E s->Z:=by
 cases as with
 |nil=>exact fun P=>P.elim
 |cons a r=>cases r with
  |cons _ _=>exact fun P=>P.elim
  |nil=>
   exact gj (Pr:=fun r=>bI m g r rel Q E s->Z) (fun P=>P.elim) fun k hk=>gM (e8 _) (Pr:=fun r=>bI m g r rel Q E s->Z) (fun P=>P.elim) fun _ h1=>gM (e8 _) (Pr:=fun r=>bI m g r rel Q E s->Z) (fun P=>P.elim) fun _ h2 Pp=>
    h k (congrArg (fun x=>[x]) (lh hk)) (ie h1) (ie h2) Pp
theorem Ee{d:Nat}(T:fh P K mg)(RT:j5 P K):jX P K mg mb C (d+1):=by
 intro m G hd hm H x np args cp p g st
 rw[arm_exec_Raise]
 refine Np.aK fun ho=>Np.standAt ?_
 show Np m g st ((eval (.Call (.Name x np) args [] cp) m.env>>=fun v=>standAt p>>=fun _=>pure v)>>=fun xv=>pure none>>=fun (cv:Option Value)=>_) _ _
 rw[arm_eval_Call_Name',M.bind_assoc]
 refine Np.assoc (Np.assoc (Np.bind (nC G.PK.glob G.O x np g st).np fun v st₁ g₁ rf e1 x₁ vf=>gj (Pr:=fun r=>Np m g₁ st₁ _ r (aP m)) Np.no fun c hc=>?_))
 rw[lg hc]at vf
 rw[show rf=.ref c from vf]
 refine Ec H (Bool.and_eq_true_iff.mp ho).1 fun as st₁ g₁ ras s Q E va R=>Ed fun k hk hlv hc Pp=>?_
 rw[hk]at va
 obtain⟨rk,_,rfl,vk,va⟩:=va
 rw[show _=[] from va]
 have EK:=RT.exc c hc
 refine⟨keeps_K EK.keep s.heap (G.PK.KX.keeps R.inv.base),Ea G T RT hlv hd hc (k:=k) R vk fun h₂ tk₂ e dx t2 g₂ x₂ R₂ F₂ he=>?_⟩
 exact aG (di (aM (aG (aM (aG (bQ (Eb (s:={s with heap:=h₂,toks:=tk₂}) G EK (G.O.de hlv) R₂ he (Pp g₂ h₂ tk₂ e x₂ R₂ ⟨none,.inl rfl,_,_,_,⟨F₂,he,rfl,rfl,rfl⟩,rfl⟩))))))))
end
end
section
open _root_.PySem.SeqAt
section
variable {P:aQ} {K:Frag} {mg mb:Str->Option Value}
theorem Ef{cd:List (Addr×Obj)}{q:Str}:e7 cd q #[]:=⟨trivial,fun _ _ h=>ag h⟩
theorem GrownAll.of{tabs:List (Addr×Addr)}{h:Heap}(k:∀ q∈tabs,GrownAt q.2 h):GrownAll tabs h:=by
 induction tabs with
 |nil=>trivial
 |cons q r ih=>exact⟨k q (.head _),ih fun x hx=>k x (.tail _ hx)⟩
theorem grown{c:Cx}{g:Gs}{H:Hp}{h:Heap}{L:Addr}{tabs:List (Addr×Addr)}(hq:c.Qs.map (·.1)=tabs.map (·.2))(I:Inv (c.at [] [] L) g H h):GrownAll tabs h:=GrownAll.of fun q hm=>by
 have h1:q.2∈c.Qs.map (·.1):=by rw[hq];exact List.mem_map_of_mem hm
 obtain⟨x,hx,e⟩:=List.mem_map.mp h1
 have T:aC (fun (q:Addr×Str) (p:Addr×Array Value)=>q.1=p.1∧e7 g.cd q.2 p.2) c.Qs g.tb:=I.tabs
 obtain⟨i,hi⟩:=List.getElem?_of_mem hx
 obtain⟨p,hp,e1,_⟩:=T.at hi
 obtain⟨o,e2,e3⟩:=I.sat (p.1,(·=tabObj p.2)) (.tail _ (List.mem_append_left _ (by
  unfold eZ
  exact List.mem_append_left _ (List.mem_append_right _ (List.mem_map_of_mem (f:=fun p:Addr×Array Value=>((p.1,(·=tabObj p.2)):Cell)) (List.mem_of_getElem? hp))))))
 exact⟨p.2,by simp only[<-e,e1];rw[e2];exact congrArg some e3⟩
noncomputable abbrev g0 (tabs:List (Addr×Addr)):Gs:={ρ:=[],tb:=tabs.map fun q=>(q.2,#[]),cd:=[],m:=fun _=>none}
theorem l7{c:Cx}{tabs:List (Addr×Addr)}{L:Addr}{m':Str->Option Value}:cells (c.at [] [] L) {g0 tabs with m:=m'} []=(L,bE m')::tabs.map fun q=>((q.2,(·=tabObj #[])):Cell):=by
 show(L,bE m')::((([]++[]++(tabs.map fun q=>(q.2,#[])).map fun p=>((p.1,(·=tabObj p.2)):Cell))++[])++[])=_
 rw[List.append_nil,List.append_nil,List.map_map]
 rfl
theorem Eg(l:List (Addr×Str)):∀ {l':List (Addr×Addr)},l.map (·.1)=l'.map (·.2)->aC (fun (q:Addr×Str) (p:Addr×Array Value)=>q.1=p.1∧e7 [] q.2 p.2) l (l'.map fun q=>(q.2,#[])):=by
 induction l with
 |nil=>
  intro l' e
  cases l' with
  |nil=>exact .nil
  |cons _ _=>exact absurd e.symm (List.cons_ne_nil _ _)
 |cons x l ih=>
  intro l' e
  cases l' with
  |nil=>exact absurd e (List.cons_ne_nil _ _)
  |cons y l'=>exact .cons ⟨(List.cons.inj e).1,Ef⟩ (ih (List.cons.inj e).2)
theorem Eh{c:Cx}{tabs:List (Addr×Addr)}{h h':Heap}{m':Str->Option Value}(hc:c.b₀=ghostOf h tabs)(hT:TabsAt tabs h)(nd:(tabs.map (·.2)).Nodup)(hq:c.Qs.map (·.1)=tabs.map (·.2))(hk:∀ b o,h.get? b=some o->h'.get? b=some o)(hns:h'.Ns h.objs.size m'):
  Inv (c.at [] [] h.objs.size) {g0 tabs with m:=m'} [] h':=by
 have keepb:∀ b o,c.b₀.get? b=some o->h.get? b=some o:=fun b o e=>of_hideAll _ (hc▸e)
 have hsz:c.b₀.objs.size=h.objs.size:=hc▸hideAll_size _ _
 refine⟨fun b o e=>hk b o (keepb b o e),Nat.le_of_eq hsz,rfl,?_,?_,?_,Eg _ hq⟩
 ·rw[l7]
  obtain⟨o,es,ep,e1,e2,e3,e4⟩:=hns
  exact List.forall_mem_cons.mpr ⟨⟨o,e1,es,ep,e2,e3,e4⟩,List.forall_mem_map.mpr fun q hq'=>⟨_,hk _ _ (hT q hq').2,rfl⟩⟩
 ·rw[l7,List.map_cons,List.map_map]
  refine List.nodup_cons.mpr ⟨fun hm=>?_,nd⟩
  obtain⟨q,hq',e⟩:=List.mem_map.mp hm
  exact absurd e (Nat.ne_of_lt (Heap.lt_size (hT q hq').2))
 ·rw[l7]
  exact(List.forall_mem_cons (p:=fun x:Cell=>c.b₀.get? x.1=none)).mpr ⟨ic (h:=c.b₀) (Nat.le_of_eq hsz),List.forall_mem_map.mpr fun q hq'=>hc▸hideAll_none _ (List.mem_map_of_mem hq')⟩
theorem Ei{c:Cx}{tabs:List (Addr×Addr)}{h:Heap}{m':Str->Option Value}{a:Addr}(hc:c.b₀=ghostOf h tabs)(hT:TabsAt tabs h)(ha:h.objs.size+1<=a):ba (c.at [] [] h.objs.size) {g0 tabs with m:=m'} [] a:=by
 have hsz:c.b₀.objs.size=h.objs.size:=hc▸hideAll_size _ _
 refine⟨?_,ic (h:=c.b₀) (hsz▸Nat.le_of_succ_le ha)⟩
 rw[l7]
 exact(List.forall_mem_cons (p:=fun x:Cell=>x.1≠a)).mpr ⟨Nat.ne_of_lt ha,List.forall_mem_map.mpr fun q hq'=>Nat.ne_of_lt (Nat.lt_of_lt_of_le (Heap.lt_size (hT q hq').2) (Nat.le_of_succ_le ha))⟩
theorem Ej{n:Nat}{a:Addr}{f:Fn}{args:List V}{v:V}{H H':Hp}(hf:P.fn a=some f)(hr:run P (n+1) (.af a) args H=.ok v H'):∃ b,binds f args=some b∧gJ (bC (ex P (run P n) bD true f.scope) f.body ⟨cX f.scope.names b H.length,H++dN f.scope.names b⟩)=.ok v H':=by
 replace hr:runC P (run P n) a args H=.ok v H':=hr
 unfold runC at hr
 rw[hf]at hr
 replace hr:ia (binds f args) (fun b=>gJ (bC (ex P (run P n) bD true f.scope) f.body ⟨cX f.scope.names b H.length,H++dN f.scope.names b⟩))=.ok v H':=hr
 cases hb:binds f args with
 |none=>rw[hb]at hr;exact CR.noConfusion hr
 |some b=>rw[hb]at hr;exact⟨b,rfl,hr⟩
noncomputable def Ek:CR->V
 | .ok v _=>v
 |_=>.none
theorem El{r:R Fl}{v:V}{H:Hp}(h:gJ r=.ok v H):∃ fl s,r=.ok fl s∧lZ fl=v:=by
 cases r with
 |ok fl s=>exact⟨fl,s,rfl,by cases fl<;>exact congrArg Ek h⟩
 |exc _ _=>exact CR.noConfusion h
 |no=>exact CR.noConfusion h
noncomputable def oP {α:Type}:R α->Option α
 | .ok v _=>some v
 |_=>none
theorem Em{m:Am}{g:Gs}{a:Fl}{b:Flow}(q:aP m g a b):m.VR g (lZ a) (lY b):=by
 cases a with
 |next=>rw[show b=.next from q];exact VR.none
 |ret v=>obtain⟨r,rfl,hv⟩:=q;exact hv
theorem En{c:Cx}{tabs:List (Addr×Addr)}{s:Shared}(hc:c.b₀=ghostOf s.heap tabs)(hT:TabsAt tabs s.heap)(nd:(tabs.map (·.2)).Nodup)(hq:c.Qs.map (·.1)=tabs.map (·.2))(hX:c.X=[])(hfs:c.fs=[])
  (PK:cD c P K mg mb) (sys:∃ o,c.b₀.get? sysModules=some o) (qs:∀ q∈P.tabs,q∈c.Qs) (XK:gw P K) (T:fh P K mg) (RT:j5 P K) {n:Nat} (hd:302+4*(n+2)<recursionLimit) (hu:7+24*(n+2)<cLine)
  {a:Addr} {f:Fn} (hf:P.fn a=some f) {args:List V} {rs:List Value} (va:ay c (g0 tabs) args rs)
  {v:V} {H':Hp} (hr:run P (n+1) (.af a) args []=.ok v H') {Q:Value->Shared->Prop} {E:Value->Shared->Prop}
  (hQ:∀ h' tk r g',(∀ b o,c.b₀.get? b=some o->h'.get? b=some o)->GrownAll tabs h'->VR c g' v r->Q r {s with heap:=h',toks:=tk}):
  aq (model c.prog c.w) callerA (PySem.call (.ref a) rs) Q E s:=by
 obtain⟨b,hb,hr⟩:=Ej hf hr
 obtain⟨fl,st₂,e,ev⟩:=El hr
 have keepb:∀ b o,c.b₀.get? b=some o->s.heap.get? b=some o:=fun b o e=>by rw[hc]at e;exact of_hideAll _ e
 refine fw (fM (tv (c:=c) (X:=[]) (fs:=[]) (fr:=[]) (H:=[]) (g:=g0 tabs) PK sys qs (T.fn c PK.KX PK.glob.bm PK.T qs a f hf) (d:=n+1) (Rr:=fun r s'=>match r with | .ok (.ret v)=>Q v s' | .ok _=>False | .error e=>E e s') rfl rfl rfl hd hu (fun e h=>nomatch h) hb keepb va
  (fun m' h' hk hns=>Eh hc hT nd hq hk hns) (fun m' a' ha=>Ei hc hT ha) fun env g' h' tk Gf x0 hk Rf=>?_) fun r s' h=>h)
 have RZ:∀ n,jX P K mg mb (run P n) (n+1):=fun n=>Ee T RT
 have HC:∀ m',aA m' P K mg mb->m'.d=n+1->gp m' P (run P n):=fun m' G' h=>tN G' T (DT XK T RZ n m' G' h)
 have EX:=tK XK HC (RZ n) bD _ Gf rfl rfl
 refine(gu (ex:=ex P (run P n) bD true f.scope) EX f.body g' _).use (s:={s with heap:=h',toks:=tk}) Rf (fun fl' st' e2 g₂ h₂ tk₂ rfl' x₂ R₂ q₂=>?_) (fun k st' e2 g₂ h₂ tk₂ e' x₂ R₂ X=>?_) fun e2=>?_
 ·have ef:fl'=fl:=Option.some.inj (congrArg oP (e2.symm.trans e))
  rw[<-ev,<-ef]at hQ
  exact hQ h₂ tk₂ _ g₂ R₂.inv.base (grown hq R₂.inv) (Em q₂)
 ·exact ag (congrArg oP (e2.symm.trans e))
 ·exact ag (congrArg oP (e2.symm.trans e))
end
end
section
open _root_.PySem.SeqAt
noncomputable def j7 (v:Value):Option (Addr):=Value.casesOn (motive:=fun _=>Option (Addr)) v none none none (fun _=>none) (fun _ _=>none) (fun _ _=>none) (fun _ _=>none) (fun _ _=>none) (fun _=>none) (fun _=>none) some
noncomputable def vStr (v:Value):Option (Str):=Value.casesOn (motive:=fun _=>Option (Str)) v none none none (fun _=>none) (fun _ _=>none) (fun _ _=>none) (fun x t=>some x) (fun _ _=>none) (fun _=>none) (fun _=>none) (fun _=>none)
noncomputable def oQ (v:Data):Option (Array Value):=Data.casesOn (motive:=fun _=>Option (Array Value)) v none (fun _=>none) (fun _ _=>none) (fun _ _=>none) (fun _ _ _=>none) (fun _ _=>none) (fun _=>none) (fun _=>none) (fun _=>none) some none
noncomputable def oR (v:Data):Option (Array Value×Nat):=Data.casesOn (motive:=fun _=>Option (Array Value×Nat)) v none (fun _=>none) (fun a n=>some (a,n)) (fun _ _=>none) (fun _ _ _=>none) (fun _ _=>none) (fun _=>none) (fun _=>none) (fun _=>none) (fun _=>none) none
noncomputable def oU (v:Data):Option (FuncData):=Data.casesOn (motive:=fun _=>Option (FuncData)) v none (fun _=>none) (fun _ _=>none) (fun _ _=>none) (fun _ _ _=>none) (fun _ _=>none) (fun _=>none) some (fun _=>none) (fun _=>none) none
noncomputable def oV (v:FuncBody):Option (List Stmt):=FuncBody.casesOn (motive:=fun _=>Option (List Stmt)) v some (fun _=>none)
theorem oW{x:Addr}(v:Value):j7 v=some x->v=.ref x:=Value.casesOn (motive:=fun v=>j7 v=some x->v=.ref x) v ag ag ag (fun x0=>ag) (fun x0 x1=>ag) (fun x0 x1=>ag) (fun x0 x1=>ag) (fun x0 x1=>ag) (fun x0=>ag) (fun x0=>ag) (fun a=>fun h=>congrArg Value.ref (Option.some.inj h))
theorem Eo{x:Str}(v:Value):vStr v=some x->∃ t,v=.str x t:=Value.casesOn (motive:=fun v=>vStr v=some x->∃ t,v=.str x t) v ag ag ag (fun x0=>ag) (fun x0 x1=>ag) (fun x0 x1=>ag) (fun a t=>fun h=>⟨t,congrArg (Value.str · t) (Option.some.inj h)⟩) (fun x0 x1=>ag) (fun x0=>ag) (fun x0=>ag) (fun x0=>ag)
theorem Ep{x:Array Value}(v:Data):oQ v=some x->v=.fields x:=Data.casesOn (motive:=fun v=>oQ v=some x->v=.fields x) v ag (fun x0=>ag) (fun x0 x1=>ag) (fun x0 x1=>ag) (fun x0 x1 x2=>ag) (fun x0 x1=>ag) (fun x0=>ag) (fun x0=>ag) (fun x0=>ag) (fun a=>fun h=>congrArg Data.fields (Option.some.inj h)) ag
theorem Er{x:Array Value×Nat}(v:Data):oR v=some x->v=.seq x.1 x.2:=Data.casesOn (motive:=fun v=>oR v=some x->v=.seq x.1 x.2) v ag (fun x0=>ag) (fun a n=>fun h=>congrArg (fun p:Array Value×Nat=>Data.seq p.1 p.2) (Option.some.inj h)) (fun x0 x1=>ag) (fun x0 x1 x2=>ag) (fun x0 x1=>ag) (fun x0=>ag) (fun x0=>ag) (fun x0=>ag) (fun x0=>ag) ag
theorem Es{x:FuncData}(v:Data):oU v=some x->v=.func x:=Data.casesOn (motive:=fun v=>oU v=some x->v=.func x) v ag (fun x0=>ag) (fun x0 x1=>ag) (fun x0 x1=>ag) (fun x0 x1 x2=>ag) (fun x0 x1=>ag) (fun x0=>ag) (fun a=>fun h=>congrArg Data.func (Option.some.inj h)) (fun x0=>ag) (fun x0=>ag) ag
theorem Et{x:List Stmt}(v:FuncBody):oV v=some x->v=.stmts x:=FuncBody.casesOn (motive:=fun v=>oV v=some x->v=.stmts x) v (fun a=>fun h=>congrArg FuncBody.stmts (Option.some.inj h)) (fun x0=>ag)
theorem eM{α β:Type}{o:Option α}{f:α->Option β}{b:β}(h:o.bind f=some b):∃ a,o=some a∧f a=some b:=Option.bind_eq_some_iff.mp h
noncomputable def dfltOk (K:Frag) (dv:Value):Bool:=dv==.none||((j7 dv).bind fun t=>(K.lookup t).bind fun o=>oR o.data).isSome
noncomputable def codeIn (K:Frag) (cd:Value) (q:Str):Bool:=((j7 cd).bind fun c=>(K.lookup c).bind fun o=>(oQ o.data).bind fun vs=>(vs[1]? :Option Value).bind vStr)==some q
noncomputable def tT (K:Frag) (tabs:List (Addr×Str)) (b:Addr) (fd:FuncData):Bool:=(j7 fd.code).any fun c=>tabs.any fun t=>codeHdIn K c t.1&&t.2==fd.qualname++".<locals>."++"<lambda>"&&mainGlobals != t.1&&b != t.1
noncomputable def tU (p:Arguments):Bool:=p.posonlyargs.isEmpty&&p.vararg.isNone&&p.kwonlyargs.isEmpty&&p.kwarg.isNone
theorem Eu{p:Arguments}(h:tU p=true):p=⟨[],p.args,none,[],p.kw_defaults,none,p.defaults⟩:=by
 obtain⟨h,h4⟩:=Bool.and_eq_true_iff.mp h
 obtain⟨h,h3⟩:=Bool.and_eq_true_iff.mp h
 obtain⟨h1,h2⟩:=Bool.and_eq_true_iff.mp h
 obtain⟨a1,a2,a3,a4,a5,a6,a7⟩:=p
 rw[show a1=[] from isEmpty_nil h1,show a3=none from isNone_none h2,show a4=[] from isEmpty_nil h3,show a6=none from isNone_none h4]
noncomputable def Ew (K:Frag) (tabs:List (Addr×Str)) (b:Addr) (f:Fn) (fd:FuncData):Bool:=
 eY fd.scope&&(f.scope.names.all fun q=>q.2 != .free)&&fd.closure.isEmpty&&fd.globals==mainGlobals&&fd.builtins==builtinsNs&&codeIn K fd.code fd.qualname&&tU fd.params&&decide f.params.Nodup&&
  (f.params.all fun x=>f.scope.names.lookup x==some .local||f.scope.names.lookup x==some .cell)&&(f.scope.isGenerator||tT K tabs b fd)&&dfltOk K fd.defaults
noncomputable def l8 (lam:List Addr) (a:Addr) (sc:Scope):Scope:=if lam.contains a then sc else mark sc
noncomputable def tV (lam:List Addr) (a:Addr) (fd:FuncData) (body:List Stmt):Fn:=⟨fd.params.args.map (·.arg),[],l8 lam a fd.scope,body⟩
noncomputable def tW (b:Bool) (f:Fn):Option Fn:=if b then some f else none
theorem Ex{b:Bool}{f g:Fn}(h:tW b f=some g):b=true∧f=g:=by
 cases b with
 |true=>exact⟨rfl,Option.some.inj h⟩
 |false=>exact ag h
noncomputable def fnIn (K:Frag) (tabs:List (Addr×Str)) (b:Addr) (lam:List Addr) (a:Addr):Option Fn:=(K.lookup a).bind fun o=>(oU o.data).bind fun fd=>(oV fd.body).bind fun body=>tW (Ew K tabs b (tV lam a fd body) fd) (tV lam a fd body)
section
variable {P:aQ} {K:Frag} {mg mb:Str->Option Value}
theorem Ey{h:Heap}(X:K.In h){dv:Value}(e:dfltOk K dv=true):DfltIs h dv:=by
 rcases Bool.or_eq_true_iff.mp e with e |e
 ·exact .inl (eq_of_beq e)
 ·obtain⟨p,e⟩:=Option.isSome_iff_exists.mp e
  obtain⟨t,e1,e⟩:=eM e
  obtain⟨o,e2,e3⟩:=eM e
  exact .inr ⟨t,o,p.1,p.2,oW dv e1,X _ _ e2,Er _ e3⟩
theorem Ez{h:Heap}(X:K.In h){cd:Value}{q:Str}(e:codeIn K cd q=true):h.CodeRec cd q:=by
 obtain⟨c,e1,e⟩:=eM (eq_of_beq e)
 obtain⟨o,e2,e⟩:=eM e
 obtain⟨vs,e3,e⟩:=eM e
 obtain⟨v,e4,e⟩:=eM e
 obtain⟨t,rfl⟩:=Eo v e
 exact⟨c,o,vs,t,oW cd e1,X _ _ e2,Ep _ e3,e4⟩
theorem EA{tabs:List (Addr×Str)}{b:Addr}{fd:FuncData}(e:tT K tabs b fd=true)(hb:mg "__builtins__"=some (.ref b))(hbm:b≠mainGlobals){c:Cx}(X:K.In c.b₀)(B:BMod c.b₀ mg)(hq:∀ q∈tabs,q∈c.Qs):
  ∃ cc T,fd.code=.ref cc∧CodeHd c.b₀ cc T∧(T,fd.qualname++".<locals>."++"<lambda>")∈c.Qs∧mainGlobals≠T∧c.b₀.BuiltinsAt mg T:=by
 obtain⟨cc,hcc,e⟩:=(Option.any_eq_true _ _).mp e
 obtain⟨t,ht,e⟩:=List.any_eq_true.mp e
 obtain⟨e,e6⟩:=Bool.and_eq_true_iff.mp e
 obtain⟨e,e5⟩:=Bool.and_eq_true_iff.mp e
 obtain⟨e3,e4⟩:=Bool.and_eq_true_iff.mp e
 obtain⟨bm,o,z1,z2,z3,z4,z5,z6⟩:=B
 have zb:b=bm:=Value.ref.inj (Option.some.inj (hb.symm.trans z1))
 rw[zb]at e6 hbm
 exact⟨cc,t.1,oW _ hcc,codeHd_of_K X e3,eq_of_beq e4▸hq t ht,bne_iff_ne.mp e5,bm,o,z1,z2,hbm,bne_iff_ne.mp e6,z3,z4,z5,z6⟩
theorem EB{tabs:List (Addr×Str)}{b:Addr}{lam:List Addr}{a:Addr}{f:Fn}(h:fnIn K tabs b lam a=some f)(hb:mg "__builtins__"=some (.ref b))(hbm:b≠mainGlobals){c:Cx}(X:K.In c.b₀)(B:BMod c.b₀ mg)(hq:∀ q∈tabs,q∈c.Qs):i9 c mg a f:=by
 obtain⟨o,hk,h⟩:=eM h
 obtain⟨fd,hf,h⟩:=eM h
 obtain⟨body,hbody,h⟩:=eM h
 obtain⟨hc,rfl⟩:=Ex h
 obtain⟨hc,c11⟩:=Bool.and_eq_true_iff.mp hc
 obtain⟨hc,c10⟩:=Bool.and_eq_true_iff.mp hc
 obtain⟨hc,c9⟩:=Bool.and_eq_true_iff.mp hc
 obtain⟨hc,c8⟩:=Bool.and_eq_true_iff.mp hc
 obtain⟨hc,c7⟩:=Bool.and_eq_true_iff.mp hc
 obtain⟨hc,c6⟩:=Bool.and_eq_true_iff.mp hc
 obtain⟨hc,c5⟩:=Bool.and_eq_true_iff.mp hc
 obtain⟨hc,c4⟩:=Bool.and_eq_true_iff.mp hc
 obtain⟨hc,c3⟩:=Bool.and_eq_true_iff.mp hc
 obtain⟨c1,c2⟩:=Bool.and_eq_true_iff.mp hc
 have hn:fd.scope.names=(l8 lam a fd.scope).names:=by
  unfold l8
  cases lam.contains a<;>rfl
 exact⟨o,fd,fd.params.args,fd.params.kw_defaults,fd.params.defaults,X _ _ hk,Es _ hf,hn,c1,fun q hq e=>bne_iff_ne.mp (List.all_eq_true.mp c2 q hq) e,List.isEmpty_iff.mp c3,eq_of_beq c4,eq_of_beq c5,Ez X c6,Et _ hbody,Eu c7,rfl,of_decide_eq_true c8,Ey X c11,
  fun x hx=>(Bool.or_eq_true_iff.mp (List.all_eq_true.mp c9 x hx)).imp eq_of_beq eq_of_beq,fun hg=>(Bool.or_eq_true_iff.mp c10).elim (fun e=>Bool.noConfusion (hg.symm.trans e)) fun e=>EA e hb hbm X B hq⟩
end
end
noncomputable def iy (l:List (Code×Pos)):Bool:=l.any fun x=>codec x.1
theorem tX{l:List (Code×Pos)}(h:iy l=false):kI l:=fun x hx=>by
 unfold iy at h
 rw[List.any_eq_false]at h
 simpa using h x hx
noncomputable def fD {α:Type} (a:α) (t:Sem α):Sem α:=.stack fun l=>if iy l then .pure a else t
theorem EC{α:Type}{M:Model}{A:Around}{a:α}{t:Sem α}{Q:α->Shared->Prop}{E:Value->Shared->Prop}{s:Shared}(h1:Q a s)(h2:aq M A t Q E s):wpAny M A (fD a t) Q E s:=fun Γ p hΓ=>by
 unfold fD
 rw[Sem.wp_stack]
 cases e:iy ((Γ.code,p)::Γ.below)with
 |true=>rw[if_pos rfl,Sem.wp_pure];exact h1
 |false=>
  rw[if_neg Bool.false_ne_true]
  have:=tX e
  exact h2 Γ p hΓ ⟨this _ (.head _),fun x hx=>this x (.tail _ hx)⟩
theorem ED{α:Type}{M:Model}{A:Around}{a:α}{t:Sem α}{Q:α->Shared->Prop}{E:Value->Shared->Prop}{s:Shared}(h:wpAny M A (fD a t) Q E s):aq M A t Q E s:=fun Γ p hΓ n=>by
 have h:=h Γ p hΓ
 unfold fD at h
 rw[Sem.wp_stack]at h
 have e:iy ((Γ.code,p)::Γ.below)=false:=by
  unfold iy
  rw[List.any_eq_false]
  intro x hx
  cases hx with
  |head=>simp[n.1]
  |tail _ hx=>simp[n.2 x hx]
 rw[e,if_neg Bool.false_ne_true]at h
 exact h
theorem EE{prog:Program}{w:World}{a:Fin}{t:Sem Fin}{n:Nat}{s s':Shared}{o:Outcome}(hz:s.asleep)
  (h:schedN (denote table) prog w n (.single s ⟨fD a t,.builtin "claim.caller" {},default,[]⟩)=.halted o s'):
  ∃ n,schedN (denote table) prog w n (.single s ⟨t,.builtin "claim.caller" {},default,[]⟩)=.halted o s':=by
 cases n with
 |zero=>contradiction
 |succ n=>
  refine⟨n,?_⟩
  have st:step (denote table) prog w s ⟨fD a t,.builtin "claim.caller" {},default,[]⟩=.go s ⟨t,.builtin "claim.caller" {},default,[]⟩:=by
   obtain⟨heap,gens,drawn,toks,os⟩:=s
   rfl
  have e:=sstep_single (den:=denote table) (prog:=prog) (w:=w) s ⟨fD a t,.builtin "claim.caller" {},default,[]⟩ (by unfold fD;kernel_rfl) hz
  rw[st]at e
  rcases e with e |e
  ·simp only[schedN,e,Step.lift]at h
   exact h
  ·contradiction
noncomputable def tY (q:Program) (loose:List Str) (XP:(Str->Option Value)->Heap->Prop) (YP:World->Heap->Prop) (r:RowW) (d:DefRec) (kwd:List (Str×PySem.Expr)) (run:Value->List Value->Sem Value):Prop:=
 ∀ (w:World) (s₀ s₁:Shared) (mg mb:Str->Option Value),Ground q loose r.records XP w s₀ mg mb s₁.heap->YP w s₁.heap->∀ (a:Addr) (o:Obj) (pm cd doc dV kV:Value),s₁.heap.get? a=some o->
  o.data=.func {docDef d.name d.params d.body d.scope pm cd doc with defaults:=dV,kwdefaults:=kV}->s₁.heap.CodeRec cd d.name->Dflts mg s₁.heap d.params kwd dV kV->mg d.name=some (.ref a)->s₁.gens=#[]->
  ∀ (args:List WData) (vals:List Value) (as:List Addr),r.claim.pre args=true->WData.layableAll args=true->ReadsAllW r.records (classAt s₀.heap) s₁.heap vals args as->WellAll w.params s₁.heap vals args->(∀ a∈as,(a==sysModules)=false)->
   GoodWG r.claim (classAt s₀.heap) (ExcName.means s₀.heap) args s₁ (.ok (.ret (.bool true))) s₁∧
   aq (model r.prog w) callerA (run (.ref a) vals) (fun v s'=>GoodWG r.claim (classAt s₀.heap) (ExcName.means s₀.heap) args s₁ (.ok (.ret v)) s')
    (fun e s'=>GoodWG r.claim (classAt s₀.heap) (ExcName.means s₀.heap) args s₁ (.error e) s') s₁
section
open _root_.PySem.SeqAt
theorem lookup_mem{α β:Type}[BEq α][LawfulBEq α]{l:List (α×β)}{x:α}{v:β}(h:l.lookup x=some v):(x,v)∈l:=by
 induction l with
 |nil=>exact ag h
 |cons p r ih=>
  rw[List.lookup_cons]at h
  cases q:x==p.1 with
  |true=>rw[q]at h;rw[eq_of_beq q,<-Option.some.inj h];exact .head _
  |false=>rw[q]at h;exact .tail _ (ih h)
noncomputable def vInt (v:Value):Option Int:=Value.casesOn (motive:=fun _=>Option Int) v none none none (fun _=>none) (fun i t=>some i) (fun _ _=>none) (fun _ _=>none) (fun _ _=>none) (fun _=>none) (fun _=>none) (fun _=>none)
theorem EF{x:Int}(v:Value):vInt v=some x->∃ t,v=.int x t:=Value.casesOn (motive:=fun v=>vInt v=some x->∃ t,v=.int x t) v ag ag ag (fun x0=>ag) (fun a t=>fun h=>⟨t,congrArg (Value.int · t) (Option.some.inj h)⟩) (fun x0 x1=>ag) (fun x0 x1=>ag) (fun x0 x1=>ag) (fun x0=>ag) (fun x0=>ag) (fun x0=>ag)
noncomputable def oX (K:Frag) (x:Str) (r:Value):Bool:=nsIn K mainGlobals x==some none&&(x != ("__name__":Str)&&bootBuiltins x==some r)
noncomputable def oY (K:Frag) (p:Str×V):Bool:=V.casesOn (motive:=fun _=>Bool) p.2 false (fun _=>false) (fun i=>((nsIn K mainGlobals p.1).bind fun o=>o.bind vInt)==some i) (fun _=>false) (fun _=>false) (fun _=>false) (fun a=>nsIn K mainGlobals p.1==some (some (.ref a))) (fun n=>oX K p.1 (.type n)) (fun n=>oX K p.1 (.builtin n)) (fun _=>false)
theorem EG{K:Frag}{h:Heap}{mg mb:Str->Option Value}(X:K.In h)(G:h.Ns mainGlobals mg)(B:∀ x:Str,x≠"__name__"->mb x=bootBuiltins x){x:Str}(c:Cx)(v:V):oY K (x,v)=true->∃ r,(∀ g,VR c g v r)∧(mg x=some r∨(mg x=none∧mb x=some r)):=by
 have bi:∀ {r:Value},oX K x r=true->mg x=none∧mb x=some r:=fun {r} e=>by
  obtain⟨e1,e2⟩:=Bool.and_eq_true_iff.mp e
  obtain⟨e3,e4⟩:=Bool.and_eq_true_iff.mp e2
  exact⟨mg_none_of X G (eq_of_beq e1),(B x (bne_iff_ne.mp e3)).trans (eq_of_beq e4)⟩
 cases v with
 |af a=>exact fun e=>⟨.ref a,fun g=>.af a,.inl (mg_of X G (eq_of_beq e))⟩
 |int i=>
  intro e
  obtain⟨o,h1,e⟩:=eM (eq_of_beq e)
  obtain⟨v,rfl,e⟩:=eM e
  obtain⟨t,rfl⟩:=EF v e
  exact⟨.int i t,fun g=>.int i t,.inl (mg_of X G h1)⟩
 |ty n=>exact fun e=>⟨.type n,fun g=>.ty n,.inr (bi e)⟩
 |bi n=>exact fun e=>⟨.builtin n,fun g=>.bi n,.inr (bi e)⟩
 |_=>exact fun e=>Bool.noConfusion e
noncomputable def tZ (K:Frag) (T:List Str) (p:Addr×Nat):Bool:=T[p.2]?.any (lz K p.1)
noncomputable def t5 (K:Frag) (T:List Str) (p:(Addr×Nat)×Addr):Bool:=T[p.1.2]?.any fun x=>nJ K p.1.1 x p.2
noncomputable def t6 (K:Frag) (p:Addr×Addr):Bool:=makesIn K p.1&&findIn K (.ref p.1) "__init__"==some (some (.ref p.2))&&typeIn K (.ref p.2)==some (.type "function")&&keepIn K (.ref p.1)
noncomputable def t7 (K:Frag) (c:Addr):Bool:=(clsIn K c).isSome&&instIn K (.ref c) (.type "tuple")==some false&&subIn K (.ref c) (.type "BaseException")==some true
noncomputable def t8 (K:Frag) (l:List Addr):Bool:=l.all fun c=>l.all fun d=>subIn K (.ref c) (.ref d)==some (decide (d=c))
section
variable {P:aQ} {K:Frag} {mg mb:Str->Option Value}
theorem EH{c:Cx}(X:K.In c.b₀)(lim:c.b₀.NoLimit)(hT:c.T=P.T)(nd:decide P.T.Nodup=true)(G:c.b₀.Ns mainGlobals mg)(B:c.b₀.Ns builtinsNs mb)(bb:∀ x:Str,x≠"__name__"->mb x=bootBuiltins x)(bm:BMod c.b₀ mg)
  (h1:P.G.all (oY K)=true) (h2:P.cq.all (tZ K P.T)=true) (h3:P.eqs.all (gN K)=true) (h4:P.aI.all (t5 K P.T)=true):cD c P K mg mb where
 KX:=X
 lim:=lim
 T:=hT
 nd:=hT▸of_decide_eq_true nd
 glob:=⟨G,B,bm,fun x v e=>EG X G bb c v (List.all_eq_true.mp h1 _ (lookup_mem e))⟩
 fld C k e:=hT▸(Option.any_eq_true _ _).mp (List.all_eq_true.mp h2 _ (List.contains_iff_mem.mp e))
 eqs C e:=List.all_eq_true.mp h3 _ (List.contains_iff_mem.mp e)
 aI C k f e:=hT▸(Option.any_eq_true _ _).mp (List.all_eq_true.mp h4 _ (lookup_mem e))
theorem oZ{c:Addr}(h:isExc P c=true):c∈P.hO::P.dA:=by
 rcases Bool.or_eq_true_iff.mp h with h |h
 ·exact .tail _ (List.contains_iff_mem.mp h)
 ·exact eq_of_beq h▸.head _
theorem EI(h1:(P.hO::P.dA).all (t7 K)=true)(h2:t8 K (P.hO::P.dA)=true):gw P K where
 one c h:=by
  obtain⟨e,e3⟩:=Bool.and_eq_true_iff.mp (List.all_eq_true.mp h1 c (oZ h))
  obtain⟨e1,e2⟩:=Bool.and_eq_true_iff.mp e
  exact⟨e1,eq_of_beq e2,eq_of_beq e3⟩
 two c d hc hd:=eq_of_beq (List.all_eq_true.mp (List.all_eq_true.mp h2 c (oZ hc)) d (oZ hd))
theorem EJ{fns:List (Addr×Fn)}{lam:List Addr}{b:Addr}(hP:P.fn=fun a=>fns.lookup a)(h1:(fns.map fun p=>fnIn K P.tabs b lam p.1)=fns.map fun p=>some p.2)(hk:(fns.all fun p=>keepIn K (.ref p.1))=true)(hb:mg "__builtins__"=some (.ref b))(hbm:b≠mainGlobals)
  (h2:P.cls.all (t6 K)=true):fh P K mg where
 fn c X B hT hq a f e:=by
  rw[hP]at e
  obtain⟨i,hi⟩:=List.getElem?_of_mem (lookup_mem e)
  have e2:=congrArg (fun l=>l[i]?) h1
  rw[List.getElem?_map,List.getElem?_map,hi]at e2
  exact EB (Option.some.inj e2) hb hbm X B hq
 tL a f e:=by
  rw[hP]at e
  exact List.all_eq_true.mp hk _ (lookup_mem e)
 cls C init e:=by
  obtain⟨h,a4⟩:=Bool.and_eq_true_iff.mp (List.all_eq_true.mp h2 _ (lookup_mem e))
  obtain⟨h,a3⟩:=Bool.and_eq_true_iff.mp h
  obtain⟨a1,a2⟩:=Bool.and_eq_true_iff.mp h
  exact⟨a1,eq_of_beq a2,eq_of_beq a3,a4⟩
end
end
section
open _root_.PySem.SeqAt
noncomputable def o3 (v:Data):Option ClassData:=Data.casesOn (motive:=fun _=>Option ClassData) v none (fun _=>none) (fun _ _=>none) (fun _ _=>none) (fun _ _ _=>none) (fun _ _=>none) (fun _=>none) (fun _=>none) some (fun _=>none) none
theorem EL{x:ClassData}(v:Data):o3 v=some x->v=.cls x:=Data.casesOn (motive:=fun v=>o3 v=some x->v=.cls x) v ag (fun x0=>ag) (fun x0 x1=>ag) (fun x0 x1=>ag) (fun x0 x1 x2=>ag) (fun x0 x1=>ag) (fun x0=>ag) (fun x0=>ag) (fun a=>fun h=>congrArg Data.cls (Option.some.inj h)) (fun x0=>ag) ag
noncomputable def dQ (o:Obj) (i:Nat):Option Value:=(o.slots.toList[i]?).join
noncomputable def t9 (c:Addr) (o:Obj) (cd:ClassData):Bool:=o.cls==.type "type"&&o.slots.toList==[dQ o 0,dQ o 1,dQ o 2,dQ o 3,some (.builtin "ValueError.__new__"),dQ o 5]&&cd.mro==.ref c::cd.mro.tail&&cd.hasDict&&!cd.hasDel
noncomputable def excIn (K:Frag) (c:Addr):Option (List Value):=(K.lookup c).bind fun o=>(o3 o.data).bind fun cd=>if t9 c o cd then some cd.mro.tail else none
theorem EM{K:Frag}{c:Addr}{bm:List Value}(h:excIn K c=some bm):gF fun nm q N bs sn sub=>gF fun ab col dd k0 k1 k2=>bV fun k3 k5=>K.lookup c=some (excClassObj nm q c N bs bm true sn sub ab col dd k0 k1 k2 k3 k5 "ValueError.__new__"):=by
 obtain⟨o,hk,h⟩:=eM h
 obtain⟨cd,hc,h⟩:=eM h
 cases hx:t9 c o cd with
 |false=>rw[hx]at h;exact ag h
 |true=>
  rw[hx]at h
  replace h:=Option.some.inj h
  obtain⟨hx,e5⟩:=Bool.and_eq_true_iff.mp hx
  obtain⟨hx,e4⟩:=Bool.and_eq_true_iff.mp hx
  obtain⟨hx,e3⟩:=Bool.and_eq_true_iff.mp hx
  obtain⟨e1,e2⟩:=Bool.and_eq_true_iff.mp hx
  refine⟨cd.name,cd.qualname,cd.ns,cd.bases,cd.slotNames,cd.subclasses,cd.abstract,cd.collection,o.dict,dQ o 0,dQ o 1,dQ o 2,dQ o 3,dQ o 5,hk.trans (congrArg some ?_)⟩
  generalize dQ o 0=k0,dQ o 1=k1,dQ o 2=k2,dQ o 3=k3,dQ o 5=k5 at e2
  obtain⟨oc,od,data,⟨sl⟩⟩:=o
  obtain⟨nm,bs,mro,ns,q,hd,sn,sub,ab,col,hdel⟩:=cd
  have e1:oc=_:=eq_of_beq e1
  have e2:sl=_:=eq_of_beq e2
  have e3:mro=.ref c::mro.tail:=eq_of_beq e3
  have h:mro.tail=bm:=h
  rw[h]at e3
  have e4:hd=true:=e4
  have e5:hdel=false:=fV e5
  have hc:data=_:=EL data hc
  rw[e1,e2,hc,e3,e4,e5]
noncomputable def EN (bm:List Value):Bool:=bm.contains (.type "ValueError")&&!bm.contains (.type "AttributeError")&&!bm.contains (.type "NameError")
noncomputable def o4 (K:Frag) (c fI:Addr):Bool:=((excIn K c).any fun bm=>EN bm&&j0 (.ref c::bm)==j4)&&
 specialIn K (.ref c) "__call__"==some (some (.builtin "type.__call__"))&&instIn K (.ref c) (.type "type")==some true&&typeIn K (.ref c)==some (.type "type")&&keepIn K (.ref c)&&subIn K (.ref c) (.ref c)==some true&&
 subIn K (.ref c) (.type "object")==some true&&subIn K (.ref c) (.type "ValueError")==some true&&subIn K (.ref c) (.type "BaseException")==some true&&findIn K (.ref c) "__init__"==some (some (.ref fI))&&typeIn K (.ref fI)==some (.type "function")&&
 findIn K (.ref c) "__setattr__"==some (some (.builtin "object.__setattr__"))&&takerIn K c "reason"==some none
theorem EO{P:aQ}{K:Frag}{c fI:Addr}(h:o4 K c fI=true)(hi:∃ f,P.fn fI=some f∧ja f.body∧f.params=[("self":Str),("reason":Str)]∧f.scope.names=gx):l6 P K c:=by
 obtain⟨h,h13⟩:=Bool.and_eq_true_iff.mp h
 obtain⟨h,h12⟩:=Bool.and_eq_true_iff.mp h
 obtain⟨h,h11⟩:=Bool.and_eq_true_iff.mp h
 obtain⟨h,h10⟩:=Bool.and_eq_true_iff.mp h
 obtain⟨h,h9⟩:=Bool.and_eq_true_iff.mp h
 obtain⟨h,h8⟩:=Bool.and_eq_true_iff.mp h
 obtain⟨h,h7⟩:=Bool.and_eq_true_iff.mp h
 obtain⟨h,h6⟩:=Bool.and_eq_true_iff.mp h
 obtain⟨h,h5⟩:=Bool.and_eq_true_iff.mp h
 obtain⟨h,h4⟩:=Bool.and_eq_true_iff.mp h
 obtain⟨h,h3⟩:=Bool.and_eq_true_iff.mp h
 obtain⟨h1,h2⟩:=Bool.and_eq_true_iff.mp h
 obtain⟨bm,he,h1⟩:=(Option.any_eq_true _ _).mp h1
 obtain⟨nm,q,N,bs,sn,sub,ab,col,dd,k0,k1,k2,k3,k5,e⟩:=EM he
 obtain⟨a,a2⟩:=Bool.and_eq_true_iff.mp h1
 obtain⟨a,b3⟩:=Bool.and_eq_true_iff.mp a
 obtain⟨b1,b2⟩:=Bool.and_eq_true_iff.mp a
 obtain⟨f,i1,i2,i3,i4⟩:=hi
 exact⟨⟨nm,q,N,bs,bm,sn,sub,ab,col,dd,k0,k1,k2,k3,k5,e,b1,fV b2,fV b3,eq_of_beq a2⟩,eq_of_beq h2,eq_of_beq h3,eq_of_beq h4,h5,eq_of_beq h6,eq_of_beq h7,eq_of_beq h8,eq_of_beq h9,⟨fI,f,eq_of_beq h10,eq_of_beq h11,i1,i2,i3,i4⟩,eq_of_beq h12,eq_of_beq h13⟩
theorem EP{P:aQ}{K:Frag}{fI:Addr}(h:(P.dA.all fun c=>o4 K c fI)=true)(hi:∃ f,P.fn fI=some f∧ja f.body∧f.params=[("self":Str),("reason":Str)]∧f.scope.names=gx)
  (h2:(findCls K (.type "ValueError") (.type "type") "__init__")=some (.val (.builtin "ValueError.__init__"))) (h3:P.G.lookup ("ValueError":Str)=some (V.ty "ValueError")):j5 P K:=
 ⟨fun c hc=>EO (List.all_eq_true.mp h c (List.contains_iff_mem.mp hc)) hi,h2,h3⟩
structure ER(P:aQ)(K:Frag)(fns:List (Addr×Fn))(lam:List Addr)(b fI:Addr)(tb:List (Addr×Addr)):Prop where
 nd:decide P.T.Nodup=true
 glob:P.G.all (oY K)=true
 fld:P.cq.all (tZ K P.T)=true
 eqs:P.eqs.all (gN K)=true
 aI:P.aI.all (t5 K P.T)=true
 x1:(P.hO::P.dA).all (t7 K)=true
 x2:t8 K (P.hO::P.dA)=true
 ES:P.fn=fun a=>fns.lookup a
 fn:(fns.map fun p=>fnIn K P.tabs b lam p.1)=fns.map fun p=>some p.2
 keep:(fns.all fun p=>keepIn K (.ref p.1))=true
 bm:nsIn K mainGlobals "__builtins__"=some (some (.ref b))
 bg:b≠mainGlobals
 cls:P.cls.all (t6 K)=true
 rz:(P.dA.all fun c=>o4 K c fI)=true
 init:∃ f,P.fn fI=some f∧ja f.body∧f.params=[("self":Str),("reason":Str)]∧f.scope.names=gx
 ve:(findCls K (.type "ValueError") (.type "type") "__init__")=some (.val (.builtin "ValueError.__init__"))
 ET:P.G.lookup ("ValueError":Str)=some (V.ty "ValueError")
 EU:noTabs K=true
 tabs:(tb.all fun q=>codeHdIn K q.1 q.2)=true
 EW:(tb.map (·.2)).Nodup
 tq:P.tabs.map (·.1)=tb.map (·.2)
theorem EY{h h':Heap}{tb:List (Addr×Addr)}(hT:TabsAt tb h)(k:∀ b o,(ghostOf h tb).get? b=some o->h'.get? b=some o)(gr:GrownAll tb h'):OldK h h':=by
 have key:∀ b o,h.get? b=some o->asItWas h h' b o∧∃ o',h'.get? b=some o':=fun b o e=>by
  by_cases hb:b∈tb.map (·.2)
  ·obtain⟨q,hq,rfl⟩:=List.mem_map.mp hb
   have e2:=(hT q hq).2
   rw[e]at e2
   obtain rfl:=Option.some.inj e2
   obtain⟨ps,hp⟩:=gr.get q hq
   exact⟨.inr (.inl ⟨((hT q hq).1.tab e).isCodeTable,rfl,#[],ps,rfl,by rw[Array.empty_append];exact hp⟩),_,hp⟩
  ·have:=k b o (ghost_ne e hb)
   exact⟨.inl this,o,this⟩
 exact⟨fun b o e=>(key b o e).1,fun b o e=>(key b o e).2⟩
theorem EZ{q:Program}{loose:List Str}{XP:(Str->Option Value)->Heap->Prop}{r:RowW}{d:DefRec}{kwd:List (Str×PySem.Expr)}{K:Params->Frag}{as:List Addr}{e:∀ P,as=(K P).map (·.1)}{ts:List Addr}
  {P:aQ} {fns:List (Addr×Fn)} {lam:List Addr} {b fI law:Addr} {tb:List (Addr×Addr)} {f:Fn} {n:Nat} (ok:∀ p:Params,ER P (K p) fns lam b fI tb) (hts:ts=tb.map (·.2)) (himp:importsNone q=true) (hlaw:∀ p,nsIn (K p) mainGlobals d.name=some (some (.ref law))) (hf:P.fn law=some f)
  (hd:302+4*(n+2)<recursionLimit) (hu:7+24*(n+2)<cLine)
  (hargs:∀ (w:World) (h:Heap) (cl:Str->Option Addr) (args:List WData) (vals:List Value) (as:List Addr),r.claim.pre args=true->WData.layableAll args=true->ReadsAllW r.records cl h vals args as->WellAll w.params h vals args->(∀ a∈as,(a==sysModules)=false)->∃ l vs xs,vals=[.ref l]∧h.IsList l vs.toArray∧IntsAre vs xs∧xs.length<=63)
  (hrun:∀ xs:List Int,xs.length<=63->∃ H,run P (n+1) (.af law) [.ints xs] []=.ok (.bool true) H) (hpost:∀ args,r.claim.post args (.bool true) args=true) (hraise:∀ a x,r.claim.raises a x=false):
  tY q loose XP (kmHook K as e ts).says r d kwd fun f vs=>PySem.call f vs:=by
 intro w s₀ s₁ mg mb G Y fa o pm cd doc dV kV ho hdd hcd hD hmg hg args vals as' hpre hlay hrd hwl hlo
 have KX:=km_in_of Y
 have ok:=ok w.params
 have hT:TabsAt tb s₁.heap:=fun q hq=>⟨codeHd_of_K KX (List.all_eq_true.mp ok.tabs q hq),km_tabs_of Y q.2 (by rw[hts];exact List.mem_map_of_mem hq)⟩
 have T:=G.T
 have GX:=ghost_K hT KX ok.EU
 have gT:=ghost_top hT T
 have bmod:BMod (ghostOf s₁.heap tb) mg:=by
  obtain⟨bm,ob,a1,a2,a3,a4,a5,a6⟩:=T.bmain
  exact⟨bm,ob,a1,a2,ghost_get hT a3 (fun q=>by rw[q]at a4;contradiction),a4,a5,a6⟩
 have sys:∃ o,(ghostOf s₁.heap tb).get? sysModules=some o:=by
  obtain⟨mm,⟨o,es,ep,h1,h2,h3⟩,_⟩:=(T.seer himp).mods
  exact⟨o,ghost_get hT h1 fun q=>by rw[q]at h2;contradiction⟩
 have hfa:fa=law:=by
  have:=mg_of KX T.g (hlaw w.params)
  rw[hmg]at this
  cases this;rfl
 subst hfa
 have good:∀ (s':Shared),OldK s₁.heap s'.heap->s'.os=s₁.os->s'.gens=s₁.gens->GoodWG r.claim (classAt s₀.heap) (ExcName.means s₀.heap) args s₁ (.ok (.ret (.bool true))) s':=fun s' k1 k2 k3=>
  ⟨.inl ⟨.bool true,.bool true,[],rfl,fun c=>hraise args c,.bool true,hpost args,fun _=>⟨List.nodup_nil,fun a h=>nomatch h⟩⟩,k1,k2,.of_eq (k3.trans hg)⟩
 refine⟨good s₁ (OldK.refl _) rfl rfl,?_⟩
 obtain⟨l,vs,xs,rfl,hl,hi,hlen⟩:=hargs w _ _ _ _ _ hpre hlay hrd hwl hlo
 obtain⟨H',hr⟩:=hrun xs hlen
 let c:Cx:={prog:=r.prog,w:=w,T:=P.T,b₀:=ghostOf s₁.heap tb,X:=[],fs:=[],N:=0,Qs:=P.tabs}
 have PK:cD c P (K w.params) mg mb:=EH GX gT.nolimit rfl ok.nd gT.g gT.b T.builtins bmod ok.glob ok.fld ok.eqs ok.aI
 have TX:fh P (K w.params) mg:=EJ ok.ES ok.fn ok.keep (mg_of KX T.g ok.bm) ok.bg ok.cls
 exact En (c:=c) (tabs:=tb) rfl hT ok.EW ok.tq rfl rfl PK sys (fun q h=>h) (EI ok.x1 ok.x2) TX (EP ok.rz ok.init ok.ve ok.ET) hd hu hf (.cons (VR.xU (ghost_list hT hl) hi) .nil) hr fun h' tk r' g' k1 k2 k3=>by
  rw[show r'=.bool true from k3]
  exact good _ (EY hT k1 k2) rfl rfl
end
section
open _root_.PySem.SeqAt
noncomputable def E0:List (Addr×Str):=[(561,"_law_put.<locals>.<lambda>"),(587,"_law_deed.<locals>.<lambda>"),(594,"law.<locals>.<lambda>")]
noncomputable abbrev pw:Program:=PySem.Challenge.pw_nz0219_01
noncomputable def T0:List Str:=(["__init__","reason","writes","a head that is too long","extend","blocks","disk","a log that the disk does not have","cache","start","size","places","most","too few buffers for a log","each","more blocks a call than the log has","numbers","noted","calls","commits","has_room","the log","a write outside of a call","is_own","number","a write into the log itself","need_held","too many blocks for the log","pin","append","no call is open","commit","fill_log","write_head","install","unpin","poke","peek","flush","data","holders","pins","a part that a block does not have","need_part","a block of another size","a cache without buffers","row","by_number","hits","reads","no such block","get","a buffer that is not held","need_block","make_room","read","is_free","all buffers are held","remove","a block that is not pinned","write","octets","release","fill","a disk of no octets","kept","latest","unflushed","flushes","last","last_flush","is_dead","need_power","fail","a count below 0","told","room","argument","log","buffers","group","left","known","free_count","begin","end",""]:List String).map Str.ofString
noncomputable def ua:List Addr:=[566,592,599]
noncomputable def tS (i:Nat):Stmt:=match pw.main.body[i]? with
 |some s=>s
 |none=>.Pass default
noncomputable def mS (i j:Nat):Stmt:=Stmt.casesOn (motive_2:=fun _=>Stmt) (tS i) (fun x0 x1 x2 x3 x4 x5 x6 x7 x8 x9=>Stmt.Pass default) (fun x0 x1 x2 x3 x4 x5 x6 x7 x8 x9=>Stmt.Pass default) (fun x0 x1 x2 body x4 x5 x6 x7 x8 x9 x10=>body[j]?.getD (.Pass default)) (fun x0 x1=>Stmt.Pass default) (fun x0 x1=>Stmt.Pass default) (fun x0 x1 x2=>Stmt.Pass default) (fun x0 x1 x2 x3 x4 x5 x6=>Stmt.Pass default) (fun x0 x1 x2 x3=>Stmt.Pass default) (fun x0 x1 x2 x3 x4=>Stmt.Pass default) (fun x0 x1 x2 x3 x4=>Stmt.Pass default) (fun x0 x1 x2 x3 x4=>Stmt.Pass default) (fun x0 x1 x2 x3=>Stmt.Pass default) (fun x0 x1 x2 x3=>Stmt.Pass default) (fun x0 x1 x2=>Stmt.Pass default) (fun x0 x1 x2=>Stmt.Pass default) (fun x0 x1 x2=>Stmt.Pass default) (fun x0 x1 x2=>Stmt.Pass default) (fun x0 x1 x2 x3 x4=>Stmt.Pass default) (fun x0 x1 x2 x3 x4=>Stmt.Pass default) (fun x0 x1 x2=>Stmt.Pass default) (fun x0 x1=>Stmt.Pass default) (fun x0 x1 x2 x3=>Stmt.Pass default) (fun x0 x1=>Stmt.Pass default) (fun x0 x1=>Stmt.Pass default) (fun x0 x1=>Stmt.Pass default) (fun x0=>Stmt.Pass default) (fun x0=>Stmt.Pass default) (fun x0=>Stmt.Pass default)
noncomputable def fS (a:Addr) (s:Stmt):Fn:=Stmt.casesOn (motive_2:=fun _=>Fn) s (fun x0 args body x3 x4 x5 scope x7 x8 x9=>⟨args.args.map (·.arg),[],l8 ua a scope,body⟩) (fun x0 x1 x2 x3 x4 x5 x6 x7 x8 x9=>⟨[],[],default,[]⟩) (fun x0 x1 x2 x3 x4 x5 x6 x7 x8 x9 x10=>⟨[],[],default,[]⟩) (fun x0 x1=>⟨[],[],default,[]⟩) (fun x0 x1=>⟨[],[],default,[]⟩) (fun x0 x1 x2=>⟨[],[],default,[]⟩) (fun x0 x1 x2 x3 x4 x5 x6=>⟨[],[],default,[]⟩) (fun x0 x1 x2 x3=>⟨[],[],default,[]⟩) (fun x0 x1 x2 x3 x4=>⟨[],[],default,[]⟩) (fun x0 x1 x2 x3 x4=>⟨[],[],default,[]⟩) (fun x0 x1 x2 x3 x4=>⟨[],[],default,[]⟩) (fun x0 x1 x2 x3=>⟨[],[],default,[]⟩) (fun x0 x1 x2 x3=>⟨[],[],default,[]⟩) (fun x0 x1 x2=>⟨[],[],default,[]⟩) (fun x0 x1 x2=>⟨[],[],default,[]⟩) (fun x0 x1 x2=>⟨[],[],default,[]⟩) (fun x0 x1 x2=>⟨[],[],default,[]⟩) (fun x0 x1 x2 x3 x4=>⟨[],[],default,[]⟩) (fun x0 x1 x2 x3 x4=>⟨[],[],default,[]⟩) (fun x0 x1 x2=>⟨[],[],default,[]⟩) (fun x0 x1=>⟨[],[],default,[]⟩) (fun x0 x1 x2 x3=>⟨[],[],default,[]⟩) (fun x0 x1=>⟨[],[],default,[]⟩) (fun x0 x1=>⟨[],[],default,[]⟩) (fun x0 x1=>⟨[],[],default,[]⟩) (fun x0=>⟨[],[],default,[]⟩) (fun x0=>⟨[],[],default,[]⟩) (fun x0=>⟨[],[],default,[]⟩)
noncomputable def ub:List (Addr×Fn):=[
 (36,fS 36 (mS 2 0)),
 (102,fS 102 (tS 11)),
 (117,fS 117 (mS 12 0)),
 (124,fS 124 (mS 12 1)),
 (131,fS 131 (mS 12 2)),
 (138,fS 138 (mS 12 3)),
 (145,fS 145 (mS 12 4)),
 (152,fS 152 (mS 12 5)),
 (159,fS 159 (mS 12 6)),
 (166,fS 166 (mS 12 7)),
 (173,fS 173 (mS 12 8)),
 (180,fS 180 (mS 12 9)),
 (187,fS 187 (mS 12 10)),
 (222,fS 222 (mS 14 0)),
 (229,fS 229 (mS 14 1)),
 (236,fS 236 (mS 14 2)),
 (264,fS 264 (mS 14 6)),
 (320,fS 320 (mS 15 0)),
 (327,fS 327 (mS 15 1)),
 (334,fS 334 (mS 15 2)),
 (341,fS 341 (mS 15 3)),
 (348,fS 348 (mS 15 4)),
 (355,fS 355 (mS 15 5)),
 (362,fS 362 (mS 15 6)),
 (369,fS 369 (mS 15 7)),
 (376,fS 376 (mS 15 8)),
 (383,fS 383 (mS 15 9)),
 (390,fS 390 (mS 15 10)),
 (397,fS 397 (mS 15 11)),
 (402,fS 402 (mS 15 12)),
 (407,fS 407 (mS 15 13)),
 (435,fS 435 (mS 17 0)),
 (442,fS 442 (mS 17 1)),
 (449,fS 449 (mS 17 2)),
 (456,fS 456 (mS 17 3)),
 (463,fS 463 (mS 17 4)),
 (477,fS 477 (mS 17 6)),
 (526,fS 526 (tS 19)),
 (533,fS 533 (tS 20)),
 (540,fS 540 (tS 21)),
 (545,fS 545 (tS 22)),
 (552,fS 552 (tS 23)),
 (559,fS 559 (tS 24)),
 (566,fS 566 (tS 25)),
 (573,fS 573 (tS 26)),
 (580,fS 580 (tS 27)),
 (585,fS 585 (tS 28)),
 (592,fS 592 (tS 29)),
 (599,fS 599 (tS 30))]
noncomputable def G0:List (Str×V):=([("BadArgument",V.af 52),("BadDisk",V.af 64),("NoRoom",V.af 76),("NUMBER",V.int 4),("MOST_EACH",V.int 10),("SPARE",V.int 4),("packed_head",V.af 102),("Journal",V.af 204),("Buffer",V.af 302),("Cache",V.af 417),("Disk",V.af 515),("_law_pool",V.af 526),("_law_take",V.af 533),("_law_met",V.af 540),("_law_book",V.af 545),("_law_is_own",V.af 552),("_law_due",V.af 559),("_law_put",V.af 566),("_law_ended",V.af 573),("_law_has_room",V.af 580),("_law_seen",V.af 585),("_law_deed",V.af 592),("law",V.af 599),("len",V.bi "len"),("abs",V.bi "abs"),("min",V.bi "min"),("isinstance",V.bi "isinstance"),("int",V.ty "int"),("range",V.ty "range"),("bytes",V.ty "bytes"),("bytearray",V.ty "bytearray"),("list",V.ty "list"),("enumerate",V.ty "enumerate"),("ValueError",V.ty "ValueError")]:List (String×V)).map fun p=>(Str.ofString p.1,p.2)
noncomputable def P0:aQ:={
 T:=T0,G:=G0,fn:=fun a=>ub.lookup a,cls:=[(204,117),(302,222),(417,320),(515,435)],
 aI:=[((204,0),117),((204,23),124),((204,20),131),((204,81),138),((204,84),145),((204,60),152),((204,85),159),((204,31),166),((204,32),173),((204,33),180),((204,34),187),((302,0),222),((302,56),229),((302,61),236),((302,63),264),((417,0),320),((417,53),327),((417,26),334),((417,51),341),((417,54),348),((417,62),355),((417,28),362),((417,35),369),((417,60),376),((417,38),383),((417,37),390),((417,36),397),((417,82),402),((417,83),407),((515,0),435),((515,72),442),((515,53),449),((515,55),456),((515,60),463),((515,38),477)],
 cq:=[(204,8),(204,9),(204,10),(204,11),(204,12),(204,14),(204,16),(204,17),(204,18),(204,19),(302,24),(302,39),(302,40),(302,41),(417,6),(417,12),(417,10),(417,46),(417,47),(417,48),(417,49),(417,2),(515,5),(515,10),(515,65),(515,66),(515,67),(515,2),(515,68),(515,69),(515,70),(515,71)],
 eqs:=[302],dA:=[52,64,76],hO:=95,tabs:=E0}
noncomputable def fF:Nat->Expr->List (Expr×Scope)
 | 0,_=>[]
 |n+1,e=>Expr.casesOn (motive_1:=fun _=>List (Expr×Scope)) e (fun x0 vs x2=>vs.flatMap (fF n)) (fun x0 x1 x2=>[]) (fun x0 x1 x2 x3=>[]) (fun x0 x1 x2=>[]) (fun x0 b sc x3=>[(b,sc)]) (fun x0 x1 x2 x3=>[]) (fun x0 x1 x2=>[]) (fun x0 x1 x2=>[]) (fun x0 x1 x2 x3=>[]) (fun x0 x1 x2 x3=>[]) (fun x0 x1 x2 x3 x4=>[]) (fun x0 x1 x2 x3=>[]) (fun x0 x1=>[]) (fun x0 x1=>[]) (fun x0 x1=>[]) (fun a x1 bs x3=>fF n a++bs.flatMap (fF n)) (fun f as x2 x3=>fF n f++as.flatMap (fF n)) (fun x0 x1 x2 x3=>[]) (fun x0 x1=>[]) (fun x0 x1 x2=>[]) (fun a x1 x2=>fF n a) (fun a b x2=>fF n a++fF n b) (fun x0 x1=>[]) (fun x0 x1=>[]) (fun x0 x1=>[]) (fun x0 x1 x2=>[]) (fun x0 x1 x2 x3=>[])
noncomputable def o5:Nat->Stmt->List (Expr×Scope)
 | 0,_=>[]
 |n+1,s=>Stmt.casesOn (motive_2:=fun _=>List (Expr×Scope)) s (fun x0 x1 x2 x3 x4 x5 x6 x7 x8 x9=>[]) (fun x0 x1 x2 x3 x4 x5 x6 x7 x8 x9=>[]) (fun x0 x1 x2 x3 x4 x5 x6 x7 x8 x9 x10=>[]) (fun e x1=>(e.map (fF n)).getD []) (fun x0 x1=>[]) (fun x0 v x2=>fF n v) (fun x0 x1 x2 x3 x4 x5 x6=>[]) (fun x0 x1 x2 x3=>[]) (fun x0 x1 x2 x3 x4=>[]) (fun x0 x1 x2 x3 x4=>[]) (fun x0 x1 x2 x3 x4=>[]) (fun x0 x1 x2 x3=>[]) (fun t a b x3=>fF n t++a.flatMap (o5 n)++b.flatMap (o5 n)) (fun x0 x1 x2=>[]) (fun x0 x1 x2=>[]) (fun x0 x1 x2=>[]) (fun x0 x1 x2=>[]) (fun x0 x1 x2 x3 x4=>[]) (fun x0 x1 x2 x3 x4=>[]) (fun x0 x1 x2=>[]) (fun x0 x1=>[]) (fun x0 x1 x2 x3=>[]) (fun x0 x1=>[]) (fun x0 x1=>[]) (fun x0 x1=>[]) (fun x0=>[]) (fun x0=>[]) (fun x0=>[])
noncomputable def cM (s:Stmt) (i:Nat):Expr×Scope:=Stmt.casesOn (motive_2:=fun _=>Expr×Scope) s (fun x0 x1 body x3 x4 x5 x6 x7 x8 x9=>(body.flatMap (o5 20))[i]?.getD (.Constant .none 0 default,default)) (fun x0 x1 x2 x3 x4 x5 x6 x7 x8 x9=>(.Constant .none 0 default,default)) (fun x0 x1 x2 x3 x4 x5 x6 x7 x8 x9 x10=>(.Constant .none 0 default,default)) (fun x0 x1=>(.Constant .none 0 default,default)) (fun x0 x1=>(.Constant .none 0 default,default)) (fun x0 x1 x2=>(.Constant .none 0 default,default)) (fun x0 x1 x2 x3 x4 x5 x6=>(.Constant .none 0 default,default)) (fun x0 x1 x2 x3=>(.Constant .none 0 default,default)) (fun x0 x1 x2 x3 x4=>(.Constant .none 0 default,default)) (fun x0 x1 x2 x3 x4=>(.Constant .none 0 default,default)) (fun x0 x1 x2 x3 x4=>(.Constant .none 0 default,default)) (fun x0 x1 x2 x3=>(.Constant .none 0 default,default)) (fun x0 x1 x2 x3=>(.Constant .none 0 default,default)) (fun x0 x1 x2=>(.Constant .none 0 default,default)) (fun x0 x1 x2=>(.Constant .none 0 default,default)) (fun x0 x1 x2=>(.Constant .none 0 default,default)) (fun x0 x1 x2=>(.Constant .none 0 default,default)) (fun x0 x1 x2 x3 x4=>(.Constant .none 0 default,default)) (fun x0 x1 x2 x3 x4=>(.Constant .none 0 default,default)) (fun x0 x1 x2=>(.Constant .none 0 default,default)) (fun x0 x1=>(.Constant .none 0 default,default)) (fun x0 x1 x2 x3=>(.Constant .none 0 default,default)) (fun x0 x1=>(.Constant .none 0 default,default)) (fun x0 x1=>(.Constant .none 0 default,default)) (fun x0 x1=>(.Constant .none 0 default,default)) (fun x0=>(.Constant .none 0 default,default)) (fun x0=>(.Constant .none 0 default,default)) (fun x0=>(.Constant .none 0 default,default))
end
/-! the small interpreter's programs,their names resolved -/
noncomputable def ah:List (M V)->M (List V)
 | []=>pure []
 |m::ms=>do let v<-m;return v::(<-ah ms)
noncomputable def aJ (a:V):List CmpOp->List (M V)->M Bool
 | [],_=>no
 |op::ops,es=>match es with
  | []=>no
  |e::es=>e>>=fun b=>cB op a b>>=fun t=>if ops.isEmpty then pure t else if t then aJ b ops es else pure false
noncomputable def allM (op:BoolOp):List (M Bool)->M Bool
 | []=>pure (op==.And)
 |e::es=>e>>=fun t=>if jA op t then pure t else allM op es
noncomputable def j8 (op:BoolOp):List (M V)->M V
 | []=>no
 |e::es=>if es.isEmpty then e else e>>=fun v=>dz v>>=fun t=>if jA op t then pure v else j8 op es
noncomputable def aD:List (M Fl)->M Fl
 | []=>pure .next
 |s::ss=>s>>=fun r=>jE r (aD ss)
noncomputable def dR:List (Option Nat)->List (Option V)->Option (List (Option V))
 | [],_=>some []
 |o::r,lo=>(match o with
  |none=>some none
  |some i=>lo[i]?.join.map some).bind fun v=>(dR r lo).map (v::·)
noncomputable def jb:List (M V×M V)->M (List (Nat×V))
 | []=>pure []
 |p::r=>p.1>>=ek>>=fun kv=>p.2>>=fun vv=>jb r>>=fun r=>pure ((kv,vv)::r)
section
variable (P:aQ) (C:V->List V->Hp->CR)
noncomputable def gA (k:Nat) (v:V):M V:=do
 let a<-bq v
 let x<-dM a
 guard (P.cq.contains (x.1,k))
 let r<-ar (x.2.lookup k)
 guard (ju r)
 return r
noncomputable def sA (k:Nat) (v x:V):M Unit:=do
 let a<-bq v
 let o<-dM a
 guard (P.cq.contains (o.1,k)&&decide (o.2.length<=100))
 put a (.inst o.1 (dC o.2 k x))
noncomputable def aB (ov:M V) (nm:Str) (args:List (M V)):M V:=ov>>=fun ov=>getM P ov nm>>=fun fm=>ah args>>=fun as=>aR P C true fm.1 (fm.2++as)
noncomputable def ak (f:V) (args:List (M V)):M V:=ah args>>=fun as=>aR P C true f as
noncomputable def dg (l:M V) (ops:List CmpOp) (rs:List (M V)):M V:=l>>=fun a=>aJ a ops rs>>=fun t=>pure (.bool t)
noncomputable def au (op:Operator) (l r:M V):M V:=l>>=fun a=>r>>=fun b=>binop op a b
noncomputable def listS (es:List (M V)):M V:=ah es>>=fun vs=>guard (decide (vs.length<=lim))>>=fun _=>alloc (.list vs)
noncomputable def tupS (es:List (M V)):M V:=ah es>>=fun vs=>guard (decide (vs.length<=lim))>>=fun _=>alloc (.tuple vs)
noncomputable def uc (es:List (M V×M V)):M V:=jb es>>=fun kvs=>guard (decide (kvs.map (·.1)).Nodup)>>=fun _=>alloc (.cI kvs)
noncomputable def fj {α:Type} (t:M Bool) (a b:M α):M α:=t>>=fun x=>if x then a else b
noncomputable def aH (t:M Bool) (a b:List (M Fl)):M Fl:=t>>=fun x=>if x then aD a else aD b
noncomputable def ao (v:M V) (t:V->M Unit):M Fl:=v>>=fun x=>t x>>=fun _=>pure .next
noncomputable def ud:List (V->M Unit)->List V->M Unit
 | [],_=>pure ()
 |t::ts,l=>match l with
  | []=>pure ()
  |x::xs=>t x>>=fun _=>ud ts xs
noncomputable def dh (ts:List (V->M Unit)) (v:V):M Unit:=bq v>>=fun a=>ew a>>=fun xs=>guard (decide (xs.length=ts.length))>>=fun _=>ud ts xs
noncomputable def az (v:M V):M Fl:=v>>=fun _=>pure .next
noncomputable def aE (v:M V):M Fl:=v>>=fun x=>pure (.ret x)
noncomputable def dF (it:M V) (tgt:V->M Unit) (body:List (M Fl)):M Fl:=
 it>>=fun x=>iter x>>=fun i=>loop (bJ i.2) (fun v=>pure v>>=da tgt (aD body>>=d7)) i.1>>=eF
noncomputable def fG (it:M V) (tgt:V->M Unit) (body:List (M Fl)):M Fl:=
 it>>=fun w=>bq w>>=fun a=>bH a>>=fun xs=>guard (decide (xs.length<=lim))>>=fun _=>
  loop (bJ (some (a,xs))) (fun v=>gI xs v>>=da tgt (aD body>>=d7)) ((List.range xs.length).map fun (k:Nat)=>V.int (k:Int))>>=eF
noncomputable def dG (mk:List (Option V)->Option (List (Option V))) (it:M V) (tgt:V->M Unit) (ifs:List (M Bool)) (elt:M V):M V:=
 it>>=fun x=>iter x>>=fun it=>locals>>=fun lo=>alloc (.list [])>>=fun acc=>ar (mk lo)>>=fun lo'=>
  inBlock lo' (loop (bJ it.2) (fun v=>tgt v>>=fun _=>allM .And ifs>>=fun ok=>if ok then (elt>>=fun y=>bi P "list.append" [acc,y]>>=fun _=>pure none)else pure (none:Option Unit)) it.1)>>=fun _=>pure acc
noncomputable def du (mk:List (Option V)->Option (List (Option V))) (body:Expr) (scope:Scope):M V:=locals>>=fun lo=>ar (mk lo)>>=fun lo'=>alloc (.cQ body scope lo')
noncomputable def iz (c d:Addr) (body:List (M Fl)) (rest:M Fl):M Fl:=guard (isExc P c&&isExc P d)>>=fun _=>if d=c then calm (aD body)else rest
noncomputable abbrev aF:R Fl->CR:=gJ
end
section
noncomputable def Rn (k n:Nat):V->List V->Hp->CR:=run P0 (n+k)
variable (C:V->List V->Hp->CR)
noncomputable def E1:M Fl:=aH ((au .Mult (pure (V.int 4)) (au .Add (ak P0 C (V.bi "len") [ae 0]) (pure (V.int 1))))>>=fun a=>aJ a [.Gt] [ae 1]) ((ah [pure (V.str 3)]>>=fun as=>cS P0 true 52 as)::[]) []
noncomputable def E2:M Fl:=ao (ak P0 C (V.ty "bytearray") []) (av 2)
noncomputable def E3:M Fl:=az (aB P0 C (ae 2) "extend" [ak P0 C (V.ty "bytes") [dG P0 (dR [none,none,some 3]) (ak P0 C (V.ty "range") [pure (V.int 4)]) (av 1) [] (au .BitAnd (au .RShift (aO 2) (au .Mult (pure (V.int 8)) (ae 1))) (pure (V.int 255)))]])
noncomputable def E4:List (M Fl):=E3 C::[]
noncomputable def E5:M Fl:=dF (au .Add (listS [ak P0 C (V.bi "len") [ae 0]]) (ak P0 C (V.ty "list") [ae 0])) (dB 3) (E4 C)
noncomputable def E6:M Fl:=aE (au .Add (ak P0 C (V.ty "bytes") [ae 2]) (ak P0 C (V.ty "bytes") [au .Sub (ae 1) (ak P0 C (V.bi "len") [ae 2])]))
noncomputable def E7:List (M Fl):=E6 C::[]
noncomputable def E8:List (M Fl):=E5 C::E7 C
noncomputable def E9:List (M Fl):=E2 C::E8 C
noncomputable def Fb:List (M Fl):=E1 C::E9 C
noncomputable def Fc:M Fl:=aD (Fb C)
noncomputable abbrev Fd (a0:V) (a1:V) (c0:Nat):List (Option V):=[some a0,some a1,none,some (.ref c0),none,none,none,none,none,none,none]
theorem Fe(k n:Nat)(H:Hp)(a0 a1:V):Rn (k+1) n (.af 102) [a0,a1] H=aF (Fc (Rn k n) ⟨Fd a0 a1 H.length,H++[O.cell none]⟩):=by kernel_rfl
noncomputable def Ff:M Fl:=ao (ak P0 C (V.bi "min") [au .Sub (ae 3) (pure (V.int 1)),au .Sub (au .FloorDiv ((ae 1)>>=gA P0 10) (pure (V.int 4))) (pure (V.int 1))]) (fun v=>(ae 0)>>=fun o=>sA P0 11 o v)
noncomputable def Fg:M Fl:=ao (ak P0 C (V.bi "min") [(ae 0)>>=gA P0 11,au .Sub ((ae 1)>>=gA P0 12) (pure (V.int 4))]) (fun v=>(ae 0)>>=fun o=>sA P0 12 o v)
noncomputable def Fh:M Fl:=ao (fj ((ae 4)>>=fun a=>aJ a [.Is] [pure V.none]) (ak P0 C (V.bi "min") [pure (V.int 10),(ae 0)>>=gA P0 12]) (ae 4)) (fun v=>(ae 0)>>=fun o=>sA P0 14 o v)
noncomputable def Fi:List (M Fl):=Fh C::(aH (((pure (V.int 1))>>=fun a=>aJ a [.LtE,.LtE] [(ae 0)>>=gA P0 14,(ae 0)>>=gA P0 12])>>=fun b=>pure (!b)) ((ah [pure (V.str 15)]>>=fun as=>cS P0 true 52 as)::[]) [])::(ao (listS []) (fun v=>(ae 0)>>=fun o=>sA P0 16 o v))::(ao (alloc (.dict [])) (fun v=>(ae 0)>>=fun o=>sA P0 17 o v))::(ao (pure (V.int 0)) (fun v=>(ae 0)>>=fun o=>sA P0 18 o v))::(ao (pure (V.int 0)) (fun v=>(ae 0)>>=fun o=>sA P0 19 o v))::[]
noncomputable def Fj:List (M Fl):=(aH (((ae 0)>>=gA P0 12)>>=fun a=>aJ a [.Lt] [pure (V.int 1)]) ((ah [pure (V.str 13)]>>=fun as=>cS P0 true 52 as)::[]) [])::Fi C
noncomputable def Fo:List (M Fl):=Fg C::Fj C
noncomputable def Fp:List (M Fl):=Ff C::Fo C
noncomputable def Fq:List (M Fl):=(ao (ae 3) (fun v=>(ae 0)>>=fun o=>sA P0 10 o v))::Fp C
noncomputable def Fs:List (M Fl):=(ao (ae 2) (fun v=>(ae 0)>>=fun o=>sA P0 9 o v))::Fq C
noncomputable def Ft:List (M Fl):=(ao (ae 1) (fun v=>(ae 0)>>=fun o=>sA P0 8 o v))::Fs C
noncomputable def Fu:List (M Fl):=(aH (allM .Or [(ae 2)>>=fun a=>aJ a [.Lt] [pure (V.int 0)],(ae 3)>>=fun a=>aJ a [.Lt] [pure (V.int 2)],(au .Add (ae 2) (ae 3))>>=fun a=>aJ a [.Gt] [((ae 1)>>=gA P0 6)>>=gA P0 5]]) ((ah [pure (V.str 7)]>>=fun as=>cS P0 true 52 as)::[]) [])::Ft C
noncomputable def ue:M Fl:=aD (Fu C)
noncomputable abbrev uf (a0:V) (a1:V) (a2:V) (a3:V) (a4:V):List (Option V):=[some a0,some a1,some a2,some a3,some a4,none,none,none,none,none]
theorem Fv(n:Nat)(H:Hp)(a0 a1 a2 a3 a4:V):run P0 (n+1) (.af 117) [a0,a1,a2,a3,a4] H=aF (ue (run P0 n) ⟨uf a0 a1 a2 a3 a4,H++[]⟩):=by kernel_rfl
theorem Fw(k n:Nat)(H:Hp)(a0 a1 a2 a3 a4:V):Rn (k+1) n (.af 117) [a0,a1,a2,a3,a4] H=aF (ue (Rn k n) ⟨uf a0 a1 a2 a3 a4,H⟩):=(Fv (n+k) H a0 a1 a2 a3 a4).trans (by rw[List.append_nil];rfl)
noncomputable def ug (C:V->List V->Hp->CR):M Fl:=aD ((aE (dg ((ae 0)>>=gA P0 9) [.LtE,.Lt] [ae 1,au .Add ((ae 0)>>=gA P0 9) ((ae 0)>>=gA P0 10)]))::[])
noncomputable abbrev uh (a0:V) (a1:V):List (Option V):=[some a0,some a1]
theorem Fx(n:Nat)(H:Hp)(a0 a1:V):run P0 (n+1) (.af 124) [a0,a1] H=aF (ug (run P0 n) ⟨uh a0 a1,H++[]⟩):=by kernel_rfl
theorem Fy(k n:Nat)(H:Hp)(a0 a1:V):Rn (k+1) n (.af 124) [a0,a1] H=aF (ug (Rn k n) ⟨uh a0 a1,H⟩):=(Fx (n+k) H a0 a1).trans (by rw[List.append_nil];rfl)
noncomputable def Fz:M Fl:=aE (dg (au .Add (ak P0 C (V.bi "len") [(ae 0)>>=gA P0 16]) (au .Mult (au .Add ((ae 0)>>=gA P0 18) (pure (V.int 1))) ((ae 0)>>=gA P0 14))) [.LtE] [(ae 0)>>=gA P0 12])
noncomputable def FA:List (M Fl):=Fz C::[]
noncomputable def ui:M Fl:=aD (FA C)
noncomputable abbrev uj (a0:V):List (Option V):=[some a0,none]
theorem FC(n:Nat)(H:Hp)(a0:V):run P0 (n+1) (.af 131) [a0] H=aF (ui (run P0 n) ⟨uj a0,H++[]⟩):=by kernel_rfl
theorem FD(k n:Nat)(H:Hp)(a0:V):Rn (k+1) n (.af 131) [a0] H=aF (ui (Rn k n) ⟨uj a0,H⟩):=(FC (n+k) H a0).trans (by rw[List.append_nil];rfl)
noncomputable def FE:M Fl:=aE (au .Sub ((ae 0)>>=gA P0 12) (ak P0 C (V.bi "len") [(ae 0)>>=gA P0 16]))
noncomputable def FF:List (M Fl):=FE C::[]
noncomputable def uk:M Fl:=aD (FF C)
noncomputable abbrev um (a0:V):List (Option V):=[some a0,none]
theorem FG(n:Nat)(H:Hp)(a0:V):run P0 (n+1) (.af 138) [a0] H=aF (uk (run P0 n) ⟨um a0,H++[]⟩):=by kernel_rfl
theorem FH(k n:Nat)(H:Hp)(a0:V):Rn (k+1) n (.af 138) [a0] H=aF (uk (Rn k n) ⟨um a0,H⟩):=(FG (n+k) H a0).trans (by rw[List.append_nil];rfl)
noncomputable def FI:M Fl:=aH (((aB P0 C (ae 0) "has_room" [])>>=truth)>>=fun b=>pure (!b)) ((ah [pure (V.str 21)]>>=fun as=>cS P0 true 76 as)::[]) []
noncomputable def FJ:List (M Fl):=FI C::((ae 0)>>=fun o=>gA P0 18 o>>=fun a=>(pure (V.int 1))>>=fun b=>bF .Add a b>>=fun r=>sA P0 18 o r>>=fun _=>pure .next)::[]
noncomputable def uo:M Fl:=aD (FJ C)
noncomputable abbrev uq (a0:V):List (Option V):=[some a0,none]
theorem FK(n:Nat)(H:Hp)(a0:V):run P0 (n+1) (.af 145) [a0] H=aF (uo (run P0 n) ⟨uq a0,H++[]⟩):=by kernel_rfl
theorem FL(k n:Nat)(H:Hp)(a0:V):Rn (k+1) n (.af 145) [a0] H=aF (uo (Rn k n) ⟨uq a0,H⟩):=(FK (n+k) H a0).trans (by rw[List.append_nil];rfl)
noncomputable def FN:M Fl:=aH ((aB P0 C (ae 0) "is_own" [(ae 1)>>=gA P0 24])>>=truth) ((ah [pure (V.str 25)]>>=fun as=>cS P0 true 52 as)::[]) []
noncomputable def FO:M Fl:=az (aB P0 C ((ae 0)>>=gA P0 8) "need_held" [ae 1])
noncomputable def FP:List (M Fl):=FO C::pure (.ret .none)::[]
noncomputable def FQ:M Fl:=aH (((ae 1)>>=gA P0 24)>>=fun a=>aJ a [.In] [(ae 0)>>=gA P0 17]) (FP C) []
noncomputable def FT:M Fl:=aH ((ak P0 C (V.bi "len") [(ae 0)>>=gA P0 16])>>=fun a=>aJ a [.GtE] [(ae 0)>>=gA P0 12]) ((ah [pure (V.str 27)]>>=fun as=>cS P0 true 76 as)::[]) []
noncomputable def FU:M Fl:=az (aB P0 C ((ae 0)>>=gA P0 8) "pin" [ae 1])
noncomputable def FV:M Fl:=ao (ak P0 C (V.bi "len") [(ae 0)>>=gA P0 16]) (fun v=>((ae 0)>>=gA P0 17)>>=fun o=>((ae 1)>>=gA P0 24)>>=fun i=>bA o i v)
noncomputable def FW:M Fl:=az (aB P0 C ((ae 0)>>=gA P0 16) "append" [(ae 1)>>=gA P0 24])
noncomputable def FX:List (M Fl):=FW C::[]
noncomputable def FY:List (M Fl):=FV C::FX C
noncomputable def FZ:List (M Fl):=FU C::FY C
noncomputable def F0:List (M Fl):=FT C::FZ C
noncomputable def F4:List (M Fl):=FQ C::F0 C
noncomputable def F5:List (M Fl):=FN C::F4 C
noncomputable def F6:List (M Fl):=(aH (((ae 0)>>=gA P0 18)>>=fun a=>aJ a [.Eq] [pure (V.int 0)]) ((ah [pure (V.str 22)]>>=fun as=>cS P0 true 52 as)::[]) [])::F5 C
noncomputable def ur:M Fl:=aD (F6 C)
noncomputable abbrev uu (a0:V) (a1:V):List (Option V):=[some a0,some a1,none,none,none]
theorem F7(n:Nat)(H:Hp)(a0 a1:V):run P0 (n+1) (.af 152) [a0,a1] H=aF (ur (run P0 n) ⟨uu a0 a1,H++[]⟩):=by kernel_rfl
theorem F8(k n:Nat)(H:Hp)(a0 a1:V):Rn (k+1) n (.af 152) [a0,a1] H=aF (ur (Rn k n) ⟨uu a0 a1,H⟩):=(F7 (n+k) H a0 a1).trans (by rw[List.append_nil];rfl)
noncomputable def F9:M Fl:=az (aB P0 C (ae 0) "commit" [])
noncomputable def Ga:List (M Fl):=F9 C::[]
noncomputable def Gb:M Fl:=aH (allM .And [((ae 0)>>=gA P0 18)>>=fun a=>aJ a [.Eq] [pure (V.int 0)],((ae 0)>>=gA P0 16)>>=fun a=>aJ a [.NotEq] [listS []]]) (Ga C) []
noncomputable def Ge:List (M Fl):=Gb C::[]
noncomputable def Gg:List (M Fl):=((ae 0)>>=fun o=>gA P0 18 o>>=fun a=>(pure (V.int 1))>>=fun b=>bF .Sub a b>>=fun r=>sA P0 18 o r>>=fun _=>pure .next)::Ge C
noncomputable def Gh:List (M Fl):=(aH (((ae 0)>>=gA P0 18)>>=fun a=>aJ a [.Eq] [pure (V.int 0)]) ((ah [pure (V.str 30)]>>=fun as=>cS P0 true 52 as)::[]) [])::Gg C
noncomputable def uv:M Fl:=aD (Gh C)
noncomputable abbrev uw (a0:V):List (Option V):=[some a0,none]
theorem Gi(n:Nat)(H:Hp)(a0:V):run P0 (n+1) (.af 159) [a0] H=aF (uv (run P0 n) ⟨uw a0,H++[]⟩):=by kernel_rfl
theorem Gj(k n:Nat)(H:Hp)(a0:V):Rn (k+1) n (.af 159) [a0] H=aF (uv (Rn k n) ⟨uw a0,H⟩):=(Gi (n+k) H a0).trans (by rw[List.append_nil];rfl)
noncomputable def Gk:M Fl:=az (aB P0 C (ae 0) "fill_log" [])
noncomputable def Gl:M Fl:=az (aB P0 C (ae 0) "write_head" [(ae 0)>>=gA P0 16])
noncomputable def Gm:M Fl:=az (aB P0 C (ae 0) "install" [(ae 0)>>=gA P0 16,pure (V.bool false)])
noncomputable def Gn:M Fl:=az (aB P0 C (ae 0) "write_head" [listS []])
noncomputable def Gp:M Fl:=az (aB P0 C ((ae 0)>>=gA P0 8) "unpin" [ae 1])
noncomputable def Gq:List (M Fl):=Gp C::[]
noncomputable def Gr:M Fl:=dF ((ae 0)>>=gA P0 16) (av 1) (Gq C)
noncomputable def Gu:List (M Fl):=Gr C::(ao (listS []) (fun v=>(ae 0)>>=fun o=>sA P0 16 o v))::(ao (alloc (.dict [])) (fun v=>(ae 0)>>=fun o=>sA P0 17 o v))::((ae 0)>>=fun o=>gA P0 19 o>>=fun a=>(pure (V.int 1))>>=fun b=>bF .Add a b>>=fun r=>sA P0 19 o r>>=fun _=>pure .next)::[]
noncomputable def Gv:List (M Fl):=Gn C::Gu C
noncomputable def Gw:List (M Fl):=Gm C::Gv C
noncomputable def Gx:List (M Fl):=Gl C::Gw C
noncomputable def Gy:List (M Fl):=Gk C::Gx C
noncomputable def ux:M Fl:=aD (Gy C)
noncomputable abbrev uy (a0:V):List (Option V):=[some a0,none]
theorem Gz(n:Nat)(H:Hp)(a0:V):run P0 (n+1) (.af 166) [a0] H=aF (ux (run P0 n) ⟨uy a0,H++[]⟩):=by kernel_rfl
theorem GA(k n:Nat)(H:Hp)(a0:V):Rn (k+1) n (.af 166) [a0] H=aF (ux (Rn k n) ⟨uy a0,H⟩):=(Gz (n+k) H a0).trans (by rw[List.append_nil];rfl)
noncomputable def GB:M Fl:=az (aB P0 C ((ae 0)>>=gA P0 8) "poke" [au .Add (au .Add ((ae 0)>>=gA P0 9) (pure (V.int 1))) (ae 1),aB P0 C ((ae 0)>>=gA P0 8) "peek" [ae 2]])
noncomputable def GC:List (M Fl):=GB C::[]
noncomputable def GD:M Fl:=fG ((ae 0)>>=gA P0 16) (dh [av 1,av 2]) (GC C)
noncomputable def GF:M Fl:=az (aB P0 C ((ae 0)>>=gA P0 8) "flush" [])
noncomputable def GG:List (M Fl):=GF C::[]
noncomputable def GH:List (M Fl):=GD C::GG C
noncomputable def uz:M Fl:=aD (GH C)
noncomputable abbrev uA (a0:V):List (Option V):=[some a0,none,none,none]
theorem GI(n:Nat)(H:Hp)(a0:V):run P0 (n+1) (.af 173) [a0] H=aF (uz (run P0 n) ⟨uA a0,H++[]⟩):=by kernel_rfl
theorem GJ(k n:Nat)(H:Hp)(a0:V):Rn (k+1) n (.af 173) [a0] H=aF (uz (Rn k n) ⟨uA a0,H⟩):=(GI (n+k) H a0).trans (by rw[List.append_nil];rfl)
noncomputable def GK:M Fl:=az (aB P0 C ((ae 0)>>=gA P0 8) "poke" [(ae 0)>>=gA P0 9,ak P0 C (V.af 102) [ae 1,((ae 0)>>=gA P0 8)>>=gA P0 10]])
noncomputable def GL:M Fl:=az (aB P0 C ((ae 0)>>=gA P0 8) "flush" [])
noncomputable def GN:List (M Fl):=GL C::[]
noncomputable def GO:List (M Fl):=GK C::GN C
noncomputable def uB:M Fl:=aD (GO C)
noncomputable abbrev uC (a0:V) (a1:V):List (Option V):=[some a0,some a1,none]
theorem GP(n:Nat)(H:Hp)(a0 a1:V):run P0 (n+1) (.af 180) [a0,a1] H=aF (uB (run P0 n) ⟨uC a0 a1,H++[]⟩):=by kernel_rfl
theorem GQ(k n:Nat)(H:Hp)(a0 a1:V):Rn (k+1) n (.af 180) [a0,a1] H=aF (uB (Rn k n) ⟨uC a0 a1,H⟩):=(GP (n+k) H a0 a1).trans (by rw[List.append_nil];rfl)
noncomputable def GR:M Fl:=ao (aB P0 C ((ae 0)>>=gA P0 8) "peek" [fj ((ae 2)>>=truth) (au .Add (au .Add ((ae 0)>>=gA P0 9) (pure (V.int 1))) (ae 3)) (ae 4)]) (av 5)
noncomputable def GS:M Fl:=az (aB P0 C ((ae 0)>>=gA P0 8) "poke" [ae 4,ae 5])
noncomputable def GU:List (M Fl):=GS C::[]
noncomputable def GV:List (M Fl):=GR C::GU C
noncomputable def GW:M Fl:=fG (ae 1) (dh [av 3,av 4]) (GV C)
noncomputable def GY:M Fl:=az (aB P0 C ((ae 0)>>=gA P0 8) "flush" [])
noncomputable def GZ:List (M Fl):=GY C::[]
noncomputable def G1:List (M Fl):=GW C::GZ C
noncomputable def uD:M Fl:=aD (G1 C)
noncomputable abbrev uE (a0:V) (a1:V) (a2:V):List (Option V):=[some a0,some a1,some a2,none,none,none,none]
theorem G2(n:Nat)(H:Hp)(a0 a1 a2:V):run P0 (n+1) (.af 187) [a0,a1,a2] H=aF (uD (run P0 n) ⟨uE a0 a1 a2,H++[]⟩):=by kernel_rfl
theorem G3(k n:Nat)(H:Hp)(a0 a1 a2:V):Rn (k+1) n (.af 187) [a0,a1,a2] H=aF (uD (Rn k n) ⟨uE a0 a1 a2,H⟩):=(G2 (n+k) H a0 a1 a2).trans (by rw[List.append_nil];rfl)
noncomputable def G4:M Fl:=ao (ak P0 C (V.ty "bytearray") [ae 2]) (fun v=>(ae 0)>>=fun o=>sA P0 39 o v)
noncomputable def G5:List (M Fl):=G4 C::(ao (pure (V.int 0)) (fun v=>(ae 0)>>=fun o=>sA P0 40 o v))::(ao (pure (V.int 0)) (fun v=>(ae 0)>>=fun o=>sA P0 41 o v))::[]
noncomputable def G6:List (M Fl):=(ao (ae 1) (fun v=>(ae 0)>>=fun o=>sA P0 24 o v))::G5 C
noncomputable def uF:M Fl:=aD (G6 C)
noncomputable abbrev uG (a0:V) (a1:V) (a2:V):List (Option V):=[some a0,some a1,some a2,none]
theorem G7(n:Nat)(H:Hp)(a0 a1 a2:V):run P0 (n+1) (.af 222) [a0,a1,a2] H=aF (uF (run P0 n) ⟨uG a0 a1 a2,H++[]⟩):=by kernel_rfl
theorem G8(k n:Nat)(H:Hp)(a0 a1 a2:V):Rn (k+1) n (.af 222) [a0,a1,a2] H=aF (uF (Rn k n) ⟨uG a0 a1 a2,H⟩):=(G7 (n+k) H a0 a1 a2).trans (by rw[List.append_nil];rfl)
noncomputable def uH (C:V->List V->Hp->CR):M Fl:=aD ((aE (j8 .And [dg ((ae 0)>>=gA P0 40) [.Eq] [pure (V.int 0)],dg ((ae 0)>>=gA P0 41) [.Eq] [pure (V.int 0)]]))::[])
noncomputable abbrev uI (a0:V):List (Option V):=[some a0]
theorem G9(n:Nat)(H:Hp)(a0:V):run P0 (n+1) (.af 229) [a0] H=aF (uH (run P0 n) ⟨uI a0,H++[]⟩):=by kernel_rfl
theorem Ha(k n:Nat)(H:Hp)(a0:V):Rn (k+1) n (.af 229) [a0] H=aF (uH (Rn k n) ⟨uI a0,H⟩):=(G9 (n+k) H a0).trans (by rw[List.append_nil];rfl)
noncomputable def Hb:M Fl:=aE (ak P0 C (V.ty "bytes") [(ae 0)>>=gA P0 39])
noncomputable def Hc:List (M Fl):=Hb C::[]
noncomputable def uJ:M Fl:=aD (Hc C)
noncomputable abbrev uK (a0:V):List (Option V):=[some a0,none]
theorem Hd(n:Nat)(H:Hp)(a0:V):run P0 (n+1) (.af 236) [a0] H=aF (uJ (run P0 n) ⟨uK a0,H++[]⟩):=by kernel_rfl
theorem He(k n:Nat)(H:Hp)(a0:V):Rn (k+1) n (.af 236) [a0] H=aF (uJ (Rn k n) ⟨uK a0,H⟩):=(Hd (n+k) H a0).trans (by rw[List.append_nil];rfl)
noncomputable def Hf:M Fl:=aH ((ak P0 C (V.bi "len") [ae 1])>>=fun a=>aJ a [.NotEq] [ak P0 C (V.bi "len") [(ae 0)>>=gA P0 39]]) ((ah [pure (V.str 44)]>>=fun as=>cS P0 true 52 as)::[]) []
noncomputable def Hg:List (M Fl):=Hf C::(ao (ae 1) (fun v=>((ae 0)>>=gA P0 39)>>=fun o=>hU o v))::[]
noncomputable def uL:M Fl:=aD (Hg C)
noncomputable abbrev uM (a0:V) (a1:V):List (Option V):=[some a0,some a1,none,none]
theorem Hh(n:Nat)(H:Hp)(a0 a1:V):run P0 (n+1) (.af 264) [a0,a1] H=aF (uL (run P0 n) ⟨uM a0 a1,H++[]⟩):=by kernel_rfl
theorem Hi(k n:Nat)(H:Hp)(a0 a1:V):Rn (k+1) n (.af 264) [a0,a1] H=aF (uL (Rn k n) ⟨uM a0 a1,H⟩):=(Hh (n+k) H a0 a1).trans (by rw[List.append_nil];rfl)
noncomputable def uN (C:V->List V->Hp->CR):M Fl:=aD ((aH ((ae 2)>>=fun a=>aJ a [.Lt] [pure (V.int 1)]) ((ah [pure (V.str 45)]>>=fun as=>cS P0 true 52 as)::[]) [])::(ao (ae 1) (fun v=>(ae 0)>>=fun o=>sA P0 6 o v))::(ao (ae 2) (fun v=>(ae 0)>>=fun o=>sA P0 12 o v))::(ao ((ae 1)>>=gA P0 10) (fun v=>(ae 0)>>=fun o=>sA P0 10 o v))::(ao (listS []) (fun v=>(ae 0)>>=fun o=>sA P0 46 o v))::(ao (alloc (.dict [])) (fun v=>(ae 0)>>=fun o=>sA P0 47 o v))::(ao (pure (V.int 0)) (fun v=>(ae 0)>>=fun o=>sA P0 48 o v))::(ao (pure (V.int 0)) (fun v=>(ae 0)>>=fun o=>sA P0 49 o v))::(ao (pure (V.int 0)) (fun v=>(ae 0)>>=fun o=>sA P0 2 o v))::[])
noncomputable abbrev uO (a0:V) (a1:V) (a2:V):List (Option V):=[some a0,some a1,some a2,none]
theorem Hj(n:Nat)(H:Hp)(a0 a1 a2:V):run P0 (n+1) (.af 320) [a0,a1,a2] H=aF (uN (run P0 n) ⟨uO a0 a1 a2,H++[]⟩):=by kernel_rfl
theorem Hk(k n:Nat)(H:Hp)(a0 a1 a2:V):Rn (k+1) n (.af 320) [a0,a1,a2] H=aF (uN (Rn k n) ⟨uO a0 a1 a2,H⟩):=(Hj (n+k) H a0 a1 a2).trans (by rw[List.append_nil];rfl)
noncomputable def Hl:M Fl:=aH (allM .Or [((ak P0 C (V.bi "isinstance") [ae 1,pure (V.ty "int")])>>=truth)>>=fun b=>pure (!b),((pure (V.int 0))>>=fun a=>aJ a [.LtE,.Lt] [ae 1,((ae 0)>>=gA P0 6)>>=gA P0 5])>>=fun b=>pure (!b)]) ((ah [pure (V.str 50)]>>=fun as=>cS P0 true 64 as)::[]) []
noncomputable def Hm:List (M Fl):=Hl C::[]
noncomputable def uP:M Fl:=aD (Hm C)
noncomputable abbrev uQ (a0:V) (a1:V):List (Option V):=[some a0,some a1,none,none,none]
theorem Hn(n:Nat)(H:Hp)(a0 a1:V):run P0 (n+1) (.af 327) [a0,a1] H=aF (uP (run P0 n) ⟨uQ a0 a1,H++[]⟩):=by kernel_rfl
theorem Ho(k n:Nat)(H:Hp)(a0 a1:V):Rn (k+1) n (.af 327) [a0,a1] H=aF (uP (Rn k n) ⟨uQ a0 a1,H⟩):=(Hn (n+k) H a0 a1).trans (by rw[List.append_nil];rfl)
noncomputable def Hq:M Fl:=aH (allM .Or [(aB P0 C ((ae 0)>>=gA P0 47) "get" [(ae 1)>>=gA P0 24])>>=fun a=>aJ a [.IsNot] [ae 1],((ae 1)>>=gA P0 40)>>=fun a=>aJ a [.Eq] [pure (V.int 0)]]) ((ah [pure (V.str 52)]>>=fun as=>cS P0 true 52 as)::[]) []
noncomputable def Hr:List (M Fl):=Hq C::[]
noncomputable def uR:M Fl:=aD (Hr C)
noncomputable abbrev uS (a0:V) (a1:V):List (Option V):=[some a0,some a1,none]
theorem Hs(n:Nat)(H:Hp)(a0 a1:V):run P0 (n+1) (.af 334) [a0,a1] H=aF (uR (run P0 n) ⟨uS a0 a1,H++[]⟩):=by kernel_rfl
theorem Ht(k n:Nat)(H:Hp)(a0 a1:V):Rn (k+1) n (.af 334) [a0,a1] H=aF (uR (Rn k n) ⟨uS a0 a1,H⟩):=(Hs (n+k) H a0 a1).trans (by rw[List.append_nil];rfl)
noncomputable def Hu:M Fl:=az (aB P0 C (ae 0) "need_block" [ae 1])
noncomputable def Hv:M Fl:=ao (aB P0 C ((ae 0)>>=gA P0 47) "get" [ae 1]) (av 2)
noncomputable def Hw:M Fl:=az (aB P0 C (ae 0) "make_room" [])
noncomputable def Hx:M Fl:=ao (ak P0 C (V.af 302) [ae 1,aB P0 C ((ae 0)>>=gA P0 6) "read" [ae 1]]) (av 2)
noncomputable def Hy:M Fl:=az (aB P0 C ((ae 0)>>=gA P0 46) "append" [ae 2])
noncomputable def Hz:List (M Fl):=Hy C::[]
noncomputable def HD:List (M Fl):=(ao (ae 2) (fun v=>((ae 0)>>=gA P0 47)>>=fun o=>(ae 1)>>=fun i=>bA o i v))::Hz C
noncomputable def HE:List (M Fl):=((ae 0)>>=fun o=>gA P0 49 o>>=fun a=>(pure (V.int 1))>>=fun b=>bF .Add a b>>=fun r=>sA P0 49 o r>>=fun _=>pure .next)::HD C
noncomputable def HF:List (M Fl):=Hx C::HE C
noncomputable def HG:List (M Fl):=Hw C::HF C
noncomputable def HH:M Fl:=aH ((ae 2)>>=fun a=>aJ a [.Is] [pure V.none]) (HG C) (((ae 0)>>=fun o=>gA P0 48 o>>=fun a=>(pure (V.int 1))>>=fun b=>bF .Add a b>>=fun r=>sA P0 48 o r>>=fun _=>pure .next)::[])
noncomputable def HI:List (M Fl):=HH C::((ae 2)>>=fun o=>gA P0 40 o>>=fun a=>(pure (V.int 1))>>=fun b=>bF .Add a b>>=fun r=>sA P0 40 o r>>=fun _=>pure .next)::aE (ae 2)::[]
noncomputable def HJ:List (M Fl):=Hv C::HI C
noncomputable def HK:List (M Fl):=Hu C::HJ C
noncomputable def uT:M Fl:=aD (HK C)
noncomputable abbrev uU (a0:V) (a1:V):List (Option V):=[some a0,some a1,none,none]
theorem HL(n:Nat)(H:Hp)(a0 a1:V):run P0 (n+1) (.af 341) [a0,a1] H=aF (uT (run P0 n) ⟨uU a0 a1,H++[]⟩):=by kernel_rfl
theorem HM(k n:Nat)(H:Hp)(a0 a1:V):Rn (k+1) n (.af 341) [a0,a1] H=aF (uT (Rn k n) ⟨uU a0 a1,H⟩):=(HL (n+k) H a0 a1).trans (by rw[List.append_nil];rfl)
noncomputable def HN:M Fl:=aH ((ak P0 C (V.bi "len") [(ae 0)>>=gA P0 46])>>=fun a=>aJ a [.Lt] [(ae 0)>>=gA P0 12]) (pure (.ret .none)::[]) []
noncomputable def HO:M Fl:=aH ((aB P0 C (ae 2) "is_free" [])>>=truth) ((((ae 0)>>=gA P0 47)>>=fun o=>((ae 2)>>=gA P0 24)>>=fun i=>hV o i>>=fun _=>pure .next)::(((ae 0)>>=gA P0 46)>>=fun o=>(ae 1)>>=fun i=>hV o i>>=fun _=>pure .next)::pure (.ret .none)::[]) []
noncomputable def HP:List (M Fl):=HO C::[]
noncomputable def HQ:M Fl:=fG ((ae 0)>>=gA P0 46) (dh [av 1,av 2]) (HP C)
noncomputable def HR:List (M Fl):=HQ C::(ah [pure (V.str 57)]>>=fun as=>cS P0 true 76 as)::[]
noncomputable def HS:List (M Fl):=HN C::HR C
noncomputable def uV:M Fl:=aD (HS C)
noncomputable abbrev uW (a0:V):List (Option V):=[some a0,none,none,none,none,none]
theorem HT(n:Nat)(H:Hp)(a0:V):run P0 (n+1) (.af 348) [a0] H=aF (uV (run P0 n) ⟨uW a0,H++[]⟩):=by kernel_rfl
theorem HU(k n:Nat)(H:Hp)(a0:V):Rn (k+1) n (.af 348) [a0] H=aF (uV (Rn k n) ⟨uW a0,H⟩):=(HT (n+k) H a0).trans (by rw[List.append_nil];rfl)
noncomputable def HV:M Fl:=az (aB P0 C (ae 0) "need_held" [ae 1])
noncomputable def HW:M Fl:=az (aB P0 C ((ae 0)>>=gA P0 46) "remove" [ae 1])
noncomputable def HY:M Fl:=az (aB P0 C ((ae 0)>>=gA P0 46) "append" [ae 1])
noncomputable def HZ:List (M Fl):=HY C::[]
noncomputable def H0:List (M Fl):=HW C::HZ C
noncomputable def H3:M Fl:=aH (((ae 1)>>=gA P0 40)>>=fun a=>aJ a [.Eq] [pure (V.int 0)]) (H0 C) []
noncomputable def H4:List (M Fl):=H3 C::[]
noncomputable def H5:List (M Fl):=((ae 1)>>=fun o=>gA P0 40 o>>=fun a=>(pure (V.int 1))>>=fun b=>bF .Sub a b>>=fun r=>sA P0 40 o r>>=fun _=>pure .next)::H4 C
noncomputable def H6:List (M Fl):=HV C::H5 C
noncomputable def uX:M Fl:=aD (H6 C)
noncomputable abbrev uY (a0:V) (a1:V):List (Option V):=[some a0,some a1]
theorem H7(n:Nat)(H:Hp)(a0 a1:V):run P0 (n+1) (.af 355) [a0,a1] H=aF (uX (run P0 n) ⟨uY a0 a1,H++[]⟩):=by kernel_rfl
theorem H8(k n:Nat)(H:Hp)(a0 a1:V):Rn (k+1) n (.af 355) [a0,a1] H=aF (uX (Rn k n) ⟨uY a0 a1,H⟩):=(H7 (n+k) H a0 a1).trans (by rw[List.append_nil];rfl)
noncomputable def H9:M Fl:=az (aB P0 C (ae 0) "need_held" [ae 1])
noncomputable def Ia:List (M Fl):=H9 C::((ae 1)>>=fun o=>gA P0 41 o>>=fun a=>(pure (V.int 1))>>=fun b=>bF .Add a b>>=fun r=>sA P0 41 o r>>=fun _=>pure .next)::[]
noncomputable def uZ:M Fl:=aD (Ia C)
noncomputable abbrev u0 (a0:V) (a1:V):List (Option V):=[some a0,some a1]
theorem Ib(n:Nat)(H:Hp)(a0 a1:V):run P0 (n+1) (.af 362) [a0,a1] H=aF (uZ (run P0 n) ⟨u0 a0 a1,H++[]⟩):=by kernel_rfl
theorem Ic(k n:Nat)(H:Hp)(a0 a1:V):Rn (k+1) n (.af 362) [a0,a1] H=aF (uZ (Rn k n) ⟨u0 a0 a1,H⟩):=(Ib (n+k) H a0 a1).trans (by rw[List.append_nil];rfl)
noncomputable def Ie:M Fl:=ao (aB P0 C ((ae 0)>>=gA P0 47) "get" [ae 1]) (av 2)
noncomputable def Ig:List (M Fl):=Ie C::(aH (allM .Or [(ae 2)>>=fun a=>aJ a [.Is] [pure V.none],((ae 2)>>=gA P0 41)>>=fun a=>aJ a [.Eq] [pure (V.int 0)]]) ((ah [pure (V.str 59)]>>=fun as=>cS P0 true 52 as)::[]) [])::((ae 2)>>=fun o=>gA P0 41 o>>=fun a=>(pure (V.int 1))>>=fun b=>bF .Sub a b>>=fun r=>sA P0 41 o r>>=fun _=>pure .next)::[]
noncomputable def u5:M Fl:=aD (Ig C)
noncomputable abbrev u6 (a0:V) (a1:V):List (Option V):=[some a0,some a1,none,none]
theorem Ih(n:Nat)(H:Hp)(a0 a1:V):run P0 (n+1) (.af 369) [a0,a1] H=aF (u5 (run P0 n) ⟨u6 a0 a1,H++[]⟩):=by kernel_rfl
theorem Ii(k n:Nat)(H:Hp)(a0 a1:V):Rn (k+1) n (.af 369) [a0,a1] H=aF (u5 (Rn k n) ⟨u6 a0 a1,H⟩):=(Ih (n+k) H a0 a1).trans (by rw[List.append_nil];rfl)
noncomputable def Ij:M Fl:=az (aB P0 C (ae 0) "need_held" [ae 1])
noncomputable def Ik:M Fl:=az (aB P0 C ((ae 0)>>=gA P0 6) "write" [(ae 1)>>=gA P0 24,aB P0 C (ae 1) "octets" []])
noncomputable def Il:List (M Fl):=Ik C::((ae 0)>>=fun o=>gA P0 2 o>>=fun a=>(pure (V.int 1))>>=fun b=>bF .Add a b>>=fun r=>sA P0 2 o r>>=fun _=>pure .next)::[]
noncomputable def Im:List (M Fl):=Ij C::Il C
noncomputable def u7:M Fl:=aD (Im C)
noncomputable abbrev u9 (a0:V) (a1:V):List (Option V):=[some a0,some a1]
theorem Io(n:Nat)(H:Hp)(a0 a1:V):run P0 (n+1) (.af 376) [a0,a1] H=aF (u7 (run P0 n) ⟨u9 a0 a1,H++[]⟩):=by kernel_rfl
theorem Ip(k n:Nat)(H:Hp)(a0 a1:V):Rn (k+1) n (.af 376) [a0,a1] H=aF (u7 (Rn k n) ⟨u9 a0 a1,H⟩):=(Io (n+k) H a0 a1).trans (by rw[List.append_nil];rfl)
noncomputable def Iq:M Fl:=az (aB P0 C ((ae 0)>>=gA P0 6) "flush" [])
noncomputable def Ir:List (M Fl):=Iq C::[]
noncomputable def vd:M Fl:=aD (Ir C)
noncomputable abbrev vg (a0:V):List (Option V):=[some a0]
theorem It(n:Nat)(H:Hp)(a0:V):run P0 (n+1) (.af 383) [a0] H=aF (vd (run P0 n) ⟨vg a0,H++[]⟩):=by kernel_rfl
theorem Iu(k n:Nat)(H:Hp)(a0:V):Rn (k+1) n (.af 383) [a0] H=aF (vd (Rn k n) ⟨vg a0,H⟩):=(It (n+k) H a0).trans (by rw[List.append_nil];rfl)
noncomputable def Iv:M Fl:=ao (aB P0 C (ae 0) "get" [ae 1]) (av 2)
noncomputable def Iw:M Fl:=ao (aB P0 C (ae 2) "octets" []) (av 3)
noncomputable def Iy:M Fl:=az (aB P0 C (ae 0) "release" [ae 2])
noncomputable def Iz:List (M Fl):=Iy C::aE (ae 3)::[]
noncomputable def IA:List (M Fl):=Iw C::Iz C
noncomputable def IB:List (M Fl):=Iv C::IA C
noncomputable def vh:M Fl:=aD (IB C)
noncomputable abbrev vj (a0:V) (a1:V):List (Option V):=[some a0,some a1,none,none]
theorem IC(n:Nat)(H:Hp)(a0 a1:V):run P0 (n+1) (.af 390) [a0,a1] H=aF (vh (run P0 n) ⟨vj a0 a1,H++[]⟩):=by kernel_rfl
theorem ID(k n:Nat)(H:Hp)(a0 a1:V):Rn (k+1) n (.af 390) [a0,a1] H=aF (vh (Rn k n) ⟨vj a0 a1,H⟩):=(IC (n+k) H a0 a1).trans (by rw[List.append_nil];rfl)
noncomputable def IE:M Fl:=ao (aB P0 C (ae 0) "get" [ae 1]) (av 3)
noncomputable def IF:M Fl:=az (aB P0 C (ae 3) "fill" [ae 2])
noncomputable def IG:M Fl:=az (aB P0 C (ae 0) "write" [ae 3])
noncomputable def II:M Fl:=az (aB P0 C (ae 0) "release" [ae 3])
noncomputable def IJ:List (M Fl):=II C::[]
noncomputable def IK:List (M Fl):=IG C::IJ C
noncomputable def IL:List (M Fl):=IF C::IK C
noncomputable def IM:List (M Fl):=IE C::IL C
noncomputable def vn:M Fl:=aD (IM C)
noncomputable abbrev vp (a0:V) (a1:V) (a2:V):List (Option V):=[some a0,some a1,some a2,none]
theorem IP(n:Nat)(H:Hp)(a0 a1 a2:V):run P0 (n+1) (.af 397) [a0,a1,a2] H=aF (vn (run P0 n) ⟨vp a0 a1 a2,H++[]⟩):=by kernel_rfl
theorem IQ(k n:Nat)(H:Hp)(a0 a1 a2:V):Rn (k+1) n (.af 397) [a0,a1,a2] H=aF (vn (Rn k n) ⟨vp a0 a1 a2,H⟩):=(IP (n+k) H a0 a1 a2).trans (by rw[List.append_nil];rfl)
noncomputable def vq (C:V->List V->Hp->CR):M Fl:=aD ((aE (dG P0 (dR [none,none]) ((ae 0)>>=gA P0 46) (av 1) [] ((ae 1)>>=gA P0 24)))::[])
noncomputable abbrev vt (a0:V):List (Option V):=[some a0]
theorem IS(n:Nat)(H:Hp)(a0:V):run P0 (n+1) (.af 402) [a0] H=aF (vq (run P0 n) ⟨vt a0,H++[]⟩):=by kernel_rfl
theorem IT(k n:Nat)(H:Hp)(a0:V):Rn (k+1) n (.af 402) [a0] H=aF (vq (Rn k n) ⟨vt a0,H⟩):=(IS (n+k) H a0).trans (by rw[List.append_nil];rfl)
noncomputable def IU:M Fl:=aE (au .Sub ((ae 0)>>=gA P0 12) (ak P0 C (V.bi "len") [dG P0 (dR [none,none]) ((ae 0)>>=gA P0 46) (av 1) [((aB P0 C (ae 1) "is_free" [])>>=truth)>>=fun b=>pure (!b)] (ae 1)]))
noncomputable def IV:List (M Fl):=IU C::[]
noncomputable def vz:M Fl:=aD (IV C)
noncomputable abbrev vA (a0:V):List (Option V):=[some a0,none]
theorem IW(n:Nat)(H:Hp)(a0:V):run P0 (n+1) (.af 407) [a0] H=aF (vz (run P0 n) ⟨vA a0,H++[]⟩):=by kernel_rfl
theorem IX(k n:Nat)(H:Hp)(a0:V):Rn (k+1) n (.af 407) [a0] H=aF (vz (Rn k n) ⟨vA a0,H⟩):=(IW (n+k) H a0).trans (by rw[List.append_nil];rfl)
noncomputable def vB (C:V->List V->Hp->CR):M Fl:=aD ((aH (allM .Or [(ae 1)>>=fun a=>aJ a [.Lt] [pure (V.int 1)],(ae 2)>>=fun a=>aJ a [.Lt] [pure (V.int 1)]]) ((ah [pure (V.str 64)]>>=fun as=>cS P0 true 52 as)::[]) [])::(ao (ae 1) (fun v=>(ae 0)>>=fun o=>sA P0 5 o v))::(ao (ae 2) (fun v=>(ae 0)>>=fun o=>sA P0 10 o v))::(ao (alloc (.dict [])) (fun v=>(ae 0)>>=fun o=>sA P0 65 o v))::(ao (alloc (.dict [])) (fun v=>(ae 0)>>=fun o=>sA P0 66 o v))::(ao (listS []) (fun v=>(ae 0)>>=fun o=>sA P0 67 o v))::(ao (pure (V.int 0)) (fun v=>(ae 0)>>=fun o=>sA P0 2 o v))::(ao (pure (V.int 0)) (fun v=>(ae 0)>>=fun o=>sA P0 68 o v))::(ao (pure V.none) (fun v=>(ae 0)>>=fun o=>sA P0 69 o v))::(ao (pure V.none) (fun v=>(ae 0)>>=fun o=>sA P0 70 o v))::(ao (pure (V.bool false)) (fun v=>(ae 0)>>=fun o=>sA P0 71 o v))::[])
noncomputable abbrev vC (a0:V) (a1:V) (a2:V):List (Option V):=[some a0,some a1,some a2,none]
theorem IY(n:Nat)(H:Hp)(a0 a1 a2:V):run P0 (n+1) (.af 435) [a0,a1,a2] H=aF (vB (run P0 n) ⟨vC a0 a1 a2,H++[]⟩):=by kernel_rfl
theorem IZ(k n:Nat)(H:Hp)(a0 a1 a2:V):Rn (k+1) n (.af 435) [a0,a1,a2] H=aF (vB (Rn k n) ⟨vC a0 a1 a2,H⟩):=(IY (n+k) H a0 a1 a2).trans (by rw[List.append_nil];rfl)
noncomputable def vD (C:V->List V->Hp->CR):M Fl:=aD ((aH (((ae 0)>>=gA P0 71)>>=truth) (no::[]) [])::[])
noncomputable abbrev vE (a0:V):List (Option V):=[some a0,none]
theorem I0(n:Nat)(H:Hp)(a0:V):run P0 (n+1) (.af 442) [a0] H=aF (vD (run P0 n) ⟨vE a0,H++[]⟩):=by kernel_rfl
theorem I3(k n:Nat)(H:Hp)(a0:V):Rn (k+1) n (.af 442) [a0] H=aF (vD (Rn k n) ⟨vE a0,H⟩):=(I0 (n+k) H a0).trans (by rw[List.append_nil];rfl)
noncomputable def I4:M Fl:=aH (allM .Or [((ak P0 C (V.bi "isinstance") [ae 1,pure (V.ty "int")])>>=truth)>>=fun b=>pure (!b),((pure (V.int 0))>>=fun a=>aJ a [.LtE,.Lt] [ae 1,(ae 0)>>=gA P0 5])>>=fun b=>pure (!b)]) ((ah [no]>>=fun as=>cS P0 true 64 as)::[]) []
noncomputable def I5:List (M Fl):=I4 C::[]
noncomputable def vF:M Fl:=aD (I5 C)
noncomputable abbrev vG (a0:V) (a1:V):List (Option V):=[some a0,some a1,none,none,none]
theorem I6(n:Nat)(H:Hp)(a0 a1:V):run P0 (n+1) (.af 449) [a0,a1] H=aF (vF (run P0 n) ⟨vG a0 a1,H++[]⟩):=by kernel_rfl
theorem I7(k n:Nat)(H:Hp)(a0 a1:V):Rn (k+1) n (.af 449) [a0,a1] H=aF (vF (Rn k n) ⟨vG a0 a1,H⟩):=(I6 (n+k) H a0 a1).trans (by rw[List.append_nil];rfl)
noncomputable def I8:M Fl:=az (aB P0 C (ae 0) "need_power" [])
noncomputable def I9:M Fl:=az (aB P0 C (ae 0) "need_block" [ae 1])
noncomputable def Ja:M Fl:=aE (aB P0 C ((ae 0)>>=gA P0 66) "get" [ae 1,ak P0 C (V.ty "bytes") [(ae 0)>>=gA P0 10]])
noncomputable def Jb:List (M Fl):=Ja C::[]
noncomputable def Jc:List (M Fl):=I9 C::Jb C
noncomputable def Jd:List (M Fl):=I8 C::Jc C
noncomputable def vH:M Fl:=aD (Jd C)
noncomputable abbrev vI (a0:V) (a1:V):List (Option V):=[some a0,some a1,none]
theorem Je(n:Nat)(H:Hp)(a0 a1:V):run P0 (n+1) (.af 456) [a0,a1] H=aF (vH (run P0 n) ⟨vI a0 a1,H++[]⟩):=by kernel_rfl
theorem Jf(k n:Nat)(H:Hp)(a0 a1:V):Rn (k+1) n (.af 456) [a0,a1] H=aF (vH (Rn k n) ⟨vI a0 a1,H⟩):=(Je (n+k) H a0 a1).trans (by rw[List.append_nil];rfl)
noncomputable def Jg:M Fl:=az (aB P0 C (ae 0) "need_power" [])
noncomputable def Jh:M Fl:=az (aB P0 C (ae 0) "need_block" [ae 1])
noncomputable def Ji:M Fl:=aH ((ak P0 C (V.bi "len") [ae 2])>>=fun a=>aJ a [.NotEq] [(ae 0)>>=gA P0 10]) ((ah [no]>>=fun as=>cS P0 true 64 as)::[]) []
noncomputable def Jj:M Fl:=az (aB P0 C (ae 0) "fail" [])
noncomputable def Jk:List (M Fl):=Jj C::[]
noncomputable def Jl:M Fl:=aH (allM .And [((ae 0)>>=gA P0 69)>>=fun a=>aJ a [.IsNot] [pure V.none],((ae 0)>>=gA P0 2)>>=fun a=>aJ a [.GtE] [(ae 0)>>=gA P0 69]]) (Jk C) []
noncomputable def Jm:M Fl:=ao (ak P0 C (V.ty "bytes") [ae 2]) (fun v=>((ae 0)>>=gA P0 66)>>=fun o=>(ae 1)>>=fun i=>bA o i v)
noncomputable def Jo:M Fl:=az (aB P0 C ((ae 0)>>=gA P0 67) "append" [tupS [ae 1,ak P0 C (V.ty "bytes") [ae 2]]])
noncomputable def Jp:List (M Fl):=Jo C::[]
noncomputable def Jq:List (M Fl):=Jm C::Jp C
noncomputable def Jr:List (M Fl):=((ae 0)>>=fun o=>gA P0 2 o>>=fun a=>(pure (V.int 1))>>=fun b=>bF .Add a b>>=fun r=>sA P0 2 o r>>=fun _=>pure .next)::Jq C
noncomputable def Js:List (M Fl):=Jl C::Jr C
noncomputable def Jt:List (M Fl):=Ji C::Js C
noncomputable def Ju:List (M Fl):=Jh C::Jt C
noncomputable def Jv:List (M Fl):=Jg C::Ju C
noncomputable def vJ:M Fl:=aD (Jv C)
noncomputable abbrev vK (a0:V) (a1:V) (a2:V):List (Option V):=[some a0,some a1,some a2,none,none,none]
theorem Jw(n:Nat)(H:Hp)(a0 a1 a2:V):run P0 (n+1) (.af 463) [a0,a1,a2] H=aF (vJ (run P0 n) ⟨vK a0 a1 a2,H++[]⟩):=by kernel_rfl
theorem Jx(k n:Nat)(H:Hp)(a0 a1 a2:V):Rn (k+1) n (.af 463) [a0,a1,a2] H=aF (vJ (Rn k n) ⟨vK a0 a1 a2,H⟩):=(Jw (n+k) H a0 a1 a2).trans (by rw[List.append_nil];rfl)
noncomputable def Jy:M Fl:=az (aB P0 C (ae 0) "need_power" [])
noncomputable def Jz:M Fl:=az (aB P0 C (ae 0) "fail" [])
noncomputable def JA:List (M Fl):=Jz C::[]
noncomputable def JB:M Fl:=aH (allM .And [((ae 0)>>=gA P0 70)>>=fun a=>aJ a [.IsNot] [pure V.none],((ae 0)>>=gA P0 68)>>=fun a=>aJ a [.GtE] [(ae 0)>>=gA P0 70]]) (JA C) []
noncomputable def JC:List (M Fl):=JB C::((ae 0)>>=fun o=>gA P0 68 o>>=fun a=>(pure (V.int 1))>>=fun b=>bF .Add a b>>=fun r=>sA P0 68 o r>>=fun _=>pure .next)::(dF ((ae 0)>>=gA P0 67) (dh [av 1,av 2]) ((ao (ae 2) (fun v=>((ae 0)>>=gA P0 65)>>=fun o=>(ae 1)>>=fun i=>bA o i v))::[]))::(ao (listS []) (fun v=>(ae 0)>>=fun o=>sA P0 67 o v))::[]
noncomputable def JD:List (M Fl):=Jy C::JC C
noncomputable def vL:M Fl:=aD (JD C)
noncomputable abbrev vM (a0:V):List (Option V):=[some a0,none,none]
theorem JE(n:Nat)(H:Hp)(a0:V):run P0 (n+1) (.af 477) [a0] H=aF (vL (run P0 n) ⟨vM a0,H++[]⟩):=by kernel_rfl
theorem JF(k n:Nat)(H:Hp)(a0:V):Rn (k+1) n (.af 477) [a0] H=aF (vL (Rn k n) ⟨vM a0,H⟩):=(JE (n+k) H a0).trans (by rw[List.append_nil];rfl)
noncomputable def JG:M Fl:=ao (au .Mod (au .Add (au .Add (au .Mult (ae 1) (pure (V.int 1021))) (au .Mult (pure (V.int 2)) (ak P0 C (V.bi "abs") [ae 2]))) (ak P0 C (V.ty "int") [dg (ae 2) [.Lt] [pure (V.int 0)]])) (au .Pow (pure (V.int 10)) (pure (V.int 90)))) (av 1)
noncomputable def JH:List (M Fl):=JG C::[]
noncomputable def JI:M Fl:=dF ((ae 0)>>=fun o=>pure none>>=fun l=>((pure (V.int 24))>>=fun v=>bh v>>=fun i=>pure (some i))>>=fun h=>iO o l h) (av 2) (JH C)
noncomputable def JJ:List (M Fl):=JI C::aE (listS [ae 1,pure (V.int 0)])::[]
noncomputable def JK:List (M Fl):=ao (pure (V.int 0)) (av 1)::JJ C
noncomputable def vN:M Fl:=aD (JK C)
noncomputable abbrev vO (a0:V):List (Option V):=[some a0,none,none,none,none]
theorem JL(n:Nat)(H:Hp)(a0:V):run P0 (n+1) (.af 526) [a0] H=aF (vN (run P0 n) ⟨vO a0,H++[]⟩):=by kernel_rfl
theorem JM(k n:Nat)(H:Hp)(a0:V):Rn (k+1) n (.af 526) [a0] H=aF (vN (Rn k n) ⟨vO a0,H⟩):=(JL (n+k) H a0).trans (by rw[List.append_nil];rfl)
noncomputable def vP (C:V->List V->Hp->CR):M Fl:=aD ((aH (((ae 0)>>=fun o=>(pure (V.int 0))>>=fun i=>aw o i)>>=fun a=>aJ a [.Gt] [pure (V.int 0)]) ((ao (au .Mod ((ae 0)>>=fun o=>(pure (V.int 0))>>=fun i=>aw o i) (ae 1)) (av 2))::(ao (au .FloorDiv ((ae 0)>>=fun o=>(pure (V.int 0))>>=fun i=>aw o i) (ae 1)) (fun v=>(ae 0)>>=fun o=>(pure (V.int 0))>>=fun i=>bA o i v))::aE (ae 2)::[]) [])::((ae 0)>>=fun o=>(pure (V.int 1))>>=fun i=>aw o i>>=fun a=>(pure (V.int 1))>>=fun b=>bF .Add a b>>=fun r=>bA o i r>>=fun _=>pure .next)::(aE (au .Mod (au .Mod (au .Add (au .Add (au .Mult (au .Mult (pure (V.int 7)) ((ae 0)>>=fun o=>(pure (V.int 1))>>=fun i=>aw o i)) ((ae 0)>>=fun o=>(pure (V.int 1))>>=fun i=>aw o i)) (au .Mult (pure (V.int 5)) ((ae 0)>>=fun o=>(pure (V.int 1))>>=fun i=>aw o i))) (pure (V.int 2))) (pure (V.int 1013))) (ae 1)))::[])
noncomputable abbrev vQ (a0:V) (a1:V):List (Option V):=[some a0,some a1,none]
theorem JN(n:Nat)(H:Hp)(a0 a1:V):run P0 (n+1) (.af 533) [a0,a1] H=aF (vP (run P0 n) ⟨vQ a0 a1,H++[]⟩):=by kernel_rfl
theorem JO(k n:Nat)(H:Hp)(a0 a1:V):Rn (k+1) n (.af 533) [a0,a1] H=aF (vP (Rn k n) ⟨vQ a0 a1,H⟩):=(JN (n+k) H a0 a1).trans (by rw[List.append_nil];rfl)
noncomputable def JP:M Fl:=attempt (aD [aE (tupS [pure (V.str 75),(ae 0)>>=fun f=>ak P0 C f []])]) (fun c=>iz P0 c 76 [aE (tupS [pure (V.str 76),pure V.none])] (iz P0 c 64 [aE (tupS [pure (V.str 6),pure V.none])] (iz P0 c 52 [aE (tupS [pure (V.str 77),pure V.none])] (no))))
noncomputable def JQ:List (M Fl):=JP C::[]
noncomputable def vR:M Fl:=aD (JQ C)
noncomputable abbrev vS (a0:V):List (Option V):=[some a0,none,none,none]
theorem JR(n:Nat)(H:Hp)(a0:V):run P0 (n+1) (.af 540) [a0] H=aF (vR (run P0 n) ⟨vS a0,H++[]⟩):=by kernel_rfl
theorem JS(k n:Nat)(H:Hp)(a0:V):Rn (k+1) n (.af 540) [a0] H=aF (vR (Rn k n) ⟨vS a0,H⟩):=(JR (n+k) H a0).trans (by rw[List.append_nil];rfl)
noncomputable def JT:M Fl:=ao (tupS [(listS [pure (V.int 16),pure (V.int 24)])>>=fun o=>(ak P0 C (V.af 533) [ae 0,pure (V.int 2)])>>=fun i=>aw o i,au .Add (pure (V.int 1)) (ak P0 C (V.af 533) [ae 0,pure (V.int 2)])]) (dh [dB 1,av 2])
noncomputable def JU:M Fl:=ao (tupS [au .Add (pure (V.int 2)) (ak P0 C (V.af 533) [ae 0,pure (V.int 5)]),au .Add (pure (V.int 5)) (ak P0 C (V.af 533) [ae 0,pure (V.int 5)])]) (dh [av 3,av 4])
noncomputable def JV:M Fl:=ao (ak P0 C (V.bi "min") [au .Sub (ae 3) (pure (V.int 1)),au .Sub (au .FloorDiv (aO 1) (pure (V.int 4))) (pure (V.int 1)),au .Sub (ae 4) (pure (V.int 4))]) (av 5)
noncomputable def JW:M Fl:=ao (au .Add (au .Add (au .Add (ae 2) (ae 3)) (pure (V.int 2))) (ak P0 C (V.af 533) [ae 0,pure (V.int 2)])) (av 6)
noncomputable def JX:M Fl:=ao (au .Add (pure (V.int 1)) (ak P0 C (V.af 533) [ae 0,ae 5])) (fun v=>(ae 7)>>=fun o=>(pure (V.str 14))>>=fun i=>bA o i v)
noncomputable def JY:M Fl:=ao (tupS [dG P0 (dR [none,none,none,some 1]) (ak P0 C (V.ty "range") [ae 6]) (av 1) [] (ak P0 C (V.ty "bytes") [aO 3]),listS [],alloc (.dict [])]) (dh [fun v=>(ae 7)>>=fun o=>(pure (V.str 6))>>=fun i=>bA o i v,fun v=>(ae 7)>>=fun o=>(pure (V.str 17))>>=fun i=>bA o i v,fun v=>(ae 7)>>=fun o=>(pure (V.str 80))>>=fun i=>bA o i v])
noncomputable def JZ:List (M Fl):=JY C::(ao (tupS [pure (V.int 0),pure (V.int 0),pure (V.int 0),pure (V.int 0)]) (dh [fun v=>(ae 7)>>=fun o=>(pure (V.str 18))>>=fun i=>bA o i v,fun v=>(ae 7)>>=fun o=>(pure (V.str 19))>>=fun i=>bA o i v,fun v=>(ae 7)>>=fun o=>(pure (V.str 2))>>=fun i=>bA o i v,fun v=>(ae 7)>>=fun o=>(pure (V.str 68))>>=fun i=>bA o i v]))::aE (ae 7)::[]
noncomputable def J0:List (M Fl):=JX C::JZ C
noncomputable def J1:List (M Fl):=ao (uc [(pure (V.str 10),aO 1),(pure (V.str 9),ae 2),(pure (V.str 78),ae 3),(pure (V.str 79),ae 4),(pure (V.str 12),ae 5),(pure (V.str 5),ae 6)]) (av 7)::J0 C
noncomputable def J2:List (M Fl):=JW C::J1 C
noncomputable def J3:List (M Fl):=JV C::J2 C
noncomputable def J4:List (M Fl):=JU C::J3 C
noncomputable def J5:List (M Fl):=JT C::J4 C
noncomputable def J6:M Fl:=aD (J5 C)
noncomputable abbrev J7 (a0:V) (c0:Nat):List (Option V):=[some a0,some (.ref c0),none,none,none,none,none,none,none,none,none]
theorem J8(k n:Nat)(H:Hp)(a0:V):Rn (k+1) n (.af 545) [a0] H=aF (J6 (Rn k n) ⟨J7 a0 H.length,H++[O.cell none]⟩):=by kernel_rfl
noncomputable def vT (C:V->List V->Hp->CR):M Fl:=aD ((aE (dg ((ae 0)>>=fun o=>(pure (V.str 9))>>=fun i=>aw o i) [.LtE,.Lt] [ae 1,au .Add ((ae 0)>>=fun o=>(pure (V.str 9))>>=fun i=>aw o i) ((ae 0)>>=fun o=>(pure (V.str 78))>>=fun i=>aw o i)]))::[])
noncomputable abbrev vU (a0:V) (a1:V):List (Option V):=[some a0,some a1]
theorem J9(n:Nat)(H:Hp)(a0 a1:V):run P0 (n+1) (.af 552) [a0,a1] H=aF (vT (run P0 n) ⟨vU a0 a1,H++[]⟩):=by kernel_rfl
theorem Ka(k n:Nat)(H:Hp)(a0 a1:V):Rn (k+1) n (.af 552) [a0,a1] H=aF (vT (Rn k n) ⟨vU a0 a1,H⟩):=(J9 (n+k) H a0 a1).trans (by rw[List.append_nil];rfl)
noncomputable def Kb:M Fl:=aH (allM .Or [((ae 0)>>=fun o=>(pure (V.str 18))>>=fun i=>aw o i)>>=fun a=>aJ a [.Eq] [pure (V.int 0)],(ak P0 C (V.af 552) [ae 0,ae 1])>>=truth]) (aE (pure (V.str 77))::[]) []
noncomputable def Kc:M Fl:=aH ((ak P0 C (V.bi "len") [(ae 0)>>=fun o=>(pure (V.str 17))>>=fun i=>aw o i])>>=fun a=>aJ a [.Eq] [(ae 0)>>=fun o=>(pure (V.str 12))>>=fun i=>aw o i]) (aE (pure (V.str 76))::[]) []
noncomputable def Kd:M Fl:=az (aB P0 C ((ae 0)>>=fun o=>(pure (V.str 17))>>=fun i=>aw o i) "append" [ae 1])
noncomputable def Ke:List (M Fl):=Kd C::[]
noncomputable def Kf:List (M Fl):=Kc C::Ke C
noncomputable def Kg:M Fl:=aH ((ae 1)>>=fun a=>aJ a [.NotIn] [(ae 0)>>=fun o=>(pure (V.str 17))>>=fun i=>aw o i]) (Kf C) []
noncomputable def Kh:List (M Fl):=Kg C::(ao (ae 2) (fun v=>((ae 0)>>=fun o=>(pure (V.str 80))>>=fun i=>aw o i)>>=fun o=>(ae 1)>>=fun i=>bA o i v))::aE (pure (V.str 75))::[]
noncomputable def Ki:List (M Fl):=Kb C::Kh C
noncomputable def vV:M Fl:=aD (Ki C)
noncomputable abbrev vW (a0:V) (a1:V) (a2:V):List (Option V):=[some a0,some a1,some a2,none,none]
theorem Kj(n:Nat)(H:Hp)(a0 a1 a2:V):run P0 (n+1) (.af 559) [a0,a1,a2] H=aF (vV (run P0 n) ⟨vW a0 a1 a2,H++[]⟩):=by kernel_rfl
theorem Kk(k n:Nat)(H:Hp)(a0 a1 a2:V):Rn (k+1) n (.af 559) [a0,a1,a2] H=aF (vV (Rn k n) ⟨vW a0 a1 a2,H⟩):=(Kj (n+k) H a0 a1 a2).trans (by rw[List.append_nil];rfl)
noncomputable def Kl:M Fl:=ao (aB P0 C (ae 0) "get" [ae 2]) (dB 6)
noncomputable def Km:M Fl:=ao (aB P0 C (aO 6) "octets" []) (av 4)
noncomputable def Kn:M Fl:=az (aB P0 C (aO 6) "fill" [ae 3])
noncomputable def Ko:M Fl:=ao ((ak P0 C (V.af 540) [du (dR [some 6,some 1]) (cM (tS 25) 0).1 (cM (tS 25) 0).2])>>=fun o=>(pure (V.int 0))>>=fun i=>aw o i) (av 5)
noncomputable def Kp:M Fl:=az (aB P0 C (aO 6) "fill" [ae 4])
noncomputable def Kq:List (M Fl):=Kp C::[]
noncomputable def Kr:M Fl:=aH ((ae 5)>>=fun a=>aJ a [.NotEq] [pure (V.str 75)]) (Kq C) []
noncomputable def Ks:M Fl:=az (aB P0 C (ae 0) "release" [aO 6])
noncomputable def Ku:List (M Fl):=Ks C::aE (ae 5)::[]
noncomputable def Kv:List (M Fl):=Kr C::Ku C
noncomputable def Kw:List (M Fl):=Ko C::Kv C
noncomputable def Kx:List (M Fl):=Kn C::Kw C
noncomputable def Ky:List (M Fl):=Km C::Kx C
noncomputable def Kz:List (M Fl):=Kl C::Ky C
noncomputable def KA:M Fl:=aD (Kz C)
noncomputable abbrev KC (a0:V) (a2:V) (a3:V) (c0:Nat) (c1:Nat):List (Option V):=[some a0,some (.ref c0),some a2,some a3,none,none,some (.ref c1),none]
theorem KD(k n:Nat)(H:Hp)(a0 a1 a2 a3:V):Rn (k+1) n (.af 566) [a0,a1,a2,a3] H=aF (KA (Rn k n) ⟨KC a0 a2 a3 H.length (H.length+1),H++[O.cell (some a1),O.cell none]⟩):=by kernel_rfl
noncomputable def KG:M V:=aB P0 C (aO 1) "write" [aO 0]
theorem KH(C:V->List V->Hp->CR):ev P0 C true bD (mark (cM (tS 25) 0).2) (cM (tS 25) 0).1=KG C:=by kernel_rfl
noncomputable def KI:M Fl:=(ae 0)>>=fun o=>(pure (V.str 2))>>=fun i=>aw o i>>=fun a=>(au .Add (au .Mult (pure (V.int 2)) (ak P0 C (V.bi "len") [(ae 0)>>=fun o=>(pure (V.str 17))>>=fun i=>aw o i])) (pure (V.int 2)))>>=fun b=>bF .Add a b>>=fun r=>bA o i r>>=fun _=>pure .next
noncomputable def KJ:List (M Fl):=KI C::((ae 0)>>=fun o=>(pure (V.str 68))>>=fun i=>aw o i>>=fun a=>(pure (V.int 4))>>=fun b=>bF .Add a b>>=fun r=>bA o i r>>=fun _=>pure .next)::((ae 0)>>=fun o=>(pure (V.str 19))>>=fun i=>aw o i>>=fun a=>(pure (V.int 1))>>=fun b=>bF .Add a b>>=fun r=>bA o i r>>=fun _=>pure .next)::(ao (tupS [listS [],alloc (.dict [])]) (dh [fun v=>(ae 0)>>=fun o=>(pure (V.str 17))>>=fun i=>bA o i v,fun v=>(ae 0)>>=fun o=>(pure (V.str 80))>>=fun i=>bA o i v]))::[]
noncomputable def KL:List (M Fl):=(fG ((ae 0)>>=fun o=>(pure (V.str 17))>>=fun i=>aw o i) (dh [av 1,av 2]) ((ao (((ae 0)>>=fun o=>(pure (V.str 80))>>=fun i=>aw o i)>>=fun o=>(ae 2)>>=fun i=>aw o i) (fun v=>((ae 0)>>=fun o=>(pure (V.str 6))>>=fun i=>aw o i)>>=fun o=>(au .Add (au .Add ((ae 0)>>=fun o=>(pure (V.str 9))>>=fun i=>aw o i) (pure (V.int 1))) (ae 1))>>=fun i=>bA o i v))::(ao (((ae 0)>>=fun o=>(pure (V.str 80))>>=fun i=>aw o i)>>=fun o=>(ae 2)>>=fun i=>aw o i) (fun v=>((ae 0)>>=fun o=>(pure (V.str 6))>>=fun i=>aw o i)>>=fun o=>(ae 2)>>=fun i=>bA o i v))::[]))::KJ C
noncomputable def KN:M Fl:=aH (allM .And [((ae 0)>>=fun o=>(pure (V.str 18))>>=fun i=>aw o i)>>=fun a=>aJ a [.Eq] [pure (V.int 0)],((ae 0)>>=fun o=>(pure (V.str 17))>>=fun i=>aw o i)>>=fun a=>aJ a [.NotEq] [listS []]]) (KL C) []
noncomputable def KO:List (M Fl):=KN C::aE (pure (V.str 75))::[]
noncomputable def KP:List (M Fl):=((ae 0)>>=fun o=>(pure (V.str 18))>>=fun i=>aw o i>>=fun a=>(pure (V.int 1))>>=fun b=>bF .Sub a b>>=fun r=>bA o i r>>=fun _=>pure .next)::KO C
noncomputable def KQ:List (M Fl):=(aH (((ae 0)>>=fun o=>(pure (V.str 18))>>=fun i=>aw o i)>>=fun a=>aJ a [.Eq] [pure (V.int 0)]) (aE (pure (V.str 77))::[]) [])::KP C
noncomputable def vX:M Fl:=aD (KQ C)
noncomputable abbrev vY (a0:V):List (Option V):=[some a0,none,none,none,none]
theorem KR(n:Nat)(H:Hp)(a0:V):run P0 (n+1) (.af 573) [a0] H=aF (vX (run P0 n) ⟨vY a0,H++[]⟩):=by kernel_rfl
theorem KS(k n:Nat)(H:Hp)(a0:V):Rn (k+1) n (.af 573) [a0] H=aF (vX (Rn k n) ⟨vY a0,H⟩):=(KR (n+k) H a0).trans (by rw[List.append_nil];rfl)
noncomputable def KU:M Fl:=aE (dg (au .Add (ak P0 C (V.bi "len") [(ae 0)>>=fun o=>(pure (V.str 17))>>=fun i=>aw o i]) (au .Mult (au .Add ((ae 0)>>=fun o=>(pure (V.str 18))>>=fun i=>aw o i) (pure (V.int 1))) ((ae 0)>>=fun o=>(pure (V.str 14))>>=fun i=>aw o i))) [.LtE] [(ae 0)>>=fun o=>(pure (V.str 12))>>=fun i=>aw o i])
noncomputable def KV:List (M Fl):=KU C::[]
noncomputable def vZ:M Fl:=aD (KV C)
noncomputable abbrev v5 (a0:V):List (Option V):=[some a0,none]
theorem KW(n:Nat)(H:Hp)(a0:V):run P0 (n+1) (.af 580) [a0] H=aF (vZ (run P0 n) ⟨v5 a0,H++[]⟩):=by kernel_rfl
theorem KY(k n:Nat)(H:Hp)(a0:V):Rn (k+1) n (.af 580) [a0] H=aF (vZ (Rn k n) ⟨v5 a0,H⟩):=(KW (n+k) H a0).trans (by rw[List.append_nil];rfl)
noncomputable def KZ:M Fl:=aH ((listS [(ae 3)>>=gA P0 18,(ae 3)>>=gA P0 19,aB P0 C (ae 3) "left" []])>>=fun a=>aJ a [.NotEq] [listS [(ae 4)>>=fun o=>(pure (V.str 18))>>=fun i=>aw o i,(ae 4)>>=fun o=>(pure (V.str 19))>>=fun i=>aw o i,au .Sub ((ae 4)>>=fun o=>(pure (V.str 12))>>=fun i=>aw o i) (ak P0 C (V.bi "len") [(ae 4)>>=fun o=>(pure (V.str 17))>>=fun i=>aw o i])]]) (aE (pure (V.bool false))::[]) []
noncomputable def K0:M Fl:=aH (allM .Or [(aB P0 C (ae 3) "has_room" [])>>=fun a=>aJ a [.NotEq] [ak P0 C (V.af 580) [ae 4]],((ae 3)>>=gA P0 16)>>=fun a=>aJ a [.NotEq] [(ae 4)>>=fun o=>(pure (V.str 17))>>=fun i=>aw o i]]) (aE (pure (V.bool false))::[]) []
noncomputable def K1:M Fl:=aH ((dG P0 (dR [none,none,some 1]) (ak P0 C (V.ty "range") [(ae 4)>>=fun o=>(pure (V.str 5))>>=fun i=>aw o i]) (av 1) [] (aB P0 C (aO 2) "read" [ae 1]))>>=fun a=>aJ a [.NotEq] [(ae 4)>>=fun o=>(pure (V.str 6))>>=fun i=>aw o i]) (aE (pure (V.bool false))::[]) []
noncomputable def K2:M Fl:=ao (aB P0 C (ae 2) "known" []) (dB 6)
noncomputable def K3:M Fl:=ao (ak P0 C (V.af 533) [ae 0,(ae 4)>>=fun o=>(pure (V.str 5))>>=fun i=>aw o i]) (av 5)
noncomputable def K4:M Fl:=aH ((aB P0 C (ae 2) "peek" [ae 5])>>=fun a=>aJ a [.NotEq] [aB P0 C ((ae 4)>>=fun o=>(pure (V.str 80))>>=fun i=>aw o i) "get" [ae 5,((ae 4)>>=fun o=>(pure (V.str 6))>>=fun i=>aw o i)>>=fun o=>(ae 5)>>=fun i=>aw o i]]) (aE (pure (V.bool false))::[]) []
noncomputable def K5:M Fl:=aE (dg (aB P0 C (ae 2) "free_count" []) [.Eq] [au .Sub ((ae 4)>>=fun o=>(pure (V.str 79))>>=fun i=>aw o i) (ak P0 C (V.bi "len") [(ae 4)>>=fun o=>(pure (V.str 17))>>=fun i=>aw o i])])
noncomputable def K6:List (M Fl):=K5 C::[]
noncomputable def K7:List (M Fl):=K4 C::K6 C
noncomputable def K8:List (M Fl):=K3 C::K7 C
noncomputable def K9:List (M Fl):=(aH ((dG P0 (dR [none,none,some 6]) ((ae 4)>>=fun o=>(pure (V.str 17))>>=fun i=>aw o i) (av 1) [(ae 1)>>=fun a=>aJ a [.NotIn] [aO 2]] (ae 1))>>=fun a=>aJ a [.NotEq] [listS []]) (aE (pure (V.bool false))::[]) [])::K8 C
noncomputable def La:List (M Fl):=K2 C::K9 C
noncomputable def Lb:List (M Fl):=(aH ((listS [(aO 1)>>=gA P0 2,(aO 1)>>=gA P0 68,(aO 1)>>=gA P0 67])>>=fun a=>aJ a [.NotEq] [listS [(ae 4)>>=fun o=>(pure (V.str 2))>>=fun i=>aw o i,(ae 4)>>=fun o=>(pure (V.str 68))>>=fun i=>aw o i,listS []]]) (aE (pure (V.bool false))::[]) [])::La C
noncomputable def Lc:List (M Fl):=K1 C::Lb C
noncomputable def Ld:List (M Fl):=K0 C::Lc C
noncomputable def Le:List (M Fl):=KZ C::Ld C
noncomputable def Lf:M Fl:=aD (Le C)
noncomputable abbrev Lg (a0:V) (a2:V) (a3:V) (a4:V) (c0:Nat) (c1:Nat):List (Option V):=[some a0,some (.ref c0),some a2,some a3,some a4,none,some (.ref c1),none,none,none,none]
theorem Lh(k n:Nat)(H:Hp)(a0 a1 a2 a3 a4:V):Rn (k+1) n (.af 585) [a0,a1,a2,a3,a4] H=aF (Lf (Rn k n) ⟨Lg a0 a2 a3 a4 H.length (H.length+1),H++[O.cell (some a1),O.cell none]⟩):=by kernel_rfl
noncomputable def Li:M Fl:=ao (ak P0 C (V.af 533) [ae 0,pure (V.int 6)]) (av 4)
noncomputable def Lj:M Fl:=ao (fj ((ak P0 C (V.af 580) [ae 3])>>=truth) (pure (V.str 75)) (pure (V.str 76))) (av 5)
noncomputable def Lk:M Fl:=aE (dg ((ak P0 C (V.af 540) [du (dR [some 2]) (cM (tS 29) 0).1 (cM (tS 29) 0).2])>>=fun o=>(pure (V.int 0))>>=fun i=>aw o i) [.Eq] [ae 5])
noncomputable def Ll:List (M Fl):=Lk C::[]
noncomputable def Lm:List (M Fl):=(aH ((ae 5)>>=fun a=>aJ a [.Eq] [pure (V.str 75)]) (((ae 3)>>=fun o=>(pure (V.str 18))>>=fun i=>aw o i>>=fun a=>(pure (V.int 1))>>=fun b=>bF .Add a b>>=fun r=>bA o i r>>=fun _=>pure .next)::[]) [])::Ll C
noncomputable def Ln:List (M Fl):=Lj C::Lm C
noncomputable def Lo:M Fl:=aH (allM .Or [(ae 4)>>=fun a=>aJ a [.Eq] [pure (V.int 0)],allM .And [(ae 4)>>=fun a=>aJ a [.Eq] [pure (V.int 1)],((ae 3)>>=fun o=>(pure (V.str 18))>>=fun i=>aw o i)>>=fun a=>aJ a [.Eq] [pure (V.int 0)]]]) (Ln C) []
noncomputable def Lp:M Fl:=ao (tupS [ak P0 C (V.af 533) [ae 0,(ae 3)>>=fun o=>(pure (V.str 5))>>=fun i=>aw o i],ak P0 C (V.ty "bytes") [au .Mult (listS [ak P0 C (V.af 533) [ae 0,pure (V.int 256)]]) ((ae 3)>>=fun o=>(pure (V.str 10))>>=fun i=>aw o i)]]) (dh [av 6,av 7])
noncomputable def Lq:M Fl:=ao (((ae 3)>>=fun o=>(pure (V.str 17))>>=fun i=>aw o i)>>=fun o=>(ak P0 C (V.af 533) [ae 0,ak P0 C (V.bi "len") [(ae 3)>>=fun o=>(pure (V.str 17))>>=fun i=>aw o i]])>>=fun i=>aw o i) (av 6)
noncomputable def Lr:List (M Fl):=Lq C::[]
noncomputable def Ls:M Fl:=ao ((listS [pure (V.int 0),au .Add ((ae 3)>>=fun o=>(pure (V.str 9))>>=fun i=>aw o i) ((ae 3)>>=fun o=>(pure (V.str 78))>>=fun i=>aw o i),au .Add (au .Add ((ae 3)>>=fun o=>(pure (V.str 9))>>=fun i=>aw o i) ((ae 3)>>=fun o=>(pure (V.str 78))>>=fun i=>aw o i)) (pure (V.int 1))])>>=fun o=>(ak P0 C (V.af 533) [ae 0,pure (V.int 3)])>>=fun i=>aw o i) (av 6)
noncomputable def Lu:List (M Fl):=Ls C::[]
noncomputable def Lv:M Fl:=aH ((ae 4)>>=fun a=>aJ a [.Gt] [pure (V.int 2)]) (Lu C) []
noncomputable def Lw:List (M Fl):=Lv C::[]
noncomputable def Lx:M Fl:=aH (allM .And [(ae 4)>>=fun a=>aJ a [.Eq] [pure (V.int 2)],((ae 3)>>=fun o=>(pure (V.str 17))>>=fun i=>aw o i)>>=fun a=>aJ a [.NotEq] [listS []]]) (Lr C) (Lw C)
noncomputable def Ly:M Fl:=aE (dg (ak P0 C (V.af 566) [ae 1,aO 2,ae 6,ae 7]) [.Eq] [ak P0 C (V.af 559) [ae 3,ae 6,ae 7]])
noncomputable def Lz:List (M Fl):=Ly C::[]
noncomputable def LA:List (M Fl):=Lx C::Lz C
noncomputable def LB:List (M Fl):=Lp C::LA C
noncomputable def LC:M Fl:=aH ((ae 4)>>=fun a=>aJ a [.Lt] [pure (V.int 5)]) (LB C) []
noncomputable def LD:M Fl:=ao (ak P0 C (V.af 573) [ae 3]) (av 5)
noncomputable def LF:M Fl:=aE (dg ((ak P0 C (V.af 540) [du (dR [some 2]) (cM (tS 29) 1).1 (cM (tS 29) 1).2])>>=fun o=>(pure (V.int 0))>>=fun i=>aw o i) [.Eq] [ae 5])
noncomputable def LG:List (M Fl):=LF C::[]
noncomputable def LH:List (M Fl):=LD C::LG C
noncomputable def LI:List (M Fl):=LC C::LH C
noncomputable def LJ:List (M Fl):=Lo C::LI C
noncomputable def LK:List (M Fl):=Li C::LJ C
noncomputable def LL:M Fl:=aD (LK C)
noncomputable abbrev LM (a0:V) (a1:V) (a3:V) (c0:Nat):List (Option V):=[some a0,some a1,some (.ref c0),some a3,none,none,none,none,none,none,none,none,none,none,none,none]
theorem LN(k n:Nat)(H:Hp)(a0 a1 a2 a3:V):Rn (k+1) n (.af 592) [a0,a1,a2,a3] H=aF (LL (Rn k n) ⟨LM a0 a1 a3 H.length,H++[O.cell (some a2)]⟩):=by kernel_rfl
noncomputable def LO:M V:=aB P0 C (aO 0) "begin" []
theorem v7(C:V->List V->Hp->CR):ev P0 C true bD (mark (cM (tS 29) 0).2) (cM (tS 29) 0).1=LO C:=by kernel_rfl
noncomputable def LP:M V:=aB P0 C (aO 0) "end" []
theorem o6(C:V->List V->Hp->CR):ev P0 C true bD (mark (cM (tS 29) 1).2) (cM (tS 29) 1).1=LP C:=by kernel_rfl
noncomputable def LQ:M Fl:=ao (tupS [ak P0 C (V.af 526) [ae 0],dg (ak P0 C (V.bi "len") [ae 0]) [.Gt] [pure (V.int 1)]]) (dh [av 1,av 2])
noncomputable def LR:M Fl:=ao (ak P0 C (V.af 545) [ae 1]) (av 3)
noncomputable def LS:M Fl:=ao (ak P0 C (V.af 515) [(ae 3)>>=fun o=>(pure (V.str 5))>>=fun i=>aw o i,(ae 3)>>=fun o=>(pure (V.str 10))>>=fun i=>aw o i]) (av 4)
noncomputable def LU:M Fl:=ao (ak P0 C (V.af 417) [ae 4,(ae 3)>>=fun o=>(pure (V.str 79))>>=fun i=>aw o i]) (av 5)
noncomputable def LV:M Fl:=ao (ak P0 C (V.af 204) [ae 5,(ae 3)>>=fun o=>(pure (V.str 9))>>=fun i=>aw o i,(ae 3)>>=fun o=>(pure (V.str 78))>>=fun i=>aw o i,(ae 3)>>=fun o=>(pure (V.str 14))>>=fun i=>aw o i]) (dB 7)
noncomputable def LW:M Fl:=aH (allM .Or [((ak P0 C (V.af 592) [ae 1,ae 5,aO 7,ae 3])>>=truth)>>=fun b=>pure (!b),((ak P0 C (V.af 585) [ae 1,ae 4,ae 5,aO 7,ae 3])>>=truth)>>=fun b=>pure (!b)]) (aE (pure (V.bool false))::[]) []
noncomputable def LX:List (M Fl):=LW C::[]
noncomputable def LY:M Fl:=dF (ak P0 C (V.ty "range") [fj ((ae 2)>>=truth) (au .Add (pure (V.int 10)) (ak P0 C (V.af 533) [ae 1,pure (V.int 15)])) (pure (V.int 7))]) (av 6) (LX C)
noncomputable def LZ:M Fl:=eE (((ae 3)>>=fun o=>(pure (V.str 18))>>=fun i=>aw o i)>>=fun a=>aJ a [.Gt] [pure (V.int 0)]) (aD [az (ak P0 C (V.af 573) [ae 3]),az (aB P0 C (aO 7) "end" [])]) 1000
noncomputable def L1:M Fl:=aE (j8 .And [ak P0 C (V.af 585) [ae 1,ae 4,ae 5,aO 7,ae 3],dg (ak P0 C (V.af 540) [du (dR [some 7]) (cM (tS 30) 0).1 (cM (tS 30) 0).2]) [.Eq] [tupS [pure (V.str 77),pure V.none]]])
noncomputable def L2:List (M Fl):=L1 C::[]
noncomputable def L4:List (M Fl):=LZ C::L2 C
noncomputable def L5:List (M Fl):=LY C::L4 C
noncomputable def L6:List (M Fl):=(aH (((aO 7)>>=gA P0 12)>>=fun a=>aJ a [.NotEq] [(ae 3)>>=fun o=>(pure (V.str 12))>>=fun i=>aw o i]) (aE (pure (V.bool false))::[]) [])::L5 C
noncomputable def L7:List (M Fl):=LV C::L6 C
noncomputable def L8:List (M Fl):=LU C::L7 C
noncomputable def L9:List (M Fl):=LS C::L8 C
noncomputable def L':List (M Fl):=LR C::L9 C
noncomputable def Ma:List (M Fl):=LQ C::L' C
noncomputable def Mb:M Fl:=aD (Ma C)
noncomputable abbrev Mc (a0:V) (c0:Nat):List (Option V):=[some a0,none,none,none,none,none,none,some (.ref c0),none,none,none,none,none,none,none,none,none,none,none,none]
theorem Md(k n:Nat)(H:Hp)(a0:V):Rn (k+1) n (.af 599) [a0] H=aF (Mb (Rn k n) ⟨Mc a0 H.length,H++[O.cell none]⟩):=by kernel_rfl
noncomputable def Me:M V:=aB P0 C (aO 0) "end" []
theorem Mf(C:V->List V->Hp->CR):ev P0 C true bD (mark (cM (tS 30) 0).2) (cM (tS 30) 0).1=Me C:=by kernel_rfl
end
noncomputable def Wq {α:Type} (r:R α) (Q:α->St->Prop) (X:Addr->Hp->Prop):Prop:=match r with
 | .ok a s=>Q a s
 | .exc c s=>X c s.H
 | .no=>False
noncomputable def Cq (r:CR) (Q:V->Hp->Prop) (X:Addr->Hp->Prop):Prop:=match r with
 | .ok v H=>Q v H
 | .exc c H=>X c H
 | .no=>False
noncomputable abbrev nx:Addr->Hp->Prop:=fun _ _=>False
section
variable {α β:Type} {Q:α->St->Prop} {X:Addr->Hp->Prop} {lo:List (Option V)} {H:Hp}
theorem Wq.mono{r:R α}{Q':α->St->Prop}{X':Addr->Hp->Prop}(h:Wq r Q X)(k:∀ a s,Q a s->Q' a s)(kx:∀ c H,X c H->X' c H):Wq r Q' X':=by
 cases r with
 |ok a s=>exact k _ _ h
 |exc c s=>exact kx _ _ h
 |no=>exact h
theorem Cq.mono{r:CR}{Q Q':V->Hp->Prop}{X X':Addr->Hp->Prop}(h:Cq r Q X)(k:∀ a s,Q a s->Q' a s)(kx:∀ c H,X c H->X' c H):Cq r Q' X':=by
 cases r with
 |ok a s=>exact k _ _ h
 |exc c s=>exact kx _ _ h
 |no=>exact h
theorem Wq.bind{m:M β}{k:β->M α}(h:Wq (m ⟨lo,H⟩) (fun a s=>Wq (k a s) Q X) X):Wq ((m>>=k) ⟨lo,H⟩) Q X:=by
 show Wq (M.bind m k ⟨lo,H⟩) Q X
 unfold M.bind
 cases e:m ⟨lo,H⟩ with
 |ok a s=>rw[e]at h;exact h
 |exc c s=>rw[e]at h;exact h
 |no=>rw[e]at h;exact h
theorem Wq.pure{a:α}(h:Q a ⟨lo,H⟩):Wq ((Pure.pure a:M α) ⟨lo,H⟩) Q X:=h
theorem Wq.guard{b:Bool}{Q:Unit->St->Prop}(hb:b=true)(h:Q () ⟨lo,H⟩):Wq (Lite.guard b ⟨lo,H⟩) Q X:=by rw[hb];exact h
theorem Wq.ar{o:Option α}{a:α}(e:o=some a)(h:Q a ⟨lo,H⟩):Wq (Lite.ar o ⟨lo,H⟩) Q X:=by rw[e];exact h
theorem Wq.alloc{Q:V->St->Prop}{o:O}(h:Q (.ref H.length) ⟨lo,H++[o]⟩):Wq (Lite.alloc o ⟨lo,H⟩) Q X:=h
theorem Wq.obj{Q:O->St->Prop}{a:Nat}{o:O}(e:H[a]? =some o)(h:Q o ⟨lo,H⟩):Wq (Lite.obj a ⟨lo,H⟩) Q X:=by unfold Lite.obj;rw[e];exact h
theorem Wq.b8{γ:Type}{F:O->Option γ}{Q:γ->St->Prop}{a:Nat}{o:O}{x:γ}(e:H[a]? =some o)(e2:F o=some x)(h:Q x ⟨lo,H⟩):Wq (Lite.b8 F a ⟨lo,H⟩) Q X:=by
 unfold Lite.b8
 rw[show(St.mk lo H).H[a]?.bind F=some x from(congrArg (Option.bind · F) e).trans e2];exact h
theorem Wq.bH{Q:List V->St->Prop}{a:Nat}{xs:List V}(e:H[a]? =some (.list xs))(h:Q xs ⟨lo,H⟩):Wq (Lite.bH a ⟨lo,H⟩) Q X:=Wq.b8 e rfl h
theorem Wq.ew{Q:List V->St->Prop}{a:Nat}{xs:List V}(e:H[a]? =some (.tuple xs))(h:Q xs ⟨lo,H⟩):Wq (Lite.ew a ⟨lo,H⟩) Q X:=Wq.b8 e rfl h
theorem Wq.dictAt{Q:List (Int×V)->St->Prop}{a:Nat}{xs:List (Int×V)}(e:H[a]? =some (.dict xs))(h:Q xs ⟨lo,H⟩):Wq (Lite.dictAt a ⟨lo,H⟩) Q X:=Wq.b8 e rfl h
theorem Wq.ey{Q:List UInt8->St->Prop}{a:Nat}{xs:List UInt8}(e:H[a]? =some (.bx xs))(h:Q xs ⟨lo,H⟩):Wq (Lite.ey a ⟨lo,H⟩) Q X:=Wq.b8 e rfl h
theorem Wq.dM{Q:Addr×List (Nat×V)->St->Prop}{a:Nat}{C:Addr}{fs:List (Nat×V)}(e:H[a]? =some (.inst C fs))(h:Q (C,fs) ⟨lo,H⟩):Wq (Lite.dM a ⟨lo,H⟩) Q X:=Wq.b8 e rfl h
theorem Wq.put{Q:Unit->St->Prop}{a:Nat}{o:O}(h:Q () ⟨lo,H.set a o⟩):Wq (Lite.put a o ⟨lo,H⟩) Q X:=h
theorem Wq.ae{Q:V->St->Prop}{i:Nat}{v:V}(e:lo[i]? =some (some v))(h:Q v ⟨lo,H⟩):Wq (Lite.ae i ⟨lo,H⟩) Q X:=by unfold Lite.ae;rw[e];exact h
theorem Wq.av{Q:Unit->St->Prop}{i:Nat}{v:V}(h:Q () ⟨lo.set i (some v),H⟩):Wq (Lite.av i v ⟨lo,H⟩) Q X:=h
theorem v8{i c:Nat}{w:Option V}(e:lo[i]? =some (some (.ref c)))(e2:H[c]? =some (.cell w)):fN i ⟨lo,H⟩=some (c,w):=by
 unfold fN
 rw[e]
 show(Option.bind H[c]? oCell).map _=_
 rw[e2];rfl
theorem Wq.aO{Q:V->St->Prop}{i c:Nat}{v:V}(e:lo[i]? =some (some (.ref c)))(e2:H[c]? =some (.cell (some v)))(h:Q v ⟨lo,H⟩):Wq (Lite.aO i ⟨lo,H⟩) Q X:=by
 unfold Lite.aO;rw[v8 e e2];exact h
theorem Wq.dB{Q:Unit->St->Prop}{i c:Nat}{v:V}{w:Option V}(e:lo[i]? =some (some (.ref c)))(e2:H[c]? =some (.cell w))(h:Q () ⟨lo,H.set c (.cell (some v))⟩):Wq (Lite.dB i v ⟨lo,H⟩) Q X:=by
 unfold Lite.dB;rw[v8 e e2];exact h
theorem Wq.call{C:V->List V->Hp->CR}{Q:V->St->Prop}{f:V}{args:List V}(h:Cq (C f args H) (fun v H=>Q v ⟨lo,H⟩) X):Wq (Lite.call C true f args ⟨lo,H⟩) Q X:=by
 show Wq (match C f args H with | .ok v H=>R.ok v ⟨lo,H⟩ | .exc c H=>.exc c ⟨lo,H⟩ | .no=>.no) Q X
 cases e:C f args H with
 |ok v H=>rw[e]at h;exact h
 |exc c H=>rw[e]at h;exact h
 |no=>rw[e]at h;exact h
end
section
variable {X:Addr->Hp->Prop} {lo:List (Option V)} {H:Hp} {C:V->List V->Hp->CR}
theorem Wq.dj{Q:Fl->St->Prop}(h:Q .next ⟨lo,H⟩):Wq (aD [] ⟨lo,H⟩) Q X:=h
noncomputable def dS (ss:List (M Fl)) (Q:Fl->St->Prop) (X:Addr->Hp->Prop):Fl->St->Prop
 | .next,s=>Wq (aD ss s) Q X
 | .ret v,s=>Q (.ret v) s
theorem Wq.seq{Q:Fl->St->Prop}{m:M Fl}{ms:List (M Fl)}(h:Wq (m ⟨lo,H⟩) (dS ms Q X) X):Wq (aD (m::ms) ⟨lo,H⟩) Q X:=
 Wq.bind (h.mono (fun a s q=>by cases a<;>exact q) fun _ _ q=>q)
noncomputable def eN (Q:V->Hp->Prop):Fl->St->Prop
 | .next,s=>Q .none s.H
 | .ret v,s=>Q v s.H
theorem Cq.fin{r:R Fl}{Q:V->Hp->Prop}(h:Wq r (eN Q) X):Cq (aF r) Q X:=by
 cases r with
 |ok a s=>cases a<;>exact h
 |exc c s=>exact h
 |no=>exact h
theorem Wq.ao{Q:Fl->St->Prop}{v:M V}{t:V->M Unit}(h:Wq (v ⟨lo,H⟩) (fun x s=>Wq (t x s) (fun _ s'=>Q .next s') X) X):Wq (Lite.ao v t ⟨lo,H⟩) Q X:=Wq.bind (h.mono (fun _ _ q=>Wq.bind q) fun _ _ q=>q)
theorem Wq.az{Q:Fl->St->Prop}{v:M V}(h:Wq (v ⟨lo,H⟩) (fun _ s=>Q .next s) X):Wq (Lite.az v ⟨lo,H⟩) Q X:=Wq.bind h
theorem Wq.aE{Q:Fl->St->Prop}{v:M V}(h:Wq (v ⟨lo,H⟩) (fun x s=>Q (.ret x) s) X):Wq (Lite.aE v ⟨lo,H⟩) Q X:=Wq.bind h
theorem Wq.aH{Q:Fl->St->Prop}{t:M Bool}{a b:List (M Fl)}(h:Wq (t ⟨lo,H⟩) (fun x s=>Wq ((match x with |true=>aD a |false=>aD b) s) Q X) X):Wq (Lite.aH t a b ⟨lo,H⟩) Q X:=by
 refine Wq.bind (h.mono (fun x s q=>?_) fun _ _ q=>q)
 cases x<;>exact q
theorem Wq.cN{Q:Fl->St->Prop}{t:M Bool}{a:List (M Fl)}(h:Wq (t ⟨lo,H⟩) (fun x s=>x=false∧Q .next s) X):Wq (Lite.aH t a [] ⟨lo,H⟩) Q X:=
 Wq.aH (h.mono (fun x s q=>by obtain⟨rfl,q⟩:=q;exact q) fun _ _ q=>q)
theorem Wq.o7{Q:Fl->St->Prop}{t:M Bool}{a b:List (M Fl)}(h:Wq (t ⟨lo,H⟩) (fun x s=>x=true∧Wq (aD a s) Q X) X):Wq (Lite.aH t a b ⟨lo,H⟩) Q X:=
 Wq.aH (h.mono (fun x s q=>by obtain⟨rfl,q⟩:=q;exact q) fun _ _ q=>q)
theorem Wq.fj{α:Type}{Q:α->St->Prop}{t:M Bool}{a b:M α}(h:Wq (t ⟨lo,H⟩) (fun x s=>Wq ((match x with |true=>a |false=>b) s) Q X) X):Wq (Lite.fj t a b ⟨lo,H⟩) Q X:=by
 refine Wq.bind (h.mono (fun x s q=>?_) fun _ _ q=>q)
 cases x<;>exact q
variable {Q:V->St->Prop}
theorem Wq.au{op:Operator}{l r:M V}(h:Wq (l ⟨lo,H⟩) (fun a s=>Wq (r s) (fun b s'=>Wq (binop op a b s') Q X) X) X):Wq (Lite.au op l r ⟨lo,H⟩) Q X:=Wq.bind (h.mono (fun _ _ q=>Wq.bind q) fun _ _ q=>q)
theorem Wq.aS{Q:Bool->St->Prop}{a:V}{op:CmpOp}{r:M V}(h:Wq (r ⟨lo,H⟩) (fun b s=>Wq (cB op a b s) Q X) X):Wq (aJ a [op] [r] ⟨lo,H⟩) Q X:=Wq.bind (h.mono (fun _ _ q=>Wq.bind q) fun _ _ q=>q)
theorem Wq.d8{l r:M V}{op:CmpOp}(h:Wq (l ⟨lo,H⟩) (fun a s=>Wq (r s) (fun b s'=>Wq (cB op a b s') (fun t s''=>Q (.bool t) s'') X) X) X):Wq (dg l [op] [r] ⟨lo,H⟩) Q X:=Wq.bind (h.mono (fun _ _ q=>Wq.bind (Wq.aS q)) fun _ _ q=>q)
theorem Wq.j9{Q:Bool->St->Prop}{a:V}{op op2:CmpOp}{r r2:M V}(h:Wq (r ⟨lo,H⟩) (fun b s=>Wq (cB op a b s) (fun x s''=>Wq ((match x with |true=>aJ b [op2] [r2] |false=>Pure.pure false) s'') Q X) X) X):Wq (aJ a [op,op2] [r,r2] ⟨lo,H⟩) Q X:=
 Wq.bind (h.mono (fun b s q=>Wq.bind (q.mono (fun x s'' q=>by cases x<;>exact q) fun _ _ q=>q)) fun _ _ q=>q)
theorem Wq.aj{Q:List V->St->Prop}(h:Q [] ⟨lo,H⟩):Wq (ah [] ⟨lo,H⟩) Q X:=h
theorem Wq.ah{Q:List V->St->Prop}{m:M V}{ms:List (M V)}(h:Wq (m ⟨lo,H⟩) (fun v s=>Wq (Lite.ah ms s) (fun vs s'=>Q (v::vs) s') X) X):Wq (Lite.ah (m::ms) ⟨lo,H⟩) Q X:=by
 exact Wq.bind (h.mono (fun _ _ q=>Wq.bind q) fun _ _ q=>q)
theorem Wq.ak{f:V}{args:List (M V)}(h:Wq (Lite.ah args ⟨lo,H⟩) (fun as s=>Wq (aR P0 C true f as s) Q X) X):Wq (Lite.ak P0 C f args ⟨lo,H⟩) Q X:=Wq.bind h
theorem Wq.aB{o:M V}{nm:Str}{args:List (M V)}(h:Wq (o ⟨lo,H⟩) (fun ov s=>Wq (getM P0 ov nm s) (fun fm s'=>Wq (Lite.ah args s') (fun as s''=>Wq (aR P0 C true fm.1 (fm.2++as) s'') Q X) X) X) X):Wq (Lite.aB P0 C o nm args ⟨lo,H⟩) Q X:=
 Wq.bind (h.mono (fun _ _ q=>Wq.bind (q.mono (fun _ _ q=>Wq.bind q) fun _ _ q=>q)) fun _ _ q=>q)
theorem Wq.gA{k:Nat}{a:Nat}{D:Addr}{fs:List (Nat×V)}{r:V}(e:H[a]? =some (.inst D fs))(e1:P0.cq.contains (D,k)=true)(e2:fs.lookup k=some r)(e3:ju r=true)(h:Q r ⟨lo,H⟩):Wq (Lite.gA P0 k (.ref a) ⟨lo,H⟩) Q X:=by
 unfold Lite.gA
 refine Wq.bind (Wq.pure (Wq.bind (Wq.dM e (Wq.bind (Wq.guard e1 (Wq.bind (Wq.ar e2 (Wq.bind (Wq.guard e3 ?_)))))))))
 exact h
theorem Wq.sA{Q:Unit->St->Prop}{k:Nat}{a:Nat}{D:Addr}{fs:List (Nat×V)}{r:V}(e:H[a]? =some (.inst D fs))(e1:P0.cq.contains (D,k)=true)(e2:Nat.ble fs.length 100=true)(h:Q () ⟨lo,H.set a (.inst D (dC fs k r))⟩):Wq (Lite.sA P0 k (.ref a) r ⟨lo,H⟩) Q X:=by
 unfold Lite.sA
 refine Wq.bind (Wq.pure (Wq.bind (Wq.dM e (Wq.bind (Wq.guard ?_ ?_)))))
 ·dsimp only;rw[e1];exact decide_eq_true (Nat.le_of_ble_eq_true e2)
 ·exact h
theorem Wq.Mg{Q:V×List V->St->Prop}{a:Nat}{D:Addr}{fs:List (Nat×V)}{nm:Str}{k:Nat}{f:Addr}(e:H[a]? =some (.inst D fs))(e1:eX P0 nm=some k)(e2:(fs.lookup k).isNone=true)(e3:P0.aI.lookup (D,k)=some f)(h:Q (.af f,[.ref a]) ⟨lo,H⟩):Wq (getM P0 (.ref a) nm ⟨lo,H⟩) Q X:=by
 show Wq ((Lite.obj a>>=jx P0 (.ref a) nm) ⟨lo,H⟩) Q X
 refine Wq.bind (Wq.obj e ?_)
 refine Wq.bind (Wq.ar e1 (Wq.bind (Wq.guard e2 (Wq.bind (Wq.ar e3 ?_)))))
 exact h
theorem Wq.cy{f:Addr}{args:List V}(e:P0.cls.lookup f=none)(h:Cq (C (.af f) args H) (fun v H=>Q v ⟨lo,H⟩) X):Wq (aR P0 C true (.af f) args ⟨lo,H⟩) Q X:=by
 show Wq (jy C true f args (P0.cls.lookup f) ⟨lo,H⟩) Q X
 rw[e]
 exact Wq.call h
theorem Wq.v9{D:Addr}{init:Addr}{args:List V}(e:P0.cls.lookup D=some init)(h:Cq (C (.af init) (V.ref H.length::args) (H++[.inst D []])) (fun v H'=>v=.none∧Q (.ref H.length) ⟨lo,H'⟩) X):Wq (aR P0 C true (.af D) args ⟨lo,H⟩) Q X:=by
 show Wq (jy C true D args (P0.cls.lookup D) ⟨lo,H⟩) Q X
 rw[e]
 refine Wq.bind (Wq.alloc (Wq.bind (Wq.bind (Wq.call (h.mono (fun v H q=>?_) fun _ _ q=>q)))))
 obtain⟨rfl,q⟩:=q
 exact q
theorem Wq.Mh{a:Nat}{args:List V}(h:Cq (C (.ref a) args H) (fun v H=>Q v ⟨lo,H⟩) X):Wq (aR P0 C true (.ref a) args ⟨lo,H⟩) Q X:=Wq.call h
end
noncomputable abbrev Cl:=Nat×O
structure Holds(H:Hp)(c:List Cl):Prop where
 on:∀ x∈c,H[x.1]? =some x.2
 nd:(c.map (·.1)).Nodup
section
variable {H:Hp} {c c' E X F l1 l2:List Cl} {a:Nat} {o o':O}
theorem Holds.get(h:Holds H c)(m:(a,o)∈c):H[a]? =some o:=h.on _ m
theorem Holds.hd(h:Holds H ((a,o)::c)):H[a]? =some o:=h.on _ (.head _)
theorem Holds.lt(h:Holds H c){x:Cl}(m:x∈c):x.1<H.length:=(List.getElem?_eq_some_iff.mp (h.on x m)).1
theorem Holds.perm(h:Holds H c)(p:c.Perm c'):Holds H c':=⟨fun x hx=>h.on x (p.mem_iff.mpr hx),(p.map _).nodup_iff.mp h.nd⟩
theorem Holds.sub(h:Holds H c)(s:c'.Sublist c):Holds H c':=⟨fun x hx=>h.on x (s.subset hx),(s.map _).nodup h.nd⟩
theorem Holds.app(h:Holds H c)(G:Hp):Holds (H++G) c:=⟨fun x hx=>by
 have:=h.on x hx
 rw[List.getElem?_append_left (List.getElem?_eq_some_iff.mp this).1];exact this,h.nd⟩
theorem Holds.new(h:Holds H c)(o:O):Holds (H++[o]) ((H.length,o)::c):=⟨fun x hx=>by
 cases hx with
 |head=>simp
 |tail _ hx=>exact(h.app [o]).on x hx,by
 rw[List.map_cons,List.nodup_cons]
 refine⟨fun m=>?_,h.nd⟩
 obtain⟨x,hx,e⟩:=List.mem_map.mp m
 have:=h.lt hx
 have e:x.1=H.length:=e
 lia⟩
theorem Holds.setAt(h:Holds H (l1++(a,o)::l2))(o':O):Holds (H.set a o') (l1++(a,o')::l2):=by
 have nd:=h.nd
 simp only[List.map_append,List.map_cons]at nd
 have n1:=List.nodup_append.mp nd
 have n2:=List.nodup_cons.mp n1.2.1
 have la:a<H.length:=h.lt (x:=(a,o)) (List.mem_append_right _ (.head _))
 refine⟨fun x hx=>?_,by simp only[List.map_append,List.map_cons];exact nd⟩
 rcases List.mem_append.mp hx with hx |hx
 ·have ne:a≠x.1:=fun e=>n1.2.2 x.1 (List.mem_map_of_mem hx) a (.head _) e.symm
  rw[List.getElem?_set_ne ne];exact h.on x (List.mem_append_left _ hx)
 ·cases hx with
  |head=>simp[la]
  |tail _ hx=>
   have ne:a≠x.1:=fun e=>n2.1 (List.mem_map.mpr ⟨x,hx,e.symm⟩)
   rw[List.getElem?_set_ne ne];exact h.on x (List.mem_append_right _ (.tail _ hx))
theorem Holds.cO(h:Holds H ((a,o)::c))(o':O):Holds (H.set a o') ((a,o')::c):=h.setAt (l1:=[]) o'
theorem Holds.dT{x:Cl}(h:Holds H (x::(a,o)::c))(o':O):Holds (H.set a o') (x::(a,o')::c):=h.setAt (l1:=[x]) o'
theorem Holds.iA{x y:Cl}(h:Holds H (x::y::(a,o)::c))(o':O):Holds (H.set a o') (x::y::(a,o')::c):=h.setAt (l1:=[x,y]) o'
theorem Holds.wa{x y z:Cl}(h:Holds H (x::y::z::(a,o)::c))(o':O):Holds (H.set a o') (x::y::z::(a,o')::c):=h.setAt (l1:=[x,y,z]) o'
theorem Holds.front(h:Holds H (E++(X++F))):Holds H (X++(E++F)):=h.perm (by
 rw[<-List.append_assoc,<-List.append_assoc]
 exact List.perm_append_comm.append_right F)
theorem Holds.back(h:Holds H (X++(E++F))):Holds H (E++(X++F)):=h.front
theorem Holds.aX{x:Cl}(h:Holds H (x::c)):Holds H c:=h.sub (List.sublist_cons_self _ _)
theorem Holds.mid{x:Cl}(h:Holds H (x::(l1++l2))):Holds H (l1++x::l2):=h.perm List.perm_middle.symm
end
/-! the disk -/
structure Dk where
 dk:Nat
 ka:Nat
 kb:Nat
 eO:Nat
 B:Int
 S:Int
 w:Int
 f:Int
 ke:List (Int×V)
 le:List (Int×V)
 un:List (Nat×Int×List UInt8)
noncomputable def wb (s:Dk):List (Nat×V):=[(5,.int s.B),(10,.int s.S),(65,.ref s.ka),(66,.ref s.kb),(67,.ref s.eO),(2,.int s.w),(68,.int s.f),(69,.none),(70,.none),(71,.bool false)]
noncomputable def gR (s:Dk):O:=.inst 515 (wb s)
noncomputable def kc (t:Nat×Int×List UInt8):Cl:=(t.1,.tuple [.int t.2.1,.bytes t.2.2])
noncomputable def aW (s:Dk):List Cl:=(s.dk,gR s)::(s.ka,.dict s.ke)::(s.kb,.dict s.le)::(s.eO,.list (s.un.map fun t=>V.ref t.1))::s.un.map kc
theorem Mi:([5,10,65,66,67,2,68,69,70,71].all fun k=>P0.cq.contains (515,k))=true:=by kernel_rfl
theorem Mj:([6,12,10,46,47,48,49,2].all fun k=>P0.cq.contains (417,k))=true:=by kernel_rfl
theorem Mk:([24,39,40,41].all fun k=>P0.cq.contains (302,k))=true:=by kernel_rfl
theorem Ml:([8,9,10,11,12,14,16,17,18,19].all fun k=>P0.cq.contains (204,k))=true:=by kernel_rfl
section
variable {X:Addr->Hp->Prop} {lo:List (Option V)} {H:Hp} {C:V->List V->Hp->CR}
noncomputable def gy (es:List (M Bool)) (Q:Bool->St->Prop) (X:Addr->Hp->Prop):Bool->St->Prop
 |true,s=>Q true s
 |false,s=>Wq (allM .Or es s) Q X
noncomputable def gz (es:List (M Bool)) (Q:Bool->St->Prop) (X:Addr->Hp->Prop):Bool->St->Prop
 |true,s=>Wq (allM .And es s) Q X
 |false,s=>Q false s
theorem Wq.or{Q:Bool->St->Prop}{e:M Bool}{es:List (M Bool)}(h:Wq (e ⟨lo,H⟩) (gy es Q X) X):Wq (allM .Or (e::es) ⟨lo,H⟩) Q X:=by
 refine Wq.bind (h.mono (fun t s q=>?_) fun _ _ q=>q)
 cases t<;>exact q
theorem Wq.and{Q:Bool->St->Prop}{e:M Bool}{es:List (M Bool)}(h:Wq (e ⟨lo,H⟩) (gz es Q X) X):Wq (allM .And (e::es) ⟨lo,H⟩) Q X:=by
 refine Wq.bind (h.mono (fun t s q=>?_) fun _ _ q=>q)
 cases t<;>exact q
theorem Wq.dz{Q:Bool->St->Prop}{b:Bool}(q:Q b ⟨lo,H⟩):Wq (Lite.dz (.bool b) ⟨lo,H⟩) Q X:=q
theorem Wq.truth{Q:Bool->St->Prop}{b:Bool}(q:Q b ⟨lo,H⟩):Wq (Lite.truth (.bool b) ⟨lo,H⟩) Q X:=q
section
variable {Q:Bool->St->Prop} {a b:Int} {r:Bool}
theorem Wq.gS(e:decide (a<=b)=r)(q:Q r ⟨lo,H⟩):Wq (cB .LtE (.int a) (.int b) ⟨lo,H⟩) Q X:=by subst e;exact q
theorem Wq.eP(e:decide (a<b)=r)(q:Q r ⟨lo,H⟩):Wq (cB .Lt (.int a) (.int b) ⟨lo,H⟩) Q X:=by subst e;exact q
theorem Wq.jc(e:decide (a>b)=r)(q:Q r ⟨lo,H⟩):Wq (cB .Gt (.int a) (.int b) ⟨lo,H⟩) Q X:=by subst e;exact q
theorem Wq.Mm(e:decide (a ≥ b)=r)(q:Q r ⟨lo,H⟩):Wq (cB .GtE (.int a) (.int b) ⟨lo,H⟩) Q X:=by subst e;exact q
theorem Wq.dH(e:decide (a=b)=r)(q:Q r ⟨lo,H⟩):Wq (cB .Eq (.int a) (.int b) ⟨lo,H⟩) Q X:=by
 have:(a==b)=r:=by rw[<-e];rfl
 show Q (a==b) ⟨lo,H⟩
 rw[this];exact q
theorem Wq.wc(e:decide (a=b)= !r)(q:Q r ⟨lo,H⟩):Wq (cB .NotEq (.int a) (.int b) ⟨lo,H⟩) Q X:=by
 have:(a==b)= !r:=by rw[<-e];rfl
 show Q (!(a==b)) ⟨lo,H⟩
 rw[this,Bool.not_not];exact q
end
theorem Wq.ld{Q:V->St->Prop}{i k a:Nat}{D:Addr}{fs:List (Nat×V)}{r:V}(e0:lo[i]? =some (some (.ref a)))(e:H[a]? =some (.inst D fs))(e1:P0.cq.contains (D,k)=true)(e2:fs.lookup k=some r)(e3:ju r=true)(h:Q r ⟨lo,H⟩):
  Wq ((Lite.ae i>>=Lite.gA P0 k) ⟨lo,H⟩) Q X:=Wq.bind (Wq.ae e0 (Wq.gA e e1 e2 e3 h))
theorem Wq.wd{Q:V->St->Prop}{x:Int}(q:Q (.bool true) ⟨lo,H⟩):Wq (aR P0 C true (.bi "isinstance") [.int x,.ty "int"] ⟨lo,H⟩) Q X:=by
 have e:aR P0 C true (.bi "isinstance") [.int x,.ty "int"] ⟨lo,H⟩=.ok (.bool true) ⟨lo,H⟩:=by kernel_rfl
 rw[e];exact q
theorem Wq.we{Q:V->St->Prop}{b:List UInt8}(q:Q (.bytes b) ⟨lo,H⟩):Wq (aR P0 C true (.ty "bytes") [.bytes b] ⟨lo,H⟩) Q X:=by
 have e:aR P0 C true (.ty "bytes") [.bytes b] ⟨lo,H⟩=.ok (.bytes b) ⟨lo,H⟩:=by kernel_rfl
 rw[e];exact q
theorem Wq.o8{Q:V->St->Prop}{k:Int}(h:0<=k∧k<=lim)(q:Q (.bytes (List.replicate k.toNat 0)) ⟨lo,H⟩):Wq (aR P0 C true (.ty "bytes") [.int k] ⟨lo,H⟩) Q X:=by
 have e:aR P0 C true (.ty "bytes") [.int k] ⟨lo,H⟩=(Lite.guard (decide (0<=k)&&decide (k<=lim))>>=fun _=>Pure.pure (V.bytes (List.replicate k.toNat 0))) ⟨lo,H⟩:=by kernel_rfl
 rw[e];exact Wq.bind (Wq.guard (by simp[h]) q)
theorem Wq.wg{Q:V->St->Prop}{b:List UInt8}(h:b.length<=lim)(q:Q (.int b.length) ⟨lo,H⟩):Wq (aR P0 C true (.bi "len") [.bytes b] ⟨lo,H⟩) Q X:=by
 have e2:aR P0 C true (.bi "len") [.bytes b] ⟨lo,H⟩=(Lite.guard (decide (b.length<=lim))>>=fun _=>Pure.pure (V.int b.length)) ⟨lo,H⟩:=by kernel_rfl
 rw[e2]
 exact Wq.bind (Wq.guard (decide_eq_true h) q)
theorem Wq.d9{Q:V->St->Prop}{a:Nat}{xs:List V}(e:H[a]? =some (.list xs))(h:xs.length<=lim)(q:Q (.int xs.length) ⟨lo,H⟩):Wq (aR P0 C true (.bi "len") [.ref a] ⟨lo,H⟩) Q X:=by
 have e2:aR P0 C true (.bi "len") [.ref a] ⟨lo,H⟩=(Lite.obj a>>=kR) ⟨lo,H⟩:=by kernel_rfl
 rw[e2]
 refine Wq.bind (Wq.obj e ?_)
 exact Wq.bind (Wq.guard (decide_eq_true h) q)
end
theorem bR{k:Nat}(h:k∈[5,10,65,66,67,2,68,69,70,71]):P0.cq.contains (515,k)=true:=List.all_eq_true.mp Mi k h
theorem bK{k:Nat}(h:k∈[6,12,10,46,47,48,49,2]):P0.cq.contains (417,k)=true:=List.all_eq_true.mp Mj k h
theorem cG{k:Nat}(h:k∈[24,39,40,41]):P0.cq.contains (302,k)=true:=List.all_eq_true.mp Mk k h
theorem aV{k:Nat}(h:k∈[8,9,10,11,12,14,16,17,18,19]):P0.cq.contains (204,k)=true:=List.all_eq_true.mp Ml k h
section
variable {s:Dk} {F:List Cl} {H:Hp} {n:Nat}
theorem cz(h:Holds H (aW s++F)):H[s.dk]? =some (gR s):=h.on _ (.head _)
theorem o9(h:Holds H (aW s++F)){Q:V->Hp->Prop}{X:Addr->Hp->Prop}(q:Q .none H):Cq (Rn 1 n (.af 442) [.ref s.dk] H) Q X:=by
 rw[I3]
 refine Cq.fin (Wq.seq (Wq.aH (Wq.bind (Wq.ld rfl (cz h) (bR (by decide)) rfl rfl ?_))))
 exact q
theorem wh(h:Holds H (aW s++F)){x:Int}(h1:0<=x)(h2:x<s.B){Q:V->Hp->Prop}{X:Addr->Hp->Prop}(q:Q .none H):Cq (Rn 1 n (.af 449) [.ref s.dk,.int x] H) Q X:=by
 rw[I7]
 refine Cq.fin (Wq.seq (Wq.aH (Wq.or (Wq.bind (Wq.bind (Wq.ak (Wq.ah (Wq.ae rfl (Wq.ah (Wq.pure (Wq.aj ?_)))))))))))
 refine Wq.wd (Wq.truth (Wq.pure ?_))
 refine Wq.or (Wq.bind (Wq.bind (Wq.pure (Wq.j9 (Wq.ae rfl (Wq.gS (decide_eq_true h1) ?_))))))
 refine Wq.aS (Wq.ld rfl (cz h) (bR (by decide)) rfl rfl (Wq.eP (decide_eq_true h2) ?_))
 exact q
end
structure bG(D:Addr)(nm:Str)(k:Nat)(f:Addr):Prop where
 s:eX P0 nm=some k
 m:P0.aI.lookup (D,k)=some f
theorem Pf:bG 204 "__init__" 0 117:=⟨by kernel_rfl,by kernel_rfl⟩
theorem Mn:bG 204 "is_own" 23 124:=⟨by kernel_rfl,by kernel_rfl⟩
theorem wi:bG 204 "has_room" 20 131:=⟨by kernel_rfl,by kernel_rfl⟩
theorem Mo:bG 204 "left" 81 138:=⟨by kernel_rfl,by kernel_rfl⟩
theorem wj:bG 204 "begin" 84 145:=⟨by kernel_rfl,by kernel_rfl⟩
theorem Mp:bG 204 "write" 60 152:=⟨by kernel_rfl,by kernel_rfl⟩
theorem jd:bG 204 "end" 85 159:=⟨by kernel_rfl,by kernel_rfl⟩
theorem Mq:bG 204 "commit" 31 166:=⟨by kernel_rfl,by kernel_rfl⟩
theorem Mr:bG 204 "fill_log" 32 173:=⟨by kernel_rfl,by kernel_rfl⟩
theorem wm:bG 204 "write_head" 33 180:=⟨by kernel_rfl,by kernel_rfl⟩
theorem Ms:bG 204 "install" 34 187:=⟨by kernel_rfl,by kernel_rfl⟩
theorem Pg:bG 302 "__init__" 0 222:=⟨by kernel_rfl,by kernel_rfl⟩
theorem wo:bG 302 "is_free" 56 229:=⟨by kernel_rfl,by kernel_rfl⟩
theorem pa:bG 302 "octets" 61 236:=⟨by kernel_rfl,by kernel_rfl⟩
theorem pb:bG 302 "fill" 63 264:=⟨by kernel_rfl,by kernel_rfl⟩
theorem Ph:bG 417 "__init__" 0 320:=⟨by kernel_rfl,by kernel_rfl⟩
theorem Mt:bG 417 "need_block" 53 327:=⟨by kernel_rfl,by kernel_rfl⟩
theorem l9:bG 417 "need_held" 26 334:=⟨by kernel_rfl,by kernel_rfl⟩
theorem pd:bG 417 "get" 51 341:=⟨by kernel_rfl,by kernel_rfl⟩
theorem Mu:bG 417 "make_room" 54 348:=⟨by kernel_rfl,by kernel_rfl⟩
theorem ma:bG 417 "release" 62 355:=⟨by kernel_rfl,by kernel_rfl⟩
theorem Mv:bG 417 "pin" 28 362:=⟨by kernel_rfl,by kernel_rfl⟩
theorem Mw:bG 417 "unpin" 35 369:=⟨by kernel_rfl,by kernel_rfl⟩
theorem Mx:bG 417 "write" 60 376:=⟨by kernel_rfl,by kernel_rfl⟩
theorem pe:bG 417 "flush" 38 383:=⟨by kernel_rfl,by kernel_rfl⟩
theorem pf:bG 417 "peek" 37 390:=⟨by kernel_rfl,by kernel_rfl⟩
theorem pg:bG 417 "poke" 36 397:=⟨by kernel_rfl,by kernel_rfl⟩
theorem My:bG 417 "known" 82 402:=⟨by kernel_rfl,by kernel_rfl⟩
theorem Mz:bG 417 "free_count" 83 407:=⟨by kernel_rfl,by kernel_rfl⟩
theorem Pj:bG 515 "__init__" 0 435:=⟨by kernel_rfl,by kernel_rfl⟩
theorem ph:bG 515 "need_power" 72 442:=⟨by kernel_rfl,by kernel_rfl⟩
theorem wq:bG 515 "need_block" 53 449:=⟨by kernel_rfl,by kernel_rfl⟩
theorem wt:bG 515 "read" 55 456:=⟨by kernel_rfl,by kernel_rfl⟩
theorem MA:bG 515 "write" 60 463:=⟨by kernel_rfl,by kernel_rfl⟩
theorem MB:bG 515 "flush" 38 477:=⟨by kernel_rfl,by kernel_rfl⟩
section
variable {X:Addr->Hp->Prop} {lo:List (Option V)} {H:Hp} {C:V->List V->Hp->CR}
theorem Wq.aI{Q:V->St->Prop}{a:Nat}{D:Addr}{fs:List (Nat×V)}{nm:Str}{k:Nat}{f:Addr}{o:M V}{args:List (M V)}(i:bG D nm k f)(ec:P0.cls.lookup f=none)(e2:(fs.lookup k).isNone=true)
  (h:Wq (o ⟨lo,H⟩) (fun ov s=>(bp (ov=.ref a) (s.H[a]? =some (.inst D fs)) (Wq (Lite.ah args s) (fun as s''=>Cq (C (.af f) (.ref a::as) s''.H) (fun v H=>Q v {s'' with H:=H}) X) X))) X):Wq (Lite.aB P0 C o nm args ⟨lo,H⟩) Q X:=by
 refine Wq.aB (h.mono (fun ov s q=>?_) fun _ _ q=>q)
 obtain⟨rfl,e,q⟩:=q
 exact Wq.Mg e i.s e2 i.m (q.mono (fun as s'' q=>Wq.cy ec q) fun _ _ q=>q)
theorem Wq.MC{Q:V×List V->St->Prop}{a:Nat}{o:O}{nm:Str}(e:H[a]? =some o)(h:Wq (jx P0 (.ref a) nm o ⟨lo,H⟩) Q X):Wq (getM P0 (.ref a) nm ⟨lo,H⟩) Q X:=Wq.bind (Wq.ar rfl (Wq.bind (Wq.obj e h)))
theorem Wq.mc{Q:V×List V->St->Prop}{a:Nat}{o:O}{nm:Str}{f:V}(e:H[a]? =some o)(e0:jx P0 (.ref a) nm o ⟨lo,H⟩=.ok (f,[.ref a]) ⟨lo,H⟩)(h:Q (f,[.ref a]) ⟨lo,H⟩):Wq (getM P0 (.ref a) nm ⟨lo,H⟩) Q X:=Wq.MC e (by rw[e0];exact h)
theorem Pk(x:Str):(x==x)=true:=beq_self_eq_true x
theorem Wq.dictGet{Q:V->St->Prop}{a:Nat}{es:List (Int×V)}{o:M V}{args:List (M V)}
  (h:Wq (o ⟨lo,H⟩) (fun ov s=>(bp (ov=.ref a) (s.H[a]? =some (.dict es)) (Wq (Lite.ah args s) (fun as s''=>s''.H[a]? =some (.dict es)∧((∃ k,as=[.int k]∧Q ((cR es k).getD .none) s'')∨bV fun k d=>as=[.int k,d]∧Q ((cR es k).getD d) s'')) X))) X):Wq (Lite.aB P0 C o "get" args ⟨lo,H⟩) Q X:=by
 refine Wq.aB (h.mono (fun ov s q=>?_) fun _ _ q=>q)
 obtain⟨rfl,e,q⟩:=q
 refine Wq.mc (f:=.bi "dict.get") e (by kernel_rfl) (q.mono (fun as s'' q=>?_) fun _ _ q=>q)
 obtain⟨e',q⟩:=q
 rcases q with ⟨k,rfl,q⟩ | ⟨k,d,rfl,q⟩
 ·have e2:aR P0 C true (.bi "dict.get") [.ref a,.int k] s''=(Lite.dictAt a>>=fun es=>Pure.pure ((cR es k).getD .none)) s'':=by kernel_rfl
  show Wq (aR P0 C true (.bi "dict.get") [.ref a,.int k] s'') Q X
  rw[e2]
  exact Wq.bind (Wq.dictAt e' q)
 ·have e2:aR P0 C true (.bi "dict.get") [.ref a,.int k,d] s''=(Lite.dictAt a>>=fun es=>Pure.pure ((cR es k).getD d)) s'':=by kernel_rfl
  show Wq (aR P0 C true (.bi "dict.get") [.ref a,.int k,d] s'') Q X
  rw[e2]
  exact Wq.bind (Wq.dictAt e' q)
theorem Wq.append{Q:V->St->Prop}{a:Nat}{xs ys:List V}{o v:M V}
  (h:Wq (o ⟨lo,H⟩) (fun ov s=>(bp (ov=.ref a) (s.H[a]? =some (.list xs)) (Wq (v s) (fun x s''=>(bp (s''.H[a]? =some (.list ys)) (ys.length<lim) (Q .none {s'' with H:=s''.H.set a (.list (ys++[x]))}))) X))) X):Wq (Lite.aB P0 C o "append" [v] ⟨lo,H⟩) Q X:=by
 refine Wq.aB (h.mono (fun ov s q=>?_) fun _ _ q=>q)
 obtain⟨rfl,e,q⟩:=q
 refine Wq.mc (f:=.bi "list.append") e (by kernel_rfl) (Wq.ah (q.mono (fun x s'' q=>Wq.aj ?_) fun _ _ q=>q))
 obtain⟨e',hl,q⟩:=q
 have e2:aR P0 C true (.bi "list.append") [.ref a,x] s''=(Lite.bH a>>=fun xs=>Lite.guard (decide (xs.length<lim))>>=fun _=>Lite.put a (.list (xs++[x]))>>=fun _=>Pure.pure V.none) s'':=by kernel_rfl
 show Wq (aR P0 C true (.bi "list.append") [.ref a,x] s'') Q X
 rw[e2]
 exact Wq.bind (Wq.bH e' (Wq.bind (Wq.guard (decide_eq_true hl) (Wq.bind (Wq.put q)))))
theorem Wq.MD{Q:Unit->St->Prop}{a:Nat}{es:List (Int×V)}{k:Int}{v:V}(e:H[a]? =some (.dict es))(hl:es.length<=lim)(q:Q () ⟨lo,H.set a (.dict (dput es k v))⟩):Wq (bA (.ref a) (.int k) v ⟨lo,H⟩) Q X:=by
 exact Wq.bind (Wq.ar rfl (Wq.bind (Wq.obj e (Wq.bind (Wq.guard (decide_eq_true hl) (Wq.bind (Wq.ar rfl q)))))))
end
noncomputable def zeros (k:Int):List UInt8:=List.replicate k.toNat 0
noncomputable def pj (s:Dk) (x:Int):V:=(cR s.le x).getD (.bytes (zeros s.S))
section
variable {s:Dk} {F:List Cl} {H:Hp} {n:Nat} {Q:V->Hp->Prop} {X:Addr->Hp->Prop}
theorem pn(h:Holds H (aW s++F)):H[s.kb]? =some (.dict s.le):=h.on _ (.tail _ (.tail _ (.head _)))
theorem pq(h:Holds H (aW s++F)):H[s.eO]? =some (.list (s.un.map fun t=>V.ref t.1)):=h.on _ (.tail _ (.tail _ (.tail _ (.head _))))
theorem wu(h:Holds H (aW s++F)){x:Int}(h1:0<=x)(h2:x<s.B)(hS:0<=s.S∧s.S<=lim)(q:Q (pj s x) H):Cq (Rn 2 n (.af 456) [.ref s.dk,.int x] H) Q X:=by
 simp only[Jf]
 refine Cq.fin (Wq.seq (Wq.az (Wq.aI ph rfl (fs:=_) rfl (Wq.ae rfl ⟨rfl,cz h,Wq.aj (o9 h ?_)⟩))))
 refine Wq.seq (Wq.az (Wq.aI wq rfl rfl (Wq.ae rfl ⟨rfl,cz h,Wq.ah (Wq.ae rfl (Wq.aj (wh h h1 h2 ?_)))⟩)))
 refine Wq.seq (Wq.aE (Wq.dictGet (Wq.ld rfl (cz h) (bR (by decide)) rfl rfl ⟨rfl,pn h,Wq.ah (Wq.ae rfl (Wq.ah (Wq.ak (Wq.ah (Wq.ld rfl (cz h) (bR (by decide)) rfl rfl (Wq.aj (Wq.o8 hS (Wq.aj ⟨pn h,.inr ⟨x,_,rfl,?_⟩⟩))))))))⟩)))
 exact q
end
section
variable {X:Addr->Hp->Prop} {lo:List (Option V)} {H:Hp} {C:V->List V->Hp->CR}
theorem Wq.ME{Q:Fl->St->Prop}{i k a:Nat}{D:Addr}{fs:List (Nat×V)}{x y:Int}(e0:lo[i]? =some (some (.ref a)))(e:H[a]? =some (.inst D fs))(e1:P0.cq.contains (D,k)=true)(e2:fs.lookup k=some (.int x))(e3:Nat.ble fs.length 100=true)
  (h:Q .next ⟨lo,H.set a (.inst D (dC fs k (.int (x+y))))⟩):
  Wq (((Lite.ae i)>>=fun o=>Lite.gA P0 k o>>=fun a=>(Pure.pure (V.int y))>>=fun b=>bF .Add a b>>=fun r=>Lite.sA P0 k o r>>=fun _=>Pure.pure .next:M Fl) ⟨lo,H⟩) Q X:=
 Wq.bind (Wq.ae e0 (Wq.bind (Wq.gA e e1 e2 rfl (Wq.bind (Wq.pure (Wq.bind (Wq.pure (Wq.bind (Wq.sA e e1 e3 h)))))))))
theorem Wq.MF{Q:Fl->St->Prop}{i k a:Nat}{D:Addr}{fs:List (Nat×V)}{x y:Int}(e0:lo[i]? =some (some (.ref a)))(e:H[a]? =some (.inst D fs))(e1:P0.cq.contains (D,k)=true)(e2:fs.lookup k=some (.int x))(e3:Nat.ble fs.length 100=true)
  (h:Q .next ⟨lo,H.set a (.inst D (dC fs k (.int (x-y))))⟩):
  Wq (((Lite.ae i)>>=fun o=>Lite.gA P0 k o>>=fun a=>(Pure.pure (V.int y))>>=fun b=>bF .Sub a b>>=fun r=>Lite.sA P0 k o r>>=fun _=>Pure.pure .next:M Fl) ⟨lo,H⟩) Q X:=
 Wq.bind (Wq.ae e0 (Wq.bind (Wq.gA e e1 e2 rfl (Wq.bind (Wq.pure (Wq.bind (Wq.pure (Wq.bind (Wq.sA e e1 e3 h)))))))))
theorem Wq.wx{Q:Bool->St->Prop}(q:Q false ⟨lo,H⟩):Wq (cB .IsNot .none .none ⟨lo,H⟩) Q X:=q
theorem fo{n:Nat}(h:Nat.ble n 1000=true):n<=lim:=Nat.le_trans (Nat.le_of_ble_eq_true h) (by delta lim;decide)
theorem Wq.tup{Q:V->St->Prop}{es:List (M V)}(h:Wq (Lite.ah es ⟨lo,H⟩) (fun vs s=>Nat.ble vs.length 1000=true∧Q (.ref s.H.length) ⟨s.lo,s.H++[.tuple vs]⟩) X):Wq (tupS es ⟨lo,H⟩) Q X:=
 Wq.bind (h.mono (fun _ _ q=>Wq.bind (Wq.guard (decide_eq_true (fo q.1)) (Wq.alloc q.2))) fun _ _ q=>q)
theorem Wq.lst{Q:V->St->Prop}{es:List (M V)}(h:Wq (Lite.ah es ⟨lo,H⟩) (fun vs s=>Nat.ble vs.length 1000=true∧Q (.ref s.H.length) ⟨s.lo,s.H++[.list vs]⟩) X):Wq (listS es ⟨lo,H⟩) Q X:=
 Wq.bind (h.mono (fun _ _ q=>Wq.bind (Wq.guard (decide_eq_true (fo q.1)) (Wq.alloc q.2))) fun _ _ q=>q)
/-! stores,the heap behind them no more than what it holds -/
theorem Wq.gB{Q:Fl->St->Prop}{i k a:Nat}{D:Addr}{fs:List (Nat×V)}{x y:Int}{c':List Cl}(e0:lo[i]? =some (some (.ref a)))(e:H[a]? =some (.inst D fs))(e1:P0.cq.contains (D,k)=true)(e2:fs.lookup k=some (.int x))(e3:Nat.ble fs.length 100=true)
  (hc:Holds (H.set a (.inst D (dC fs k (.int (x+y))))) c') (h:∀ H',Holds H' c'->Q .next ⟨lo,H'⟩):
  Wq (((Lite.ae i)>>=fun o=>Lite.gA P0 k o>>=fun a=>(Pure.pure (V.int y))>>=fun b=>bF .Add a b>>=fun r=>Lite.sA P0 k o r>>=fun _=>Pure.pure .next:M Fl) ⟨lo,H⟩) Q X:=Wq.ME e0 e e1 e2 e3 (h _ hc)
theorem Wq.pv{Q:Fl->St->Prop}{i k a:Nat}{D:Addr}{fs:List (Nat×V)}{x y:Int}{c':List Cl}(e0:lo[i]? =some (some (.ref a)))(e:H[a]? =some (.inst D fs))(e1:P0.cq.contains (D,k)=true)(e2:fs.lookup k=some (.int x))(e3:Nat.ble fs.length 100=true)
  (hc:Holds (H.set a (.inst D (dC fs k (.int (x-y))))) c') (h:∀ H',Holds H' c'->Q .next ⟨lo,H'⟩):
  Wq (((Lite.ae i)>>=fun o=>Lite.gA P0 k o>>=fun a=>(Pure.pure (V.int y))>>=fun b=>bF .Sub a b>>=fun r=>Lite.sA P0 k o r>>=fun _=>Pure.pure .next:M Fl) ⟨lo,H⟩) Q X:=Wq.MF e0 e e1 e2 e3 (h _ hc)
theorem Wq.md{Q:Unit->St->Prop}{k a:Nat}{D:Addr}{fs:List (Nat×V)}{r:V}{c':List Cl}(e:H[a]? =some (.inst D fs))(e1:P0.cq.contains (D,k)=true)(e3:Nat.ble fs.length 100=true)(hc:Holds (H.set a (.inst D (dC fs k r))) c')(h:∀ H',Holds H' c'->Q () ⟨lo,H'⟩):
  Wq (Lite.sA P0 k (.ref a) r ⟨lo,H⟩) Q X:=Wq.sA e e1 e3 (h _ hc)
theorem Wq.kf{Q:Unit->St->Prop}{a:Nat}{es:List (Int×V)}{k:Int}{v:V}{c':List Cl}(e:H[a]? =some (.dict es))(hl:es.length<=lim)(hc:Holds (H.set a (.dict (dput es k v))) c')(h:∀ H',Holds H' c'->Q () ⟨lo,H'⟩):Wq (bA (.ref a) (.int k) v ⟨lo,H⟩) Q X:=Wq.MD e hl (h _ hc)
theorem Wq.MG{Q:V->St->Prop}{es:List (M V)}{c:List Cl}(h:Wq (Lite.ah es ⟨lo,H⟩) (fun vs s=>(bp (Nat.ble vs.length 1000=true) (Holds s.H c) (∀ H' t,Holds H' ((t,.tuple vs)::c)->Q (.ref t) ⟨s.lo,H'⟩))) X):Wq (tupS es ⟨lo,H⟩) Q X:=
 Wq.tup (h.mono (fun vs s q=>⟨q.1,q.3 _ _ (q.2.new _)⟩) fun _ _ q=>q)
theorem Wq.fH{Q:V->St->Prop}{es:List (M V)}{c:List Cl}(h:Wq (Lite.ah es ⟨lo,H⟩) (fun vs s=>(bp (Nat.ble vs.length 1000=true) (Holds s.H c) (∀ H' t,Holds H' ((t,.list vs)::c)->Q (.ref t) ⟨s.lo,H'⟩))) X):Wq (listS es ⟨lo,H⟩) Q X:=
 Wq.lst (h.mono (fun vs s q=>⟨q.1,q.3 _ _ (q.2.new _)⟩) fun _ _ q=>q)
theorem Wq.dw{Q:V->St->Prop}{o:O}{c:List Cl}(hc:Holds H c)(h:∀ H' t,Holds H' ((t,o)::c)->Q (.ref t) ⟨lo,H'⟩):Wq (Lite.alloc o ⟨lo,H⟩) Q X:=Wq.alloc (h _ _ (hc.new o))
end
section
variable {s:Dk} {F:List Cl} {H:Hp} {n:Nat} {Q:V->Hp->Prop} {X:Addr->Hp->Prop}
noncomputable def Dk.w1 (s:Dk):Dk:={s with w:=s.w+1}
noncomputable def Dk.put (s:Dk) (x:Int) (b:List UInt8):Dk:={s with le:=dput s.le x (.bytes b)}
noncomputable def Dk.app (s:Dk) (t:Nat) (x:Int) (b:List UInt8):Dk:={s with un:=s.un++[(t,x,b)]}
noncomputable abbrev Dk.wrote (s:Dk) (t:Nat) (x:Int) (b:List UInt8):Dk:=(s.w1.put x b).app t x b
theorem MH{s:Dk}{t:Nat}{x:Int}{b:List UInt8}(h:Holds H ((t,.tuple [.int x,.bytes b])::(aW s++F))):Holds (H.set s.eO (.list ((s.un.map fun t=>V.ref t.1)++[.ref t]))) (aW (s.app t x b)++F):=by
 have h1:=Holds.setAt (l1:=[_,_,_,_]) h (.list ((s.un.map fun t=>V.ref t.1)++[.ref t]))
 refine h1.perm ?_
 have e:aW (s.app t x b)++F=(s.dk,gR s)::(s.ka,.dict s.ke)::(s.kb,.dict s.le)::(s.eO,.list ((s.un.map fun t=>V.ref t.1)++[.ref t]))::(s.un.map kc++(t,.tuple [.int x,.bytes b])::F):=by
  delta aW Dk.app
  simp[gR,wb,kc]
 simp only[e]
 refine(List.Perm.swap _ _ _).trans (List.Perm.cons _ ?_)
 refine(List.Perm.swap _ _ _).trans (List.Perm.cons _ ?_)
 refine(List.Perm.swap _ _ _).trans (List.Perm.cons _ ?_)
 refine(List.Perm.swap _ _ _).trans (List.Perm.cons _ ?_)
 exact List.perm_middle.symm
theorem MI(h:Holds H (aW s++F)){x:Int}{b:List UInt8}(h1:0<=x)(h2:x<s.B)(hb:(b.length:Int)=s.S)(hS:s.S<=lim)(hl:s.le.length<=lim)(hu:s.un.length<lim)(q:∀ H' t,Holds H' (aW (s.wrote t x b)++F)->Q .none H'):
  Cq (Rn 2 n (.af 463) [.ref s.dk,.int x,.bytes b] H) Q X:=by
 have hbl:b.length<=lim:=by
  have:(b.length:Int)<=lim:=by simp only[hb];exact hS
  exact Int.ofNat_le.mp this
 simp only[Jx]
 refine Cq.fin (Wq.seq (Wq.az (Wq.aI ph rfl rfl (Wq.ae rfl ⟨rfl,cz h,Wq.aj (o9 h ?_)⟩))))
 refine Wq.seq (Wq.az (Wq.aI wq rfl rfl (Wq.ae rfl ⟨rfl,cz h,Wq.ah (Wq.ae rfl (Wq.aj (wh h h1 h2 ?_)))⟩)))
 refine Wq.seq (Wq.cN (Wq.bind (Wq.ak (Wq.ah (Wq.ae rfl (Wq.aj (Wq.wg hbl (Wq.aS (Wq.ld rfl (cz h) (bR (by decide)) rfl rfl (Wq.wc (r:=false) (decide_eq_true hb) ⟨rfl,?_⟩))))))))))
 refine Wq.seq (Wq.cN (Wq.and (Wq.bind (Wq.ld rfl (cz h) (bR (by decide)) rfl rfl (Wq.aS (Wq.pure (Wq.wx ⟨rfl,?_⟩)))))))
 refine Wq.seq (Wq.gB (c':=aW s.w1++F) rfl (cz h) (bR (by decide)) rfl rfl (h.cO _) fun H h=>?_)
 refine Wq.seq (Wq.ao (Wq.ak (Wq.ah (Wq.ae rfl (Wq.aj (Wq.we (Wq.bind (Wq.ld rfl (cz (s:=s.w1) h) (bR (by decide)) rfl rfl (Wq.bind (Wq.ae rfl (Wq.kf (c':=aW (s.w1.put x b)++F) (pn (s:=s.w1) h) hl (h.iA _) fun H h=>?_)))))))))))
 refine Wq.seq (Wq.az (Wq.append (ys:=s.un.map fun t=>V.ref t.1) (Wq.ld rfl (cz (s:=s.w1.put x b) h) (bR (by decide)) rfl rfl ⟨rfl,pq (s:=s.w1.put x b) h,Wq.MG (c:=aW (s.w1.put x b)++F) (Wq.ah (Wq.ae rfl (Wq.ah (Wq.ak (Wq.ah (Wq.ae rfl (Wq.aj (Wq.we (Wq.aj ⟨rfl,h,fun H t h=>?_⟩)))))))))⟩)))
 exact⟨h.on _ (.tail _ (.tail _ (.tail _ (.tail _ (.head _))))),by simpa using hu,q _ _ (MH h)⟩
end
section
variable {κ:Type} [DecidableEq κ]
theorem MJ{es:List (κ×V)}{k:κ}{v:V}(j:κ):(es.map fun p=>if p.1=k then (p.1,v)else p).lookup j=if j=k then (es.lookup k).map (fun _=>v)else es.lookup j:=by
 induction es with
 |nil=>by_cases h:j=k<;>simp[h]
 |cons p r ih=>
  obtain⟨a,b⟩:=p
  rw[List.map_cons]
  by_cases ha:a=k
  ·rw[if_pos ha,List.lookup_cons,List.lookup_cons,List.lookup_cons]
   by_cases hj:j=k
   ·have e1:(j==a)=true:=by simp[hj,ha]
    have e2:(k==a)=true:=by simp[ha]
    rw[e1,e2,if_pos hj];rfl
   ·have e1:(j==a)=false:=by simp[ha,hj]
    rw[e1,ih,if_neg hj,if_neg hj]
  ·rw[if_neg ha,List.lookup_cons,List.lookup_cons,List.lookup_cons]
   by_cases hj:j=k
   ·have e1:(j==a)=false:=by subst hj;simpa using Ne.symm ha
    have e2:(k==a)=false:=by simpa using Ne.symm ha
    rw[e1,e2,ih,if_pos hj]
   ·rw[ih,if_neg hj,if_neg hj]
theorem MK{es:List (κ×V)}{k j:κ}{v:V}(h:es.lookup k=none):(es++[(k,v)]).lookup j=if j=k then some v else es.lookup j:=by
 rw[List.lookup_append]
 by_cases hj:j=k
 ·subst hj;rw[h];simp
 ·rw[if_neg hj]
  have:(j==k)=false:=by simpa using hj
  cases es.lookup j<;>simp[List.lookup_cons,this]
theorem gU(es:List (κ×V))(k:κ)(v:V)(j:κ):(dput es k v).lookup j=if j=k then some v else es.lookup j:=by
 delta dput
 cases h:es.lookup k with
 |none=>rw[if_neg (by simp)];exact MK h
 |some w=>
  rw[if_pos (by simp),MJ,h]
  rfl
end
structure bY(B:Int)(es:List (Int×V)):Prop where
 nd:(es.map (·.1)).Nodup
 r:∀ k∈es.map (·.1),0<=k∧k<B
theorem bY.nil{B:Int}:bY B []:=⟨List.nodup_nil,fun k h=>nomatch h⟩
theorem ML{es:List (Int×V)}{k:Int}(h:es.lookup k=none):k ∉ es.map (·.1):=by
 intro m
 obtain⟨p,hp,e⟩:=List.mem_map.mp m
 have:=List.lookup_eq_none_iff.mp h p hp
 simp[e]at this
theorem bY.put{B:Int}{es:List (Int×V)}(h:bY B es){k:Int}(h1:0<=k)(h2:k<B)(v:V):bY B (dput es k v):=by
 delta dput
 split
 ·have e:(es.map fun p=>if p.1=k then (p.1,v)else p).map (·.1)=es.map (·.1):=by
   rw[List.map_map]
   refine List.map_congr_left fun p _=>?_
   show(if p.1=k then (p.1,v)else p).1=p.1
   split<;>rfl
  exact⟨by rw[e];exact h.nd,by rw[e];exact h.r⟩
 ·rename_i hn
  have hn:es.lookup k=none:=by cases q:es.lookup k with |none=>rfl |some _=>rw[q]at hn;exact absurd rfl hn
  have hm:=ML hn
  refine⟨?_,fun j hj=>?_⟩
  ·rw[List.map_append,List.nodup_append]
   exact⟨h.nd,by simp,fun a ha b hb=>by simp at hb;rintro rfl;exact hm (hb▸ha)⟩
  ·rw[List.map_append]at hj
   rcases List.mem_append.mp hj with hj |hj
   ·exact h.r j hj
   ·simp at hj;subst hj;exact⟨h1,h2⟩
theorem nodup_range:∀ (n:Nat) (l:List Nat),l.Nodup->(∀ k∈l,k<n)->l.length<=n
 | 0,l,_,h=>by
  cases l with
  |nil=>simp
  |cons a r=>exact absurd (h a (.head _)) (Nat.not_lt_zero _)
 |n+1,l,nd,h=>by
  have h2:=nodup_range n (l.erase n) (nd.erase n) fun k hk=>by
   have h3:=(nd.mem_erase_iff).mp hk
   have:=h k h3.2
   have:=h3.1
   lia
  by_cases hm:n∈l
  ·have:=List.length_erase_of_mem hm;lia
  ·rw[List.erase_of_not_mem hm]at h2;lia
theorem bY.len{B:Int}{es:List (Int×V)}(h:bY B es):es.length<=B.toNat:=by
 have:=nodup_range B.toNat ((es.map (·.1)).map Int.toNat) (by
  refine List.pairwise_map.mpr (List.Pairwise.imp_of_mem (fun {a b} ha hb ne=>?_) h.nd)
  have:=h.r a ha;have:=h.r b hb
  intro e;lia) fun k hk=>by
  obtain⟨a,ha,rfl⟩:=List.mem_map.mp hk
  have:=h.r a ha;lia
 simpa using this
theorem bY.lim{B:Int}{es:List (Int×V)}(h:bY B es)(hB:B<=1000):es.length<=Lite.lim:=by
 have:=h.len
 delta Lite.lim
 lia
structure fp(s:Dk):Prop where
 b:0<=s.B∧s.B<=1000
 z:0<=s.S∧s.S<=1000
 ke:bY s.B s.ke
 le:bY s.B s.le
 lv:∀ x v,s.le.lookup x=some v->∃ b,v=.bytes b∧(b.length:Int)=s.S
 un:∀ t∈s.un,0<=t.2.1∧t.2.1<s.B
noncomputable def aT (s:Dk) (x:Int):List UInt8:=match s.le.lookup x with
 |some (.bytes b)=>b
 |_=>zeros s.S
theorem wy{s:Dk}(h:fp s)(x:Int):pj s x=.bytes (aT s x):=by
 delta pj aT cR
 cases e:s.le.lookup x with
 |none=>rfl
 |some v=>obtain⟨b,rfl,_⟩:=h.lv x v e;rfl
theorem px{s:Dk}(h:fp s)(x:Int):((aT s x).length:Int)=s.S:=by
 delta aT
 cases e:s.le.lookup x with
 |none=>show((zeros s.S).length:Int)=_;delta zeros;rw[List.length_replicate];have:=h.z;lia
 |some v=>obtain⟨b,rfl,hb⟩:=h.lv x v e;exact hb
theorem fp.wrote{s:Dk}(h:fp s){t:Nat}{x:Int}{b:List UInt8}(h1:0<=x)(h2:x<s.B)(hb:(b.length:Int)=s.S):fp (s.wrote t x b) where
 b:=h.b
 z:=h.z
 ke:=h.ke
 le:=h.le.put h1 h2 _
 lv y v e:=by
  have e:(dput s.le x (.bytes b)).lookup y=some v:=e
  rw[gU]at e
  split at e
  ·obtain rfl:=Option.some.inj e;exact⟨b,rfl,hb⟩
  ·exact h.lv y v e
 un t ht:=by
  rcases List.mem_append.mp ht with ht |ht
  ·exact h.un t ht
  ·cases ht with
   |head=>exact⟨h1,h2⟩
   |tail _ ht=>contradiction
theorem kg{s:Dk}{t:Nat}{x:Int}{b:List UInt8}(y:Int):aT (s.wrote t x b) y=if y=x then b else aT s y:=by
 have e:(s.wrote t x b).le=dput s.le x (.bytes b):=rfl
 delta aT
 rw[e,gU]
 by_cases h:y=x
 ·rw[if_pos h,if_pos h]
 ·rw[if_neg h,if_neg h];rfl
section
variable {X:Addr->Hp->Prop}
noncomputable def wz {α:Type} (I:St->Prop) (Q:Option α->St->Prop):Option α->St->Prop
 |none,s=>I s
 |some r,s=>Q (some r) s
theorem Wq.loop{α:Type}{bt:M Unit}{turn:V->M (Option α)}{Q:Option α->St->Prop}(I:List V->St->Prop)(hc:∀ vs st,I vs st->bt st=.ok () st)
  (step:∀ v vs st,I (v::vs) st->Wq (turn v st) (wz (I vs) Q) X) (fin:∀ st,I [] st->Q none st) (vs:List V):∀ st,I vs st->Wq (Lite.loop bt turn vs st) Q X:=by
 induction vs with
 |nil=>
  intro st h
  refine Wq.bind ?_
  show Wq (bt st) _ X
  rw[hc _ _ h]
  exact fin st h
 |cons v vs ih=>
  intro st h
  refine Wq.bind ?_
  show Wq (bt st) _ X
  rw[hc _ _ h]
  refine Wq.bind ((step v vs st h).mono (fun r s q=>?_) fun _ _ q=>q)
  cases r with
  |none=>exact ih s q
  |some r=>exact q
noncomputable def je (I:St->Prop) (Q:Fl->St->Prop):Fl->St->Prop
 | .next,s=>I s
 | .ret r,s=>Q (.ret r) s
theorem Wq.da{t:V->M Unit}{body:List (M Fl)}{v:V}{st:St}{I:St->Prop}{Q:Fl->St->Prop}(h:Wq (t v st) (fun _ s=>Wq (aD body s) (je I Q) X) X):
  Wq (Lite.da t (aD body>>=d7) v st) (wz I fun o s=>Wq (eF o s) Q X) X:=by
 unfold Lite.da
 refine Wq.bind (h.mono (fun _ s q=>Wq.bind (q.mono (fun fl s' q=>?_) fun _ _ q=>q)) fun _ _ q=>q)
 cases fl<;>exact q
theorem MM{b:Bool}{st:St}(h:b=true):Lite.guard b st=.ok () st:=by rw[h];rfl
theorem wA{a:Nat}{xs:List V}{st:St}(h:st.H[a]? =some (.list xs)):bH a st=.ok xs st:=by
 show Lite.b8 hG a st=_
 unfold Lite.b8
 rw[h];rfl
theorem pz{a:Nat}{o:O}{st:St}(h:st.H[a]? =some o):Lite.obj a st=.ok o st:=by unfold Lite.obj;rw[h]
open Classical in
theorem kh{a:Nat}{xs:List V}{st:St}(h:st.H[a]? =some (.list xs)):bJ (some (a,xs)) st=.ok () st:=by
 show(bH a>>=_) st=_
 exact(cg (wA h)).trans (MM (decide_eq_true rfl))
theorem Wq.dF{it:M V}{t:V->M Unit}{body:List (M Fl)}{Q:Fl->St->Prop}{lo:List (Option V)}{H:Hp}{a:Nat}{xs:List V}(I:List V->St->Prop)(hl:Nat.ble xs.length 1000=true)
  (hi:Wq (it ⟨lo,H⟩) (fun v s=>(bp (v=.ref a) (s.H[a]? =some (.list xs)) (I xs s))) X) (hI:∀ vs s,I vs s->s.H[a]? =some (.list xs))
  (step:∀ v vs s,I (v::vs) s->Wq (t v s) (fun _ s=>Wq (aD body s) (je (I vs) Q) X) X) (fin:∀ s,I [] s->Q .next s):Wq (Lite.dF it t body ⟨lo,H⟩) Q X:=by
 unfold Lite.dF
 refine Wq.bind (hi.mono (fun v s q=>?_) fun _ _ q=>q)
 obtain⟨rfl,e,h⟩:=q
 have ei:iter (.ref a) s=.ok (xs,some (a,xs)) s:=by
  show(Lite.obj a>>=kU a) s=_
  rw[cg (pz e)]
  show(Lite.guard (decide (xs.length<=lim))>>=fun _=>Pure.pure (xs,some (a,xs))) s=_
  rw[decide_eq_true (fo hl)]
  rfl
 refine Wq.bind ?_
 rw[ei]
 show Wq ((Lite.loop (bJ (some (a,xs))) (fun v=>Pure.pure v>>=Lite.da t (aD body>>=d7)) xs>>=eF) s) Q X
 refine Wq.bind (Wq.loop I (fun vs st h=>kh (hI vs st h)) (fun v vs st h=>?_) (fun st h=>fin st h) xs s h)
 exact Wq.da (step v vs st h)
theorem Wq.fG{it:M V}{t:V->M Unit}{body:List (M Fl)}{Q:Fl->St->Prop}{lo:List (Option V)}{H:Hp}{a:Nat}{xs:List V}(I:Nat->St->Prop)(hl:Nat.ble xs.length 1000=true)
  (hi:Wq (it ⟨lo,H⟩) (fun v s=>(bp (v=.ref a) (s.H[a]? =some (.list xs)) (I 0 s))) X) (hI:∀ k s,I k s->s.H[a]? =some (.list xs))
  (step:∀ k x s,xs[k]? =some x->I k s->Wq (t (.ref s.H.length) ⟨s.lo,s.H++[.tuple [.int k,x]]⟩) (fun _ s=>Wq (aD body s) (je (I (k+1)) Q) X) X) (fin:∀ s,I xs.length s->Q .next s):Wq (Lite.fG it t body ⟨lo,H⟩) Q X:=by
 unfold Lite.fG
 refine Wq.bind (hi.mono (fun v s q=>?_) fun _ _ q=>q)
 obtain⟨rfl,e,h⟩:=q
 refine Wq.bind (Wq.pure (Wq.bind ?_))
 rw[wA e]
 refine Wq.bind (Wq.guard (decide_eq_true (fo hl)) ?_)
 refine Wq.bind (Wq.loop (fun vs st=>∃ k,(bp (vs=((List.range xs.length).drop k).map (fun (k:Nat)=>V.int (k:Int))) (k<=xs.length) (I k st))) (fun vs st h=>by obtain⟨k,_,_,h⟩:=h;exact kh (hI k st h)) (fun v vs st h=>?_) (fun st h=>?_) _ s ⟨0,rfl,Nat.zero_le _,h⟩)
 ·obtain⟨k,e1,e2,h⟩:=h
  have hk:k<xs.length:=by
   rcases Nat.lt_or_ge k xs.length with q |q
   ·exact q
   ·rw[List.drop_eq_nil_iff.mpr (by simpa using q)]at e1;contradiction
  rw[<-List.getElem_cons_drop (h:=by simpa using hk),List.map_cons]at e1
  obtain⟨rfl,rfl⟩:=List.cons.inj e1
  rw[List.getElem_range]
  obtain⟨lo',H'⟩:=st
  have hx:xs[k]? =some xs[k]:=List.getElem?_eq_getElem hk
  have ed:gI xs (.int (k:Int)) ⟨lo',H'⟩=.ok (.ref H'.length) ⟨lo',H'++[.tuple [.int k,xs[k]]]⟩:=by
   show(Lite.ar xs[(k:Int).toNat]? >>=fun x=>Lite.alloc (.tuple [.int k,x])) ⟨lo',H'⟩=_
   simp only[Int.toNat_natCast,hx]
   rfl
  refine Wq.bind ?_
  rw[ed]
  refine Wq.da ((step k xs[k] ⟨lo',H'⟩ hx h).mono (fun _ s q=>q.mono (fun fl s' q=>?_) fun _ _ q=>q) fun _ _ q=>q)
  cases fl with
  |next=>exact⟨k+1,rfl,hk,q⟩
  |ret r=>exact q
 ·obtain⟨k,e1,e2,h⟩:=h
  have hk:k=xs.length:=by
   have:=List.map_eq_nil_iff.mp e1.symm
   have:=List.drop_eq_nil_iff.mp this
   simp at this
   lia
  subst hk
  exact fin st h
theorem Wq.fW{t1 t2:V->M Unit}{Q:Unit->St->Prop}{a:Nat}{x y:V}{st:St}(e:st.H[a]? =some (.tuple [x,y]))(h:Wq (t1 x st) (fun _ s=>Wq (t2 y s) Q X) X):Wq (dh [t1,t2] (.ref a) st) Q X:=by
 obtain⟨lo,H⟩:=st
 unfold dh
 refine Wq.bind (Wq.pure (Wq.bind (Wq.ew e (Wq.bind (Wq.guard rfl ?_)))))
 exact Wq.bind (h.mono (fun _ s q=>Wq.bind q) fun _ _ q=>q)
end
section
variable {s:Dk} {F:List Cl} {H:Hp} {n:Nat} {Q:V->Hp->Prop} {X:Addr->Hp->Prop}
noncomputable def Dk.f1 (s:Dk):Dk:={s with f:=s.f+1}
noncomputable def Dk.kp (s:Dk) (ke:List (Int×V)):Dk:={s with ke:=ke}
noncomputable def Dk.nu (s:Dk) (u:Nat):Dk:={s with eO:=u,un:=[]}
theorem MN(h:Holds H (aW s++F)):H[s.ka]? =some (.dict s.ke):=h.on _ (.tail _ (.head _))
theorem MO{u:Nat}(h:Holds H ((u,.list [])::(aW s++F))):Holds (H.set s.dk (gR (s.nu u))) (aW (s.nu u)++F):=by
 have h1:=Holds.dT h (gR (s.nu u))
 refine Holds.sub (h1.perm (c':=(s.dk,gR (s.nu u))::(s.ka,.dict s.ke)::(s.kb,.dict s.le)::(u,.list [])::(s.eO,.list (s.un.map fun t=>V.ref t.1))::(s.un.map kc++F)) ?_) ?_
 ·refine(List.Perm.swap _ _ _).trans (List.Perm.cons _ ?_)
  refine(List.Perm.swap _ _ _).trans (List.Perm.cons _ ?_)
  exact(List.Perm.swap _ _ _).trans (List.Perm.cons _ (List.Perm.refl _))
 ·refine .cons_cons _ (.cons_cons _ (.cons_cons _ (.cons_cons _ (.cons _ ?_))))
  exact List.sublist_append_right _ _
theorem MP(h:Holds H (aW s++F))(ok:fp s)(hu:Nat.ble s.un.length 1000=true)(q:∀ H' ke u,bY s.B ke->Holds H' (aW ((s.f1.kp ke).nu u)++F)->Q .none H'):
  Cq (Rn 2 n (.af 477) [.ref s.dk] H) Q X:=by
 rw[JF]
 refine Cq.fin (Wq.seq (Wq.az (Wq.aI ph rfl rfl (Wq.ae rfl ⟨rfl,cz h,Wq.aj (o9 h ?_)⟩))))
 refine Wq.seq (Wq.cN (Wq.and (Wq.bind (Wq.ld rfl (cz h) (bR (by decide)) rfl rfl (Wq.aS (Wq.pure (Wq.wx ⟨rfl,?_⟩)))))))
 refine Wq.seq (Wq.gB (c':=aW s.f1++F) rfl (cz h) (bR (by decide)) rfl rfl (h.cO _) fun H h=>?_)
 refine Wq.seq (Wq.dF (a:=s.eO) (xs:=s.un.map fun t=>V.ref t.1) (fun vs st=>iJ fun d r ke x y=>(gE (s.un=d++r) (vs=r.map (fun t=>V.ref t.1)) (bY s.B ke) (st.lo=[some (.ref s.dk),x,y]) (Holds st.H (aW (s.f1.kp ke)++F)))) (by rw[List.length_map];exact hu)
  (Wq.ld rfl (cz (s:=s.f1) h) (bR (by decide)) rfl rfl ⟨rfl,pq (s:=s.f1) h,[],s.un,s.ke,_,_,rfl,rfl,ok.ke,rfl,h⟩) (fun vs st I=>?_) (fun v vs st I=>?_) fun st I=>?_)
 ·obtain⟨d,r,ke,x,y,e1,e2,hk,hl,h⟩:=I
  exact pq (s:=s.f1.kp ke) h
 ·obtain⟨d,r,ke,x,y,e1,e2,hk,hl,h⟩:=I
  obtain⟨lo,H⟩:=st
  subst hl
  cases r with
  |nil=>contradiction
  |cons t r=>
   (injection e2;subst_vars)
   have ht:t∈s.un:=by rw[e1];exact List.mem_append_right _ (.head _)
   obtain⟨a,m,b⟩:=t
   obtain⟨r1,r2⟩:=ok.un _ ht
   have et:H[a]? =some (.tuple [.int m,.bytes b]):=h.on (kc (a,m,b)) (List.mem_append_left _ (.tail _ (.tail _ (.tail _ (.tail _ (List.mem_map_of_mem ht))))))
   refine Wq.fW et (Wq.av (Wq.av ?_))
   refine Wq.seq (Wq.ao (Wq.ae rfl (Wq.bind (Wq.ld rfl (cz (s:=s.f1.kp ke) h) (bR (by decide)) rfl rfl (Wq.bind (Wq.ae rfl (Wq.kf (c':=aW (s.f1.kp (dput ke m (.bytes b)))++F) (MN (s:=s.f1.kp ke) h) (hk.lim ok.b.2) (h.dT _) fun H h=>?_)))))))
   exact⟨d++[(a,m,b)],r,_,_,_,by rw[e1];simp,rfl,hk.put r1 r2 _,rfl,h⟩
 ·obtain⟨d,r,ke,x,y,e1,e2,hk,hl,h⟩:=I
  obtain⟨lo,H⟩:=st
  subst hl
  refine Wq.seq (Wq.ao (Wq.fH (Wq.aj ⟨rfl,h,fun H u h=>Wq.bind (Wq.ae rfl (Wq.sA (h.on _ (.tail _ (.head _))) (bR (by decide)) rfl ?_))⟩)))
  exact q _ ke u hk (MO h)
end
section
variable {X:Addr->Hp->Prop} {C:V->List V->Hp->CR} {lo:List (Option V)} {H:Hp}
theorem Wq.wB{Q:V->St->Prop}{e e':M V}(h:Wq (e ⟨lo,H⟩) (fun v s=>∃ t,v=.bool t∧((t=true∧Wq (e' s) Q X)∨(t=false∧Q (.bool false) s))) X):Wq (j8 .And [e,e'] ⟨lo,H⟩) Q X:=by
 refine Wq.bind (h.mono (fun v s q=>?_) fun _ _ q=>q)
 obtain⟨t,rfl,⟨rfl,q⟩ | ⟨rfl,q⟩⟩:=q
 ·exact Wq.bind (Wq.dz q)
 ·exact Wq.bind (Wq.dz q)
theorem Wq.wC{Q:V->St->Prop}{a:Nat}{b:List UInt8}(e:H[a]? =some (.bx b))(hl:b.length<=lim)(q:Q (.bytes b) ⟨lo,H⟩):Wq (aR P0 C true (.ty "bytes") [.ref a] ⟨lo,H⟩) Q X:=by
 have e2:aR P0 C true (.ty "bytes") [.ref a] ⟨lo,H⟩=(Lite.obj a>>=mW) ⟨lo,H⟩:=by kernel_rfl
 rw[e2]
 exact Wq.bind (Wq.obj e (Wq.bind (Wq.guard (decide_eq_true hl) q)))
theorem Wq.wD{Q:V->St->Prop}{a:Nat}{b:List UInt8}(e:H[a]? =some (.bx b))(hl:b.length<=lim)(q:Q (.int b.length) ⟨lo,H⟩):Wq (aR P0 C true (.bi "len") [.ref a] ⟨lo,H⟩) Q X:=by
 have e2:aR P0 C true (.bi "len") [.ref a] ⟨lo,H⟩=(Lite.obj a>>=kR) ⟨lo,H⟩:=by kernel_rfl
 rw[e2]
 exact Wq.bind (Wq.obj e (Wq.bind (Wq.guard (decide_eq_true hl) q)))
theorem Wq.MQ{Q:V->St->Prop}{b:List UInt8}{c:List Cl}(hl:b.length<=lim)(hc:Holds H c)(q:∀ H' t,Holds H' ((t,.bx b)::c)->Q (.ref t) ⟨lo,H'⟩):Wq (aR P0 C true (.ty "bytearray") [.bytes b] ⟨lo,H⟩) Q X:=by
 have e2:aR P0 C true (.ty "bytearray") [.bytes b] ⟨lo,H⟩=(Lite.guard (decide (b.length<=lim))>>=fun _=>Lite.alloc (.bx b)) ⟨lo,H⟩:=by kernel_rfl
 rw[e2]
 exact Wq.bind (Wq.guard (decide_eq_true hl) (Wq.dw hc q))
theorem Wq.MR{Q:Unit->St->Prop}{a:Nat}{b x:List UInt8}{c':List Cl}(e:H[a]? =some (.bx b))(hx:x.length=b.length)(hl:b.length<=lim)(hc:Holds (H.set a (.bx x)) c')(q:∀ H',Holds H' c'->Q () ⟨lo,H'⟩):Wq (hU (.ref a) (.bytes x) ⟨lo,H⟩) Q X:=by
 unfold hU
 refine Wq.bind (Wq.pure (Wq.bind (Wq.ey e (Wq.bind (Wq.pure (Wq.bind (Wq.guard ?_ (q _ hc))))))))
 rw[decide_eq_true hx,decide_eq_true hl];rfl
end
/-! a buffer -/
structure Bf where
 a:Nat
 d:Nat
 n:Int
 x:List UInt8
 h:Int
 p:Int
noncomputable def MS (b:Bf):List (Nat×V):=[(24,.int b.n),(39,.ref b.d),(40,.int b.h),(41,.int b.p)]
noncomputable def ki (b:Bf):O:=.inst 302 (MS b)
noncomputable def bM (b:Bf):List Cl:=[(b.a,ki b),(b.d,.bx b.x)]
section
variable {b:Bf} {F:List Cl} {H:Hp} {n:Nat} {Q:V->Hp->Prop} {X:Addr->Hp->Prop}
theorem bS(h:Holds H (bM b++F)):H[b.a]? =some (ki b):=h.on _ (.head _)
theorem pA(h:Holds H (bM b++F)):H[b.d]? =some (.bx b.x):=h.on _ (.tail _ (.head _))
noncomputable def Bf.free (b:Bf):Bool:=decide (b.h=0)&&decide (b.p=0)
theorem wF(h:Holds H (bM b++F))(q:Q (.bool b.free) H):Cq (Rn 1 n (.af 229) [.ref b.a] H) Q X:=by
 rw[Ha]
 unfold Bf.free at q
 refine Cq.fin (Wq.seq (Wq.aE (Wq.wB (Wq.d8 (Wq.ld rfl (bS h) (cG (by decide)) rfl rfl (Wq.pure (Wq.dH (r:=decide (b.h=0)) rfl ⟨_,rfl,?_⟩)))))))
 cases hh:decide (b.h=0)with
 |false=>rw[hh]at q;exact .inr ⟨rfl,q⟩
 |true=>
  rw[hh]at q
  exact .inl ⟨rfl,Wq.d8 (Wq.ld rfl (bS h) (cG (by decide)) rfl rfl (Wq.pure (Wq.dH (r:=decide (b.p=0)) rfl q)))⟩
theorem pB(h:Holds H (bM b++F))(hl:b.x.length<=lim)(q:Q (.bytes b.x) H):Cq (Rn 1 n (.af 236) [.ref b.a] H) Q X:=by
 rw[He]
 exact Cq.fin (Wq.seq (Wq.aE (Wq.ak (Wq.ah (Wq.ld rfl (bS h) (cG (by decide)) rfl rfl (Wq.aj (Wq.wC (pA h) hl q)))))))
theorem pC(h:Holds H (bM b++F)){x:List UInt8}(hl:b.x.length<=lim)(hx:x.length=b.x.length)(q:∀ H',Holds H' (bM {b with x:=x}++F)->Q .none H'):Cq (Rn 1 n (.af 264) [.ref b.a,.bytes x] H) Q X:=by
 rw[Hi]
 refine Cq.fin (Wq.seq (Wq.cN (Wq.bind (Wq.ak (Wq.ah (Wq.ae rfl (Wq.aj (Wq.wg (by rw[hx];exact hl) ?_))))))))
 refine Wq.aS (Wq.ak (Wq.ah (Wq.ld rfl (bS h) (cG (by decide)) rfl rfl (Wq.aj (Wq.wD (pA h) hl (Wq.wc (r:=false) (decide_eq_true (congrArg Int.ofNat hx)) ⟨rfl,?_⟩))))))
 exact Wq.seq (Wq.ao (Wq.ae rfl (Wq.bind (Wq.ld rfl (bS h) (cG (by decide)) rfl rfl (Wq.MR (c':=bM {b with x:=x}++F) (pA h) hx hl (h.dT _) fun H h=>q _ h)))))
end
/-! the cache -/
structure Ch where
 ca:Nat
 row:Nat
 bT:Nat
 most:Int
 size:Int
 hits:Int
 reads:Int
 writes:Int
 ai:List Bf
 bn:List (Int×V)
noncomputable def wG (s:Dk) (c:Ch):List (Nat×V):=[(6,.ref s.dk),(12,.int c.most),(10,.int c.size),(46,.ref c.row),(47,.ref c.bT),(48,.int c.hits),(49,.int c.reads),(2,.int c.writes)]
noncomputable def dI (s:Dk) (c:Ch):O:=.inst 417 (wG s c)
noncomputable def cY (l:List Bf):O:=.list (l.map fun b=>V.ref b.a)
noncomputable def cA (s:Dk) (c:Ch):List Cl:=(c.ca,dI s c)::(c.row,cY c.ai)::(c.bT,.dict c.bn)::c.ai.flatMap bM
noncomputable abbrev DC (s:Dk) (c:Ch) (F:List Cl):List Cl:=cA s c++(aW s++F)
structure me(s:Dk)(l:List Bf):Prop where
 nd:(l.map (·.n)).Nodup
 r:∀ b∈l,0<=b.n∧b.n<s.B
 z:∀ b∈l,(b.x.length:Int)=s.S
 p:∀ b∈l,0<=b.p
structure bl(s:Dk)(c:Ch):Prop where
 dk:fp s
 ai:me s c.ai
 clean:∀ b∈c.ai,b.p=0->b.h=0->b.x=aT s b.n
 bn:∀ k,c.bn.lookup k=(c.ai.find? fun b=>b.n==k).map fun b=>V.ref b.a
 key:bY s.B c.bn
 len:(c.ai.length:Int)<=c.most
 most:c.most<=1000
 size:c.size=s.S
theorem wH{l:List Bf}{k:Int}{b:Bf}(h:l.find? (fun b=>b.n==k)=some b):b.n=k∧bV fun l1 l2=>l=l1++b::l2:=by
 refine⟨by simpa using List.find?_some h,?_⟩
 exact .of (List.append_of_mem (List.mem_of_find?_eq_some h))
theorem gV{l1 l2:List Bf}{b:Bf}(nd:((l1++b::l2).map (·.n)).Nodup):(l1++b::l2).find? (fun x=>x.n==b.n)=some b:=by
 simp only[List.map_append,List.map_cons]at nd
 have n1:=List.nodup_append.mp nd
 rw[List.find?_append]
 have:l1.find? (fun x=>x.n==b.n)=none:=by
  rw[List.find?_eq_none]
  intro x hx e
  have e:x.n=b.n:=by simpa using e
  exact n1.2.2 x.n (List.mem_map_of_mem hx) b.n (.head _) e
 rw[this]
 simp
section
variable {s:Dk} {c:Ch} {F:List Cl} {H:Hp} {n:Nat} {Q:V->Hp->Prop} {X:Addr->Hp->Prop}
theorem bo(h:Holds H (DC s c F)):H[c.ca]? =some (dI s c):=h.on _ (.head _)
theorem gC(h:Holds H (DC s c F)):H[c.row]? =some (cY c.ai):=h.on _ (.tail _ (.head _))
theorem iB(h:Holds H (DC s c F)):H[c.bT]? =some (.dict c.bn):=h.on _ (.tail _ (.tail _ (.head _)))
theorem fX(h:Holds H (DC s c F)):Holds H (aW s++(cA s c++F)):=h.front
theorem wI{s':Dk}(h:Holds H (aW s'++(cA s c++F)))(e:s'.dk=s.dk):Holds H (DC s' c F):=by
 have:cA s' c=cA s c:=by delta cA dI wG;simp only[e]
 show Holds H (cA s' c++(aW s'++F))
 simp only[this];exact h.front
noncomputable def Pm (s:Dk) (c:Ch) (l1 l2:List Bf) (F:List Cl):List Cl:=((c.ca,dI s c)::(c.row,.list (l1.map (fun b=>V.ref b.a)++l2.map fun b=>V.ref b.a))::(c.bT,.dict c.bn)::l1.flatMap bM)++(l2.flatMap bM++(aW s++F))
theorem wJ(c:Ch)(l1 l2:List Bf)(b:Bf):DC s {c with ai:=l1++b::l2} F=((c.ca,dI s c)::(c.row,cY (l1++b::l2))::(c.bT,.dict c.bn)::l1.flatMap bM)++(bM b++(l2.flatMap bM++(aW s++F))):=by
 show cA s _++(aW s++F)=_
 delta cA
 simp only[List.flatMap_append,List.flatMap_cons,List.append_assoc,List.cons_append]
 rfl
noncomputable def gW (s:Dk) (c:Ch) (l1 l2:List Bf) (b:Bf) (F:List Cl):List Cl:=((c.ca,dI s c)::(c.row,cY (l1++b::l2))::(c.bT,.dict c.bn)::l1.flatMap bM)++(l2.flatMap bM++(aW s++F))
theorem cW{l1 l2:List Bf}{b:Bf}(e:c.ai=l1++b::l2)(h:Holds H (DC s c F)):Holds H (bM b++gW s c l1 l2 b F):=by
 have:DC s c F=DC s {c with ai:=l1++b::l2} F:=by rw[<-e]
 simp only[this,wJ]at h
 exact h.front
theorem iC{l1 l2:List Bf}{b b':Bf}(e:b'.a=b.a)(h:Holds H (bM b'++gW s c l1 l2 b F)):Holds H (DC s {c with ai:=l1++b'::l2} F):=by
 simp only[wJ]
 have:cY (l1++b'::l2)=cY (l1++b::l2):=by delta cY;simp[e]
 simp only[this]
 exact h.front
theorem MT(h:Holds H (DC s c F)){x:Int}(h1:0<=x)(h2:x<s.B)(q:Q .none H):Cq (Rn 1 n (.af 327) [.ref c.ca,.int x] H) Q X:=by
 rw[Ho]
 refine Cq.fin (Wq.seq (Wq.aH (Wq.or (Wq.bind (Wq.bind (Wq.ak (Wq.ah (Wq.ae rfl (Wq.ah (Wq.pure (Wq.aj ?_)))))))))))
 refine Wq.wd (Wq.truth (Wq.pure ?_))
 refine Wq.or (Wq.bind (Wq.bind (Wq.pure (Wq.j9 (Wq.ae rfl (Wq.gS (decide_eq_true h1) ?_))))))
 refine Wq.aS (Wq.bind (Wq.ld rfl (bo h) (bK (by decide)) rfl rfl (Wq.gA (cz (fX h)) (bR (by decide)) rfl rfl (Wq.eP (decide_eq_true h2) ?_))))
 exact q
theorem MU{a:Nat}{lo:List (Option V)}{Q:Bool->St->Prop}(q:Q false ⟨lo,H⟩):Wq (cB .IsNot (.ref a) (.ref a) ⟨lo,H⟩) Q X:=by
 show Wq ((sameRef a a>>=fun b=>Pure.pure (!b)) ⟨lo,H⟩) Q X
 refine Wq.bind ?_
 unfold sameRef
 rw[if_pos rfl]
 exact q
theorem mf(h:Holds H (DC s c F))(ok:bl s c){l1 l2:List Bf}{b:Bf}(e:c.ai=l1++b::l2)(hh:b.h≠0)(q:Q .none H):Cq (Rn 1 n (.af 334) [.ref c.ca,.ref b.a] H) Q X:=by
 have hb:=bS (cW e h)
 have hf:c.bn.lookup b.n=some (.ref b.a):=by simp only[ok.bn,e,gV (by rw[<-e];exact ok.ai.nd)];rfl
 rw[Ht]
 refine Cq.fin (Wq.seq (Wq.cN (Wq.or (Wq.bind (Wq.dictGet (Wq.ld rfl (bo h) (bK (by decide)) rfl rfl ⟨rfl,iB h,Wq.ah (Wq.ld rfl hb (cG (by decide)) rfl rfl (Wq.aj ⟨iB h,.inl ⟨_,rfl,?_⟩⟩))⟩))))))
 have eg:(cR c.bn b.n).getD V.none=.ref b.a:=by delta cR;rw[hf];rfl
 rw[eg]
 refine Wq.aS (Wq.ae rfl (MU ?_))
 refine Wq.or (Wq.bind (Wq.ld rfl hb (cG (by decide)) rfl rfl (Wq.aS (Wq.pure (Wq.dH (r:=false) (decide_eq_false hh) ⟨rfl,?_⟩)))))
 exact q
end
section
variable {X:Addr->Hp->Prop} {C:V->List V->Hp->CR} {lo:List (Option V)} {H:Hp}
theorem MV:P0.eqs.contains 302=true:=by kernel_rfl
theorem Wq.remove{Q:V->St->Prop}{a b:Nat}{xs ys zs:List V}{o v:M V}(hl:Nat.ble xs.length 1000=true)(hx:xs=ys++.ref b::zs)(hn:V.ref b ∉ ys)
  (h:Wq (o ⟨lo,H⟩) (fun ov s=>(bp (ov=.ref a) (s.H[a]? =some (.list xs)) (Wq (v s) (fun x s''=>(dW (x=.ref b) (s''.H[a]? =some (.list xs)) (∀ x∈xs,fy s''.H x=some 302) (Q .none ⟨s''.lo,s''.H.set a (.list (ys++zs))⟩))) X))) X):Wq (Lite.aB P0 C o "remove" [v] ⟨lo,H⟩) Q X:=by
 refine Wq.aB (h.mono (fun ov s q=>?_) fun _ _ q=>q)
 obtain⟨rfl,e,q⟩:=q
 refine Wq.mc (f:=.bi "list.remove") e (by kernel_rfl) (Wq.ah (q.mono (fun x s'' q=>Wq.aj ?_) fun _ _ q=>q))
 obtain⟨rfl,e',hc,q⟩:=q
 have e2:aR P0 C true (.bi "list.remove") [.ref a,.ref b] s''=(do
   let xs<-Lite.bH a
   let H<-heap
   let C<-Lite.ar (fy H (.ref b))
   Lite.guard (P0.eqs.contains C&&decide (xs.length<=lim)&&xs.all (fun x=>fy H x==some C))
   let k<-Lite.ar (xs.findIdx? (isRef b))
   Lite.put a (.list (xs.eraseIdx k))
   return V.none:M V) s'':=by kernel_rfl
 show Wq (aR P0 C true (.bi "list.remove") [.ref a,.ref b] s'') Q X
 rw[e2]
 have hb:fy s''.H (.ref b)=some 302:=hc _ (by rw[hx];simp)
 have hk:xs.findIdx? (isRef b)=some ys.length:=by
  rw[hx,List.findIdx?_append]
  have:ys.findIdx? (isRef b)=none:=List.findIdx?_eq_none_iff.mpr fun x hx'=>by
   cases h:isRef b x with
   |false=>rfl
   |true=>exact absurd (sv h▸hx') hn
  rw[this,List.findIdx?_cons,show isRef b (.ref b)=true from beq_self_eq_true b]
  show some (0+ys.length)=_
  rw[Nat.zero_add]
 have he:xs.eraseIdx ys.length=ys++zs:=by rw[hx,List.eraseIdx_append_of_length_le (Nat.le_refl _)];simp
 have hall:(xs.all fun x=>fy s''.H x==some 302)=true:=List.all_eq_true.mpr fun x hx=>by rw[hc x hx];rfl
 refine Wq.bind (Wq.bH e' (Wq.bind ?_))
 show Wq _ _ X
 refine Wq.bind (Wq.ar hb (Wq.bind (Wq.guard ?_ (Wq.bind (Wq.ar hk (Wq.bind (Wq.put ?_)))))))
 ·rw[MV,decide_eq_true (fo hl),hall];rfl
 ·rw[he];exact q
end
section
variable {s:Dk} {c:Ch} {F:List Cl} {H:Hp} {n:Nat} {Q:V->Hp->Prop} {X:Addr->Hp->Prop} {l1 l2:List Bf} {b:Bf}
noncomputable def Bf.hold (b:Bf) (k:Int):Bf:={b with h:=k}
noncomputable def Bf.pin (b:Bf) (k:Int):Bf:={b with p:=k}
noncomputable def Ch.with (c:Ch) (l:List Bf):Ch:={c with ai:=l}
theorem MW(h:Holds H (DC s c F))(ok:bl s c)(e:c.ai=l1++b::l2)(hh:b.h≠0)(q:∀ H',Holds H' (DC s (c.with (l1++b.pin (b.p+1)::l2)) F)->Q .none H'):Cq (Rn 2 n (.af 362) [.ref c.ca,.ref b.a] H) Q X:=by
 rw[Ic]
 refine Cq.fin (Wq.seq (Wq.az (Wq.aI l9 rfl rfl (Wq.ae rfl ⟨rfl,bo h,Wq.ah (Wq.ae rfl (Wq.aj (mf h ok e hh ?_)))⟩))))
 have hb:=cW e h
 exact Wq.seq (Wq.gB (c':=bM (b.pin (b.p+1))++gW s c l1 l2 b F) rfl (bS hb) (cG (by decide)) rfl rfl (hb.cO _) fun H h=>q _ (iC (b:=b) rfl h))
theorem MX(h:Holds H (DC s c F)){x:V}(hx:x∈c.ai.map fun b=>V.ref b.a):fy H x=some 302:=by
 obtain⟨b,hb,rfl⟩:=List.mem_map.mp hx
 obtain⟨l1,l2,e⟩:=List.append_of_mem hb
 show(H[b.a]?.bind hH).map (·.1)=some 302
 rw[bS (cW e h)]
 rfl
theorem MY(h:Holds H (DC s c F))(e:c.ai=l1++b::l2):V.ref b.a ∉ l1.map fun b=>V.ref b.a:=by
 intro m
 obtain⟨b',hb',e'⟩:=List.mem_map.mp m
 obtain⟨m1,m2,rfl⟩:=List.append_of_mem hb'
 have ea:b'.a=b.a:=nB e'
 have e2:c.ai=m1++b'::(m2++b::l2):=by simp only[e];simp
 have hb:=cW e2 h
 have nd:=hb.nd
 have:b.a∈(gW s c m1 (m2++b::l2) b' F).map (·.1):=by
  refine List.mem_map.mpr ⟨(b.a,ki b),?_,rfl⟩
  unfold gW
  refine List.mem_append_right _ (List.mem_append_left _ ?_)
  simp only[List.flatMap_append,List.flatMap_cons]
  exact List.mem_append_right _ (.head _)
 simp only[List.map_append]at nd
 exact(List.nodup_append.mp nd).2.2 b'.a (.head _) b.a this ea
theorem MZ:(DC s (c.with (l1++b::l2)) F).Perm ((c.ca,dI s c)::(c.row,cY (l1++b::l2))::(c.bT,.dict c.bn)::((l1++l2++[b]).flatMap bM++(aW s++F))):=by
 show(((c.ca,dI s c)::(c.row,cY (l1++b::l2))::(c.bT,.dict c.bn)::(l1++b::l2).flatMap bM)++(aW s++F)).Perm _
 refine List.Perm.cons _ (List.Perm.cons _ (List.Perm.cons _ (List.Perm.append_right _ ?_)))
 simp only[List.flatMap_append,List.flatMap_cons,List.flatMap_append,List.flatMap_append,List.flatMap_cons,List.flatMap_nil,List.append_nil,List.append_assoc]
 exact List.Perm.append_left _ List.perm_append_comm
theorem mh(h:Holds H (DC s c F))(ok:bl s c)(e:c.ai=l1++b::l2)(hh:b.h=1)(q:∀ H',Holds H' (DC s (c.with (l1++l2++[b.hold 0])) F)->Q .none H'):Cq (Rn 2 n (.af 355) [.ref c.ca,.ref b.a] H) Q X:=by
 rw[H8]
 refine Cq.fin (Wq.seq (Wq.az (Wq.aI l9 rfl rfl (Wq.ae rfl ⟨rfl,bo h,Wq.ah (Wq.ae rfl (Wq.aj (mf h ok e (by rw[hh];decide) ?_)))⟩))))
 have hb:=cW e h
 refine Wq.seq (Wq.pv (c':=bM (b.hold (b.h-1))++gW s c l1 l2 b F) rfl (bS hb) (cG (by decide)) rfl rfl (hb.cO _) fun H h=>?_)
 have h0:b.h-1=0:=by rw[hh];rfl
 rw[h0]at h
 have hI:Holds H (DC s (c.with (l1++b.hold 0::l2)) F):=iC (b:=b) rfl h
 have hlen:Nat.ble ((l1++b.hold 0::l2).map fun b=>V.ref b.a).length 1000=true:=by
  have:=ok.len;have:=ok.most
  rw[e]at*
  refine Nat.ble_eq_true_of_le ?_
  simp only[List.length_map,List.length_append,List.length_cons]at*
  lia
 refine Wq.seq (Wq.o7 (Wq.bind (Wq.ld rfl (bS (b:=b.hold 0) h) (cG (by decide)) rfl rfl (Wq.aS (Wq.pure (Wq.dH (r:=true) rfl ⟨rfl,?_⟩))))))
 refine Wq.seq (Wq.az (Wq.remove (ys:=l1.map fun b=>V.ref b.a) (zs:=l2.map fun b=>V.ref b.a) hlen (by simp[Bf.hold]) (MY (b:=b.hold 0) (c:=c.with (l1++b.hold 0::l2)) hI rfl) (Wq.ld rfl (bo (c:=c.with (l1++b.hold 0::l2)) hI) (bK (by decide)) rfl rfl ⟨rfl,gC (c:=c.with (l1++b.hold 0::l2)) hI,Wq.ae rfl ⟨rfl,gC (c:=c.with (l1++b.hold 0::l2)) hI,fun x hx=>MX (c:=c.with (l1++b.hold 0::l2)) hI hx,?_⟩⟩)))
 have hP:=(hI.perm MZ).dT (.list ((l1.map fun b=>V.ref b.a)++l2.map fun b=>V.ref b.a))
 have hl2:((l1.map fun b=>V.ref b.a)++l2.map fun b=>V.ref b.a).length<lim:=by
  have:=fo hlen
  simp only[List.length_map,List.length_append,List.length_cons]at*
  lia
 refine Wq.seq (Wq.az (Wq.append (Wq.ld rfl (hP.on _ (.head _)) (bK (by decide)) rfl rfl ⟨rfl,hP.on _ (.tail _ (.head _)),Wq.ae rfl ⟨hP.on _ (.tail _ (.head _)),hl2,?_⟩⟩)))
 have er:O.list (((l1.map fun b=>V.ref b.a)++l2.map fun b=>V.ref b.a)++[.ref b.a])=cY (l1++l2++[b.hold 0]):=by unfold cY;simp[Bf.hold]
 rw[er]
 exact q _ (hP.dT _)
end
section
variable {s:Dk} {c:Ch} {F:List Cl} {H:Hp} {n:Nat} {Q:V->Hp->Prop} {X:Addr->Hp->Prop} {l1 l2:List Bf} {b:Bf}
theorem wK{a:Nat}{lo:List (Option V)}{Q:Bool->St->Prop}(q:Q false ⟨lo,H⟩):Wq (cB .Is (.ref a) .none ⟨lo,H⟩) Q X:=q
theorem M0{lo:List (Option V)}{Q:Bool->St->Prop}(q:Q true ⟨lo,H⟩):Wq (cB .Is .none .none ⟨lo,H⟩) Q X:=q
theorem wL(ok:bl s c)(e:c.ai=l1++b::l2):(cR c.bn b.n).getD V.none=.ref b.a:=by
 unfold cR
 simp only[ok.bn,e,gV (by rw[<-e];exact ok.ai.nd)];rfl
theorem M1(h:Holds H (DC s c F))(ok:bl s c)(e:c.ai=l1++b::l2)(hp:b.p≠0)(q:∀ H',Holds H' (DC s (c.with (l1++b.pin (b.p-1)::l2)) F)->Q .none H'):Cq (Rn 1 n (.af 369) [.ref c.ca,.int b.n] H) Q X:=by
 rw[Ii]
 refine Cq.fin (Wq.seq (Wq.ao (Wq.dictGet (Wq.ld rfl (bo h) (bK (by decide)) rfl rfl ⟨rfl,iB h,Wq.ah (Wq.ae rfl (Wq.aj ⟨iB h,.inl ⟨_,rfl,Wq.av ?_⟩⟩))⟩))))
 rw[wL ok e]
 have hb:=cW e h
 refine Wq.seq (Wq.cN (Wq.or (Wq.bind (Wq.ae rfl (Wq.aS (Wq.pure (wK ?_)))))))
 refine Wq.or (Wq.bind (Wq.ld rfl (bS hb) (cG (by decide)) rfl rfl (Wq.aS (Wq.pure (Wq.dH (r:=false) (decide_eq_false hp) ⟨rfl,?_⟩)))))
 exact Wq.seq (Wq.pv (c':=bM (b.pin (b.p-1))++gW s c l1 l2 b F) rfl (bS hb) (cG (by decide)) rfl rfl (hb.cO _) fun H h=>q _ (iC (b:=b) rfl h))
noncomputable def Ch.w1 (c:Ch):Ch:={c with writes:=c.writes+1}
theorem wM{x:Int}(h:x<=1000):x<=(lim:Int):=by unfold lim;lia
theorem jf{l:List UInt8}{S:Int}(h:(l.length:Int)=S)(h2:S<=1000):l.length<=lim:=by unfold lim;lia
theorem M3(h:Holds H (DC s c F))(ok:bl s c)(e:c.ai=l1++b::l2)(hh:b.h≠0)(hu:s.un.length<1000)(q:∀ H' t,Holds H' (DC (s.wrote t b.n b.x) c.w1 F)->Q .none H'):Cq (Rn 3 n (.af 376) [.ref c.ca,.ref b.a] H) Q X:=by
 have hm:b∈c.ai:=by rw[e];exact List.mem_append_right _ (.head _)
 obtain⟨r1,r2⟩:=ok.ai.r b hm
 have hz:=ok.ai.z b hm
 have hb:=cW e h
 rw[Ip]
 refine Cq.fin (Wq.seq (Wq.az (Wq.aI l9 rfl rfl (Wq.ae rfl ⟨rfl,bo h,Wq.ah (Wq.ae rfl (Wq.aj (mf h ok e hh ?_)))⟩))))
 refine Wq.seq (Wq.az (Wq.aI MA rfl rfl (Wq.ld rfl (bo h) (bK (by decide)) rfl rfl ⟨rfl,cz (fX h),Wq.ah (Wq.ld rfl (bS hb) (cG (by decide)) rfl rfl (Wq.ah (Wq.aI pa rfl rfl (Wq.ae rfl ⟨rfl,bS hb,Wq.aj (pB hb (jf hz ok.dk.z.2) (Wq.aj ?_))⟩))))⟩)))
 refine MI (fX h) r1 r2 hz (wM ok.dk.z.2) (ok.dk.le.lim ok.dk.b.2) (by unfold lim;lia) fun H t h=>?_
 have h:=wI h rfl
 exact Wq.seq (Wq.gB (c':=DC (s.wrote t b.n b.x) c.w1 F) rfl (bo h) (bK (by decide)) rfl rfl (h.cO _) fun H h=>q _ _ h)
theorem pD(h:Holds H (DC s c F))(ok:fp s)(hu:Nat.ble s.un.length 1000=true)(q:∀ H' ke u,bY s.B ke->Holds H' (DC ((s.f1.kp ke).nu u) c F)->Q .none H'):Cq (Rn 3 n (.af 383) [.ref c.ca] H) Q X:=by
 rw[Iu]
 refine Cq.fin (Wq.seq (Wq.az (Wq.aI MB rfl rfl (Wq.ld rfl (bo h) (bK (by decide)) rfl rfl ⟨rfl,cz (fX h),Wq.aj (MP (fX h) ok hu fun H ke u hk h=>?_)⟩))))
 exact q _ ke u hk (wI h rfl)
end
section
variable {X:Addr->Hp->Prop} {lo:List (Option V)} {H:Hp}
theorem Wq.gX{α:Type}{Q:α->St->Prop}{a:Nat}{o:O}{f:Nat->O->M α}(e:H[a]? =some o)(h:Wq (f a o ⟨lo,H⟩) Q X):Wq ((bq (.ref a)>>=fun a=>Lite.obj a>>=f a) ⟨lo,H⟩) Q X:=Wq.bind (Wq.ar rfl (Wq.bind (Wq.obj e h)))
theorem Wq.fP{Q:Nat->St->Prop}{xs:List V}{k:Nat}(hl:xs.length<=lim)(hk:k<xs.length)(q:Q k ⟨lo,H⟩):Wq (Lite.fP xs (k:Int) ⟨lo,H⟩) Q X:=by
 refine Wq.bind (Wq.guard (decide_eq_true hl) (Wq.ar (a:=k) ?_ q))
 unfold place
 rw[if_pos (Int.natCast_nonneg k),Int.toNat_natCast,if_pos hk]
theorem Wq.delD{Q:Unit->St->Prop}{a:Nat}{es:List (Int×V)}{k:Int}{v:V}(e:H[a]? =some (.dict es))(hl:es.length<=lim)(hk:es.lookup k=some v)(q:Q () ⟨lo,H.set a (.dict (dY es k))⟩):Wq (hV (.ref a) (.int k) ⟨lo,H⟩) Q X:=
 Wq.gX (f:=fun a=>mT a (.int k)) e (Wq.bind (Wq.guard (decide_eq_true hl) (Wq.bind (Wq.ar rfl (Wq.bind (Wq.ar hk q))))))
theorem Wq.M4{Q:Unit->St->Prop}{a k:Nat}{xs:List V}(e:H[a]? =some (.list xs))(hl:xs.length<=lim)(hk:k<xs.length)(q:Q () ⟨lo,H.set a (.list (xs.eraseIdx k))⟩):Wq (hV (.ref a) (.int k) ⟨lo,H⟩) Q X:=
 Wq.gX (f:=fun a=>mT a (.int (k:Int))) e (Wq.bind (Wq.ar rfl (Wq.bind (Wq.fP hl hk q))))
end
section
variable {s:Dk} {c:Ch} {F:List Cl} {H:Hp} {n:Nat} {Q:V->Hp->Prop} {X:Addr->Hp->Prop} {l1 l2:List Bf} {b:Bf}
theorem mi{H:Hp}{o:O}:(H++[o])[H.length]? =some o:=by simp
noncomputable def Ch.gone (c:Ch) (l1 l2:List Bf) (b:Bf):Ch:={c with ai:=l1++l2,bn:=dY c.bn b.n}
theorem M5(h:Holds H (DC s c F))(e:c.ai=l1++b::l2):Holds ((H.set c.bT (.dict (dY c.bn b.n))).set c.row (.list ((c.ai.map fun b=>V.ref b.a).eraseIdx l1.length))) (DC s (c.gone l1 l2 b) F):=by
 have h1:=(h.iA (.dict (dY c.bn b.n))).dT (.list ((c.ai.map fun b=>V.ref b.a).eraseIdx l1.length))
 have er:O.list ((c.ai.map fun b=>V.ref b.a).eraseIdx l1.length)=cY (l1++l2):=by
  unfold cY
  rw[e,List.map_append,List.map_cons,List.eraseIdx_append_of_length_le (by simp)]
  simp
 simp only[er]at h1 ⊢
 refine h1.sub ?_
 show(((c.ca,dI s c)::(c.row,cY (l1++l2))::(c.bT,O.dict (dY c.bn b.n))::(l1++l2).flatMap bM)++(aW s++F)).Sublist ((c.ca,dI s c)::(c.row,cY (l1++l2))::(c.bT,O.dict (dY c.bn b.n))::(c.ai.flatMap bM++(aW s++F)))
 refine .cons_cons _ (.cons_cons _ (.cons_cons _ (List.Sublist.append ?_ (List.Sublist.refl _))))
 rw[e,List.flatMap_append,List.flatMap_append,List.flatMap_cons]
 exact List.Sublist.append (List.Sublist.refl _) (List.sublist_append_right _ _)
theorem M6{l:List Bf}{k:Nat}{b:Bf}(h:l[k]? =some b):bV fun l1 l2=>l=l1++b::l2∧l1.length=k:=by
 obtain⟨hk,e⟩:=List.getElem?_eq_some_iff.mp h
 refine⟨l.take k,l.drop (k+1),?_,by simp;lia⟩
 simp only[<-e,List.getElem_cons_drop,List.take_append_drop]
theorem M7(h:Holds H (DC s c F))(ok:bl s c)(hf:(c.ai.length:Int)<c.most∨∃ b∈c.ai,b.free=true)
  (q1:(c.ai.length:Int)<c.most->Q .none H) (q2:∀ H' l1 l2 b,c.ai=l1++b::l2->b.free=true->Holds H' (DC s (c.gone l1 l2 b) F)->Q .none H'):Cq (Rn 2 n (.af 348) [.ref c.ca] H) Q X:=by
 have hlen:Nat.ble (c.ai.map fun b=>V.ref b.a).length 1000=true:=by
  have:=ok.len;have:=ok.most
  refine Nat.ble_eq_true_of_le ?_
  rw[List.length_map];lia
 rw[HU]
 refine Cq.fin (Wq.seq (Wq.aH (Wq.bind (Wq.ak (Wq.ah (Wq.ld rfl (bo h) (bK (by decide)) rfl rfl (Wq.aj (Wq.d9 (gC h) (fo hlen) ?_))))))))
 refine Wq.aS (Wq.ld rfl (bo h) (bK (by decide)) rfl rfl (Wq.eP (r:=decide ((c.ai.length:Int)<c.most)) (by rw[List.length_map]) ?_))
 cases hd:decide ((c.ai.length:Int)<c.most)with
 |true=>exact Wq.seq (q1 (of_decide_eq_true hd))
 |false=>
  have hd:=of_decide_eq_false hd
  obtain⟨b0,hb0,hfree⟩:=hf.resolve_left hd
  refine Wq.seq (Wq.fG (a:=c.row) (xs:=c.ai.map fun b:Bf=>V.ref b.a) (fun k st=>(bp (iJ fun x y z w v=>st.lo=[some (.ref c.ca),x,y,z,w,v]) (Holds st.H (DC s c F)) (∀ i b,i<k->c.ai[i]? =some b->b.free=false))) hlen
   (Wq.ld rfl (bo h) (bK (by decide)) rfl rfl ⟨rfl,gC h,⟨_,_,_,_,_,rfl⟩,h,fun i b hi=>absurd hi (Nat.not_lt_zero _)⟩) (fun k st I=>gC I.2) (fun k x st hx I=>?_) fun st I=>?_)
  ·obtain⟨⟨x1,y1,z1,w1,v1,hl⟩,h,hnf⟩:=I
   obtain⟨lo,H⟩:=st
   subst hl
   rw[List.getElem?_map]at hx
   obtain⟨b,hb,rfl⟩:=Option.map_eq_some_iff.mp hx
   obtain⟨l1,l2,e,hk⟩:=M6 hb
   have h:=h.app [O.tuple [.int k,.ref b.a]]
   refine Wq.fW mi (Wq.av (Wq.av ?_))
   have hB:=cW e h
   refine Wq.seq (Wq.aH (Wq.bind (Wq.aI wo rfl rfl (Wq.ae rfl ⟨rfl,bS hB,Wq.aj (wF hB (Wq.truth ?_))⟩))))
   cases hfr:b.free with
   |false=>
    refine Wq.dj ?_
    refine⟨⟨_,_,_,_,_,rfl⟩,h,fun i b' hi e'=>?_⟩
    by_cases hik:i=k
    ·subst hik;rw[hb]at e';cases e';exact hfr
    ·exact hnf i b' (by lia) e'
   |true=>
    have hm:b∈c.ai:=by rw[e];exact List.mem_append_right _ (.head _)
    have hlk:c.bn.lookup b.n=some (.ref b.a):=by simp only[ok.bn,e,gV (by rw[<-e];exact ok.ai.nd)];rfl
    refine Wq.seq (Wq.bind (Wq.ld rfl (bo h) (bK (by decide)) rfl rfl (Wq.bind (Wq.ld rfl (bS hB) (cG (by decide)) rfl rfl (Wq.bind (Wq.delD (iB h) (ok.key.lim ok.dk.b.2) hlk ?_))))))
    have h2:=h.iA (.dict (dY c.bn b.n))
    refine Wq.seq (Wq.bind (Wq.ld rfl (h2.on _ (.head _)) (bK (by decide)) rfl rfl (Wq.bind (Wq.ae rfl (Wq.bind (Wq.M4 (k:=k) (h2.on _ (.tail _ (.head _))) (fo hlen) ?_ ?_))))))
    ·simp only[List.length_map,e,List.length_append,List.length_cons];lia
    ·refine q2 _ l1 l2 b e hfr ?_
     have:=M5 h e
     rw[hk]at this
     exact this
  ·obtain⟨_,_,hnf⟩:=I
   obtain⟨i,hi⟩:=List.getElem?_of_mem hb0
   have:=hnf i b0 (by rw[List.length_map];exact(List.getElem?_eq_some_iff.mp hi).1) hi
   rw[hfree]at this;contradiction
end
section
variable {s:Dk} {c:Ch} {F:List Cl} {H:Hp} {n:Nat} {Q:V->Hp->Prop} {X:Addr->Hp->Prop} {l1 l2:List Bf} {b:Bf}
theorem M8{t:Nat}{x:Int}{o:List UInt8}(h:Holds H ((t,.inst 302 [])::F))(hl:o.length<=lim)(q:∀ H' d,Holds H' (bM ⟨t,d,x,o,0,0⟩++F)->Q .none H'):Cq (Rn 1 n (.af 222) [.ref t,.int x,.bytes o] H) Q X:=by
 rw[G8]
 refine Cq.fin (Wq.seq (Wq.ao (Wq.ae rfl (Wq.bind (Wq.ae rfl (Wq.md h.hd (cG (by decide)) rfl (h.cO (.inst 302 [(24,.int x)])) fun H h=>?_))))))
 refine Wq.seq (Wq.ao (Wq.ak (Wq.ah (Wq.ae rfl (Wq.aj (Wq.MQ hl h fun H d h=>?_))))))
 refine Wq.bind (Wq.ae rfl (Wq.md (h.on _ (.tail _ (.head _))) (cG (by decide)) rfl (h.dT (.inst 302 [(24,.int x),(39,.ref d)])) fun H h=>?_))
 refine Wq.seq (Wq.ao (Wq.pure (Wq.bind (Wq.ae rfl (Wq.md (h.on _ (.tail _ (.head _))) (cG (by decide)) rfl (h.dT (.inst 302 [(24,.int x),(39,.ref d),(40,.int 0)])) fun H h=>?_)))))
 refine Wq.seq (Wq.ao (Wq.pure (Wq.bind (Wq.ae rfl (Wq.md (h.on _ (.tail _ (.head _))) (cG (by decide)) rfl (h.dT (ki ⟨t,d,x,o,0,0⟩)) fun H h=>?_)))))
 exact q _ d (h.perm (List.Perm.swap _ _ _))
structure Got(s:Dk)(c c':Ch)(l1 l2:List Bf)(b:Bf)(x:Int):Prop where
 e:c'.ai=l1++b::l2
 num:b.n=x
 held:b.h=1
 dat:b.x=match c.ai.find? (fun b=>b.n==x)with |some b0=>b0.x |none=>aT s x
 pins:b.p=match c.ai.find? (fun b=>b.n==x)with |some b0=>b0.p |none=>0
 ok:bl s c'
 old:∀ b'∈l1++l2,b'∈c.ai∧b'.n≠x
 keep:∀ b'∈c.ai,b'.n≠x->b'.p≠0->b'∈l1++l2
 ca:c'.ca=c.ca
 most:c'.most=c.most
noncomputable def Ch.hit (c:Ch):Ch:={c with hits:=c.hits+1}
theorem M9{l1 l2:List Bf}{b b':Bf}{k:Int}(e:b'.n=b.n):((l1++b'::l2).find? fun x=>x.n==k).map (fun b=>V.ref b.a)=if b.a=b'.a then ((l1++b::l2).find? fun x=>x.n==k).map (fun b=>V.ref b.a)else ((l1++b'::l2).find? fun x=>x.n==k).map (fun b=>V.ref b.a):=by
 split
 ·rename_i ha
  simp only[List.find?_append,List.find?_append]
  cases l1.find? (fun x=>x.n==k)with
  |some y=>rfl
  |none=>
   simp only[Option.none_or,List.find?_cons,e]
   cases b.n==k<;>simp[ha]
 ·rfl
theorem me.swap{l1 l2:List Bf}{b b':Bf}(h:me s (l1++b::l2))(e:b'.n=b.n)(ex:(b'.x.length:Int)=s.S)(ep:0<=b'.p):me s (l1++b'::l2):=by
 have mem:∀ {y},y∈l1++b'::l2->y=b'∨y∈l1++b::l2:=fun {y} hy=>by
  rcases List.mem_append.mp hy with hy |hy
  ·exact .inr (List.mem_append_left _ hy)
  ·cases hy with
   |head=>exact .inl rfl
   |tail _ hy=>exact .inr (List.mem_append_right _ (.tail _ hy))
 have hb:b∈l1++b::l2:=List.mem_append_right _ (.head _)
 refine⟨?_,fun y hy=>?_,fun y hy=>?_,fun y hy=>?_⟩
 ·have:=h.nd
  simp only[List.map_append,List.map_cons]at this ⊢
  rw[e];exact this
 ·rcases mem hy with rfl |hy
  ·rw[e];exact h.r b hb
  ·exact h.r y hy
 ·rcases mem hy with rfl |hy
  ·exact ex
  ·exact h.z y hy
 ·rcases mem hy with rfl |hy
  ·exact ep
  ·exact h.p y hy
theorem bl.swap{l1 l2:List Bf}{b b':Bf}(ok:bl s c)(e:c.ai=l1++b::l2)(e1:b'.n=b.n)(e2:b'.a=b.a)(ex:(b'.x.length:Int)=s.S)(ep:0<=b'.p)(cl:b'.p=0->b'.h=0->b'.x=aT s b'.n):bl s (c.with (l1++b'::l2)) where
 dk:=ok.dk
 ai:=by have:=ok.ai;rw[e]at this;exact this.swap e1 ex ep
 clean y hy:=by
  rcases List.mem_append.mp hy with hy |hy
  ·exact ok.clean y (by rw[e];exact List.mem_append_left _ hy)
  ·cases hy with
   |head=>exact cl
   |tail _ hy=>exact ok.clean y (by rw[e];exact List.mem_append_right _ (.tail _ hy))
 bn k:=by
  show c.bn.lookup k=((l1++b'::l2).find? fun x=>x.n==k).map fun b=>V.ref b.a
  rw[M9 (b:=b) e1,if_pos e2.symm,<-e]
  exact ok.bn k
 key:=ok.key
 len:=by
  have:=ok.len
  rw[e]at this
  show((l1++b'::l2).length:Int)<=c.most
  simp only[List.length_append,List.length_cons]at this ⊢
  exact this
 most:=ok.most
 size:=ok.size
end
section
variable {s:Dk} {c:Ch} {F:List Cl} {H:Hp} {n:Nat} {Q:V->Hp->Prop} {X:Addr->Hp->Prop} {l1 l2:List Bf} {b:Bf}
noncomputable def Ch.mj (c:Ch):Ch:={c with reads:=c.reads+1}
noncomputable def Ch.add (c:Ch) (b:Bf):Ch:={c with ai:=c.ai++[b],bn:=dput c.bn b.n (.ref b.a)}
theorem iD{α:Type}{E X F:List α}:(X++(E++F)).Perm (E++(X++F)):=by
 rw[<-List.append_assoc,<-List.append_assoc]
 exact List.perm_append_comm.append_right F
theorem M'(h:Holds H ((b.a,ki b)::(b.d,.bx b.x)::(c.ca,dI s c)::(c.row,cY (c.ai++[b]))::(c.bT,.dict (dput c.bn b.n (.ref b.a)))::(c.ai.flatMap bM++(aW s++F)))):Holds H (DC s (c.add b) F):=by
 have h:Holds H (bM b++(((c.ca,dI s c)::(c.row,cY (c.ai++[b]))::(c.bT,.dict (dput c.bn b.n (.ref b.a)))::c.ai.flatMap bM)++(aW s++F))):=h
 have h:=h.perm iD
 have e:DC s (c.add b) F=((c.ca,dI s c)::(c.row,cY (c.ai++[b]))::(c.bT,.dict (dput c.bn b.n (.ref b.a)))::c.ai.flatMap bM)++(bM b++(aW s++F)):=by
  show((c.ca,dI s c)::(c.row,cY (c.ai++[b]))::(c.bT,O.dict (dput c.bn b.n (.ref b.a)))::(c.ai++[b]).flatMap bM)++(aW s++F)=_
  simp only[List.flatMap_append,List.flatMap_cons,List.flatMap_nil,List.append_nil]
  simp only[List.cons_append,List.append_assoc]
 simp only[e];exact h
theorem Pn{es:List (Int×V)}{k:Int}{v:V}(h:es.lookup k=none):dput es k v=es++[(k,v)]:=by
 unfold dput;rw[h];rfl
theorem bl.add(ok:bl s c)(hn:c.ai.find? (fun y=>y.n==b.n)=none)(hl:(c.ai.length:Int)<c.most)(r:0<=b.n∧b.n<s.B)(z:(b.x.length:Int)=s.S)(hp:0<=b.p)(cl:b.p=0->b.h=0->b.x=aT s b.n):bl s (c.add b) where
 dk:=ok.dk
 ai:=by
  have mem:∀ {y},y∈c.ai++[b]->y=b∨y∈c.ai:=fun {y} hy=>by
   rcases List.mem_append.mp hy with hy |hy
   ·exact .inr hy
   ·simp at hy;exact .inl hy
  refine⟨?_,fun y hy=>?_,fun y hy=>?_,fun y hy=>?_⟩
  ·show((c.ai++[b]).map (·.n)).Nodup
   rw[List.map_append,List.nodup_append]
   refine⟨ok.ai.nd,by simp,fun a ha k hk=>?_⟩
   simp at hk
   subst hk
   rintro rfl
   obtain⟨y,hy,e⟩:=List.mem_map.mp ha
   have:=List.find?_eq_none.mp hn y hy
   simp[e]at this
  ·rcases mem hy with rfl |hy
   ·exact r
   ·exact ok.ai.r y hy
  ·rcases mem hy with rfl |hy
   ·exact z
   ·exact ok.ai.z y hy
  ·rcases mem hy with rfl |hy
   ·exact hp
   ·exact ok.ai.p y hy
 clean y hy:=by
  rcases List.mem_append.mp hy with hy |hy
  ·exact ok.clean y hy
  ·simp at hy;subst hy;exact cl
 bn k:=by
  show(dput c.bn b.n (.ref b.a)).lookup k=((c.ai++[b]).find? fun x=>x.n==k).map fun b=>V.ref b.a
  rw[gU,ok.bn,List.find?_append]
  by_cases hk:k=b.n
  ·subst hk;rw[if_pos rfl,hn];simp
  ·rw[if_neg hk]
   have:(b.n==k)=false:=by simpa using Ne.symm hk
   cases c.ai.find? (fun y=>y.n==k)<;>simp[this]
 key:=ok.key.put r.1 r.2 _
 len:=by
  show((c.ai++[b]).length:Int)<=c.most
  rw[List.length_append];simp;lia
 most:=ok.most
 size:=ok.size
theorem Na(es:List (Int×V))(k j:Int):(dY es k).lookup j=if j=k then none else es.lookup j:=by
 unfold dY
 induction es with
 |nil=>simp
 |cons p r ih=>
  obtain⟨a,w⟩:=p
  rw[List.filter_cons]
  by_cases ha:a=k
  ·rw[if_neg (by simp[ha]),ih,List.lookup_cons]
   by_cases hj:j=k
   ·rw[if_pos hj,if_pos hj]
   ·have:(j==a)=false:=by rw[ha];simpa using hj
    rw[if_neg hj,if_neg hj,this]
  ·rw[if_pos (by simp[ha]),List.lookup_cons,List.lookup_cons,ih]
   by_cases hj:j=k
   ·have:(j==a)=false:=by rw[hj];simpa using Ne.symm ha
    rw[this,if_pos hj]
   ·rw[if_neg hj,if_neg hj]
theorem wN{l1 l2:List Bf}{b:Bf}(nd:((l1++b::l2).map (·.n)).Nodup)(k:Int):(l1++l2).find? (fun x=>x.n==k)=if k=b.n then none else (l1++b::l2).find? (fun x=>x.n==k):=by
 rw[List.map_append,List.map_cons]at nd
 have n1:=List.nodup_append.mp nd
 have n2:=List.nodup_cons.mp n1.2.1
 by_cases hk:k=b.n
 ·rw[if_pos hk,List.find?_eq_none]
  intro y hy e
  have e:y.n=k:=by simpa using e
  rcases List.mem_append.mp hy with hy |hy
  ·exact n1.2.2 y.n (List.mem_map_of_mem hy) b.n (.head _) (e.trans hk)
  ·exact n2.1 (List.mem_map.mpr ⟨y,hy,e.trans hk⟩)
 ·rw[if_neg hk,List.find?_append,List.find?_append,List.find?_cons]
  have:(b.n==k)=false:=by simpa using Ne.symm hk
  rw[this]
theorem bl.gone(ok:bl s c)(e:c.ai=l1++b::l2):bl s (c.gone l1 l2 b) where
 dk:=ok.dk
 ai:=by
  have sub:∀ y∈l1++l2,y∈c.ai:=fun y hy=>by
   rw[e]
   rcases List.mem_append.mp hy with hy |hy
   ·exact List.mem_append_left _ hy
   ·exact List.mem_append_right _ (.tail _ hy)
  refine⟨?_,fun y hy=>ok.ai.r y (sub y hy),fun y hy=>ok.ai.z y (sub y hy),fun y hy=>ok.ai.p y (sub y hy)⟩
  have:=ok.ai.nd
  rw[e]at this
  refine List.Sublist.nodup (List.Sublist.map _ ?_) this
  exact List.Sublist.append (List.Sublist.refl _) (List.sublist_cons_self _ _)
 clean y hy:=ok.clean y (by
  rw[e]
  rcases List.mem_append.mp hy with hy |hy
  ·exact List.mem_append_left _ hy
  ·exact List.mem_append_right _ (.tail _ hy))
 bn k:=by
  show(dY c.bn b.n).lookup k=((l1++l2).find? fun x=>x.n==k).map fun b=>V.ref b.a
  rw[Na,ok.bn,wN (b:=b) (by rw[<-e];exact ok.ai.nd),<-e]
  split<;>rfl
 key:=by
  have sl:(dY c.bn b.n).Sublist c.bn:=List.filter_sublist
  exact⟨(sl.map _).nodup ok.key.nd,fun k hk=>ok.key.r k ((sl.map _).subset hk)⟩
 len:=by
  have:=ok.len
  rw[e]at this
  show((l1++l2).length:Int)<=c.most
  simp only[List.length_append,List.length_cons]at this ⊢
  lia
 most:=ok.most
 size:=ok.size
end
section
variable {s:Dk} {c:Ch} {F:List Cl} {H:Hp} {n:Nat} {Q:V->Hp->Prop} {X:Addr->Hp->Prop} {l1 l2:List Bf} {b:Bf}
theorem Nb(h:Holds H (DC s c F))(ok:bl s c){x:Int}(h1:0<=x)(h2:x<s.B)(hn:c.ai.find? (fun y=>y.n==x)=none)(hl:(c.ai.length:Int)<c.most){v3:Option V}{Q:Fl->St->Prop}
  (q:∀ H' t d,bl s (c.mj.add ⟨t,d,x,aT s x,0,0⟩)->Holds H' (DC s (c.mj.add ⟨t,d,x,aT s x,0,0⟩) F)->Q .next ⟨[some (.ref c.ca),some (.int x),some (.ref t),v3],H'⟩) {w:Option V}:
  Wq (aD [ao (ak P0 (Rn 2 n) (V.af 302) [ae 1,aB P0 (Rn 2 n) ((ae 0)>>=gA P0 6) "read" [ae 1]]) (av 2),(ae 0)>>=fun o=>gA P0 49 o>>=fun a=>(pure (V.int 1))>>=fun b=>bF .Add a b>>=fun r=>sA P0 49 o r>>=fun _=>pure .next,ao (ae 2) (fun v=>((ae 0)>>=gA P0 47)>>=fun o=>(ae 1)>>=fun i=>bA o i v),az (aB P0 (Rn 2 n) ((ae 0)>>=gA P0 46) "append" [ae 2])] ⟨[some (.ref c.ca),some (.int x),w,v3],H⟩) Q X:=by
 have hz:=px ok.dk x
 refine Wq.seq (Wq.ao (Wq.ak (Wq.ah (Wq.ae rfl (Wq.ah (Wq.aI wt rfl rfl (Wq.ld rfl (bo h) (bK (by decide)) rfl rfl ⟨rfl,cz (fX h),Wq.ah (Wq.ae rfl (Wq.aj (wu (fX h) h1 h2 ⟨ok.dk.z.1,wM ok.dk.z.2⟩ (Wq.aj ?_))))⟩)))))))
 simp only[wy ok.dk]
 have hlen:(c.ai.map fun b=>V.ref b.a).length<lim:=by
  have:=ok.len;have:=ok.most
  simp only[List.length_map];unfold lim;lia
 refine Wq.v9 (init:=222) rfl (M8 (h.new _) (jf hz ok.dk.z.2) fun H d h=>⟨rfl,Wq.av ?_⟩)
 generalize hb:(⟨_,d,x,aT s x,0,0⟩:Bf)=b at h
 have ha:V.ref b.a=V.ref b.a:=rfl
 subst hb
 refine Wq.seq (Wq.gB rfl (h.on _ (.tail _ (.tail _ (.head _)))) (bK (by decide)) rfl rfl (h.iA (dI s c.mj)) fun H h=>?_)
 refine Wq.seq (Wq.ao (Wq.ae rfl (Wq.bind (Wq.ld rfl (h.on _ (.tail _ (.tail _ (.head _)))) (bK (by decide)) rfl rfl (Wq.bind (Wq.ae rfl (Wq.kf (h.on _ (.tail _ (.tail _ (.tail _ (.tail _ (.head _)))))) (ok.key.lim ok.dk.b.2) (Holds.setAt (l1:=[_,_,_,_]) h _) fun H h=>?_)))))))
 refine Wq.seq (Wq.az (Wq.append (Wq.ld rfl (h.on _ (.tail _ (.tail _ (.head _)))) (bK (by decide)) rfl rfl ⟨rfl,h.on _ (.tail _ (.tail _ (.tail _ (.head _)))),Wq.ae rfl ⟨h.on _ (.tail _ (.tail _ (.tail _ (.head _)))),hlen,?_⟩⟩)))
 refine q _ _ d ?_ ?_
 ·exact bl.add (c:=c.mj) ⟨ok.dk,ok.ai,ok.clean,ok.bn,ok.key,ok.len,ok.most,ok.size⟩ hn hl ⟨h1,h2⟩ hz (Int.le_refl 0) fun _ _=>rfl
 ·refine M' ?_
  unfold cY
  simp only[List.map_append]
  exact h.wa _
end
section
variable {s:Dk} {c:Ch} {F:List Cl} {H:Hp} {n:Nat} {Q:V->Hp->Prop} {X:Addr->Hp->Prop} {l1 l2:List Bf} {b:Bf}
theorem wO(h:Holds H (DC s c F))(e:c.ai=l1++b::l2)(hh:b.h=0){w0 w1 w3:Option V}(q:∀ H',Holds H' (DC s (c.with (l1++b.hold 1::l2)) F)->Q (.ref b.a) H'):
  Wq (aD [(ae 2)>>=fun o=>gA P0 40 o>>=fun a=>(pure (V.int 1))>>=fun b=>bF .Add a b>>=fun r=>sA P0 40 o r>>=fun _=>pure .next,aE (ae 2)] ⟨[w0,w1,some (.ref b.a),w3],H⟩) (eN Q) X:=by
 have hb:=cW e h
 have h1:b.h+1=1:=by rw[hh];rfl
 refine Wq.seq (Wq.gB (c':=bM (b.hold (b.h+1))++gW s c l1 l2 b F) rfl (bS hb) (cG (by decide)) rfl rfl (hb.cO _) fun H h=>?_)
 rw[h1]at h
 unfold dS
 refine Wq.seq (Wq.aE (Wq.ae rfl ?_))
 exact q _ (iC (b:=b) rfl h)
theorem mem_mid{y:Bf}(h:y∈l1++l2):y∈l1++b::l2:=by
 rcases List.mem_append.mp h with h |h
 ·exact List.mem_append_left _ h
 ·exact List.mem_append_right _ (.tail _ h)
theorem pE{y:Bf}(h:y∈l1++b::l2)(ne:y.n≠b.n):y∈l1++l2:=by
 rcases List.mem_append.mp h with h |h
 ·exact List.mem_append_left _ h
 ·cases h with
  |head=>exact absurd rfl ne
  |tail _ h=>exact List.mem_append_right _ h
theorem Nc(nd:((l1++b::l2).map (·.n)).Nodup){y:Bf}(h:y∈l1++l2):y.n≠b.n:=by
 simp only[List.map_append,List.map_cons]at nd
 have n1:=List.nodup_append.mp nd
 have n2:=List.nodup_cons.mp n1.2.1
 rcases List.mem_append.mp h with h |h
 ·exact fun e=>n1.2.2 y.n (List.mem_map_of_mem h) b.n (.head _) e
 ·exact fun e=>n2.1 (List.mem_map.mpr ⟨y,h,e⟩)
theorem pF(h:Holds H (DC s c F))(ok:bl s c)(idle:∀ b∈c.ai,b.h=0){x:Int}(h1:0<=x)(h2:x<s.B)(hf:(c.ai.length:Int)<c.most∨∃ b∈c.ai,b.free=true)
  (q:∀ H' c' l1 l2 b,Got s c c' l1 l2 b x->Holds H' (DC s c' F)->Q (.ref b.a) H'):Cq (Rn 3 n (.af 341) [.ref c.ca,.int x] H) Q X:=by
 rw[HM]
 refine Cq.fin (Wq.seq (Wq.az (Wq.aI Mt rfl rfl (Wq.ae rfl ⟨rfl,bo h,Wq.ah (Wq.ae rfl (Wq.aj (MT h h1 h2 ?_)))⟩))))
 refine Wq.seq (Wq.ao (Wq.dictGet (Wq.ld rfl (bo h) (bK (by decide)) rfl rfl ⟨rfl,iB h,Wq.ah (Wq.ae rfl (Wq.aj ⟨iB h,.inl ⟨_,rfl,Wq.av ?_⟩⟩))⟩)))
 cases hfd:c.ai.find? (fun y=>y.n==x)with
 |some b0=>
  obtain⟨rfl,l1,l2,e⟩:=wH hfd
  have hm:b0∈c.ai:=List.mem_of_find?_eq_some hfd
  rw[wL ok e]
  refine Wq.seq (Wq.aH (Wq.bind (Wq.ae rfl (Wq.aS (Wq.pure (wK ?_))))))
  refine Wq.seq (Wq.gB (c':=DC s c.hit F) rfl (bo h) (bK (by decide)) rfl rfl (h.cO _) fun H h=>?_)
  refine wO (c:=c.hit) h e (idle b0 hm) fun H h=>q _ _ l1 l2 (b0.hold 1) ?_ h
  have okh:bl s c.hit:=⟨ok.dk,ok.ai,ok.clean,ok.bn,ok.key,ok.len,ok.most,ok.size⟩
  refine⟨rfl,rfl,rfl,by rw[hfd];rfl,by rw[hfd];rfl,okh.swap e rfl rfl (ok.ai.z b0 hm) (ok.ai.p b0 hm) (fun _ z=>nomatch z),fun y hy=>⟨by rw[e];exact mem_mid hy,Nc (by rw[<-e];exact ok.ai.nd) hy⟩,fun y hy hn _=>pE (b:=b0) (by rw[<-e];exact hy) hn,rfl,rfl⟩
 |none=>
  have hg:(cR c.bn x).getD V.none=.none:=by unfold cR;simp only[ok.bn,hfd];rfl
  rw[hg]
  refine Wq.seq (Wq.aH (Wq.bind (Wq.ae rfl (Wq.aS (Wq.pure (M0 ?_))))))
  have fin:∀ (c1:Ch) (H:Hp),c1.ca=c.ca->c1.most=c.most->Holds H (DC s c1 F)->bl s c1->c1.ai.find? (fun y=>y.n==x)=none->(c1.ai.length:Int)<c1.most->(∀ y∈c1.ai,y∈c.ai)->(∀ y∈c.ai,y.p≠0->y∈c1.ai)->
    dS [ao (ak P0 (Rn 2 n) (V.af 302) [ae 1,aB P0 (Rn 2 n) ((ae 0)>>=gA P0 6) "read" [ae 1]]) (av 2),(ae 0)>>=fun o=>gA P0 49 o>>=fun a=>(pure (V.int 1))>>=fun b=>bF .Add a b>>=fun r=>sA P0 49 o r>>=fun _=>pure .next,ao (ae 2) (fun v=>((ae 0)>>=gA P0 47)>>=fun o=>(ae 1)>>=fun i=>bA o i v),az (aB P0 (Rn 2 n) ((ae 0)>>=gA P0 46) "append" [ae 2])]
     (dS [(ae 2)>>=fun o=>gA P0 40 o>>=fun a=>(pure (V.int 1))>>=fun b=>bF .Add a b>>=fun r=>sA P0 40 o r>>=fun _=>pure .next,aE (ae 2)] (eN Q) X) X .next ⟨[some (.ref c.ca),some (.int x),some .none,none],H⟩:=by
   intro c1 H ec em h ok1 hn hl hs hk
   rw[<-ec]
   refine Nb h ok1 h1 h2 hn hl fun H t d ok2 h=>?_
   refine wO (l1:=c1.ai) (l2:=[]) (b:=⟨t,d,x,aT s x,0,0⟩) h rfl rfl fun H h=>q _ _ c1.ai [] (Bf.hold ⟨t,d,x,aT s x,0,0⟩ 1) ?_ h
   refine⟨rfl,rfl,rfl,by rw[hfd];rfl,by rw[hfd];rfl,ok2.swap rfl rfl rfl (px ok.dk x) (Int.le_refl 0) (fun _ z=>nomatch z),fun y hy=>?_,fun y hy hn' hp=>?_,ec,em⟩
   ·rw[List.append_nil]at hy
    refine⟨hs y hy,fun z=>?_⟩
    have:=List.find?_eq_none.mp hn y hy
    simp[z]at this
   ·rw[List.append_nil];exact hk y hy hp
  refine Wq.seq (Wq.az (Wq.aI Mu rfl rfl (Wq.ae rfl ⟨rfl,bo h,Wq.aj (M7 h ok hf (fun hl=>?_) fun H l1 l2 b e hfr h=>?_)⟩)))
  ·exact fin c H rfl rfl h ok hfd hl (fun _ hy=>hy) fun _ hy _=>hy
  ·refine fin (c.gone l1 l2 b) H rfl rfl h (ok.gone e) ?_ ?_ (fun y hy=>by rw[e];exact mem_mid hy) fun y hy hp=>?_
   ·show(l1++l2).find? _=none
    simp only[wN (b:=b) (by rw[<-e];exact ok.ai.nd),<-e,hfd]
    split<;>rfl
   ·have:=ok.len
    rw[e]at this
    show((l1++l2).length:Int)<c.most
    simp only[List.length_append,List.length_cons]at this ⊢
    lia
   ·have hb:b.p=0:=by
     unfold Bf.free at hfr
     exact of_decide_eq_true (Bool.and_eq_true_iff.mp hfr).2
    refine pE (b:=b) (by rw[<-e];exact hy) fun z=>hp ?_
    have e1:=gV (l1:=l1) (l2:=l2) (b:=b) (by rw[<-e];exact ok.ai.nd)
    obtain⟨m1,m2,e2⟩:=List.append_of_mem hy
    have e3:=gV (l1:=m1) (l2:=m2) (b:=y) (by rw[<-e2];exact ok.ai.nd)
    simp only[<-e2,z,e]at e3
    rw[e1]at e3
    obtain rfl:=Option.some.inj e3
    exact hb
end
noncomputable def view (s:Dk) (c:Ch) (k:Int):List UInt8:=match c.ai.find? fun b=>b.n==k with
 |some b=>b.x
 |none=>aT s k
noncomputable def aN (c:Ch) (k:Int):Int:=match c.ai.find? fun b=>b.n==k with
 |some b=>b.p
 |none=>0
structure Rest(s:Dk)(c:Ch):Prop where
 ok:bl s c
 idle:∀ b∈c.ai,b.h=0
noncomputable def fq (c:Ch):Prop:=∃ ns:List Int,(ns.length:Int)<c.most∧∀ k,aN c k≠0->k∈ns
section
variable {s:Dk} {c c':Ch} {F:List Cl} {H:Hp} {n:Nat} {Q:V->Hp->Prop} {X:Addr->Hp->Prop} {l1 l2:List Bf} {b:Bf}
theorem iE{l:List Bf}(nd:(l.map (·.n)).Nodup)(h:b∈l):l.find? (fun x=>x.n==b.n)=some b:=by
 obtain⟨l1,l2,e⟩:=List.append_of_mem h
 rw[e]at nd ⊢
 exact gV nd
theorem pG{l ns:List Int}(nd:l.Nodup)(h:∀ k∈l,k∈ns):l.length<=ns.length:=by
 induction l generalizing ns with
 |nil=>simp
 |cons a r ih=>
  obtain⟨n1,n2⟩:=List.nodup_cons.mp nd
  have ha:=h a (.head _)
  have:=ih (ns:=ns.erase a) n2 fun k hk=>by
   have hne:k≠a:=fun e=>n1 (e▸hk)
   exact(List.mem_erase_of_ne hne).mpr (h k (.tail _ hk))
  simp only[List.length_erase_of_mem ha]at this
  have:=List.length_pos_of_mem ha
  simp only[List.length_cons]
  lia
theorem pH(r:Rest s c)(f:fq c):(c.ai.length:Int)<c.most∨∃ b∈c.ai,b.free=true:=by
 obtain⟨ns,h1,h2⟩:=f
 by_cases hx:∃ b∈c.ai,b.free=true
 ·exact .inr hx
 ·left
  have:(c.ai.map (·.n)).length<=ns.length:=pG r.ok.ai.nd fun k hk=>by
   obtain⟨b,hb,rfl⟩:=List.mem_map.mp hk
   refine h2 _ fun z=>hx ⟨b,hb,?_⟩
   unfold aN at z
   rw[iE r.ok.ai.nd hb]at z
   delta Bf.free
   simp only[decide_eq_true (r.idle b hb),decide_eq_true z];rfl
  rw[List.length_map]at this
  lia
theorem Got.find{x:Int}(r:Rest s c)(g:Got s c c' l1 l2 b x)(k:Int)(hk:k≠x):view s c' k=view s c k∧aN c' k=aN c k:=by
 have nd':=g.ok.ai.nd
 have nd:=r.ok.ai.nd
 delta view aN
 cases e:c'.ai.find? (fun b=>b.n==k)with
 |some b'=>
  have hm:=List.mem_of_find?_eq_some e
  have hn:b'.n=k:=by simpa using List.find?_some e
  rw[g.e]at hm
  have hm:=pE (b:=b) hm (by simp only[hn,g.num];exact hk)
  have:=iE nd (g.old b' hm).1
  rw[hn]at this
  rw[this];exact⟨rfl,rfl⟩
 |none=>
  cases e2:c.ai.find? (fun b=>b.n==k)with
  |none=>exact⟨rfl,rfl⟩
  |some b0=>
   have hm:=List.mem_of_find?_eq_some e2
   have hn:b0.n=k:=by simpa using List.find?_some e2
   have hp:b0.p=0:=by
    rcases Int.decEq b0.p 0 with hp |hp
    ·have:=g.keep b0 hm (by rw[hn];exact hk) hp
     have hm':b0∈c'.ai:=by rw[g.e];exact mem_mid this
     have:=List.find?_eq_none.mp e b0 hm'
     simp[hn]at this
    ·exact hp
   have:=r.ok.clean b0 hm hp (r.idle b0 hm)
   rw[hn]at this
   exact⟨this.symm,hp.symm⟩
theorem Got.kj{x:Int}(g:Got s c c' l1 l2 b x):b.x=view s c x:=g.dat
theorem Got.km{x:Int}(g:Got s c c' l1 l2 b x):b.p=aN c x:=g.pins
theorem pI{x:Int}(r:Rest s c)(g:Got s c c' l1 l2 b x){s':Dk}{b':Bf}(e1:b'.n=b.n)(e3:b'.h=0)(ok:bl s' (c'.with (l1++l2++[b'])))(hs:∀ k,k≠x->aT s' k=aT s k):
  Rest s' (c'.with (l1++l2++[b']))∧∀ k,view s' (c'.with (l1++l2++[b'])) k=(if k=x then b'.x else view s c k)∧aN (c'.with (l1++l2++[b'])) k=if k=x then b'.p else aN c k:=by
 refine⟨⟨ok,fun y hy=>?_⟩,fun k=>?_⟩
 ·rcases List.mem_append.mp hy with hy |hy
  ·exact r.idle y (g.old y hy).1
  ·simp at hy;subst hy;exact e3
 ·have ex:b'.n=x:=e1.trans g.num
  by_cases hk:k=x
  ·simp only[if_pos hk,if_pos hk]
   have:(c'.with (l1++l2++[b'])).ai.find? (fun y=>y.n==k)=some b':=by
    have hb:b'∈(c'.with (l1++l2++[b'])).ai:=List.mem_append_right _ (.head _)
    have:=iE ok.ai.nd hb
    simp only[ex,<-hk]at this
    exact this
   delta view aN
   rw[this];exact⟨rfl,rfl⟩
  ·simp only[if_neg hk,if_neg hk]
   have hf:(c'.with (l1++l2++[b'])).ai.find? (fun y=>y.n==k)=c'.ai.find? (fun y=>y.n==k):=by
    show(l1++l2++[b']).find? _=_
    have h1:(b'.n==k)=false:=by simp only[ex];simpa using Ne.symm hk
    have h2:(b.n==k)=false:=by simp only[g.num];simpa using Ne.symm hk
    simp only[g.e,List.find?_append,List.find?_append,List.find?_append,List.find?_cons,List.find?_cons,h1,h2]
    cases l1.find? (fun y=>y.n==k)<;>simp
   obtain⟨v1,v2⟩:=g.find r k hk
   constructor
   ·simp only[<-v1]
    delta view
    simp only[hf,hs k hk]
   ·simp only[<-v2]
    delta aN
    simp only[hf]
end
section
variable {s:Dk} {c c':Ch} {F:List Cl} {H:Hp} {n:Nat} {Q:V->Hp->Prop} {X:Addr->Hp->Prop} {l1 l2:List Bf} {b:Bf}
theorem find_perm{l l':List Bf}(nd:(l.map (·.n)).Nodup)(p:l.Perm l')(k:Int):l'.find? (fun x=>x.n==k)=l.find? fun x=>x.n==k:=by
 have nd':(l'.map (·.n)).Nodup:=(p.map _).nodup_iff.mp nd
 cases e:l.find? (fun x=>x.n==k)with
 |some b=>
  have hm:=List.mem_of_find?_eq_some e
  have hn:b.n=k:=by simpa using List.find?_some e
  have:=iE nd' (p.mem_iff.mp hm)
  rw[hn]at this;exact this
 |none=>
  rw[List.find?_eq_none]at e ⊢
  exact fun x hx=>e x (p.mem_iff.mpr hx)
theorem bl.perm{l:List Bf}(ok:bl s c)(p:c.ai.Perm l):bl s (c.with l) where
 dk:=ok.dk
 ai:=⟨(p.map _).nodup_iff.mp ok.ai.nd,fun b hb=>ok.ai.r b (p.mem_iff.mpr hb),fun b hb=>ok.ai.z b (p.mem_iff.mpr hb),fun b hb=>ok.ai.p b (p.mem_iff.mpr hb)⟩
 clean b hb:=ok.clean b (p.mem_iff.mpr hb)
 bn k:=by show c.bn.lookup k=(l.find? fun x=>x.n==k).map fun b=>V.ref b.a;rw[find_perm ok.ai.nd p];exact ok.bn k
 key:=ok.key
 len:=by show(l.length:Int)<=c.most;rw[<-p.length_eq];exact ok.len
 most:=ok.most
 size:=ok.size
theorem bl.roll{b':Bf}(ok:bl s (c.with (l1++b'::l2))):bl s (c.with (l1++l2++[b'])):=by
 refine bl.perm (c:=c.with (l1++b'::l2)) ok ?_
 simp only[List.append_assoc]
 refine List.Perm.append_left _ ?_
 show([b']++l2).Perm (l2++[b'])
 exact List.perm_append_comm
theorem pJ(h:Holds H (DC s c F))(r:Rest s c)(f:fq c){x:Int}(h1:0<=x)(h2:x<s.B)
  (q:∀ H' c2,Rest s c2->(∀ k,view s c2 k=view s c k∧aN c2 k=aN c k)->c2.ca=c.ca->c2.most=c.most->Holds H' (DC s c2 F)->Q (.bytes (view s c x)) H'):Cq (Rn 4 n (.af 390) [.ref c.ca,.int x] H) Q X:=by
 rw[ID]
 refine Cq.fin (Wq.seq (Wq.ao (Wq.aI pd rfl rfl (Wq.ae rfl ⟨rfl,bo h,Wq.ah (Wq.ae rfl (Wq.aj (pF h r.ok r.idle h1 h2 (pH r f) fun H c' l1 l2 b g h=>Wq.av ?_)))⟩))))
 have hm:b∈c'.ai:=by rw[g.e];exact List.mem_append_right _ (.head _)
 have hz:=g.ok.ai.z b hm
 have hb:=cW g.e h
 refine Wq.seq (Wq.ao (Wq.aI pa rfl rfl (Wq.ae rfl ⟨rfl,bS hb,Wq.aj (pB hb (jf hz g.ok.dk.z.2) (Wq.av ?_))⟩)))
 refine Wq.seq (Wq.az (Wq.aI ma rfl rfl (Wq.ae rfl ⟨by rw[<-g.ca],bo h,Wq.ah (Wq.ae rfl (Wq.aj (mh h g.ok g.e g.held fun H h=>?_)))⟩)))
 unfold dS
 refine Wq.seq (Wq.aE (Wq.ae rfl ?_))
 have sw:=g.ok.swap (b':=b.hold 0) g.e rfl rfl hz (g.ok.ai.p b hm) (fun hp _=>?_)
 ·obtain⟨r2,e2⟩:=pI r g (b':=b.hold 0) rfl rfl sw.roll fun k _=>rfl
  show Q (.bytes b.x) H
  rw[g.kj]
  refine q H _ r2 (fun k=>?_) g.ca g.most h
  obtain⟨v1,v2⟩:=e2 k
  rw[v1,v2]
  by_cases hk:k=x
  ·rw[if_pos hk,if_pos hk,hk];exact⟨g.kj,g.km⟩
  ·rw[if_neg hk,if_neg hk];exact⟨rfl,rfl⟩
 ·have hp:b.p=0:=hp
  show b.x=aT s b.n
  rw[g.kj,g.num]
  unfold view
  cases e:c.ai.find? (fun b=>b.n==x)with
  |none=>rfl
  |some b0=>
   have h0:=List.mem_of_find?_eq_some e
   have hn:b0.n=x:=by simpa using List.find?_some e
   have:=g.pins
   rw[e]at this
   have:=r.ok.clean b0 h0 (this.symm.trans hp) (r.idle b0 h0)
   rw[hn]at this;exact this
theorem bl.wrote{t:Nat}{o:List UInt8}(ok:bl s c)(e:c.ai=l1++b::l2)(ho:(o.length:Int)=s.S)(hx:b.x=o):bl (s.wrote t b.n o) c where
 dk:=by
  have hm:b∈c.ai:=by rw[e];exact List.mem_append_right _ (.head _)
  exact ok.dk.wrote (ok.ai.r b hm).1 (ok.ai.r b hm).2 ho
 ai:=⟨ok.ai.nd,ok.ai.r,ok.ai.z,ok.ai.p⟩
 clean y hy hp hh:=by
  rw[kg]
  by_cases hn:y.n=b.n
  ·rw[if_pos hn]
   have e1:=iE ok.ai.nd hy
   have hm:b∈c.ai:=by rw[e];exact List.mem_append_right _ (.head _)
   have e2:=iE ok.ai.nd hm
   rw[hn,e2]at e1
   obtain rfl:=Option.some.inj e1;exact hx
  ·rw[if_neg hn];exact ok.clean y hy hp hh
 bn:=ok.bn
 key:=ok.key
 len:=ok.len
 most:=ok.most
 size:=ok.size
end
section
variable {s:Dk} {c c':Ch} {F:List Cl} {H:Hp} {n:Nat} {Q:V->Hp->Prop} {X:Addr->Hp->Prop} {l1 l2:List Bf} {b:Bf}
noncomputable def Bf.data (b:Bf) (o:List UInt8):Bf:={b with x:=o}
theorem bl.w1(ok:bl s c):bl s c.w1:=⟨ok.dk,ok.ai,ok.clean,ok.bn,ok.key,ok.len,ok.most,ok.size⟩
theorem pK(h:Holds H (DC s c F))(r:Rest s c)(f:fq c){x:Int}(h1:0<=x)(h2:x<s.B){o:List UInt8}(ho:(o.length:Int)=s.S)(hu:s.un.length<1000)
  (q:∀ H' t c2,Rest (s.wrote t x o) c2->(∀ k,view (s.wrote t x o) c2 k=(if k=x then o else view s c k)∧aN c2 k=aN c k)->c2.ca=c.ca->c2.most=c.most->Holds H' (DC (s.wrote t x o) c2 F)->Q .none H'):
  Cq (Rn 4 n (.af 397) [.ref c.ca,.int x,.bytes o] H) Q X:=by
 rw[IQ]
 refine Cq.fin (Wq.seq (Wq.ao (Wq.aI pd rfl rfl (Wq.ae rfl ⟨rfl,bo h,Wq.ah (Wq.ae rfl (Wq.aj (pF h r.ok r.idle h1 h2 (pH r f) fun H c' l1 l2 b g h=>Wq.av ?_)))⟩))))
 have hx:=g.num
 subst hx
 have hm:b∈c'.ai:=by rw[g.e];exact List.mem_append_right _ (.head _)
 have hz:=g.ok.ai.z b hm
 have hb:=cW g.e h
 refine Wq.seq (Wq.az (Wq.aI pb rfl rfl (Wq.ae rfl ⟨rfl,bS hb,Wq.ah (Wq.ae rfl (Wq.aj (pC hb (jf hz g.ok.dk.z.2) (Int.ofNat.inj (ho.trans hz.symm)) fun H h=>?_)))⟩)))
 have h:Holds H (DC s (c'.with (l1++b.data o::l2)) F):=iC (b:=b) (b':=b.data o) rfl h
 have hb1:(b.data o).h=1:=g.held
 have ok1:bl s (c'.with (l1++b.data o::l2)):=g.ok.swap g.e rfl rfl ho (g.ok.ai.p b hm) fun _ z=>by rw[hb1]at z;contradiction
 refine Wq.seq (Wq.az (Wq.aI Mx rfl rfl (Wq.ae rfl ⟨by rw[<-g.ca];rfl,bo h,Wq.ah (Wq.ae rfl (Wq.aj (M3 (b:=b.data o) (l1:=l1) (l2:=l2) h ok1 rfl (by rw[hb1];decide) hu fun H t h=>?_)))⟩)))
 have ok2:bl (s.wrote t b.n o) (c'.with (l1++b.data o::l2)).w1:=(ok1.wrote (b:=b.data o) rfl ho rfl).w1
 refine Wq.seq (Wq.az (Wq.aI ma rfl rfl (Wq.ae rfl ⟨by rw[<-g.ca];rfl,bo h,Wq.ah (Wq.ae rfl (Wq.aj (mh (b:=b.data o) (l1:=l1) (l2:=l2) h ok2 rfl hb1 fun H h=>?_)))⟩)))
 have g2:Got s c c'.w1 l1 l2 b b.n:=⟨g.e,g.num,g.held,g.dat,g.pins,g.ok.w1,g.old,g.keep,g.ca,g.most⟩
 have sw:=ok2.swap (b':=(b.data o).hold 0) rfl rfl rfl ho (g.ok.ai.p b hm) (fun _ _=>by rw[kg];exact(if_pos rfl).symm)
 obtain⟨r2,e2⟩:=pI r g2 (b':=(b.data o).hold 0) rfl rfl sw.roll fun k hk=>by rw[kg,if_neg hk]
 refine q H t _ r2 (fun k=>?_) g.ca g.most h
 obtain⟨v1,v2⟩:=e2 k
 rw[v1,v2]
 by_cases hk:k=b.n
 ·rw[if_pos hk,if_pos hk,if_pos hk,hk];exact⟨rfl,g.km⟩
 ·rw[if_neg hk,if_neg hk,if_neg hk];exact⟨rfl,rfl⟩
end
section
variable {X:Addr->Hp->Prop}
noncomputable def wQ (tgt:V->M Unit) (ifs:List (M Bool)) (elt:M V) (v:V):M (Option V):=tgt v>>=fun _=>allM .And ifs>>=fun ok=>if ok then (elt>>=fun y=>pure (some y))else pure none
theorem Wq.inBlock{Q:Option Unit->St->Prop}{lo lo':List (Option V)}{H:Hp}{m:M (Option Unit)}(h:Wq (m ⟨lo',H⟩) (fun a s=>Q a ⟨lo,s.H⟩) nx):Wq (Lite.inBlock lo' m ⟨lo,H⟩) Q X:=by
 unfold Lite.inBlock
 cases e:m ⟨lo',H⟩ with
 |ok a s=>rw[e]at h;exact h
 |exc c s=>rw[e]at h;exact h.elim
 |no=>rw[e]at h;exact h.elim
theorem Wq.dG{Q:V->St->Prop}{mk:List (Option V)->Option (List (Option V))}{it:M V}{tgt:V->M Unit}{ifs:List (M Bool)}{elt:M V}{lo lo':List (Option V)}{H:Hp}{c:List Cl}{items:List V}{o:Option (Nat×List V)}(g:V->Option V)(L:List (Option V)->Prop)
  (hi:Wq (it ⟨lo,H⟩) (fun v s=>(bp (s.lo=lo) (Holds s.H c) (iter v s=.ok (items,o) s))) X) (hm:mk lo=some lo') (hL:L lo') (hs:∀ st,Holds st.H c->bJ o st=.ok () st) (hl:items.length<=1000)
  (step:∀ v∈items,∀ lo1 H1,L lo1->Holds H1 c->Wq (wQ tgt ifs elt v ⟨lo1,H1⟩) (fun r s=>(bp (r=g v) (s.H=H1) (L s.lo))) nx) (q:∀ H' t,Holds H' ((t,.list (items.filterMap g))::c)->Q (.ref t) ⟨lo,H'⟩):Wq (Lite.dG P0 mk it tgt ifs elt ⟨lo,H⟩) Q X:=by
 unfold Lite.dG
 refine Wq.bind (hi.mono (fun v s p=>?_) fun _ _ p=>p)
 obtain⟨rfl,h,e⟩:=p
 obtain⟨lo,H⟩:=s
 refine Wq.bind ?_
 rw[e]
 refine Wq.bind ?_
 refine Wq.bind (Wq.dw h fun H t h=>?_)
 refine Wq.bind (Wq.ar hm (Wq.bind (Wq.inBlock ?_)))
 refine Wq.loop (fun vs st=>∃ d,(bp (items=d++vs) (L st.lo) (Holds st.H ((t,.list (d.filterMap g))::c)))) (fun vs st I=>hs st (by obtain⟨d,_,_,h⟩:=I;exact h.aX)) (fun v vs st I=>?_) (fun st I=>?_) items ⟨lo',H⟩ ⟨[],rfl,hL,h⟩
 ·obtain⟨d,ed,hl1,h⟩:=I
  obtain⟨lo1,H1⟩:=st
  have st':=step v (by rw[ed];simp) lo1 H1 hl1 h.aX
  unfold wQ at st'
  have key:Wq ((tgt v>>=fun _=>allM .And ifs>>=fun ok=>if ok then (elt>>=fun y=>bi P0 "list.append" [.ref t,y]>>=fun _=>Pure.pure none)else Pure.pure (none:Option Unit)) ⟨lo1,H1⟩)
    (fun r s=>r=none∧∃ lo2,L lo2∧s=⟨lo2,match g v with |some y=>H1.set t (.list (d.filterMap g++[y])) |none=>H1⟩) nx:=by
   have un:∀ {α:Type} {m:M α} {k:α->M (Option V)} {st:St} {Q:Option V->St->Prop},Wq ((m>>=k) st) Q nx->Wq (m st) (fun a s=>Wq (k a s) Q nx) nx:=by
    intro α m k st Q h
    have h:Wq (M.bind m k st) Q nx:=h
    unfold M.bind at h
    cases e:m st with
    |ok a s=>rw[e]at h;exact h
    |exc c s=>rw[e]at h;exact h
    |no=>rw[e]at h;exact h
   refine Wq.bind ((un st').mono (fun _ s p=>Wq.bind ((un p).mono (fun ok s p=>?_) fun _ _ p=>p)) fun _ _ p=>p)
   cases ok with
   |false=>
    obtain⟨p1,p2,p3⟩:(bp (none=g v) (s.H=H1) (L s.lo)):=p
    refine⟨rfl,s.lo,p3,?_⟩
    rw[<-p1]
    rw[<-p2]
   |true=>
    have p:=un p
    refine Wq.bind (p.mono (fun y s p=>?_) fun _ _ p=>p)
    obtain⟨p1,p2,p3⟩:(bp (some y=g v) (s.H=H1) (L s.lo)):=p
    have e2:bi P0 "list.append" [.ref t,y] s=(Lite.bH t>>=fun xs=>Lite.guard (decide (xs.length<lim))>>=fun _=>Lite.put t (.list (xs++[y]))>>=fun _=>Pure.pure V.none) s:=by kernel_rfl
    obtain⟨lo2,H2⟩:=s
    have p2:H2=H1:=p2
    subst p2
    refine Wq.bind ?_
    rw[e2]
    have hlen:(d.filterMap g).length<lim:=by
     have:=List.length_filterMap_le g d
     have:d.length<=items.length:=by rw[ed];simp
     unfold lim;lia
    refine Wq.bind (Wq.bH h.hd (Wq.bind (Wq.guard (decide_eq_true hlen) (Wq.bind (Wq.put ?_)))))
    refine⟨rfl,lo2,p3,?_⟩
    rw[<-p1]
  refine key.mono (fun r s p=>?_) fun _ _ p=>p
  obtain⟨rfl,lo2,p2,rfl⟩:=p
  refine⟨d++[v],by rw[ed];simp,p2,?_⟩
  rw[List.filterMap_append,List.filterMap_cons,List.filterMap_nil]
  cases g v with
  |none=>rw[List.append_nil];exact h
  |some y=>exact h.cO _
 ·obtain⟨d,ed,_,h⟩:=I
  rw[List.append_nil]at ed
  subst ed
  exact q _ _ h
end
section
variable {s:Dk} {c:Ch} {F:List Cl} {H:Hp} {n:Nat} {Q:V->Hp->Prop} {X:Addr->Hp->Prop}
theorem wR{l:List Bf}{g:V->Option V}{f:Bf->Option V}(h:∀ b∈l,g (.ref b.a)=f b):(l.map fun b=>V.ref b.a).filterMap g=l.filterMap f:=by
 induction l with
 |nil=>rfl
 |cons b r ih=>
  rw[List.map_cons,List.filterMap_cons,List.filterMap_cons,h b (.head _),ih fun y hy=>h y (.tail _ hy)]
theorem pL{a:Nat}{xs:List V}{st:St}(h:st.H[a]? =some (.list xs))(hl:Nat.ble xs.length 1000=true):iter (.ref a) st=.ok (xs,some (a,xs)) st:=by
 show(Lite.obj a>>=kU a) st=_
 rw[cg (pz h)]
 show(Lite.guard (decide (xs.length<=lim))>>=fun _=>Pure.pure (xs,some (a,xs))) st=_
 rw[decide_eq_true (fo hl)]
 rfl
theorem ko(ok:bl s c):Nat.ble (c.ai.map fun b=>V.ref b.a).length 1000=true:=by
 have:=ok.len;have:=ok.most
 refine Nat.ble_eq_true_of_le ?_
 rw[List.length_map];lia
noncomputable def gY (H:Hp) (k:Nat) (v:V):Option V:=(((gG v).bind fun a=>H[a]?).bind hH).bind fun x=>x.2.lookup k
theorem pM{a k:Nat}{D:Addr}{fs:List (Nat×V)}(e:H[a]? =some (.inst D fs)):gY H k (.ref a)=fs.lookup k:=by
 show((Option.bind H[a]? hH).bind fun x=>x.2.lookup k)=_
 rw[e];rfl
theorem Nd(h:Holds H (DC s c F))(ok:bl s c)(q:∀ H' t,Holds H' ((t,.list (c.ai.map fun b=>V.int b.n))::DC s c F)->Q (.ref t) H'):Cq (Rn 1 n (.af 402) [.ref c.ca] H) Q X:=by
 have hg:∀ b∈c.ai,gY H 24 (.ref b.a)=some (.int b.n):=fun b hb=>by
  obtain⟨l1,l2,e⟩:=List.append_of_mem hb
  rw[pM (bS (cW e h))];rfl
 have hfm:(c.ai.map fun b=>V.ref b.a).filterMap (gY H 24)=c.ai.map fun b=>V.int b.n:=by
  rw[wR (f:=fun b=>some (.int b.n)) hg]
  induction c.ai with
  |nil=>rfl
  |cons b r ih=>simp
 rw[IT]
 refine Cq.fin (Wq.seq (Wq.aE ?_))
 refine Wq.dG (c:=DC s c F) (lo':=[none,none]) (items:=c.ai.map fun b:Bf=>V.ref b.a) (o:=some (c.row,c.ai.map fun b:Bf=>V.ref b.a)) (gY H 24) (fun lo=>bV fun x y=>lo=[x,y])
  (Wq.ld rfl (bo h) (bK (by decide)) rfl rfl ⟨rfl,h,pL (gC h) (ko ok)⟩) rfl ⟨_,_,rfl⟩ (fun st h=>kh (gC h)) (by have:=Nat.le_of_ble_eq_true (ko ok);simpa using this) (fun v hv lo1 H1 hL h1=>?_) fun H' t h'=>?_
 ·obtain⟨x,y,rfl⟩:=hL
  obtain⟨b,hb,rfl⟩:=List.mem_map.mp hv
  obtain⟨l1,l2,e⟩:=List.append_of_mem hb
  have hB:=bS (cW e h1)
  refine Wq.bind (Wq.av (Wq.bind (Wq.pure ?_)))
  refine Wq.bind (Wq.ld rfl hB (cG (by decide)) rfl rfl ?_)
  exact⟨(hg b hb).symm,rfl,_,_,rfl⟩
 ·rw[hfm]at h'
  exact q _ _ h'
theorem Nf(h:Holds H (DC s c F))(ok:bl s c)(q:∀ H',Holds H' (DC s c F)->Q (.int (c.most-((c.ai.filter fun b=>!b.free).length:Nat))) H'):Cq (Rn 2 n (.af 407) [.ref c.ca] H) Q X:=by
 have hx:∃ g:V->Option V,∀ b∈c.ai,g (.ref b.a)=if b.free then none else some (.ref b.a):=by
  refine⟨fun v=>match gY H 40 v,gY H 41 v with |some (.int h),some (.int p)=>if decide (h=0)&&decide (p=0)then none else some v |_,_=>none,fun b hb=>?_⟩
  obtain⟨l1,l2,e⟩:=List.append_of_mem hb
  have e1:gY H 40 (.ref b.a)=some (.int b.h):=by rw[pM (bS (cW e h))];rfl
  have e2:gY H 41 (.ref b.a)=some (.int b.p):=by rw[pM (bS (cW e h))];rfl
  dsimp only
  rw[e1,e2]
  rfl
 obtain⟨g,hg⟩:=hx
 have hfm:((c.ai.map fun b=>V.ref b.a).filterMap g).length=(c.ai.filter fun b=>!b.free).length:=by
  rw[wR (f:=fun b=>if b.free then none else some (.ref b.a)) hg]
  generalize c.ai=l
  induction l with
  |nil=>rfl
  |cons b r ih=>cases hb:b.free<;>simp[hb,ih]
 rw[IX]
 refine Cq.fin (Wq.seq (Wq.aE (Wq.au (Wq.ld rfl (bo h) (bK (by decide)) rfl rfl (Wq.ak (Wq.ah ?_))))))
 refine Wq.dG (c:=DC s c F) (lo':=[none,none]) (items:=c.ai.map fun b:Bf=>V.ref b.a) (o:=some (c.row,c.ai.map fun b:Bf=>V.ref b.a)) g (fun lo=>bV fun x y=>lo=[x,y])
  (Wq.ld rfl (bo h) (bK (by decide)) rfl rfl ⟨rfl,h,pL (gC h) (ko ok)⟩) rfl ⟨_,_,rfl⟩ (fun st h=>kh (gC h)) (by have:=Nat.le_of_ble_eq_true (ko ok);simpa using this) (fun v hv lo1 H1 hL h1=>?_) fun H' t h'=>?_
 ·obtain⟨x,y,rfl⟩:=hL
  obtain⟨b,hb,rfl⟩:=List.mem_map.mp hv
  obtain⟨l1,l2,e⟩:=List.append_of_mem hb
  have hB:=cW e h1
  refine Wq.bind (Wq.av (Wq.bind (Wq.and (Wq.bind (Wq.bind (Wq.aI wo rfl rfl (Wq.ae rfl ⟨rfl,bS hB,Wq.aj (wF hB (Wq.truth (Wq.pure ?_)))⟩)))))))
  have e3:=hg b hb
  cases hf:b.free with
  |true=>rw[hf]at e3;exact⟨e3.symm,rfl,_,_,rfl⟩
  |false=>
   rw[hf]at e3
   unfold gz
   dsimp only[Bool.not_false]
   refine Wq.pure ?_
   have ea:(BoolOp.And==BoolOp.And)=true:=by decide
   show Wq ((match (BoolOp.And==BoolOp.And)with |true=>(Lite.ae 1>>=fun y=>Pure.pure (some y)) |false=>Pure.pure (none:Option V)) ⟨[x,some (.ref b.a)],H1⟩) _ _
   rw[ea]
   refine Wq.bind (Wq.ae rfl ?_)
   exact⟨e3.symm,rfl,_,_,rfl⟩
 ·refine Wq.aj (Wq.d9 h'.hd ?_ ?_)
  ·have:=List.length_filterMap_le g (c.ai.map fun b=>V.ref b.a)
   have:=fo (ko ok)
   lia
  ·show Q (.int (c.most-((((c.ai.map fun b=>V.ref b.a).filterMap g).length:Nat):Int))) H'
   rw[hfm]
   exact q _ h'.aX
end
section
variable {X:Addr->Hp->Prop} {lo:List (Option V)} {H:Hp} {Q:V->St->Prop} {a b:Int}
theorem Wq.bZ(q:Q (.int (a+b)) ⟨lo,H⟩):Wq (binop .Add (.int a) (.int b) ⟨lo,H⟩) Q X:=q
theorem Wq.fY(q:Q (.int (a-b)) ⟨lo,H⟩):Wq (binop .Sub (.int a) (.int b) ⟨lo,H⟩) Q X:=q
theorem Wq.fZ(h:a.natAbs<2 ^ 64∨b.natAbs<2 ^ 64)(q:Q (.int (a*b)) ⟨lo,H⟩):Wq (binop .Mult (.int a) (.int b) ⟨lo,H⟩) Q X:=by
 refine Wq.bind (Wq.ar rfl (Wq.bind (Wq.guard ?_ q)))
 exact Bool.or_eq_true_iff.mpr (h.imp decide_eq_true decide_eq_true)
end
/-! the journal -/
structure Jn where
 jo:Nat
 nums:Nat
 cK:Nat
 start:Int
 size:Int
 places:Int
 most:Int
 each:Int
 calls:Int
 bN:Int
 ns:List Int
 nt:List (Int×V)
noncomputable def Ng (ca:Nat) (j:Jn):List (Nat×V):=[(8,.ref ca),(9,.int j.start),(10,.int j.size),(11,.int j.places),(12,.int j.most),(14,.int j.each),(16,.ref j.nums),(17,.ref j.cK),(18,.int j.calls),(19,.int j.bN)]
noncomputable def gD (ca:Nat) (j:Jn):O:=.inst 204 (Ng ca j)
noncomputable def aL (ca:Nat) (j:Jn):List Cl:=[(j.jo,gD ca j),(j.nums,.list (j.ns.map V.int)),(j.cK,.dict j.nt)]
section
variable {ca:Nat} {j:Jn} {F:List Cl} {H:Hp} {n:Nat} {Q:V->Hp->Prop} {X:Addr->Hp->Prop}
theorem aU(h:Holds H (aL ca j++F)):H[j.jo]? =some (gD ca j):=h.on _ (.head _)
theorem eQ(h:Holds H (aL ca j++F)):H[j.nums]? =some (.list (j.ns.map V.int)):=h.on _ (.tail _ (.head _))
theorem wU(h:Holds H (aL ca j++F)):H[j.cK]? =some (.dict j.nt):=h.on _ (.tail _ (.tail _ (.head _)))
noncomputable def Jn.own (j:Jn) (x:Int):Bool:=decide (j.start<=x)&&decide (x<j.start+j.size)
noncomputable def Jn.room (j:Jn):Bool:=decide ((j.ns.length:Int)+(j.calls+1)*j.each<=j.most)
theorem Nh(h:Holds H (aL ca j++F)){x:Int}(q:Q (.bool (j.own x)) H):Cq (Rn 1 n (.af 124) [.ref j.jo,.int x] H) Q X:=by
 rw[Fy]
 unfold Jn.own at q
 refine Cq.fin (Wq.seq (Wq.aE (Wq.bind (Wq.ld rfl (aU h) (aV (by decide)) rfl rfl (Wq.bind (Wq.j9 (Wq.ae rfl (Wq.gS (r:=decide (j.start<=x)) rfl ?_))))))))
 cases hd:decide (j.start<=x)with
 |false=>rw[hd]at q;exact q
 |true=>
  rw[hd]at q
  exact Wq.aS (Wq.au (Wq.ld rfl (aU h) (aV (by decide)) rfl rfl (Wq.ld rfl (aU h) (aV (by decide)) rfl rfl (Wq.bZ (Wq.eP (r:=decide (x<j.start+j.size)) rfl q)))))
theorem Ni(h:Holds H (aL ca j++F))(hl:j.ns.length<=1000)(q:Q (.int (j.most-j.ns.length)) H):Cq (Rn 1 n (.af 138) [.ref j.jo] H) Q X:=by
 rw[FH]
 refine Cq.fin (Wq.seq (Wq.aE (Wq.au (Wq.ld rfl (aU h) (aV (by decide)) rfl rfl (Wq.ak (Wq.ah (Wq.ld rfl (aU h) (aV (by decide)) rfl rfl (Wq.aj (Wq.d9 (eQ h) (by rw[List.length_map];unfold lim;lia) (Wq.fY ?_))))))))))
 rw[List.length_map]
 exact q
theorem wV(h:Holds H (aL ca j++F))(hl:j.ns.length<=1000)(he:j.each.natAbs<=1000)(q:Q (.bool j.room) H):Cq (Rn 1 n (.af 131) [.ref j.jo] H) Q X:=by
 rw[FD]
 unfold Jn.room at q
 refine Cq.fin (Wq.seq (Wq.aE (Wq.d8 (Wq.au (Wq.ak (Wq.ah (Wq.ld rfl (aU h) (aV (by decide)) rfl rfl (Wq.aj (Wq.d9 (eQ h) (by rw[List.length_map];unfold lim;lia) ?_)))))))))
 refine Wq.au (Wq.au (Wq.ld rfl (aU h) (aV (by decide)) rfl rfl (Wq.pure (Wq.bZ (Wq.ld rfl (aU h) (aV (by decide)) rfl rfl (Wq.fZ (.inr (by lia)) (Wq.bZ ?_)))))))
 refine Wq.ld rfl (aU h) (aV (by decide)) rfl rfl (Wq.gS (r:=_) rfl ?_)
 rw[List.length_map]
 exact q
noncomputable def Jn.bU (j:Jn) (k:Int):Jn:={j with calls:=k}
theorem kq{lo:List (Option V)}{k:Nat}{c:Addr}{Q:Fl->St->Prop}(hc:P0.dA.contains c=true)(q:X c H):Wq ((ah [pure (V.str k)]>>=fun as=>cS P0 true c as) ⟨lo,H⟩) Q X:=by
 refine Wq.bind (Wq.ah (Wq.pure (Wq.aj ?_)))
 refine Wq.bind (Wq.pure (Wq.bind (Wq.ar rfl (Wq.bind (Wq.guard rfl (Wq.bind (Wq.guard hc ?_)))))))
 exact q
theorem wW:P0.dA.contains 76=true:=by kernel_rfl
theorem pN:P0.dA.contains 52=true:=by kernel_rfl
theorem wX(h:Holds H (aL ca j++F))(hl:j.ns.length<=1000)(he:j.each.natAbs<=1000)(q1:j.room=true->∀ H',Holds H' (aL ca (j.bU (j.calls+1))++F)->Q .none H')(q2:j.room=false->X 76 H):Cq (Rn 2 n (.af 145) [.ref j.jo] H) Q X:=by
 rw[FL]
 refine Cq.fin (Wq.seq (Wq.aH (Wq.bind (Wq.bind (Wq.aI wi rfl rfl (Wq.ae rfl ⟨rfl,aU h,Wq.aj (wV h hl he (Wq.truth (Wq.pure ?_)))⟩))))))
 cases hr:j.room with
 |false=>exact Wq.seq (kq wW (q2 hr))
 |true=>
  refine Wq.dj ?_
  exact Wq.seq (Wq.gB (c':=aL ca (j.bU (j.calls+1))++F) rfl (aU h) (aV (by decide)) rfl rfl (h.cO _) fun H h=>q1 hr _ h)
end
section
variable {X:Addr->Hp->Prop} {lo:List (Option V)} {H:Hp}
theorem Wq.inD{Q:Bool->St->Prop}{i:Int}{d:Nat}{es:List (Int×V)}{r:Bool}(e:H[d]? =some (.dict es))(er:(es.lookup i).isSome=r)(q:Q r ⟨lo,H⟩):Wq (cB .In (.int i) (.ref d) ⟨lo,H⟩) Q X:=by
 refine Wq.bind (Wq.ar rfl (Wq.bind (Wq.ar rfl (Wq.bind (Wq.obj e ?_)))))
 subst er
 exact q
end
section
variable {s:Dk} {c:Ch} {j:Jn} {F:List Cl} {H:Hp} {n:Nat} {Q:V->Hp->Prop} {X:Addr->Hp->Prop} {l1 l2:List Bf} {b:Bf}
theorem cE{Y:List Cl}(h:Holds H (Y++DC s c F)):Holds H (DC s c (Y++F)):=by
 have h1:Holds H (cA s c++(Y++(aW s++F))):=h.front
 exact h1.perm (List.Perm.append_left _ iD)
theorem dJ{Y:List Cl}(h:Holds H (DC s c (Y++F))):Holds H (Y++DC s c F):=by
 have h1:Holds H (cA s c++(Y++(aW s++F))):=h.perm (List.Perm.append_left _ iD)
 exact h1.front
noncomputable def Jn.note (j:Jn) (x:Int):Jn:={j with ns:=j.ns++[x],nt:=dput j.nt x (.int j.ns.length)}
noncomputable def Jn.ml (j:Jn) (x:Int):Jn:={j with nt:=dput j.nt x (.int j.ns.length)}
theorem Nj(h:Holds H (aL c.ca j++DC s c F))(ok:bl s c)(e:c.ai=l1++b::l2)(hh:b.h≠0)(hl:j.ns.length<1000)(hnt:j.nt.length<=lim)(hk:∀ k,(j.nt.lookup k).isSome=decide (k∈j.ns))
  (q1:j.calls=0->X 52 H) (q2:j.calls≠0->j.own b.n=true->X 52 H) (q3:j.calls≠0->j.own b.n=false->b.n∈j.ns->Q .none H) (q4:j.calls≠0->j.own b.n=false->b.n ∉ j.ns->j.most<=(j.ns.length:Int)->X 76 H)
  (q5:j.calls≠0->j.own b.n=false->b.n ∉ j.ns->(j.ns.length:Int)<j.most->∀ H',Holds H' (aL c.ca (j.note b.n)++DC s (c.with (l1++b.pin (b.p+1)::l2)) F)->Q .none H'):
  Cq (Rn 3 n (.af 152) [.ref j.jo,.ref b.a] H) Q X:=by
 have hD:=cE h
 have hb:=bS (cW e hD)
 rw[F8]
 refine Cq.fin (Wq.seq (Wq.aH (Wq.bind (Wq.ld rfl (aU h) (aV (by decide)) rfl rfl (Wq.aS (Wq.pure (Wq.dH (r:=decide (j.calls=0)) rfl ?_)))))))
 cases d1:decide (j.calls=0)with
 |true=>exact Wq.seq (kq pN (q1 (of_decide_eq_true d1)))
 |false=>
  have d1:=of_decide_eq_false d1
  refine Wq.dj ?_
  refine Wq.seq (Wq.aH (Wq.bind (Wq.aI Mn rfl rfl (Wq.ae rfl ⟨rfl,aU h,Wq.ah (Wq.ld rfl hb (cG (by decide)) rfl rfl (Wq.aj (Nh h (Wq.truth ?_))))⟩))))
  cases d2:j.own b.n with
  |true=>exact Wq.seq (kq pN (q2 d1 d2))
  |false=>
   refine Wq.dj ?_
   refine Wq.seq (Wq.aH (Wq.bind (Wq.ld rfl hb (cG (by decide)) rfl rfl (Wq.aS (Wq.ld rfl (aU h) (aV (by decide)) rfl rfl (Wq.inD (wU h) (hk b.n) ?_))))))
   cases d3:decide (b.n∈j.ns)with
   |true=>
    refine Wq.seq (Wq.az (Wq.aI l9 rfl rfl (Wq.ld rfl (aU h) (aV (by decide)) rfl rfl ⟨rfl,bo hD,Wq.ah (Wq.ae rfl (Wq.aj (mf hD ok e hh ?_)))⟩)))
    exact q3 d1 d2 (of_decide_eq_true d3)
   |false=>
    have d3:=of_decide_eq_false d3
    refine Wq.dj ?_
    have hlm:(j.ns.map V.int).length<=lim:=by rw[List.length_map];unfold lim;lia
    refine Wq.seq (Wq.aH (Wq.bind (Wq.ak (Wq.ah (Wq.ld rfl (aU h) (aV (by decide)) rfl rfl (Wq.aj (Wq.d9 (eQ h) hlm (Wq.aS (Wq.ld rfl (aU h) (aV (by decide)) rfl rfl (Wq.Mm (r:=decide ((j.ns.length:Int) ≥ j.most)) (by rw[List.length_map]) ?_))))))))))
    cases d4:decide ((j.ns.length:Int) ≥ j.most)with
    |true=>exact Wq.seq (kq wW (q4 d1 d2 d3 (of_decide_eq_true d4)))
    |false=>
     have d4:=of_decide_eq_false d4
     refine Wq.dj ?_
     refine Wq.seq (Wq.az (Wq.aI Mv rfl rfl (Wq.ld rfl (aU h) (aV (by decide)) rfl rfl ⟨rfl,bo hD,Wq.ah (Wq.ae rfl (Wq.aj (MW hD ok e hh fun H hD=>?_)))⟩)))
     have h:=dJ hD
     have hb:=bS (cW (c:=c.with (l1++b.pin (b.p+1)::l2)) (b:=b.pin (b.p+1)) rfl hD)
     refine Wq.seq (Wq.ao (Wq.ak (Wq.ah (Wq.ld rfl (aU h) (aV (by decide)) rfl rfl (Wq.aj (Wq.d9 (eQ h) hlm ?_))))))
     refine Wq.bind (Wq.ld rfl (aU h) (aV (by decide)) rfl rfl (Wq.bind (Wq.ld rfl hb (cG (by decide)) rfl rfl ?_)))
     rw[List.length_map]
     refine Wq.kf (c':=aL c.ca (j.ml b.n)++DC s (c.with (l1++b.pin (b.p+1)::l2)) F) (wU h) hnt (h.iA _) fun H h=>?_
     have hb:=bS (cW (c:=c.with (l1++b.pin (b.p+1)::l2)) (b:=b.pin (b.p+1)) rfl (cE h))
     refine Wq.seq (Wq.az (Wq.append (ys:=j.ns.map V.int) (Wq.ld rfl (aU (j:=j.ml b.n) h) (aV (by decide)) rfl rfl ⟨rfl,eQ (j:=j.ml b.n) h,Wq.ld rfl hb (cG (by decide)) rfl rfl ⟨eQ (j:=j.ml b.n) h,by rw[List.length_map];unfold lim;lia,?_⟩⟩)))
     refine q5 d1 d2 d3 (by lia) _ ?_
     have h:=h.dT (.list (j.ns.map V.int++[.int b.n]))
     have er:O.list (j.ns.map V.int++[.int b.n])=.list ((j.note b.n).ns.map V.int):=by unfold Jn.note;simp
     show Holds (H.set j.nums (.list (j.ns.map V.int++[.int b.n]))) _
     rw[er]at h ⊢
     exact h
end
section
variable {X:Addr->Hp->Prop} {C:V->List V->Hp->CR} {lo:List (Option V)} {H:Hp} {Q:V->St->Prop}
theorem Wq.shr{a b:Int}(h:0<=b)(q:Q (.int (a.fdiv (2 ^ b.toNat))) ⟨lo,H⟩):Wq (binop .RShift (.int a) (.int b) ⟨lo,H⟩) Q X:=by
 exact Wq.bind (Wq.ar rfl (Wq.bind (Wq.guard (decide_eq_true h) q)))
theorem Wq.pO{a:Int}(q:Q (.int (Builtin.bitAnd a 255)) ⟨lo,H⟩):Wq (binop .BitAnd (.int a) (.int 255) ⟨lo,H⟩) Q X:=q
theorem pO{a:Int}(h:0<=a):0<=Builtin.bitAnd a 255∧Builtin.bitAnd a 255<256:=by
 have:Builtin.bitAnd a 255=((a.toNat&&& 255:Nat):Int):=by
  unfold Builtin.bitAnd
  rw[decide_eq_true h]
  rfl
 rw[this]
 have:=Nat.and_le_right (n:=a.toNat) (m:=255)
 lia
theorem Wq.Nk{c:List Cl}(hc:Holds H c)(q:∀ H' t,Holds H' ((t,.bx [])::c)->Q (.ref t) ⟨lo,H'⟩):Wq (aR P0 C true (.ty "bytearray") [] ⟨lo,H⟩) Q X:=by
 have e2:aR P0 C true (.ty "bytearray") [] ⟨lo,H⟩=Lite.alloc (.bx []) ⟨lo,H⟩:=by kernel_rfl
 rw[e2];exact Wq.dw hc q
theorem Wq.Nl{c:List Cl}{a:Nat}{xs:List V}(hc:Holds H c)(e:H[a]? =some (.list xs))(hl:xs.length<=lim)(q:∀ H' t,Holds H' ((t,.list xs)::c)->Q (.ref t) ⟨lo,H'⟩):Wq (aR P0 C true (.ty "list") [.ref a] ⟨lo,H⟩) Q X:=by
 have e2:aR P0 C true (.ty "list") [.ref a] ⟨lo,H⟩=(Lite.bH a>>=fun xs=>Lite.guard (decide (xs.length<=lim))>>=fun _=>Lite.alloc (.list xs)) ⟨lo,H⟩:=by kernel_rfl
 rw[e2];exact Wq.bind (Wq.bH e (Wq.bind (Wq.guard (decide_eq_true hl) (Wq.dw hc q))))
theorem Wq.Nm{c:List Cl}{a b:Nat}{xs ys:List V}(hc:Holds H c)(e:H[a]? =some (.list xs))(e':H[b]? =some (.list ys))(hl:xs.length+ys.length<=lim)(q:∀ H' t,Holds H' ((t,.list (xs++ys))::c)->Q (.ref t) ⟨lo,H'⟩):Wq (binop .Add (.ref a) (.ref b) ⟨lo,H⟩) Q X:=by
 exact Wq.bind (Wq.guard rfl (Wq.bind (Wq.bH e (Wq.bind (Wq.bH e' (Wq.bind (Wq.guard (decide_eq_true hl) (Wq.dw hc q))))))))
theorem Wq.Nn{a b:List UInt8}(hl:a.length+b.length<=lim)(q:Q (.bytes (a++b)) ⟨lo,H⟩):Wq (binop .Add (.bytes a) (.bytes b) ⟨lo,H⟩) Q X:=by
 exact Wq.bind (Wq.guard rfl (Wq.bind (Wq.ar rfl (Wq.bind (Wq.guard (decide_eq_true hl) q)))))
theorem Wq.kr{c:List Cl}{b:Int}(hc:Holds H c)(h:0<=b∧b<=1000)(q:∀ H' t,Holds H' ((t,.range b)::c)->Q (.ref t) ⟨lo,H'⟩):Wq (aR P0 C true (.ty "range") [.int b] ⟨lo,H⟩) Q X:=by
 have e2:aR P0 C true (.ty "range") [.int b] ⟨lo,H⟩=Lite.alloc (.range b) ⟨lo,H⟩:=by kernel_rfl
 rw[e2]
 exact Wq.dw hc q
theorem ku{a:Nat}{b:Int}{st:St}(h:st.H[a]? =some (.range b))(hb:0<=b∧b<=1000):iter (.ref a) st=.ok ((rangeInts b).map .int,none) st:=by
 show(Lite.obj a>>=kU a) st=_
 rw[cg (pz h)]
 show(Lite.guard (jD b)>>=fun _=>Pure.pure ((rangeInts b).map V.int,none)) st=_
 have:jD b=true:=by
  unfold jD
  simp only[Bool.and_eq_true,decide_eq_true_eq]
  lia
 rw[this]
 rfl
theorem Wq.wY{a:Nat}{xs:List V}{b:List UInt8}(e:H[a]? =some (.list xs))(hl:xs.length<=lim)(hb:bytesOf xs=some b)(q:Q (.bytes b) ⟨lo,H⟩):Wq (aR P0 C true (.ty "bytes") [.ref a] ⟨lo,H⟩) Q X:=by
 have e2:aR P0 C true (.ty "bytes") [.ref a] ⟨lo,H⟩=(Lite.obj a>>=mW) ⟨lo,H⟩:=by kernel_rfl
 rw[e2]
 exact Wq.bind (Wq.obj e (Wq.bind (Wq.guard (decide_eq_true hl) (Wq.bind (Wq.ar hb q)))))
theorem pP:∀ {l:List Int},(∀ i∈l,0<=i∧i<256)->∃ b,bytesOf (l.map V.int)=some b∧b.length=l.length
 | [],_=>⟨[],rfl,rfl⟩
 |i::l,h=>by
  obtain⟨b,h1,h2⟩:=pP (l:=l) fun k hk=>h k (.tail _ hk)
  refine⟨i.toNat.toUInt8::b,?_,by simp[h2]⟩
  unfold bytesOf at h1 ⊢
  simp only[List.map_cons,List.mapM_cons]
  have:mU (.int i)=some i.toNat.toUInt8:=by
   exact if_pos (h i (.head _))
  simp only[this,h1]
  rfl
end
section
variable {X:Addr->Hp->Prop} {C:V->List V->Hp->CR} {lo:List (Option V)} {H:Hp}
theorem Wq.extend{Q:V->St->Prop}{a:Nat}{fb gb:List UInt8}{o v:M V}
  (h:Wq (o ⟨lo,H⟩) (fun ov s=>(bp (ov=.ref a) (s.H[a]? =some (.bx gb)) (Wq (v s) (fun x s''=>∃ b,(dW (x=.bytes b) (s''.H[a]? =some (.bx fb)) (fb.length+b.length<=lim) (Q .none ⟨s''.lo,s''.H.set a (.bx (fb++b))⟩))) X))) X):Wq (Lite.aB P0 C o "extend" [v] ⟨lo,H⟩) Q X:=by
 refine Wq.aB (h.mono (fun ov s q=>?_) fun _ _ q=>q)
 obtain⟨rfl,e,q⟩:=q
 refine Wq.mc (f:=.bi "bytearray.extend") e (by kernel_rfl) (Wq.ah (q.mono (fun x s'' q=>Wq.aj ?_) fun _ _ q=>q))
 obtain⟨b,rfl,e',hl,q⟩:=q
 have e2:aR P0 C true (.bi "bytearray.extend") [.ref a,.bytes b] s''=(Lite.ey a>>=fun xs=>Lite.guard (decide (xs.length+b.length<=lim))>>=fun _=>Lite.put a (.bx (xs++b))>>=fun _=>Pure.pure V.none) s'':=by kernel_rfl
 show Wq (aR P0 C true (.bi "bytearray.extend") [.ref a,.bytes b] s'') Q X
 rw[e2]
 exact Wq.bind (Wq.ey e' (Wq.bind (Wq.guard (decide_eq_true hl) (Wq.bind (Wq.put q)))))
theorem Wq.Nq{it:M V}{t:V->M Unit}{body:List (M Fl)}{Q:Fl->St->Prop}
  (hi:Wq (it ⟨lo,H⟩) (fun v s=>∃ (a:Nat) (xs:List V) (I:List V->St->Prop),(kJ (v=.ref a) (Nat.ble xs.length 1000=true) (I xs s) (∀ vs s,I vs s->s.H[a]? =some (.list xs)) (∀ v vs s,I (v::vs) s->Wq (t v s) (fun _ s=>Wq (aD body s) (je (I vs) Q) X) X) (∀ s,I [] s->Q .next s))) X):Wq (Lite.dF it t body ⟨lo,H⟩) Q X:=by
 refine Wq.bind (hi.mono (fun v s q=>?_) fun _ _ q=>q)
 obtain⟨a,xs,I,rfl,hl,h,hI,step,fin⟩:=q
 obtain⟨lo,H⟩:=s
 have:=Wq.dF (it:=Pure.pure (V.ref a)) (lo:=lo) (H:=H) I hl (Wq.pure ⟨rfl,hI xs _ h,h⟩) hI step fin
 exact this
end
section
variable {F:List Cl} {H:Hp} {n:Nat} {Q:V->Hp->Prop} {X:Addr->Hp->Prop}
noncomputable def wZ (v:Int):V->Option V
 | .int k=>some (.int (Builtin.bitAnd (v.fdiv (2 ^ (8*k).toNat)) 255))
 |_=>none
theorem Nr{a:Nat}{ns:List Int}{size:Int}(h:Holds H F)(ha:(a,O.list (ns.map V.int))∈F)(hn:∀ k∈ns,0<=k)(hl:4*((ns.length:Int)+1)<=size)(hs:size<=1000)(q:∀ H' o,((o:List UInt8).length:Int)=size->(ns=[]->∀ y∈o,y=0)->Holds H' F->Q (.bytes o) H'):
  Cq (Rn 1 n (.af 102) [.ref a,.int size] H) Q X:=by
 have hlen:(ns.map V.int).length<=lim:=by rw[List.length_map];unfold lim;lia
 rw[Fe]
 have h:=h.new (.cell none)
 generalize H.length=cc at h
 generalize H++[O.cell none]=H at h
 refine Cq.fin (Wq.seq (Wq.cN (Wq.bind (Wq.au (Wq.pure (Wq.au (Wq.ak (Wq.ah (Wq.ae rfl (Wq.aj (Wq.d9 (h.on _ (.tail _ ha)) hlen (Wq.pure (Wq.bZ (Wq.fZ (.inl (by decide)) ?_))))))))))))))
 rw[List.length_map]
 refine Wq.aS (Wq.ae rfl (Wq.jc (r:=false) (decide_eq_false (by lia)) ⟨rfl,?_⟩))
 refine Wq.seq (Wq.ao (Wq.ak (Wq.aj (Wq.Nk h fun H t h=>Wq.av ?_))))
 refine Wq.seq (Wq.Nq (Wq.au (Wq.fH (Wq.ah (Wq.ak (Wq.ah (Wq.ae rfl (Wq.aj (Wq.d9 (h.on _ (.tail _ (.tail _ ha))) hlen (Wq.aj ⟨rfl,h,fun H t1 h=>?_⟩))))))))))
 refine Wq.ak (Wq.ah (Wq.ae rfl (Wq.aj (Wq.Nl h (h.on _ (.tail _ (.tail _ (.tail _ ha)))) hlen fun H t2 h=>?_))))
 refine Wq.Nm h (h.on _ (.tail _ (.head _))) (h.on _ (.head _)) (by simp only[List.length_cons,List.length_nil,List.length_map];unfold lim;lia) fun H t3 h=>?_
 have h:Holds H ((t3,.list ([V.int (ns.map V.int).length]++ns.map V.int))::(t,.bx [])::(cc,.cell none)::F):=h.sub (.cons_cons _ (.cons _ (.cons _ (List.Sublist.refl _))))
 have hit:([V.int (ns.map V.int).length]++ns.map V.int)=(((ns.length:Int)::ns).map V.int):=by simp
 rw[hit]at h
 refine⟨t3,((ns.length:Int)::ns).map V.int,fun vs st=>∃ (d e:List Int) (w:Option V) (fb:List UInt8),(kJ ((ns.length:Int)::ns=d++e) (vs=e.map V.int) (st.lo=[some (.ref a),some (.int size),some (.ref t),some (.ref cc),none,none,none,none,none,none,none]) (fb.length=4*d.length) ((∀ x∈d,x=0)->∀ y∈fb,y=0) (Holds st.H ((t3,.list (((ns.length:Int)::ns).map V.int))::(t,.bx fb)::(cc,.cell w)::F))),rfl,?_,⟨[],_,none,[],rfl,rfl,rfl,rfl,(fun _ y hy=>nomatch hy),h⟩,fun vs st I=>?_,fun v vs st I=>?_,fun st I=>?_⟩
 ·refine Nat.ble_eq_true_of_le ?_
  simp only[List.length_map,List.length_cons]
  lia
 ·obtain⟨d,e,w,fb,_,_,_,_,_,h⟩:=I
  exact h.hd
 ·obtain⟨d,e,w,fb,e1,e2,e3,e4,e5,h⟩:=I
  obtain⟨lo,H⟩:=st
  subst e3
  cases e with
  |nil=>contradiction
  |cons k e=>
   (injection e2;subst_vars)
   have hk:0<=k:=by
    have:k∈(ns.length:Int)::ns:=by rw[e1];simp
    cases this with
    |head=>lia
    |tail _ hm=>exact hn k hm
   refine Wq.dB rfl (h.on _ (.tail _ (.tail _ (.head _)))) ?_
   have h:=h.iA (.cell (some (.int k)))
   generalize H.set cc (.cell (some (.int k)))=H at h
   have hb:fb.length+4<=lim:=by
    have:((ns.length:Int)::ns).length=(d++k::e).length:=by rw[e1]
    simp only[List.length_append,List.length_cons]at this
    unfold lim;lia
   refine Wq.seq (Wq.az (Wq.extend (gb:=fb) (fb:=fb) (Wq.ae rfl ⟨rfl,h.on _ (.tail _ (.head _)),Wq.ak (Wq.ah ?_)⟩)))
   refine Wq.dG (c:=(t3,.list (((ns.length:Int)::ns).map V.int))::(t,.bx fb)::(cc,.cell (some (.int k)))::F) (lo':=[none,none,some (.ref cc)]) (items:=(rangeInts 4).map V.int) (o:=none) (wZ k) (fun lo=>bV fun x y=>lo=[x,y,some (.ref cc)])
    (Wq.ak (Wq.ah (Wq.pure (Wq.aj (Wq.kr h (by decide) fun H r h=>⟨rfl,h.aX,ku h.hd (by decide)⟩))))) rfl ⟨_,_,rfl⟩ (fun st h=>rfl) (by decide) (fun v hv lo1 H1 hL h1=>?_) fun H r h=>?_
   ·obtain⟨x,y,rfl⟩:=hL
    obtain⟨i,hi,rfl⟩:=List.mem_map.mp hv
    have hi0:0<=8*i:=by
     have:rangeInts 4=[0,1,2,3]:=by decide
     rw[this]at hi
     simp at hi
     lia
    refine Wq.bind (Wq.av (Wq.bind (Wq.pure ?_)))
    refine Wq.bind (Wq.au (Wq.au (Wq.aO rfl (h1.on _ (.tail _ (.tail _ (.head _)))) (Wq.au (Wq.pure (Wq.ae rfl (Wq.fZ (.inl (by decide)) (Wq.shr hi0 (Wq.pure (Wq.pO ?_))))))))))
    exact⟨rfl,rfl,_,_,rfl⟩
   ·have hr:((rangeInts 4).map V.int).filterMap (wZ k)=([0,1,2,3].map fun i:Int=>Builtin.bitAnd (k.fdiv (2 ^ (8*i).toNat)) 255).map V.int:=by
     have:rangeInts 4=[0,1,2,3]:=by decide
     rw[this];rfl
    rw[hr]at h
    obtain⟨b,hb1,hb2⟩:=pP (l:=[0,1,2,3].map fun i:Int=>Builtin.bitAnd (k.fdiv (2 ^ (8*i).toNat)) 255) fun j hj=>by
     obtain⟨i,_,rfl⟩:=List.mem_map.mp hj
     exact pO (Int.fdiv_nonneg hk (by exact Int.le_of_lt (Int.pow_pos (by decide))))
    refine Wq.aj (Wq.wY h.hd (by simp[lim]) hb1 ⟨b,rfl,h.on _ (.tail _ (.tail _ (.head _))),by rw[hb2];exact hb,?_⟩)
    have h:=h.aX.dT (.bx (fb++b))
    refine⟨d++[k],e,_,fb++b,by rw[e1];simp,rfl,rfl,by simp only[List.length_append,hb2,e4];simp;lia,fun hz y hy=>?_,h⟩
    rcases List.mem_append.mp hy with hy |hy
    ·exact e5 (fun x hx=>hz x (List.mem_append_left _ hx)) y hy
    ·have hk0:k=0:=hz k (List.mem_append_right _ (.head _))
     subst hk0
     have:b=[0,0,0,0]:=Option.some.inj (hb1.symm.trans (by decide))
     subst this
     simpa using hy
 ·obtain⟨d,e,w,fb,e1,e2,e3,e4,e5,h⟩:=I
  obtain⟨lo,H⟩:=st
  subst e3
  have he:e=[]:=List.map_eq_nil_iff.mp e2.symm
  simp only[he,List.append_nil]at e1
  have hfl:fb.length=4*(ns.length+1):=by simp only[e4,<-e1];simp
  have hfb:fb.length<=lim:=by unfold lim;lia
  refine Wq.seq (Wq.aE (Wq.au (Wq.ak (Wq.ah (Wq.ae rfl (Wq.aj (Wq.wC (h.on _ (.tail _ (.head _))) hfb ?_)))))))
  refine Wq.ak (Wq.ah (Wq.au (Wq.ae rfl (Wq.ak (Wq.ah (Wq.ae rfl (Wq.aj (Wq.wD (h.on _ (.tail _ (.head _))) hfb (Wq.fY (Wq.aj (Wq.o8 ⟨by lia,by unfold lim;lia⟩ (Wq.Nn (by rw[List.length_replicate];unfold lim;lia) ?_))))))))))))
  refine q _ _ ?_ (fun hns y hy=>?_) h.aX.aX.aX
  ·simp only[List.length_append,List.length_replicate]
   lia
  ·rcases List.mem_append.mp hy with hy |hy
   ·refine e5 (fun x hx=>?_) y hy
    simp only[<-e1,hns]at hx
    simpa using hx
   ·exact(List.mem_replicate.mp hy).2
end
section
variable {s:Dk} {c:Ch} {j:Jn} {F:List Cl} {H:Hp} {n:Nat} {Q:V->Hp->Prop} {X:Addr->Hp->Prop}
noncomputable abbrev Dk.fl (s:Dk) (ke:List (Int×V)) (u:Nat):Dk:=(s.f1.kp ke).nu u
theorem fp.fl{ke:List (Int×V)}{u:Nat}(ok:fp s)(hk:bY s.B ke):fp (s.fl ke u):=⟨ok.b,ok.z,hk,ok.le,ok.lv,fun t ht=>nomatch ht⟩
theorem Rest.fl{ke:List (Int×V)}{u:Nat}(r:Rest s c)(hk:bY s.B ke):Rest (s.fl ke u) c:=
 ⟨⟨r.ok.dk.fl hk,⟨r.ok.ai.nd,r.ok.ai.r,r.ok.ai.z,r.ok.ai.p⟩,r.ok.clean,r.ok.bn,r.ok.key,r.ok.len,r.ok.most,r.ok.size⟩,r.idle⟩
structure cn(s:Dk)(c:Ch)(s':Dk)(c':Ch)(w f:Int)(v d:Int->List UInt8):Prop where
 rest:Rest s' c'
 view:∀ k,view s' c' k=v k
 cZ:∀ k,aT s' k=d k
 pin:∀ k,aN c' k=aN c k
 ca:c'.ca=c.ca
 most:c'.most=c.most
 B:s'.B=s.B
 S:s'.S=s.S
 dk:s'.dk=s.dk
 w:s'.w=s.w+w
 f:s'.f=s.f+f
theorem fq.gZ{s':Dk}{c':Ch}{w f:Int}{v d:Int->List UInt8}(g:cn s c s' c' w f v d)(h:fq c):fq c':=by
 obtain⟨ns,h1,h2⟩:=h
 exact⟨ns,by rw[g.most];exact h1,fun k hk=>h2 k (by rw[<-g.pin];exact hk)⟩
noncomputable def upd (v:Int->List UInt8) (x:Int) (o:List UInt8) (k:Int):List UInt8:=if k=x then o else v k
theorem Nt{ke:List (Int×V)}{u:Nat}:(s.fl ke u).un=[]:=rfl
theorem ky{t:Nat}{x:Int}{o:List UInt8}{ke:List (Int×V)}{u:Nat}:(gE (((s.wrote t x o).fl ke u).B=s.B) (((s.wrote t x o).fl ke u).S=s.S) (((s.wrote t x o).fl ke u).dk=s.dk) (((s.wrote t x o).fl ke u).w=s.w+1) (((s.wrote t x o).fl ke u).f=s.f+1)):=⟨rfl,rfl,rfl,rfl,rfl⟩
theorem w7(h:Holds H (aL c.ca j++DC s c F))(r:Rest s c)(f:fq c){a:Nat}{ns:List Int}(ha:(a,O.list (ns.map V.int))∈aL c.ca j++DC s c F)(hn:∀ k∈ns,0<=k)(hl:4*((ns.length:Int)+1)<=s.S)
  (h1:0<=j.start) (h2:j.start<s.B) (hu:s.un.length<999)
  (q:∀ H' s' c' o,((o:List UInt8).length:Int)=s.S->(ns=[]->∀ y∈o,y=0)->cn s c s' c' 1 1 (upd (view s c) j.start o) (upd (aT s) j.start o)->s'.un=[]->Holds H' (aL c'.ca j++DC s' c' F)->Q .none H'):
  Cq (Rn 5 n (.af 180) [.ref j.jo,.ref a] H) Q X:=by
 rw[GQ]
 refine Cq.fin (Wq.seq (Wq.az (Wq.aI pg rfl rfl (Wq.ld rfl (aU h) (aV (by decide)) rfl rfl ⟨rfl,bo (cE h),Wq.ah (Wq.ld rfl (aU h) (aV (by decide)) rfl rfl (Wq.ah ?_))⟩))))
 refine Wq.ak (Wq.ah (Wq.ae rfl (Wq.ah (Wq.bind (Wq.ld rfl (aU h) (aV (by decide)) rfl rfl (Wq.gA (bo (cE h)) (bK (by decide)) rfl rfl (Wq.aj (Wq.cy rfl ?_))))))))
 refine Nr h ha hn (by rw[r.ok.size];exact hl) (by rw[r.ok.size];exact r.ok.dk.z.2) fun H o ho hz h=>Wq.aj ?_
 rw[r.ok.size]at ho
 refine pK (cE h) r f h1 h2 ho (by lia) fun H t c2 r2 e2 ca2 mo2 h=>?_
 have h:=dJ h
 rw[<-ca2]at h
 have hu2:Nat.ble (s.wrote t j.start o).un.length 1000=true:=Nat.ble_eq_true_of_le (by show(s.un++[(t,j.start,o)]).length<=1000;rw[List.length_append];simp;lia)
 have hD:=cE h
 have fin:∀ (H':Hp) (ke:List (Int×V)) (u:Nat),bY (s.wrote t j.start o).B ke->Holds H' (DC ((s.wrote t j.start o).fl ke u) c2 (aL c2.ca j++F))->Q .none H':=fun H ke u hk h=>
  q H ((s.wrote t j.start o).fl ke u) c2 o ho hz ⟨r2.fl hk,fun k=>(e2 k).1,fun k=>kg (s:=s) (t:=t) (b:=o) k,fun k=>(e2 k).2,ca2,mo2,ky.1,ky.2,ky.3,ky.4,ky.5⟩ Nt (dJ h)
 generalize s.wrote t j.start o=s1 at hu2 hD fin r2 h
 unfold dS
 refine Wq.seq (Wq.az (Wq.aI pe rfl rfl (Wq.ld rfl (aU h) (aV (by decide)) rfl rfl ⟨rfl,bo hD,Wq.aj ?_⟩)))
 refine pD hD r2.ok.dk hu2 fun H ke u hk h=>?_
 exact fin H ke u hk h
end
section
variable {s:Dk} {c:Ch} {j:Jn} {F:List Cl} {H:Hp} {n:Nat} {Q:V->Hp->Prop} {X:Addr->Hp->Prop}
theorem w8(r:Rest s c)(x:Int):((view s c x).length:Int)=s.S:=by
 delta view
 cases e:c.ai.find? (fun b=>b.n==x)with
 |none=>exact px r.ok.dk x
 |some b=>exact r.ok.ai.z b (List.mem_of_find?_eq_some e)
theorem cn.zero(r:Rest s c):cn s c s c 0 0 (Lite.view s c) (aT s):=⟨r,fun _=>rfl,fun _=>rfl,fun _=>rfl,rfl,rfl,rfl,rfl,rfl,(Int.add_zero _).symm,(Int.add_zero _).symm⟩
theorem cn.look{s1:Dk}{c1 c2:Ch}{w f:Int}{v d:Int->List UInt8}(g:cn s c s1 c1 w f v d)(r:Rest s1 c2)(e:∀ k,Lite.view s1 c2 k=Lite.view s1 c1 k∧aN c2 k=aN c1 k)(ca:c2.ca=c1.ca)(mo:c2.most=c1.most):cn s c s1 c2 w f v d:=
 ⟨r,fun k=>(e k).1.trans (g.view k),g.cZ,fun k=>(e k).2.trans (g.pin k),ca.trans g.ca,mo.trans g.most,g.B,g.S,g.dk,g.w,g.f⟩
theorem cn.turn{s1:Dk}{c1 c2:Ch}{t:Nat}{x:Int}{o:List UInt8}{w f:Int}{v d v' d':Int->List UInt8}(g:cn s c s1 c1 w f v d)(r:Rest (s1.wrote t x o) c2)
  (e:∀ k,Lite.view (s1.wrote t x o) c2 k=(if k=x then o else Lite.view s1 c1 k)∧aN c2 k=aN c1 k) (ca:c2.ca=c1.ca) (mo:c2.most=c1.most) (ev:∀ k,upd v x o k=v' k) (ed:∀ k,upd d x o k=d' k):cn s c (s1.wrote t x o) c2 (w+1) f v' d' where
 rest:=r
 view k:=by simp only[(e k).1,g.view,<-ev];rfl
 cZ k:=by simp only[kg,g.cZ,<-ed];rfl
 pin k:=(e k).2.trans (g.pin k)
 ca:=ca.trans g.ca
 most:=mo.trans g.most
 B:=g.B
 S:=g.S
 dk:=g.dk
 w:=by show s1.w+1=_;simp only[g.w,Int.add_assoc]
 f:=g.f
theorem cn.flush{s1:Dk}{c1:Ch}{ke:List (Int×V)}{u:Nat}{w f:Int}{v d:Int->List UInt8}(g:cn s c s1 c1 w f v d)(hk:bY s1.B ke):cn s c (s1.fl ke u) c1 w (f+1) v d where
 rest:=g.rest.fl hk
 view k:=g.view k
 cZ k:=g.cZ k
 pin:=g.pin
 ca:=g.ca
 most:=g.most
 B:=g.B
 S:=g.S
 dk:=g.dk
 w:=g.w
 f:=by show s1.f+1=_;simp only[g.f,Int.add_assoc]
theorem cn.then{s1 s2:Dk}{c1 c2:Ch}{w f w' f':Int}{v d v' d':Int->List UInt8}(g:cn s c s1 c1 w f v d)(g':cn s1 c1 s2 c2 w' f' v' d'):cn s c s2 c2 (w+w') (f+f') v' d':=
 ⟨g'.rest,g'.view,g'.cZ,fun k=>(g'.pin k).trans (g.pin k),g'.ca.trans g.ca,g'.most.trans g.most,g'.B.trans g.B,g'.S.trans g.S,g'.dk.trans g.dk,by simp only[g'.w,g.w,Int.add_assoc],by simp only[g'.f,g.f,Int.add_assoc]⟩
noncomputable def bO (v:Int->List UInt8) (p:Int) (ns:List Int) (i:Nat) (d:Int->List UInt8) (k:Int):List UInt8:=if p<=k∧k<p+i then v (ns.getD (k-p).toNat 0)else d k
theorem pQ(v:Int->List UInt8)(p:Int)(ns:List Int)(d:Int->List UInt8)(k:Int):bO v p ns 0 d k=d k:=if_neg (by lia)
theorem pR{v:Int->List UInt8}{p:Int}{ns:List Int}{i:Nat}{x:Int}(hx:ns[i]? =some x)(d:Int->List UInt8)(k:Int):upd (bO v p ns i d) (p+i) (v x) k=bO v p ns (i+1) d k:=by
 delta upd bO
 by_cases h:k=p+i
 ·rw[if_pos h,if_pos (by lia)]
  have:(k-p).toNat=i:=by lia
  rw[this,List.getD_eq_getElem?_getD,hx];rfl
 ·rw[if_neg h]
  by_cases h2:p<=k∧k<p+i
  ·rw[if_pos h2,if_pos (by lia)]
  ·rw[if_neg h2,if_neg (by lia)]
theorem pS{v:Int->List UInt8}{p:Int}{ns:List Int}{i:Nat}{d:Int->List UInt8}{k:Int}(h:k<p∨p+i<=k):bO v p ns i d k=d k:=if_neg (by lia)
theorem mn{ca:Nat}{l:List Int}(h:l.length<=900):Nat.ble (l.map V.int).length 1000=true:=Nat.ble_eq_true_of_le (by rw[List.length_map];lia)
theorem pT{l:List Int}{i:Nat}{x:V}(h:(l.map V.int)[i]? =some x):∃ k,x=.int k∧l[i]? =some k:=by
 rw[List.getElem?_map]at h
 obtain⟨k,hk,rfl⟩:=Option.map_eq_some_iff.mp h
 exact⟨k,rfl,hk⟩
structure pU(s:Dk)(j:Jn):Prop where
 a:0<=j.start
 b:j.start+j.size<=s.B
 l:(j.ns.length:Int)<j.size
 n:∀ k∈j.ns,(bp (0<=k) (k<s.B) (k<j.start∨j.start+j.size<=k))
 m:j.ns.length<=900
theorem Nu(h:Holds H (aL c.ca j++DC s c F))(r:Rest s c)(f:fq c)(lo:pU s j)(hu:s.un.length<50)
  (q:∀ H' s' c',cn s c s' c' j.ns.length 1 (bO (view s c) (j.start+1) j.ns j.ns.length (view s c)) (bO (view s c) (j.start+1) j.ns j.ns.length (aT s))->s'.un=[]->Holds H' (aL c'.ca j++DC s' c' F)->Q .none H'):
  Cq (Rn 5 n (.af 173) [.ref j.jo] H) Q X:=by
 have hm:=lo.m
 have hB:=r.ok.dk.b
 simp only[GJ]
 refine Cq.fin (Wq.seq (Wq.fG (a:=j.nums) (xs:=j.ns.map V.int) (fun i st=>iJ fun x y z s1 c1=>(dW (st.lo=[some (.ref j.jo),x,y,z]) (cn s c s1 c1 i 0 (bO (view s c) (j.start+1) j.ns i (view s c)) (bO (view s c) (j.start+1) j.ns i (aT s))) (s1.un.length=s.un.length+i) (Holds st.H (aL c1.ca j++DC s1 c1 F)))) (mn (ca:=0) hm)
  (Wq.ld rfl (aU h) (aV (by decide)) rfl rfl ⟨rfl,eQ h,_,_,_,s,c,rfl,?_,rfl,h⟩) (fun i st I=>?_) (fun i x st hx I=>?_) fun st I=>?_))
 ·have g:=cn.zero r
  exact⟨g.rest,fun k=>(pQ _ _ _ _ k).symm,fun k=>(pQ _ _ _ _ k).symm,g.pin,g.ca,g.most,g.B,g.S,g.dk,g.w,g.f⟩
 ·obtain⟨x,y,z,s1,c1,_,_,_,h⟩:=I
  exact eQ h
 ·obtain⟨x1,y,z,s1,c1,e1,g,hul,h⟩:=I
  obtain⟨lo',H⟩:=st
  subst e1
  obtain⟨x,rfl,hxn⟩:=pT hx
  have hx:=hxn
  have hi:i<j.ns.length:=(List.getElem?_eq_some_iff.mp hx).1
  have hlog:=lo.n x (List.mem_of_getElem? hx)
  have hlog3:=hlog.3
  have la:=lo.a
  have lb:=lo.b
  have ll:=lo.l
  have h:=h.app [O.tuple [.int i,.int x]]
  refine Wq.fW mi (Wq.av (Wq.av ?_))
  generalize H++[O.tuple [.int i,.int x]]=H at h
  have hD:=cE h
  refine Wq.seq (Wq.az (Wq.aI pg rfl rfl (Wq.ld rfl (aU h) (aV (by decide)) rfl rfl ⟨rfl,bo hD,Wq.ah ?_⟩)))
  refine Wq.au (Wq.au (Wq.ld rfl (aU h) (aV (by decide)) rfl rfl (Wq.pure (Wq.bZ (Wq.ae rfl (Wq.bZ (Wq.ah ?_)))))))
  refine Wq.aI pf rfl rfl (Wq.ld rfl (aU h) (aV (by decide)) rfl rfl ⟨rfl,bo hD,Wq.ah (Wq.ae rfl (Wq.aj (pJ hD g.rest (f.gZ g) hlog.1 (by simp only[g.B];exact hlog.2) fun H c2 r2 e2 ca2 mo2 h=>Wq.aj ?_)))⟩)
  have g2:=g.look r2 e2 ca2 mo2
  have hv:view s1 c1 x=view s c x:=by simp only[g.view];exact pS (by lia)
  simp only[hv]
  have hz:((view s c x).length:Int)=s1.S:=by simp only[g.S];exact w8 r x
  simp only[<-ca2]
  refine pK h r2 (f.gZ g2) (x:=j.start+1+i) (by lia) (by simp only[g.B];lia) hz (by lia) fun H t c3 r3 e3 ca3 mo3 h=>?_
  refine⟨_,_,_,s1.wrote t (j.start+1+i) (view s c x),c3,rfl,?_,?_,dJ (by simp only[ca3,ca2];exact h)⟩
  ·exact g2.turn r3 e3 ca3 mo3 (pR hx _) (pR hx _)
  ·show(s1.un++[(t,j.start+1+(i:Int),view s c x)]).length=_
   simp only[List.length_append,hul];rfl
 ·obtain⟨x1,y,z,s1,c1,e1,g,hul,h⟩:=I
  obtain⟨lo',H⟩:=st
  subst e1
  have hD:=cE h
  simp only[List.length_map]at g hul
  have hlen:Nat.ble s1.un.length 1000=true:=Nat.ble_eq_true_of_le (by lia)
  refine Wq.seq (Wq.az (Wq.aI pe rfl rfl (Wq.ld rfl (aU h) (aV (by decide)) rfl rfl ⟨rfl,bo hD,Wq.aj (pD hD g.rest.ok.dk hlen fun H ke u hk h=>?_)⟩)))
  exact q _ (s1.fl ke u) c1 (g.flush hk) rfl (dJ h)
end
section
variable {s:Dk} {c:Ch} {j:Jn} {F:List Cl} {H:Hp} {n:Nat} {Q:V->Hp->Prop} {X:Addr->Hp->Prop}
noncomputable def bP (v:Int->List UInt8) (ns:List Int) (i:Nat) (d:Int->List UInt8) (k:Int):List UInt8:=if k∈ns.take i then v k else d k
theorem w9(v:Int->List UInt8)(ns:List Int)(d:Int->List UInt8)(k:Int):bP v ns 0 d k=d k:=if_neg (by simp)
theorem xa{v:Int->List UInt8}{ns:List Int}{i:Nat}{x:Int}(hx:ns[i]? =some x)(d:Int->List UInt8)(k:Int):upd (bP v ns i d) x (v x) k=bP v ns (i+1) d k:=by
 have e:ns.take (i+1)=ns.take i++[x]:=by rw[List.take_add_one,hx];rfl
 delta upd bP
 rw[e]
 by_cases h:k=x
 ·rw[if_pos h,if_pos (by rw[h];simp),h]
 ·rw[if_neg h]
  by_cases h2:k∈ns.take i
  ·rw[if_pos h2,if_pos (List.mem_append_left _ h2)]
  ·rw[if_neg h2,if_neg]
   intro m
   rcases List.mem_append.mp m with m |m
   ·exact h2 m
   ·exact h (by simpa using m)
theorem Po(v:Int->List UInt8)(ns:List Int)(i:Nat)(k:Int):bP v ns i v k=v k:=by delta bP;split<;>rfl
theorem Nv(h:Holds H (aL c.ca j++DC s c F))(r:Rest s c)(f:fq c)(hn:∀ k∈j.ns,0<=k∧k<s.B)(hm:j.ns.length<=900)(hu:s.un.length<50)
  (q:∀ H' s' c',cn s c s' c' j.ns.length 1 (view s c) (bP (view s c) j.ns j.ns.length (aT s))->s'.un=[]->Holds H' (aL c'.ca j++DC s' c' F)->Q .none H'):
  Cq (Rn 5 n (.af 187) [.ref j.jo,.ref j.nums,.bool false] H) Q X:=by
 have hB:=r.ok.dk.b
 simp only[G3]
 refine Cq.fin (Wq.seq (Wq.fG (a:=j.nums) (xs:=j.ns.map V.int) (fun i st=>gF fun x y z w s1 c1=>(dW (st.lo=[some (.ref j.jo),some (.ref j.nums),some (.bool false),x,y,z,w]) (cn s c s1 c1 i 0 (view s c) (bP (view s c) j.ns i (aT s))) (s1.un.length=s.un.length+i) (Holds st.H (aL c1.ca j++DC s1 c1 F)))) (mn (ca:=0) hm)
  (Wq.ae rfl ⟨rfl,eQ h,_,_,_,_,s,c,rfl,?_,rfl,h⟩) (fun i st I=>?_) (fun i x st hx I=>?_) fun st I=>?_))
 ·have g:=cn.zero r
  exact⟨g.rest,g.view,fun k=>(w9 _ _ _ k).symm,g.pin,g.ca,g.most,g.B,g.S,g.dk,g.w,g.f⟩
 ·obtain⟨x,y,z,w,s1,c1,_,_,_,h⟩:=I
  exact eQ h
 ·obtain⟨x1,y,z,w,s1,c1,e1,g,hul,h⟩:=I
  obtain⟨lo',H⟩:=st
  subst e1
  obtain⟨x,rfl,hxn⟩:=pT hx
  have hx:=hxn
  have hi:i<j.ns.length:=(List.getElem?_eq_some_iff.mp hx).1
  have hlog:=hn x (List.mem_of_getElem? hx)
  have h:=h.app [O.tuple [.int i,.int x]]
  refine Wq.fW mi (Wq.av (Wq.av ?_))
  generalize H++[O.tuple [.int i,.int x]]=H at h
  have hD:=cE h
  refine Wq.seq (Wq.ao (Wq.aI pf rfl rfl (Wq.ld rfl (aU h) (aV (by decide)) rfl rfl ⟨rfl,bo hD,Wq.ah (Wq.fj (Wq.bind (Wq.ae rfl (Wq.truth ?_))))⟩)))
  refine Wq.ae rfl (Wq.aj (pJ hD g.rest (f.gZ g) hlog.1 (by simp only[g.B];exact hlog.2) fun H c2 r2 e2 ca2 mo2 h=>Wq.av ?_))
  have g2:=g.look r2 e2 ca2 mo2
  simp only[g.view x]
  have hz:((view s c x).length:Int)=s1.S:=by simp only[g.S];exact w8 r x
  have hD:=h
  have h:=dJ h
  simp only[<-ca2]at h
  refine Wq.seq (Wq.az (Wq.aI pg rfl rfl (Wq.ld rfl (aU h) (aV (by decide)) rfl rfl ⟨rfl,bo hD,Wq.ah (Wq.ae rfl (Wq.ah (Wq.ae rfl (Wq.aj ?_))))⟩)))
  refine pK hD r2 (f.gZ g2) hlog.1 (by simp only[g.B];exact hlog.2) hz (by lia) fun H t c3 r3 e3 ca3 mo3 h=>?_
  refine⟨_,_,_,_,s1.wrote t x (view s c x),c3,rfl,?_,?_,dJ (by simp only[ca3,ca2];exact h)⟩
  ·refine g2.turn r3 e3 ca3 mo3 (fun k=>?_) (xa hx _)
   delta upd
   split
   ·rename_i hk;simp only[hk]
   ·rfl
  ·show(s1.un++[(t,x,view s c x)]).length=_
   simp only[List.length_append,hul];rfl
 ·obtain⟨x1,y,z,w,s1,c1,e1,g,hul,h⟩:=I
  obtain⟨lo',H⟩:=st
  subst e1
  have hD:=cE h
  simp only[List.length_map]at g hul
  have hlen:Nat.ble s1.un.length 1000=true:=Nat.ble_eq_true_of_le (by lia)
  refine Wq.seq (Wq.az (Wq.aI pe rfl rfl (Wq.ld rfl (aU h) (aV (by decide)) rfl rfl ⟨rfl,bo hD,Wq.aj (pD hD g.rest.ok.dk hlen fun H ke u hk h=>?_)⟩)))
  exact q _ (s1.fl ke u) c1 (g.flush hk) rfl (dJ h)
end
section
variable {s:Dk} {c:Ch} {j:Jn} {F:List Cl} {H:Hp} {n:Nat} {Q:V->Hp->Prop} {X:Addr->Hp->Prop} {l1 l2:List Bf} {b b':Bf}
theorem Nw(nd:((l1++b::l2).map (·.n)).Nodup)(e:b'.n=b.n)(k:Int):(l1++b'::l2).find? (fun x=>x.n==k)=if k=b.n then some b' else (l1++b::l2).find? fun x=>x.n==k:=by
 have nd':((l1++b'::l2).map (·.n)).Nodup:=by
  rw[List.map_append,List.map_cons]at nd ⊢
  rw[e];exact nd
 by_cases hk:k=b.n
 ·rw[if_pos hk,hk,<-e];exact gV nd'
 ·rw[if_neg hk,List.find?_append,List.find?_append,List.find?_cons,List.find?_cons]
  have h1:(b'.n==k)=false:=by rw[e];simpa using Ne.symm hk
  have h2:(b.n==k)=false:=by simpa using Ne.symm hk
  rw[h1,h2]
theorem Nx(r:Rest s c)(e:c.ai=l1++b::l2)(e1:b'.n=b.n)(e2:b'.a=b.a)(e3:b'.x=b.x)(e4:b'.h=0)(ep:0<=b'.p)(cl:b'.p=0->b.x=aT s b.n):
  Rest s (c.with (l1++b'::l2))∧∀ k,view s (c.with (l1++b'::l2)) k=view s c k∧aN (c.with (l1++b'::l2)) k=if k=b.n then b'.p else aN c k:=by
 have hm:b∈c.ai:=by rw[e];exact List.mem_append_right _ (.head _)
 have nd:=r.ok.ai.nd
 rw[e]at nd
 have fs:=Nw (l1:=l1) (l2:=l2) nd e1
 have fm:=gV (l1:=l1) (l2:=l2) (b:=b) nd
 refine⟨⟨r.ok.swap e e1 e2 (by rw[e3];exact r.ok.ai.z b hm) ep (fun hp _=>by rw[e3,e1];exact cl hp),fun y hy=>?_⟩,fun k=>⟨?_,?_⟩⟩
 ·rcases List.mem_append.mp hy with hy |hy
  ·exact r.idle y (by rw[e];exact List.mem_append_left _ hy)
  ·cases hy with
   |head=>exact e4
   |tail _ hy=>exact r.idle y (by rw[e];exact List.mem_append_right _ (.tail _ hy))
 ·show(match (l1++b'::l2).find? fun b=>b.n==k with |some b=>b.x |none=>aT s k)=match c.ai.find? fun b=>b.n==k with |some b=>b.x |none=>aT s k
  rw[fs k,e]
  by_cases hk:k=b.n
  ·rw[if_pos hk,hk,fm];exact e3
  ·rw[if_neg hk]
 ·show(match (l1++b'::l2).find? fun b=>b.n==k with |some b=>b.p |none=>0)=if k=b.n then b'.p else match c.ai.find? fun b=>b.n==k with |some b=>b.p |none=>0
  rw[fs k,e]
  by_cases hk:k=b.n
  ·rw[if_pos hk,if_pos hk]
  ·rw[if_neg hk,if_neg hk]
theorem Ny(h:Holds H (DC s c F))(r:Rest s c){x:Int}(hv:view s c x=aT s x)(hp:aN c x≠0)
  (q:∀ H' c',Rest s c'->(∀ k,view s c' k=view s c k∧aN c' k=if k=x then aN c x-1 else aN c k)->c'.ca=c.ca->c'.most=c.most->Holds H' (DC s c' F)->Q .none H'):Cq (Rn 1 n (.af 369) [.ref c.ca,.int x] H) Q X:=by
 cases ef:c.ai.find? (fun b=>b.n==x)with
 |none=>
  have:aN c x=0:=by delta aN;rw[ef]
  exact absurd this hp
 |some b=>
  obtain⟨hn,l1,l2,e⟩:=wH ef
  have ep:aN c x=b.p:=by delta aN;rw[ef]
  have ev:view s c x=b.x:=by delta view;rw[ef]
  have hm:b∈c.ai:=by rw[e];exact List.mem_append_right _ (.head _)
  have h0:=r.ok.ai.p b hm
  rw[ep]at hp q
  subst hn
  refine M1 h r.ok e hp fun H h=>?_
  obtain⟨r2,e2⟩:=Nx (b':=b.pin (b.p-1)) r e rfl rfl rfl (r.idle b hm) (by show 0<=b.p-1;lia) (fun _=>by rw[<-ev];exact hv)
  exact q H _ r2 e2 rfl rfl h
theorem into{x:Cl}{Y:List Cl}(h:Holds H (x::(Y++DC s c F))):Holds H (Y++DC s c (x::F)):=by
 have e:Y++DC s c F=(Y++cA s c++aW s)++F:=by simp only[List.append_assoc]
 rw[e]at h
 have:=h.mid
 simp only[List.append_assoc]at this
 exact this
theorem iF{x:Cl}{Y:List Cl}(h:Holds H (Y++DC s c (x::F))):Holds H (Y++DC s c F):=
 h.sub (List.Sublist.append (List.Sublist.refl _) (List.Sublist.append (List.Sublist.refl _) (List.Sublist.append (List.Sublist.refl _) (List.sublist_cons_self _ _))))
noncomputable def eR (V:Int->List UInt8) (S start:Int) (ns:List Int) (k:Int):List UInt8:=if k=start then zeros S else bO V (start+1) ns ns.length V k
theorem Nz{V:Int->List UInt8}{S start:Int}{ns:List Int}{o:List UInt8}(k:Int):upd (upd (bO V (start+1) ns ns.length V) start o) start (zeros S) k=eR V S start ns k:=by
 delta upd eR
 split
 ·rfl
 ·rfl
theorem NA{V D:Int->List UInt8}{S start:Int}{ns:List Int}{o:List UInt8}(hD:∀ k,k ∉ ns->V k=D k)(k:Int):
  upd (bP (upd (bO V (start+1) ns ns.length V) start o) ns ns.length (upd (bO V (start+1) ns ns.length D) start o)) start (zeros S) k=eR V S start ns k:=by
 unfold upd eR bP
 rw[List.take_length]
 dsimp only
 by_cases h:k=start
 ·rw[if_pos h,if_pos h]
 ·rw[if_neg h,if_neg h,if_neg h,if_neg h]
  by_cases h2:k∈ns
  ·rw[if_pos h2]
  ·rw[if_neg h2]
   delta bO
   rw[hD k h2]
end
section
variable {s:Dk} {c:Ch} {j:Jn} {F:List Cl} {H:Hp} {n:Nat} {Q:V->Hp->Prop} {X:Addr->Hp->Prop}
theorem NB{o:List UInt8}{S:Int}(hl:(o.length:Int)=S)(h:∀ y∈o,y=0):o=zeros S:=by
 unfold zeros
 rw[List.eq_replicate_iff]
 exact⟨by lia,h⟩
noncomputable def Jn.fresh (j:Jn) (u1 u2:Nat):Jn:={j with nums:=u1,cK:=u2,bN:=j.bN+1,ns:=[],nt:=[]}
noncomputable def Jn.kz (j:Jn) (u1:Nat):Jn:={j with nums:=u1,ns:=[]}
noncomputable def Jn.mq (j:Jn) (u1 u2:Nat):Jn:={j with nums:=u1,cK:=u2,ns:=[],nt:=[]}
theorem NC{ca u:Nat}{G:List Cl}(h:Holds H ((u,.list [])::(aL ca j++G))):Holds (H.set j.jo (gD ca (j.kz u))) (aL ca (j.kz u)++G):=by
 have h1:=Holds.dT h (gD ca (j.kz u))
 refine Holds.sub (h1.perm (c':=(j.jo,gD ca (j.kz u))::(u,.list [])::(j.nums,.list (j.ns.map V.int))::(j.cK,.dict j.nt)::G) (List.Perm.swap _ _ _)) ?_
 exact .cons_cons _ (.cons_cons _ (.cons _ (List.Sublist.refl _)))
theorem ND{ca u v:Nat}{G:List Cl}(h:Holds H ((v,.dict [])::(aL ca (j.kz u)++G))):Holds (H.set j.jo (gD ca (j.mq u v))) (aL ca (j.mq u v)++G):=by
 have h1:=Holds.dT h (gD ca (j.mq u v))
 refine Holds.sub (h1.perm (c':=(j.jo,gD ca (j.mq u v))::(u,.list [])::(v,.dict [])::(j.cK,.dict j.nt)::G) ?_) ?_
 ·refine(List.Perm.swap _ _ _).trans (List.Perm.cons _ (List.Perm.swap _ _ _))
 ·exact .cons_cons _ (.cons_cons _ (.cons_cons _ (.cons _ (List.Sublist.refl _))))
theorem NF(h:Holds H (aL c.ca j++DC s c F))(r:Rest s c)(f:fq c)(lo:pU s j)(hS:4*((j.ns.length:Int)+1)<=s.S)(nd:j.ns.Nodup)(eh:∀ k,aN c k=if k∈j.ns then 1 else 0)(hD:∀ k,k ∉ j.ns->view s c k=aT s k)(hu:s.un=[])
  (q:∀ H' s' c' u1 u2 g,cn s c s' g (2*j.ns.length+2) 4 (eR (view s c) s.S j.start j.ns) (eR (view s c) s.S j.start j.ns)->Rest s' c'->(∀ k,view s' c' k=view s' g k∧aN c' k=0)->c'.ca=c.ca->c'.most=c.most->s'.un=[]->Holds H' (aL c'.ca (j.fresh u1 u2)++DC s' c' F)->Q .none H'):
  Cq (Rn 6 n (.af 166) [.ref j.jo] H) Q X:=by
 have hm:=lo.m
 have ns0:∀ k∈j.ns,0<=k:=fun k hk=>(lo.n k hk).1
 have la:=lo.a;have lb:=lo.b;have ll:=lo.l
 rw[GA]
 refine Cq.fin (Wq.seq (Wq.az (Wq.aI Mr rfl rfl (Wq.ae rfl ⟨rfl,aU h,Wq.aj (Nu h r f lo (by rw[hu];decide) fun H s1 c1 g1 u1 h=>?_)⟩))))
 refine Wq.seq (Wq.az (Wq.aI wm rfl rfl (Wq.ae rfl ⟨rfl,aU h,Wq.ah (Wq.ld rfl (aU h) (aV (by decide)) rfl rfl (Wq.aj ?_))⟩)))
 refine w7 (ns:=j.ns) h g1.rest (f.gZ g1) (.tail _ (.head _)) ns0 (by rw[g1.S];exact hS) la (by rw[g1.B];lia) (by rw[u1];decide) fun H s2 c2 o ho _ g2 u2 h=>?_
 have f2:=(f.gZ g1).gZ g2
 refine Wq.seq (Wq.az (Wq.aI Ms rfl rfl (Wq.ae rfl ⟨rfl,aU h,Wq.ah (Wq.ld rfl (aU h) (aV (by decide)) rfl rfl (Wq.ah (Wq.pure (Wq.aj ?_))))⟩)))
 refine Nv h g2.rest f2 (fun k hk=>by simp only[g2.B,g1.B];exact⟨ns0 k hk,(lo.n k hk).2⟩) hm (by rw[u2];decide) fun H s3 c3 g3 u3 h=>?_
 have f3:=f2.gZ g3
 refine Wq.seq (Wq.az (Wq.aI wm rfl rfl (Wq.ae rfl ⟨rfl,aU h,Wq.ah (Wq.fH (Wq.aj ⟨rfl,h,fun H u h=>Wq.aj ?_⟩))⟩)))
 have hI:=into h
 refine w7 (a:=u) (ns:=[]) hI g3.rest f3 ?_ (fun _ z=>nomatch z) (by simp only[g3.S,g2.S,g1.S];simp;lia) la (by simp only[g3.B,g2.B,g1.B];lia) (by rw[u3];decide) fun H s4 c4 o2 ho2 hz2 g4 u4 h=>?_
 ·exact List.mem_append_right _ (List.mem_append_right _ (List.mem_append_right _ (.head _)))
 have h:=iF h
 have ez:o2=zeros s.S:=NB (by simp only[ho2,g3.S,g2.S,g1.S]) (hz2 rfl)
 have G:=((g1.then g2).then g3).then g4
 have ev1:view s1 c1=bO (view s c) (j.start+1) j.ns j.ns.length (view s c):=funext g1.view
 have ed1:aT s1=bO (view s c) (j.start+1) j.ns j.ns.length (aT s):=funext g1.cZ
 have ev2:view s2 c2=upd (view s1 c1) j.start o:=funext g2.view
 have ed2:aT s2=upd (aT s1) j.start o:=funext g2.cZ
 have ev3:view s3 c3=view s2 c2:=funext g3.view
 have ed3:aT s3=bP (view s2 c2) j.ns j.ns.length (aT s2):=funext g3.cZ
 have G:cn s c s4 c4 (2*j.ns.length+2) 4 (eR (view s c) s.S j.start j.ns) (eR (view s c) s.S j.start j.ns):=by
  refine⟨G.rest,fun k=>?_,fun k=>?_,G.pin,G.ca,G.most,G.B,G.S,G.dk,?_,G.f⟩
  ·simp only[g4.view,ev3,ev2,ev1,ez];exact Nz k
  ·simp only[g4.cZ,ed3,ed2,ev2,ev1,ed1,ez];exact NA hD k
  ·rw[G.w];lia
 have hvd:∀ k,view s4 c4 k=aT s4 k:=fun k=>(G.view k).trans (G.cZ k).symm
 refine Wq.seq (Wq.dF (a:=j.nums) (xs:=j.ns.map V.int) (fun vs st=>eU fun d e x c5=>(kK (j.ns=d++e) (vs=e.map V.int) (st.lo=[some (.ref j.jo),x]) (Rest s4 c5) (∀ k,view s4 c5 k=view s4 c4 k∧aN c5 k=if k∈e then 1 else 0) (c5.ca=c.ca) (c5.most=c.most) (Holds st.H (aL c5.ca j++DC s4 c5 F)))) (mn (ca:=0) hm)
  (Wq.ld rfl (aU h) (aV (by decide)) rfl rfl ⟨rfl,eQ h,[],j.ns,_,c4,rfl,rfl,rfl,g4.rest,fun k=>⟨rfl,(G.pin k).trans (eh k)⟩,G.ca,G.most,h⟩) (fun vs st I=>?_) (fun v vs st I=>?_) fun st I=>?_)
 ·obtain⟨d,e,x,c5,_,_,_,_,_,_,_,h⟩:=I
  exact eQ h
 ·obtain⟨d,e,x,c5,e1,e2,e3,r5,e5,ca5,mo5,h⟩:=I
  obtain⟨lo',H⟩:=st
  subst e3
  cases e with
  |nil=>contradiction
  |cons y e=>
   (injection e2;subst_vars)
   have hD5:=cE h
   refine Wq.av (Wq.seq (Wq.az (Wq.aI Mw rfl rfl (Wq.ld rfl (aU h) (aV (by decide)) rfl rfl ⟨rfl,bo hD5,Wq.ah (Wq.ae rfl (Wq.aj ?_))⟩))))
   have hp1:aN c5 y=1:=by rw[(e5 y).2,if_pos (.head _)]
   refine Ny hD5 r5 ((e5 y).1.trans (hvd y)) (by rw[hp1];decide) fun H c6 r6 e6 ca6 mo6 h=>?_
   refine⟨d++[y],e,_,c6,by rw[e1];simp,rfl,rfl,r6,fun k=>⟨(e6 k).1.trans (e5 k).1,?_⟩,ca6.trans ca5,mo6.trans mo5,dJ (by rw[ca6];exact h)⟩
   rw[e1]at nd
   have nd2:=(List.nodup_cons.mp (List.nodup_append.mp nd).2.1).1
   simp only[(e6 k).2,hp1]
   by_cases hk:k=y
   ·rw[if_pos hk,if_neg (by rw[hk];exact nd2)];rfl
   ·simp only[if_neg hk,(e5 k).2]
    by_cases hk2:k∈e
    ·rw[if_pos hk2,if_pos (.tail _ hk2)]
    ·rw[if_neg hk2,if_neg (by simp[hk,hk2])]
 ·obtain⟨d,e,x,c5,e1,e2,e3,r5,e5,ca5,mo5,h⟩:=I
  obtain⟨lo',H⟩:=st
  subst e3
  have he:e=[]:=List.map_eq_nil_iff.mp e2.symm
  subst he
  refine Wq.seq (Wq.ao (Wq.fH (Wq.aj ⟨rfl,h,fun H u h=>Wq.bind (Wq.ae rfl (Wq.sA (h.on _ (.tail _ (.head _))) (aV (by decide)) rfl ?_))⟩)))
  have h:=NC h
  refine Wq.seq (Wq.ao (Wq.dw h fun H u2 h=>Wq.bind (Wq.ae rfl (Wq.sA (h.on _ (.tail _ (.head _))) (aV (by decide)) rfl ?_))))
  have h:=ND h
  refine Wq.seq (Wq.gB (c':=aL c5.ca (j.fresh u u2)++DC s4 c5 F) rfl h.hd (aV (by decide)) rfl rfl (h.cO _) fun H h=>?_)
  exact q H s4 c5 u u2 c4 G r5 (fun k=>⟨(e5 k).1,by rw[(e5 k).2];exact if_neg (by simp)⟩) ca5 mo5 u4 h
end
section
variable {X:Addr->Hp->Prop} {lo:List (Option V)} {H:Hp} {Q:V->St->Prop} {a b:Nat} {n:Nat}
theorem NG{f:V->V->Option Bool}{xs:List V}(h:∀ x∈xs,f x x=some true):dX f xs xs=some true:=by
 induction xs with
 |nil=>rfl
 |cons x r ih=>
  show((f x x).bind fun r_1=>(dX f r r).bind fun r'=>some (r_1&&r'))=_
  rw[h x (.head _),ih fun y hy=>h y (.tail _ hy)]
  rfl
theorem xb{xs ys:List V}(ne:a≠b)(ea:H[a]? =some (.list xs))(eb:H[b]? =some (.list ys))(hl:xs.length=ys.length){r:Bool}(h:dX (bX H n) xs ys=some r):bX H (n+1) (.ref a) (.ref b)=some r:=by
 show(if a=b then none else js (bX H n) H[a]? H[b]?)=some r
 rw[if_neg ne,ea,eb]
 show(if xs.length=ys.length then dX (bX H n) xs ys else some false)=some r
 rw[if_pos hl];exact h
theorem jg{xs:List V}(ne:a≠b)(ea:H[a]? =some (.list xs))(eb:H[b]? =some (.list xs))(h:∀ x∈xs,bX H n x x=some true):bX H (n+1) (.ref a) (.ref b)=some true:=xb ne ea eb rfl (NG h)
theorem pV{xs:List V}(ne:a≠b)(ea:H[a]? =some (.list xs))(eb:H[b]? =some (.list [])):bX H (n+1) (.ref a) (.ref b)=some (decide (xs=[])):=by
 cases xs with
 |nil=>exact jg ne ea eb fun _ z=>nomatch z
 |cons x r=>
  show(if a=b then none else js (bX H n) H[a]? H[b]?)=_
  rw[if_neg ne,ea,eb]
  rfl
theorem Wq.ne{Q:Bool->St->Prop}{x y:V}{r:Bool}(e:bX H 4 x y=some r)(q:Q (!r) ⟨lo,H⟩):Wq (cB .NotEq x y ⟨lo,H⟩) Q X:=by
 exact Wq.bind (Wq.bind (Wq.ar e q))
theorem Wq.eq{Q:Bool->St->Prop}{x y:V}{r:Bool}(e:bX H 4 x y=some r)(q:Q r ⟨lo,H⟩):Wq (cB .Eq x y ⟨lo,H⟩) Q X:=by
 exact Wq.bind (Wq.ar e q)
theorem Holds.ne{x y:Cl}{c1 c2:List Cl}(h:Holds H (c1++x::c2))(m:y∈c1++c2):y.1≠x.1:=by
 have:=(h.perm List.perm_middle).nd
 rw[List.map_cons,List.nodup_cons]at this
 intro e
 exact this.1 (List.mem_map.mpr ⟨y,m,e⟩)
end
theorem Holds.gc{H:Hp}{x:Cl}{c:List Cl}(h:Holds H (x::c)){a:Nat}{o:O}(m:(a,o)∈c):a≠x.1:=h.ne (c1:=[]) m
structure Sys(s:Dk)(c:Ch)(j:Jn):Prop where
 r:Rest s c
 f:fq c
 lo:pU s j
 hS:4*((j.ns.length:Int)+1)<=s.S
 nd:j.ns.Nodup
 eh:∀ k,aN c k=if k∈j.ns then 1 else 0
 hD:∀ k,k ∉ j.ns->view s c k=aT s k
 hu:s.un=[]
section
variable {s:Dk} {c:Ch} {j:Jn} {F:List Cl} {H:Hp} {n:Nat} {Q:V->Hp->Prop} {X:Addr->Hp->Prop}
theorem Wq.kA{Q:Bool->St->Prop}{lo:List (Option V)}{e:M Bool}(h:Wq (e ⟨lo,H⟩) Q X):Wq (allM .And [e] ⟨lo,H⟩) Q X:=by
 delta allM
 refine Wq.bind (h.mono (fun t s q=>?_) fun _ _ q=>q)
 cases t<;>exact q
theorem Wq.jh{Q:Bool->St->Prop}{lo:List (Option V)}{e:M Bool}(h:Wq (e ⟨lo,H⟩) Q X):Wq (allM .Or [e] ⟨lo,H⟩) Q X:=by
 delta allM
 refine Wq.bind (h.mono (fun t s q=>?_) fun _ _ q=>q)
 cases t<;>exact q
theorem ji(h:Holds H (aL c.ca j++DC s c F))(y:Sys s c j)(q1:j.calls=0->X 52 H)
  (q2:j.calls≠0->(j.calls-1=0->j.ns=[])->∀ H',Holds H' (aL c.ca (j.bU (j.calls-1))++DC s c F)->Q .none H')
  (q3:j.calls=1->j.ns≠[]->∀ H' s' c' u1 u2 g,cn s c s' g (2*j.ns.length+2) 4 (eR (view s c) s.S j.start j.ns) (eR (view s c) s.S j.start j.ns)->Rest s' c'->(∀ k,view s' c' k=view s' g k∧aN c' k=0)->c'.ca=c.ca->c'.most=c.most->s'.un=[]->Holds H' (aL c'.ca ((j.bU 0).fresh u1 u2)++DC s' c' F)->Q .none H'):
  Cq (Rn 7 n (.af 159) [.ref j.jo] H) Q X:=by
 rw[Gj]
 refine Cq.fin (Wq.seq (Wq.aH (Wq.bind (Wq.ld rfl (aU h) (aV (by decide)) rfl rfl (Wq.aS (Wq.pure (Wq.dH (r:=decide (j.calls=0)) rfl ?_)))))))
 cases d1:decide (j.calls=0)with
 |true=>exact Wq.seq (kq pN (q1 (of_decide_eq_true d1)))
 |false=>
  have d1:=of_decide_eq_false d1
  refine Wq.dj ?_
  refine Wq.seq (Wq.pv (c':=aL c.ca (j.bU (j.calls-1))++DC s c F) rfl (aU h) (aV (by decide)) rfl rfl (h.cO _) fun H h=>?_)
  refine Wq.seq (Wq.aH (Wq.and (Wq.bind (Wq.ld rfl (aU (j:=j.bU (j.calls-1)) h) (aV (by decide)) rfl rfl (Wq.aS (Wq.pure (Wq.dH (r:=decide (j.calls-1=0)) rfl ?_)))))))
  cases d2:decide (j.calls-1=0)with
  |false=>
   unfold gz
   exact Wq.dj (q2 d1 (fun z=>absurd z (of_decide_eq_false d2)) H h)
  |true=>
   have d2:=of_decide_eq_true d2
   unfold gz
   refine Wq.kA (Wq.bind (Wq.ld rfl (aU (j:=j.bU (j.calls-1)) h) (aV (by decide)) rfl rfl (Wq.aS (Wq.fH (Wq.aj ⟨rfl,h,fun H u h=>?_⟩)))))
   refine Wq.ne (r:=decide (j.ns=[])) ?_ ?_
   ·rw[pV (h.gc (.tail _ (.head _))) (h.on _ (.tail _ (.tail _ (.head _)))) h.hd]
    congr 1
    exact decide_eq_decide.mpr List.map_eq_nil_iff
   have h:=h.aX
   cases d3:decide (j.ns=[])with
   |true=>exact Wq.dj (q2 d1 (fun _=>of_decide_eq_true d3) H h)
   |false=>
    have d3:=of_decide_eq_false d3
    have e1:j.calls=1:=by lia
    rw[d2]at h
    refine Wq.seq (Wq.az (Wq.aI Mq rfl rfl (Wq.ae rfl ⟨rfl,aU (j:=j.bU 0) h,Wq.aj ?_⟩)))
    refine NF (j:=j.bU 0) h y.r y.f ⟨y.lo.a,y.lo.b,y.lo.l,y.lo.n,y.lo.m⟩ y.hS y.nd y.eh y.hD y.hu fun H s' c' u1 u2 g G r' e' ca' mo' u' h=>?_
    exact q3 e1 d3 H s' c' u1 u2 g G r' e' ca' mo' u' h
end
section
variable {X:Addr->Hp->Prop} {lo:List (Option V)} {H:Hp}
theorem Wq.fld{Q:Fl->St->Prop}{k a:Nat}{D:Addr}{fs:List (Nat×V)}{m:M V}(e1:P0.cq.contains (D,k)=true)(e3:Nat.ble fs.length 100=true)
  (h:Wq (m ⟨lo,H⟩) (fun v s=>s.lo[0]? =some (some (.ref a))∧∃ c,Holds s.H ((a,.inst D fs)::c)∧∀ H',Holds H' ((a,.inst D (dC fs k v))::c)->Q .next ⟨s.lo,H'⟩) X):
  Wq (Lite.ao m (fun v=>(Lite.ae 0)>>=fun o=>Lite.sA P0 k o v) ⟨lo,H⟩) Q X:=by
 refine Wq.ao (h.mono (fun v s q=>?_) fun _ _ q=>q)
 obtain⟨e0,c,hc,q⟩:=q
 exact Wq.bind (Wq.ae e0 (Wq.sA hc.hd e1 e3 (q _ (hc.cO _))))
theorem Holds.sw{x y:Cl}{c:List Cl}(h:Holds H (x::y::c)):Holds H (y::x::c):=h.perm (List.Perm.swap _ _ _)
end
noncomputable def g5 (t ke le un:Nat) (B S:Int):Dk:=⟨t,ke,le,un,B,S,0,0,[],[],[]⟩
noncomputable def kB (t row bT:Nat) (m S:Int):Ch:=⟨t,row,bT,m,S,0,0,0,[],[]⟩
theorem NH{t ke le un:Nat}{B S:Int}(hB:0<=B∧B<=1000)(hS:0<=S∧S<=1000):fp (g5 t ke le un B S):=
 ⟨hB,hS,bY.nil,bY.nil,fun _ _ e=>(nomatch e),fun _ e=>(nomatch e)⟩
section
variable {F:List Cl} {H:Hp} {n:Nat} {Q:V->Hp->Prop} {X:Addr->Hp->Prop} {t:Nat}
theorem NI{B S:Int}(h:Holds H ((t,.inst 515 [])::F))(hB:1<=B)(hS:1<=S)(q:∀ H' ke le un,Holds H' (aW (g5 t ke le un B S)++F)->Q .none H'):Cq (Rn 1 n (.af 435) [.ref t,.int B,.int S] H) Q X:=by
 rw[IZ]
 refine Cq.fin (Wq.seq (Wq.cN (Wq.or (Wq.bind (Wq.ae rfl (Wq.aS (Wq.pure (Wq.eP (r:=false) (decide_eq_false (by lia)) ?_))))))))
 unfold gy
 refine Wq.jh (Wq.bind (Wq.ae rfl (Wq.aS (Wq.pure (Wq.eP (r:=false) (decide_eq_false (by lia)) ⟨rfl,?_⟩)))))
 refine Wq.seq (Wq.fld (bR (by decide)) rfl (Wq.ae rfl ⟨rfl,_,h,fun H h=>?_⟩))
 refine Wq.seq (Wq.fld (bR (by decide)) rfl (Wq.ae rfl ⟨rfl,_,h,fun H h=>?_⟩))
 refine Wq.seq (Wq.fld (bR (by decide)) rfl (Wq.dw h fun H ke h=>⟨rfl,_,h.sw,fun H h=>?_⟩))
 refine Wq.seq (Wq.fld (bR (by decide)) rfl (Wq.dw h fun H le h=>⟨rfl,_,h.sw,fun H h=>?_⟩))
 refine Wq.seq (Wq.fld (bR (by decide)) rfl (Wq.fH (Wq.aj ⟨rfl,h,fun H un h=>⟨rfl,_,h.sw,fun H h=>?_⟩⟩)))
 refine Wq.seq (Wq.fld (bR (by decide)) rfl (Wq.pure ⟨rfl,_,h,fun H h=>?_⟩))
 refine Wq.seq (Wq.fld (bR (by decide)) rfl (Wq.pure ⟨rfl,_,h,fun H h=>?_⟩))
 refine Wq.seq (Wq.fld (bR (by decide)) rfl (Wq.pure ⟨rfl,_,h,fun H h=>?_⟩))
 refine Wq.seq (Wq.fld (bR (by decide)) rfl (Wq.pure ⟨rfl,_,h,fun H h=>?_⟩))
 refine Wq.seq (Wq.fld (bR (by decide)) rfl (Wq.pure ⟨rfl,_,h,fun H h=>?_⟩))
 have h:Holds H ((t,gR (g5 t ke le un B S))::(un,.list [])::(le,.dict [])::(ke,.dict [])::F):=h
 exact q H ke le un (h.perm (List.Perm.cons _ ((List.Perm.swap _ _ _).trans ((List.Perm.cons _ (List.Perm.swap _ _ _)).trans (List.Perm.swap _ _ _)))))
theorem NJ{s:Dk}{m:Int}(h:Holds H ((t,.inst 417 [])::(aW s++F)))(hm:1<=m)(q:∀ H' row bT,Holds H' (DC s (kB t row bT m s.S) F)->Q .none H'):Cq (Rn 1 n (.af 320) [.ref t,.ref s.dk,.int m] H) Q X:=by
 rw[Hk]
 refine Cq.fin (Wq.seq (Wq.cN (Wq.bind (Wq.ae rfl (Wq.aS (Wq.pure (Wq.eP (r:=false) (decide_eq_false (by omega)) ⟨rfl,?_⟩)))))))
 refine Wq.seq (Wq.fld (bK (by decide)) rfl (Wq.ae rfl ⟨rfl,_,h,fun H h=>?_⟩))
 refine Wq.seq (Wq.fld (bK (by decide)) rfl (Wq.ae rfl ⟨rfl,_,h,fun H h=>?_⟩))
 refine Wq.seq (Wq.fld (bK (by decide)) rfl (Wq.ld rfl (cz h.aX) (bR (by decide)) rfl rfl ⟨rfl,_,h,fun H h=>?_⟩))
 refine Wq.seq (Wq.fld (bK (by decide)) rfl (Wq.fH (Wq.aj ⟨rfl,h,fun H row h=>⟨rfl,_,h.sw,fun H h=>?_⟩⟩)))
 refine Wq.seq (Wq.fld (bK (by decide)) rfl (Wq.dw h fun H bT h=>⟨rfl,_,h.sw,fun H h=>?_⟩))
 refine Wq.seq (Wq.fld (bK (by decide)) rfl (Wq.pure ⟨rfl,_,h,fun H h=>?_⟩))
 refine Wq.seq (Wq.fld (bK (by decide)) rfl (Wq.pure ⟨rfl,_,h,fun H h=>?_⟩))
 refine Wq.seq (Wq.fld (bK (by decide)) rfl (Wq.pure ⟨rfl,_,h,fun H h=>?_⟩))
 have h:Holds H ((t,dI s (kB t row bT m s.S))::(bT,.dict [])::(row,.list [])::(aW s++F)):=h
 exact q H row bT (h.perm (List.Perm.cons _ (List.Perm.swap _ _ _)))
end
section
variable {X:Addr->Hp->Prop} {lo:List (Option V)} {H:Hp} {C:V->List V->Hp->CR} {Q:V->St->Prop}
theorem Wq.min2{a b:Int}(q:Q (.int (min a b)) ⟨lo,H⟩):Wq (aR P0 C true (.bi "min") [.int a,.int b] ⟨lo,H⟩) Q X:=by
 have e:aR P0 C true (.bi "min") [.int a,.int b] ⟨lo,H⟩=.ok (.int (min a b)) ⟨lo,H⟩:=by kernel_rfl
 rw[e];exact q
theorem Wq.NK{a b c:Int}(q:Q (.int (min (min a b) c)) ⟨lo,H⟩):Wq (aR P0 C true (.bi "min") [.int a,.int b,.int c] ⟨lo,H⟩) Q X:=by
 have e:aR P0 C true (.bi "min") [.int a,.int b,.int c] ⟨lo,H⟩=.ok (.int (min (min a b) c)) ⟨lo,H⟩:=by kernel_rfl
 rw[e];exact q
theorem Wq.NL{Q:Bool->St->Prop}{i:Int}(q:Q false ⟨lo,H⟩):Wq (cB .Is (.int i) .none ⟨lo,H⟩) Q X:=q
theorem Wq.pW{a b:Int}(h:b≠0∧b.natAbs<2 ^ 64)(q:Q (.int (a.fdiv b)) ⟨lo,H⟩):Wq (binop .FloorDiv (.int a) (.int b) ⟨lo,H⟩) Q X:=by
 refine Wq.bind (Wq.ar rfl (Wq.bind (Wq.guard ?_ q)))
 exact Bool.and_eq_true_iff.mpr ⟨decide_eq_true h.1,decide_eq_true h.2⟩
theorem Wq.mu{a b:Int}(h:b≠0)(q:Q (.int (a.fmod b)) ⟨lo,H⟩):Wq (binop .Mod (.int a) (.int b) ⟨lo,H⟩) Q X:=by
 exact Wq.bind (Wq.ar rfl (Wq.bind (Wq.guard (decide_eq_true h) q)))
end
noncomputable def Pq (t nums cK:Nat) (start size most each S cm:Int):Jn:=⟨t,nums,cK,start,size,min (size-1) (S.fdiv 4-1),min (min (size-1) (S.fdiv 4-1)) (cm-4),each,0,0,[],[]⟩
section
variable {s:Dk} {c:Ch} {F:List Cl} {H:Hp} {n:Nat} {Q:V->Hp->Prop} {X:Addr->Hp->Prop} {t:Nat}
theorem NM{start size each most:Int}(h:Holds H ((t,.inst 204 [])::DC s c F))(em:most=min (min (size-1) (c.size.fdiv 4-1)) (c.most-4))(h0:0<=start)(h1:2<=size)(h2:start+size<=s.B)(hm:1<=most)(he:1<=each)(he2:each<=most)
  (q:∀ H' nums cK,Holds H' (aL c.ca ⟨t,nums,cK,start,size,min (size-1) (c.size.fdiv 4-1),most,each,0,0,[],[]⟩++DC s c F)->Q .none H'):Cq (Rn 1 n (.af 117) [.ref t,.ref c.ca,.int start,.int size,.int each] H) Q X:=by
 rw[Fw]
 refine Cq.fin (Wq.seq (Wq.cN (Wq.or (Wq.bind (Wq.ae rfl (Wq.aS (Wq.pure (Wq.eP (r:=false) (decide_eq_false (by lia)) ?_))))))))
 unfold gy
 refine Wq.or (Wq.bind (Wq.ae rfl (Wq.aS (Wq.pure (Wq.eP (r:=false) (decide_eq_false (by lia)) ?_)))))
 unfold gy
 refine Wq.jh (Wq.bind (Wq.au (Wq.ae rfl (Wq.ae rfl (Wq.bZ (Wq.aS (Wq.bind (Wq.ld rfl (bo h.aX) (bK (by decide)) rfl rfl (Wq.gA (cz (fX h.aX)) (bR (by decide)) rfl rfl (Wq.jc (r:=false) (decide_eq_false (by lia)) ⟨rfl,?_⟩))))))))))
 refine Wq.seq (Wq.fld (aV (by decide)) rfl (Wq.ae rfl ⟨rfl,_,h,fun H h=>?_⟩))
 refine Wq.seq (Wq.fld (aV (by decide)) rfl (Wq.ae rfl ⟨rfl,_,h,fun H h=>?_⟩))
 refine Wq.seq (Wq.fld (aV (by decide)) rfl (Wq.ae rfl ⟨rfl,_,h,fun H h=>?_⟩))
 refine Wq.seq (Wq.fld (aV (by decide)) rfl (Wq.ak (Wq.ah (Wq.au (Wq.ae rfl (Wq.pure (Wq.fY (Wq.ah (Wq.au (Wq.au (Wq.ld rfl (bo h.aX) (bK (by decide)) rfl rfl (Wq.pure (Wq.pW (by decide) (Wq.pure (Wq.fY (Wq.aj (Wq.min2 ⟨rfl,_,h,fun H h=>?_⟩)))))))))))))))))
 refine Wq.seq (Wq.fld (aV (by decide)) rfl (Wq.ak (Wq.ah (Wq.ld rfl h.hd (aV (by decide)) rfl rfl (Wq.ah (Wq.au (Wq.ld rfl (bo h.aX) (bK (by decide)) rfl rfl (Wq.pure (Wq.fY (Wq.aj (Wq.min2 ⟨rfl,_,h,fun H h=>?_⟩)))))))))))
 rw[<-em]at h
 refine Wq.seq (Wq.cN (Wq.bind (Wq.ld rfl h.hd (aV (by decide)) rfl rfl (Wq.aS (Wq.pure (Wq.eP (r:=false) (decide_eq_false (by lia)) ⟨rfl,?_⟩))))))
 refine Wq.seq (Wq.fld (a:=t) (fs:=[(8,.ref c.ca),(9,.int start),(10,.int size),(11,.int (min (size-1) (c.size.fdiv 4-1))),(12,.int most)]) (aV (by decide)) rfl (Wq.fj (Wq.bind (Wq.ae rfl (Wq.aS (Wq.pure ?_))))))
 refine Wq.NL ?_
 refine Wq.ae rfl ⟨rfl,_,h,fun H h=>?_⟩
 refine Wq.seq (Wq.cN (Wq.bind (Wq.bind (Wq.pure (Wq.j9 (Wq.ld rfl h.hd (aV (by decide)) rfl rfl (Wq.gS (r:=true) (decide_eq_true he) ?_)))))))
 refine Wq.aS (Wq.ld rfl h.hd (aV (by decide)) rfl rfl (Wq.gS (r:=true) (decide_eq_true he2) ((Wq.pure ⟨rfl,?_⟩))))
 refine Wq.seq (Wq.fld (aV (by decide)) rfl (Wq.fH (Wq.aj ⟨rfl,h,fun H nums h=>⟨rfl,_,h.sw,fun H h=>?_⟩⟩)))
 refine Wq.seq (Wq.fld (aV (by decide)) rfl (Wq.dw h fun H cK h=>⟨rfl,_,h.sw,fun H h=>?_⟩))
 refine Wq.seq (Wq.fld (aV (by decide)) rfl (Wq.pure ⟨rfl,_,h,fun H h=>?_⟩))
 refine Wq.seq (Wq.fld (aV (by decide)) rfl (Wq.pure ⟨rfl,_,h,fun H h=>?_⟩))
 exact q H nums cK (h.perm (List.Perm.cons _ (List.Perm.swap _ _ _)))
end
section
variable {X:Addr->Hp->Prop} {lo:List (Option V)} {H:Hp} {C:V->List V->Hp->CR}
theorem Wq.pX{Q:Nat->St->Prop}{xs:List V}{i:Int}{k:Nat}(hl:Nat.ble xs.length 1000=true)(ep:place i xs.length=some k)(q:Q k ⟨lo,H⟩):Wq (Lite.fP xs i ⟨lo,H⟩) Q X:=Wq.bind (Wq.guard (decide_eq_true (fo hl)) (Wq.ar ep q))
theorem Wq.fJ{Q:V->St->Prop}{a k:Nat}{i:Int}{xs:List V}{v:V}(e:H[a]? =some (.list xs))(hl:Nat.ble xs.length 1000=true)(ep:place i xs.length=some k)(ev:xs[k]? =some v)(q:Q v ⟨lo,H⟩):Wq (aw (.ref a) (.int i) ⟨lo,H⟩) Q X:=by
 exact Wq.gX (f:=fun _=>jw (.int i)) e (Wq.bind (Wq.ar rfl (Wq.bind (Wq.pX hl ep (Wq.ar ev q)))))
theorem Wq.eA{Q:V->St->Prop}{a k:Nat}{i:Int}{xs:List V}{v:V}(e:H[a]? =some (.tuple xs))(hl:Nat.ble xs.length 1000=true)(ep:place i xs.length=some k)(ev:xs[k]? =some v)(q:Q v ⟨lo,H⟩):Wq (aw (.ref a) (.int i) ⟨lo,H⟩) Q X:=by
 exact Wq.gX (f:=fun _=>jw (.int i)) e (Wq.bind (Wq.ar rfl (Wq.bind (Wq.pX hl ep (Wq.ar ev q)))))
theorem Wq.xc{Q:V->St->Prop}{a:Nat}{i:Int}{es:List (Int×V)}{v:V}(e:H[a]? =some (.dict es))(ev:es.lookup i=some v)(q:Q v ⟨lo,H⟩):Wq (aw (.ref a) (.int i) ⟨lo,H⟩) Q X:=by
 exact Wq.gX (f:=fun _=>jw (.int i)) e (Wq.bind (Wq.ar rfl (Wq.ar ev q)))
theorem Wq.pY{Q:V->St->Prop}{a i:Nat}{es:List (Nat×V)}{v:V}(e:H[a]? =some (.cI es))(ev:es.lookup i=some v)(q:Q v ⟨lo,H⟩):Wq (aw (.ref a) (.str i) ⟨lo,H⟩) Q X:=by
 exact Wq.gX (f:=fun _=>jw (.str i)) e (Wq.bind (Wq.ar rfl (Wq.ar ev q)))
theorem Wq.mv{Q:Unit->St->Prop}{a k:Nat}{i:Int}{xs:List V}{v:V}{c':List Cl}(e:H[a]? =some (.list xs))(hl:Nat.ble xs.length 1000=true)(ep:place i xs.length=some k)(hc:Holds (H.set a (.list (xs.set k v))) c')(q:∀ H',Holds H' c'->Q () ⟨lo,H'⟩):Wq (bA (.ref a) (.int i) v ⟨lo,H⟩) Q X:=by
 exact Wq.gX (f:=fun a=>mR a (.int i) v) e (Wq.bind (Wq.ar rfl (Wq.bind (Wq.pX hl ep (Wq.put (q _ hc))))))
theorem Wq.pZ{Q:Unit->St->Prop}{a i:Nat}{es:List (Nat×V)}{v:V}{c':List Cl}(e:H[a]? =some (.cI es))(hl:Nat.ble es.length 1000=true)(hc:Holds (H.set a (.cI (dput es i v))) c')(q:∀ H',Holds H' c'->Q () ⟨lo,H'⟩):Wq (bA (.ref a) (.str i) v ⟨lo,H⟩) Q X:=by
 exact Wq.gX (f:=fun a=>mR a (.str i) v) e (Wq.bind (Wq.guard (decide_eq_true (fo hl)) (Wq.bind (Wq.ar rfl (q _ hc)))))
theorem Wq.NN{Q:V->St->Prop}{a:Int}(q:Q (.int a.natAbs) ⟨lo,H⟩):Wq (aR P0 C true (.bi "abs") [.int a] ⟨lo,H⟩) Q X:=by
 have e:aR P0 C true (.bi "abs") [.int a] ⟨lo,H⟩=.ok (.int a.natAbs) ⟨lo,H⟩:=by kernel_rfl
 rw[e];exact q
theorem Wq.NO{Q:V->St->Prop}{b:Bool}(q:Q (.int (if b then 1 else 0)) ⟨lo,H⟩):Wq (aR P0 C true (.ty "int") [.bool b] ⟨lo,H⟩) Q X:=by
 have e:aR P0 C true (.ty "int") [.bool b] ⟨lo,H⟩=.ok (.int (if b then 1 else 0)) ⟨lo,H⟩:=by kernel_rfl
 rw[e];exact q
theorem Wq.NP{Q:V->St->Prop}(q:∀ m:Int,0<m->Q (.int m) ⟨lo,H⟩):Wq (binop .Pow (.int 10) (.int 90) ⟨lo,H⟩) Q X:=by
 exact q _ (by decide)
theorem Wq.cut{Q:V->St->Prop}{xs:List Int}{c:List Cl}(hl:xs.length<=1000)(hc:Holds H c)(q:∀ H' t (ys:List Int),ys.length<=24->Holds H' ((t,.list (ys.map V.int))::c)->Q (.ref t) ⟨lo,H'⟩):Wq (iO (.ints xs) none (some 24) ⟨lo,H⟩) Q X:=by
 unfold iO
 refine Wq.bind (Wq.guard rfl ?_)
 refine Wq.bind (Wq.ar rfl (Wq.bind (Wq.guard (decide_eq_true (by unfold lim;omega)) (Wq.dw hc fun H t h=>q H t _ ?_ h))))
 unfold fO
 have:PySem.W.kms_hi (some 24) xs.length<=24:=by
  unfold PySem.W.kms_hi
  dsimp only
  rw[if_neg (by decide)]
  exact Nat.min_le_left _ _
 rw[List.length_take]
 omega
theorem Wq.forL{t:V->M Unit}{body:List (M Fl)}{Q:Fl->St->Prop}{a:Nat}{xs:List V}(I:List V->St->Prop)(hl:Nat.ble xs.length 1000=true)(e:H[a]? =some (.list xs))(h0:I xs ⟨lo,H⟩)(hI:∀ vs s,I vs s->s.H[a]? =some (.list xs))
  (step:∀ v vs s,I (v::vs) s->Wq (t v s) (fun _ s=>Wq (aD body s) (je (I vs) Q) X) X) (fin:∀ s,I [] s->Q .next s):
  Wq ((iter (.ref a)>>=fun i=>Lite.loop (bJ i.2) (fun v=>Pure.pure v>>=Lite.da t (aD body>>=d7)) i.1>>=eF) ⟨lo,H⟩) Q X:=
 Wq.dF (it:=Pure.pure (.ref a)) I hl (Wq.pure ⟨rfl,e,h0⟩) hI step fin
end
/-! the pool -/
noncomputable def bL (w k:Int):O:=.list [.int w,.int k]
section
variable {F:List Cl} {H:Hp} {n:Nat} {Q:V->Hp->Prop} {X:Addr->Hp->Prop} {p:Nat}
theorem NQ{xs:List Int}(h:Holds H F)(hl:xs.length<=1000)(q:∀ H' p w,0<=w->Holds H' ((p,bL w 0)::F)->Q (.ref p) H'):Cq (Rn 1 n (.af 526) [.ints xs] H) Q X:=by
 rw[JM]
 refine Cq.fin (Wq.seq (Wq.ao (Wq.pure (Wq.av ?_))))
 refine Wq.seq (Wq.bind (Wq.bind (Wq.ae rfl (Wq.bind (Wq.pure (Wq.bind (Wq.bind (Wq.pure (Wq.bind (Wq.pure (Wq.pure (Wq.cut hl h fun H t ys hy h=>?_))))))))))))
 have hy':Nat.ble (ys.map V.int).length 1000=true:=Nat.ble_eq_true_of_le (by rw[List.length_map];lia)
 refine Wq.forL (fun vs st=>eU fun w x y z=>(dW (0<=w) (∀ v∈vs,∃ i,v=V.int i) (st.lo=[some (.ints xs),some (.int w),x,y,z]) (Holds st.H ((t,.list (ys.map V.int))::F)))) hy' h.hd ⟨0,_,_,_,Int.le_refl _,fun v hv=>?_,rfl,h⟩ (fun vs st I=>?_) (fun v vs st I=>?_) fun st I=>?_
 ·obtain⟨i,_,rfl⟩:=List.mem_map.mp hv
  exact⟨i,rfl⟩
 ·obtain⟨w,x,y,z,_,_,_,h⟩:=I
  exact h.hd
 ·obtain⟨w,x,y,z,hw,hv,e,h⟩:=I
  obtain⟨lo',H⟩:=st
  subst e
  obtain⟨i,rfl⟩:=hv _ (.head _)
  refine Wq.av (Wq.seq (Wq.ao (Wq.au (Wq.au (Wq.au (Wq.au (Wq.ae rfl (Wq.pure (Wq.fZ (.inr (by decide)) (Wq.au (Wq.pure (Wq.ak (Wq.ah (Wq.ae rfl (Wq.aj (Wq.NN ?_))))))))))))))))
  refine Wq.fZ (.inl (by decide)) (Wq.bZ (Wq.ak (Wq.ah (Wq.d8 (Wq.ae rfl (Wq.pure (Wq.eP (r:=decide (i<0)) rfl (Wq.aj (Wq.NO (Wq.bZ (Wq.au (Wq.pure (Wq.pure (Wq.NP fun m hm=>?_))))))))))))))
  refine Wq.mu (by lia) (Wq.av ?_)
  exact⟨_,_,_,_,Int.fmod_nonneg_of_pos _ hm,fun v hv'=>hv v (.tail _ hv'),rfl,h⟩
 ·obtain⟨w,x,y,z,hw,hv,e,h⟩:=I
  obtain⟨lo',H⟩:=st
  subst e
  unfold dS
  refine Wq.seq (Wq.aE (Wq.fH (Wq.ah (Wq.ae rfl (Wq.ah (Wq.pure (Wq.aj ⟨rfl,h.aX,fun H p h=>?_⟩)))))))
  exact q H p w hw h
theorem xd{w k m:Int}(h:Holds H ((p,bL w k)::F))(hw:0<=w)(hk:0<=k)(hk2:k<=100000)(hm:0<m)(hm2:m<=100000)(q:∀ H' d w' k',0<=d->d<m->0<=w'->0<=k'->k'<=k+1->Holds H' ((p,bL w' k')::F)->Q (.int d) H'):Cq (Rn 1 n (.af 533) [.ref p,.int m] H) Q X:=by
 rw[JO]
 refine Cq.fin (Wq.seq (Wq.aH (Wq.bind (Wq.bind (Wq.ae rfl (Wq.bind (Wq.pure (Wq.fJ h.hd rfl rfl rfl (Wq.aS (Wq.pure (Wq.jc (r:=decide (w>0)) rfl ?_)))))))))))
 cases d1:decide (w>0)with
 |true=>
  refine Wq.seq (Wq.ao (Wq.au (Wq.bind (Wq.ae rfl (Wq.bind (Wq.pure (Wq.fJ h.hd rfl rfl rfl (Wq.ae rfl (Wq.mu (by lia) (Wq.av ?_))))))))))
  refine Wq.seq (Wq.ao (Wq.au (Wq.bind (Wq.ae rfl (Wq.bind (Wq.pure (Wq.fJ h.hd rfl rfl rfl (Wq.ae rfl (Wq.pW (by lia) (Wq.bind (Wq.ae rfl (Wq.bind (Wq.pure (Wq.mv h.hd rfl rfl (h.cO _) fun H h=>?_))))))))))))))
  unfold dS
  refine Wq.seq (Wq.aE (Wq.ae rfl ?_))
  exact q H _ _ _ (Int.fmod_nonneg_of_pos _ hm) (Int.fmod_lt_of_pos _ hm) (Int.fdiv_nonneg hw (by lia)) hk (by lia) h
 |false=>
  refine Wq.dj ?_
  refine Wq.seq (Wq.bind (Wq.ae rfl (Wq.bind (Wq.pure (Wq.bind (Wq.fJ h.hd rfl rfl rfl (Wq.bind (Wq.pure (Wq.bind (Wq.pure (Wq.bind (Wq.mv h.hd rfl rfl (h.cO _) fun H h=>?_))))))))))))
  have h:Holds H ((p,bL w (k+1))::F):=h
  refine Wq.seq (Wq.aE (Wq.au (Wq.au (Wq.au (Wq.au (Wq.au (Wq.au (Wq.pure (Wq.bind (Wq.ae rfl (Wq.bind (Wq.pure (Wq.fJ h.hd rfl rfl rfl (Wq.fZ (.inl (by decide)) (Wq.bind (Wq.ae rfl (Wq.bind (Wq.pure (Wq.fJ h.hd rfl rfl rfl (Wq.fZ (.inr (by lia)) (Wq.au (Wq.pure (Wq.bind (Wq.ae rfl (Wq.bind (Wq.pure (Wq.fJ h.hd rfl rfl rfl (Wq.fZ (.inl (by decide)) (Wq.bZ (Wq.pure (Wq.bZ (Wq.pure (Wq.mu (by decide) (Wq.ae rfl (Wq.mu (by lia) ?_)))))))))))))))))))))))))))))))))))
  exact q H _ _ _ (Int.fmod_nonneg_of_pos _ hm) (Int.fmod_lt_of_pos _ hm) hw (by lia) (by lia) h
end
section
variable {X:Addr->Hp->Prop} {lo:List (Option V)} {H:Hp}
theorem Wq.attempt{α:Type}{Q:α->St->Prop}{m:M α}{k:Addr->M α}(h:Wq (m ⟨lo,H⟩) Q (fun c H'=>∀ lo',Wq (k c ⟨lo',H'⟩) Q X)):Wq (Lite.attempt m k ⟨lo,H⟩) Q X:=by
 unfold Lite.attempt
 cases e:m ⟨lo,H⟩ with
 |ok a s=>rw[e]at h;exact h
 |exc c s=>rw[e]at h;exact h s.lo
 |no=>rw[e]at h;exact h.elim
theorem Wq.calm{α:Type}{Q:α->St->Prop}{m:M α}(h:Wq (m ⟨lo,H⟩) Q nx):Wq (Lite.calm m ⟨lo,H⟩) Q X:=by
 unfold Lite.calm
 cases e:m ⟨lo,H⟩ with
 |ok a s=>rw[e]at h;exact h
 |exc c s=>rw[e]at h;exact h.elim
 |no=>rw[e]at h;exact h.elim
theorem Wq.xf{Q:Fl->St->Prop}{c:Addr}{body:List (M Fl)}{rest:M Fl}(e:(isExc P0 c&&isExc P0 c)=true)(h:Wq (aD body ⟨lo,H⟩) Q nx):Wq (iz P0 c c body rest ⟨lo,H⟩) Q X:=by
 unfold iz
 refine Wq.bind (Wq.guard e ?_)
 rw[if_pos rfl]
 exact Wq.calm h
theorem Wq.xh{Q:Fl->St->Prop}{c d:Addr}{body:List (M Fl)}{rest:M Fl}(e:(isExc P0 c&&isExc P0 d)=true)(ne:d≠c)(h:Wq (rest ⟨lo,H⟩) Q X):Wq (iz P0 c d body rest ⟨lo,H⟩) Q X:=by
 unfold iz
 refine Wq.bind (Wq.guard e ?_)
 rw[if_neg ne]
 exact h
theorem Wq.du{Q:V->St->Prop}{mk:List (Option V)->Option (List (Option V))}{lo':List (Option V)}{e:Expr}{sc:Scope}{c:List Cl}(hm:mk lo=some lo')(hc:Holds H c)(q:∀ H' t,Holds H' ((t,.cQ e sc lo')::c)->Q (.ref t) ⟨lo,H'⟩):Wq (Lite.du mk e sc ⟨lo,H⟩) Q X:=by
 unfold Lite.du
 exact Wq.bind (Wq.pure (Wq.bind (Wq.ar hm (Wq.dw hc q))))
theorem Cq.cQ{Q:V->Hp->Prop}{k n f:Nat}{e:Expr}{sc:Scope}{l:M V}(ef:H[f]? =some (.cQ e sc lo))(hl:ev P0 (Rn k n) true bD (mark sc) e=l)(h:Wq (l ⟨lo,H⟩) (fun v s=>Q v s.H) X):Cq (Rn (k+1) n (.ref f) [] H) Q X:=by
 have hl:ev P0 (run P0 (n+k)) true bD (mark sc) e=l:=hl
 have er:Rn (k+1) n (.ref f) [] H=kW (l ⟨lo,H⟩):=by
  show ia (H[f]?.bind m8) (fun c=>kW (ev P0 (run P0 (n+k)) true bD (mark c.2.1) c.1 ⟨c.2.2,H⟩))=_
  rw[ef,<-hl];rfl
 rw[er]
 cases e:l ⟨lo,H⟩ with
 |ok a s=>rw[e]at h;exact h
 |exc c s=>rw[e]at h;exact h
 |no=>rw[e]at h;exact h
end
theorem NR:(isExc P0 76&&isExc P0 76)=true:=by kernel_rfl
theorem NS:(isExc P0 52&&isExc P0 76)=true:=by kernel_rfl
theorem NT:(isExc P0 52&&isExc P0 64)=true:=by kernel_rfl
theorem NU:(isExc P0 52&&isExc P0 52)=true:=by kernel_rfl
noncomputable def NV (Q:V->Hp->Prop) (e:Addr) (H:Hp):Prop:=bV fun k c=>(bp (e=76∧k=76∨e=52∧k=77) (Holds H c) (∀ H' t,Holds H' ((t,.tuple [.str k,.none])::c)->Q (.ref t) H'))
noncomputable def NW (Q:V->Hp->Prop) (v:V) (H:Hp):Prop:=∃ c,Holds H c∧∀ H' t,Holds H' ((t,.tuple [.str 75,v])::c)->Q (.ref t) H'
theorem iG{Q:V->Hp->Prop}{X:Addr->Hp->Prop}{H:Hp}{k n f:Nat}(hc:Cq (Rn k n (.ref f) [] H) (NW Q) (NV Q)):Cq (Rn (k+1) n (.af 540) [.ref f] H) Q X:=by
 rw[JS]
 refine Cq.fin (Wq.seq (Wq.attempt (Wq.seq (Wq.aE (Wq.tup (Wq.ah (Wq.pure (Wq.ah (Wq.bind (Wq.ae rfl (Wq.ak (Wq.aj (Wq.Mh (hc.mono (fun v H q=>?_) fun e H q=>?_))))))))))))))
 ·obtain⟨c,h,q⟩:=q
  exact Wq.aj ⟨rfl,q _ _ (h.new _)⟩
 ·obtain⟨k,c,⟨rfl,rfl⟩ | ⟨rfl,rfl⟩,h,q⟩:=q
  ·intro lo'
   refine Wq.xf NR (Wq.seq (Wq.aE (Wq.tup (Wq.ah (Wq.pure (Wq.ah (Wq.pure (Wq.aj ⟨rfl,?_⟩))))))))
   exact q _ _ (h.new _)
  ·intro lo'
   refine Wq.xh NS (by decide) (Wq.xh NT (by decide) (Wq.xf NU (Wq.seq (Wq.aE (Wq.tup (Wq.ah (Wq.pure (Wq.ah (Wq.pure (Wq.aj ⟨rfl,?_⟩))))))))))
   exact q _ _ (h.new _)
/-! the book -/
structure Bk where
 bk:Nat
 dl:Nat
 nl:Nat
 gl:Nat
 size:Int
 start:Int
 log:Int
 ai:Int
 most:Int
 blocks:Int
 each:Int
 calls:Int
 bN:Int
 writes:Int
 ej:Int
 D:List (List UInt8)
 ns:List Int
 g:List (Int×V)
noncomputable def qa (b:Bk):List (Nat×V):=[(10,.int b.size),(9,.int b.start),(78,.int b.log),(79,.int b.ai),(12,.int b.most),(5,.int b.blocks),(14,.int b.each),(6,.ref b.dl),(17,.ref b.nl),(80,.ref b.gl),(18,.int b.calls),(19,.int b.bN),(2,.int b.writes),(68,.int b.ej)]
noncomputable def jj (b:Bk):O:=.cI (qa b)
noncomputable def bj (b:Bk):List Cl:=[(b.bk,jj b),(b.dl,.list (b.D.map V.bytes)),(b.nl,.list (b.ns.map V.int)),(b.gl,.dict b.g)]
section
variable {b:Bk} {F:List Cl} {H:Hp}
theorem bc(h:Holds H (bj b++F)):H[b.bk]? =some (jj b):=h.on _ (.head _)
theorem mw(h:Holds H (bj b++F)):H[b.dl]? =some (.list (b.D.map V.bytes)):=h.on _ (.tail _ (.head _))
theorem dK(h:Holds H (bj b++F)):H[b.nl]? =some (.list (b.ns.map V.int)):=h.on _ (.tail _ (.tail _ (.head _)))
theorem kC(h:Holds H (bj b++F)):H[b.gl]? =some (.dict b.g):=h.on _ (.tail _ (.tail _ (.tail _ (.head _))))
end
section
variable {X:Addr->Hp->Prop} {lo:List (Option V)} {H:Hp}
theorem Wq.aZ{Q:V->St->Prop}{i k a:Nat}{es:List (Nat×V)}{v:V}(e0:lo[i]? =some (some (.ref a)))(e:H[a]? =some (.cI es))(ev:es.lookup k=some v)(q:Q v ⟨lo,H⟩):
  Wq (((Lite.ae i)>>=fun o=>(Pure.pure (V.str k))>>=fun i=>aw o i) ⟨lo,H⟩) Q X:=Wq.bind (Wq.ae e0 (Wq.bind (Wq.pure (Wq.pY e ev q))))
theorem Wq.NX{Q:V->St->Prop}{es:List (M V×M V)}{c:List Cl}(h:Wq (jb es ⟨lo,H⟩) (fun kvs s=>(bp (decide (kvs.map (·.1)).Nodup=true) (Holds s.H c) (∀ H' t,Holds H' ((t,.cI kvs)::c)->Q (.ref t) ⟨s.lo,H'⟩))) X):Wq (uc es ⟨lo,H⟩) Q X:=
 Wq.bind (h.mono (fun _ _ q=>Wq.bind (Wq.guard q.1 (Wq.dw q.2 q.3))) fun _ _ q=>q)
theorem Wq.NY{Q:List (Nat×V)->St->Prop}(q:Q [] ⟨lo,H⟩):Wq (jb [] ⟨lo,H⟩) Q X:=q
theorem Wq.pair{Q:List (Nat×V)->St->Prop}{k:Nat}{m:M V}{r:List (M V×M V)}(h:Wq (m ⟨lo,H⟩) (fun v s=>Wq (jb r s) (fun vs s'=>Q ((k,v)::vs) s') X) X):Wq (jb ((Pure.pure (V.str k),m)::r) ⟨lo,H⟩) Q X:=by
 exact Wq.bind (Wq.bind (Wq.pure (Wq.ar rfl (Wq.bind (h.mono (fun _ _ q=>Wq.bind q) fun _ _ q=>q)))))
theorem Wq.NZ{t1 t2 t3:V->M Unit}{Q:Unit->St->Prop}{a:Nat}{x y z:V}{st:St}(e:st.H[a]? =some (.tuple [x,y,z]))(h:Wq (t1 x st) (fun _ s=>Wq (t2 y s) (fun _ s=>Wq (t3 z s) Q X) X) X):Wq (dh [t1,t2,t3] (.ref a) st) Q X:=by
 obtain⟨lo,H⟩:=st
 unfold dh
 refine Wq.bind (Wq.pure (Wq.bind (Wq.ew e (Wq.bind (Wq.guard rfl ?_)))))
 refine Wq.bind (h.mono (fun _ s q=>?_) fun _ _ q=>q)
 refine Wq.bind (q.mono (fun _ s q=>?_) fun _ _ q=>q)
 exact Wq.bind (q.mono (fun _ s q=>q) fun _ _ q=>q)
theorem Wq.N0{t1 t2 t3 t4:V->M Unit}{Q:Unit->St->Prop}{a:Nat}{x y z w:V}{st:St}(e:st.H[a]? =some (.tuple [x,y,z,w]))(h:Wq (t1 x st) (fun _ s=>Wq (t2 y s) (fun _ s=>Wq (t3 z s) (fun _ s=>Wq (t4 w s) Q X) X) X) X):Wq (dh [t1,t2,t3,t4] (.ref a) st) Q X:=by
 obtain⟨lo,H⟩:=st
 unfold dh
 refine Wq.bind (Wq.pure (Wq.bind (Wq.ew e (Wq.bind (Wq.guard rfl ?_)))))
 refine Wq.bind (h.mono (fun _ s q=>?_) fun _ _ q=>q)
 refine Wq.bind (q.mono (fun _ s q=>?_) fun _ _ q=>q)
 refine Wq.bind (q.mono (fun _ s q=>?_) fun _ _ q=>q)
 exact Wq.bind (q.mono (fun _ s q=>q) fun _ _ q=>q)
theorem Wq.N1{Q:Unit->St->Prop}{i c:Nat}{v:V}{w:Option V}{d:List Cl}(e:lo[i]? =some (some (.ref c)))(h:Holds H ((c,.cell w)::d))(q:∀ H',Holds H' ((c,.cell (some v))::d)->Q () ⟨lo,H'⟩):Wq (Lite.dB i v ⟨lo,H⟩) Q X:=
 Wq.dB e h.hd (q _ (h.cO _))
end
structure kD(b:Bk):Prop where
 size:16<=b.size∧b.size<=24
 start:1<=b.start∧b.start<=2
 log:2<=b.log∧b.log<=6
 ai:5<=b.ai∧b.ai<=9
 most:b.most=min (min (b.log-1) (b.size.fdiv 4-1)) (b.ai-4)
 blocks:b.start+b.log+2<=b.blocks∧b.blocks<=b.start+b.log+3
 each:1<=b.each∧b.each<=b.most
theorem kD.m{b:Bk}(h:kD b):1<=b.most∧(b.most<=5∧(b.most<b.log∧(4*(b.most+1)<=b.size∧b.most<=b.ai-4))):=by
 have h1:=h.size;have h2:=h.log;have h3:=h.ai
 have e:b.size.fdiv 4=b.size/4:=Int.fdiv_eq_ediv_of_nonneg _ (by decide)
 have k1:b.most<=b.log-1:=by rw[h.most];exact Int.le_trans (Int.min_le_left _ _) (Int.min_le_left _ _)
 have k2:b.most<=b.size/4-1:=by rw[h.most,e];exact Int.le_trans (Int.min_le_left _ _) (Int.min_le_right _ _)
 have k3:b.most<=b.ai-4:=by rw[h.most];exact Int.min_le_right _ _
 have k0:1<=b.most:=by rw[h.most,e];exact Int.le_min.mpr ⟨Int.le_min.mpr ⟨by lia,by lia⟩,by lia⟩
 exact⟨k0,by lia,by lia,by lia,k3⟩
section
variable {X:Addr->Hp->Prop} {lo:List (Option V)} {H:Hp}
theorem Holds.N2{x y:Cl}{c:List Cl}(h:Holds H (x::y::c)):Holds H (x::c):=h.sub (.cons_cons _ (.cons _ (List.Sublist.refl _)))
theorem Wq.g6{Q:V->St->Prop}{es:List (M V)}(h:Wq (Lite.ah es ⟨lo,H⟩) (fun vs s=>Nat.ble vs.length 1000=true∧∃ c,Holds s.H c∧∀ H' t,Holds H' ((t,.tuple vs)::c)->Q (.ref t) ⟨s.lo,H'⟩) X):Wq (tupS es ⟨lo,H⟩) Q X:=
 Wq.tup (h.mono (fun vs s q=>⟨q.1,by obtain⟨_,c,hc,q⟩:=q;exact q _ _ (hc.new _)⟩) fun _ _ q=>q)
theorem Wq.fK{Q:V->St->Prop}{es:List (M V)}(h:Wq (Lite.ah es ⟨lo,H⟩) (fun vs s=>Nat.ble vs.length 1000=true∧∃ c,Holds s.H c∧∀ H' t,Holds H' ((t,.list vs)::c)->Q (.ref t) ⟨s.lo,H'⟩) X):Wq (listS es ⟨lo,H⟩) Q X:=
 Wq.lst (h.mono (fun vs s q=>⟨q.1,by obtain⟨_,c,hc,q⟩:=q;exact q _ _ (hc.new _)⟩) fun _ _ q=>q)
theorem Wq.of{α:Type}{Q:α->St->Prop}{r:R α}{a:α}{s:St}(e:r=.ok a s)(h:Q a s):Wq r Q X:=by rw[e];exact h
theorem Wq.take{Q:V->St->Prop}{n p:Nat}{w k m N:Int}{F:List Cl}{e1 e2:M V}(h1:e1 ⟨lo,H⟩=.ok (.ref p) ⟨lo,H⟩)(h2:e2 ⟨lo,H⟩=.ok (.int m) ⟨lo,H⟩)(h:Holds H ((p,bL w k)::F))(hw:0<=w)(hk:0<=k)(hk2:k<=N)(hN:N<=100000)(hm:0<m)(hm2:m<=100000)
  (q:∀ H' d w' k',0<=d->d<m->0<=w'->0<=k'->k'<=N+1->Holds H' ((p,bL w' k')::F)->Q (.int d) ⟨lo,H'⟩):Wq (Lite.ak P0 (Rn 1 n) (V.af 533) [e1,e2] ⟨lo,H⟩) Q X:=by
 exact Wq.ak (Wq.ah (Wq.of h1 (Wq.ah (Wq.of h2 (Wq.aj (Wq.cy rfl (xd h hw hk (Int.le_trans hk2 hN) hm hm2 fun H' d w' k' a1 a2 a3 a4 a5 h'=>q H' d w' k' a1 a2 a3 a4 (Int.le_trans a5 (Int.add_le_add_right hk2 1)) h')))))))
end
theorem Wq.gd{X:Addr->Hp->Prop}{lo:List (Option V)}{H:Hp}{Q:Unit->St->Prop}{i a k:Nat}{es:List (Nat×V)}{v:V}{c:List Cl}{x:Cl}(es':List (Nat×V))(e0:lo[i]? =some (some (.ref a)))(h:Holds H (x::(a,.cI es)::c))(hl:Nat.ble es.length 1000=true)(ed:dput es k v=es')(q:∀ H',Holds H' (x::(a,.cI es')::c)->Q () ⟨lo,H'⟩):
  Wq (((Lite.ae i)>>=fun o=>(Pure.pure (V.str k))>>=fun i=>bA o i v) ⟨lo,H⟩) Q X:=by
 subst ed
 exact Wq.bind (Wq.ae e0 (Wq.bind (Wq.pure (Wq.pZ (h.on _ (.tail _ (.head _))) hl (h.dT _) q))))
theorem Holds.qb{H:Hp}{x y z:Cl}{c:List Cl}(h:Holds H (x::y::z::c)):Holds H (z::x::y::c):=h.perm ((List.Perm.cons _ (List.Perm.swap _ _ _)).trans (List.Perm.swap _ _ _))
theorem Holds.qc{H:Hp}{x y z w:Cl}{c:List Cl}(h:Holds H (x::y::z::w::c)):Holds H (w::x::y::z::c):=h.perm ((List.Perm.cons _ ((List.Perm.cons _ (List.Perm.swap _ _ _)).trans (List.Perm.swap _ _ _))).trans (List.Perm.swap _ _ _))
theorem Holds.kE{H:Hp}{x y z w u:Cl}{c:List Cl}(h:Holds H (x::y::z::w::u::c)):Holds H (u::x::y::z::w::c):=h.perm ((List.Perm.cons _ ((List.Perm.cons _ ((List.Perm.cons _ (List.Perm.swap _ _ _)).trans (List.Perm.swap _ _ _))).trans (List.Perm.swap _ _ _))).trans (List.Perm.swap _ _ _))
theorem iH{b:Int}(hb:0<=b):rangeInts b=(List.range b.toNat).map fun (k:Nat)=>(k:Int):=rfl
theorem N3{α β:Type}{l:List α}{v:β}:l.filterMap (fun _=>some v)=List.replicate l.length v:=by
 induction l with
 |nil=>rfl
 |cons a r ih=>simp only[List.filterMap_cons,ih];rfl
theorem two{d:Int}(h0:0<=d)(h1:d<2):∃ S:Int,(bp (S=16∨S=24) (place d 2=some d.toNat) ([V.int 16,V.int 24][d.toNat]? =some (.int S))):=by
 have:d=0∨d=1:=by lia
 rcases this with rfl |rfl
 ·exact⟨16,.inl rfl,rfl,rfl⟩
 ·exact⟨24,.inr rfl,rfl,rfl⟩
section
variable {F:List Cl} {H:Hp} {n:Nat} {Q:V->Hp->Prop} {X:Addr->Hp->Prop} {p:Nat}
theorem N4{w k:Int}(h:Holds H ((p,bL w k)::F))(hw:0<=w)(hk:0<=k)(hk2:k<=10)(q:∀ H' w' k' b,0<=w'->0<=k'->k'<=20->kD b->b.calls=0->b.bN=0->b.writes=0->b.ej=0->b.D=List.replicate b.blocks.toNat (zeros b.size)->b.ns=[]->b.g=[]->Holds H' ((p,bL w' k')::(bj b++F))->Q (.ref b.bk) H'):
  Cq (Rn 2 n (.af 545) [.ref p] H) Q X:=by
 simp only[J8]
 have h:=(h.new (.cell none)).sw
 generalize H.length=c at h
 generalize H++[O.cell none]=H at h
 refine Cq.fin (Wq.seq (Wq.ao (Wq.g6 (Wq.ah (Wq.bind (Wq.fK (Wq.ah (Wq.pure (Wq.ah (Wq.pure (Wq.aj ⟨rfl,_,h,fun H l h=>?_⟩)))))))))))
 refine Wq.bind (Wq.take rfl rfl h.sw hw hk hk2 (by decide) (by decide) (by decide) fun H d1 w1 k1 a1 a2 hw hk b1 h=>?_)
 obtain⟨S,hS,ep,ev⟩:=two a1 a2
 refine Wq.fJ (h.on _ (.tail _ (.head _))) rfl ep ev (Wq.ah (Wq.au (Wq.pure (Wq.take rfl rfl h.N2 hw hk b1 (by decide) (by decide) (by decide) fun H d2 w2 k2 a3 a4 hw hk b2 h=>Wq.bZ ?_))))
 refine Wq.aj ⟨rfl,_,h,fun H t h=>Wq.fW h.hd ?_⟩
 refine Wq.N1 (w:=none) rfl (h.perm (List.Perm.trans (List.Perm.swap _ _ _) ((List.Perm.cons _ (List.Perm.swap _ _ _)).trans (List.Perm.swap _ _ _)))) fun H h=>Wq.av ?_
 have h:Holds H ((p,bL w2 k2)::(c,.cell (some (.int S)))::F):=h.sw.sub (.cons_cons _ (.cons_cons _ (.cons _ (List.Sublist.refl _))))
 refine Wq.seq (Wq.ao (Wq.g6 (Wq.ah (Wq.au (Wq.pure (Wq.take rfl rfl h hw hk b2 (by decide) (by decide) (by decide) fun H d3 w3 k3 a5 a6 hw hk b3 h=>Wq.bZ ?_))))))
 refine Wq.ah (Wq.au (Wq.pure (Wq.take rfl rfl h hw hk b3 (by decide) (by decide) (by decide) fun H d4 w4 k4 a7 a8 hw hk b4 h=>Wq.bZ (Wq.aj ⟨rfl,_,h,fun H t h=>Wq.fW h.hd (Wq.av (Wq.av ?_))⟩))))
 have h:=h.aX
 refine Wq.seq (Wq.ao (Wq.ak (Wq.ah (Wq.au (Wq.ae rfl (Wq.pure (Wq.fY (Wq.ah (Wq.au (Wq.au (Wq.aO rfl (h.on _ (.tail _ (.head _))) (Wq.pure (Wq.pW (by decide) (Wq.pure (Wq.fY (Wq.ah (Wq.au (Wq.ae rfl (Wq.pure (Wq.fY (Wq.aj (Wq.NK (Wq.av ?_)))))))))))))))))))))))
 refine Wq.seq (Wq.ao (Wq.au (Wq.au (Wq.au (Wq.ae rfl (Wq.ae rfl (Wq.bZ (Wq.pure (Wq.bZ (Wq.take rfl rfl h hw hk b4 (by decide) (by decide) (by decide) fun H d5 w5 k5 a9 a10 hw hk b5 h=>Wq.bZ (Wq.av ?_)))))))))))
 generalize eb:1+d2+(2+d3)+2+d5=blocks
 generalize em:min (min (2+d3-1) (S.fdiv 4-1)) (5+d4-4)=most
 have hS4:S.fdiv 4=S/4:=Int.fdiv_eq_ediv_of_nonneg _ (by decide)
 have hS2:16<=S∧S<=24:=by lia
 have hm1:1<=most:=by lia
 refine Wq.seq (Wq.ao (Wq.NX (Wq.pair (Wq.aO rfl (h.on _ (.tail _ (.head _))) (Wq.pair (Wq.ae rfl (Wq.pair (Wq.ae rfl (Wq.pair (Wq.ae rfl (Wq.pair (Wq.ae rfl (Wq.pair (Wq.ae rfl (Wq.NY ⟨rfl,h,fun H bk h=>Wq.av ?_⟩)))))))))))))))
 refine Wq.seq (Wq.ao (Wq.au (Wq.pure (Wq.take rfl rfl h.sw hw hk b5 (by decide) (by lia) (by lia) fun H d6 w6 k6 a11 a12 hw hk b6 h=>Wq.bZ (Wq.gd [(10,.int S),(9,.int (1+d2)),(78,.int (2+d3)),(79,.int (5+d4)),(12,.int most),(5,.int blocks),(14,.int (1+d6))] rfl h rfl rfl fun H h=>?_)))))
 have hb:0<=blocks∧blocks<=1000:=by lia
 refine Wq.seq (Wq.ao (Wq.g6 (Wq.ah ?_)))
 refine Wq.dG (c:=_) (lo':=[none,none,none,some (.ref c)]) (items:=(rangeInts blocks).map V.int) (o:=none) (fun _=>some (.bytes (zeros S))) (fun lo=>dm fun x y z=>lo=[x,y,z,some (.ref c)])
  (Wq.ak (Wq.ah (Wq.ae rfl (Wq.aj (Wq.kr h hb fun H r h=>⟨rfl,h.aX,ku h.hd hb⟩))))) rfl ⟨_,_,_,rfl⟩ (fun st h=>rfl) (by simp only[iH hb.1];simp;lia) (fun v hv lo1 H1 hL h1=>?_) fun H dl h=>?_
 ·obtain⟨x,y,z,rfl⟩:=hL
  refine Wq.bind (Wq.av (Wq.bind (Wq.pure ?_)))
  refine Wq.bind (Wq.ak (Wq.ah (Wq.aO rfl (h1.on _ (.tail _ (.tail _ (.head _)))) (Wq.aj (Wq.o8 (by unfold lim;lia) ?_)))))
  exact⟨rfl,rfl,_,_,_,rfl⟩
 simp only[N3,List.length_map,iH hb.1,List.length_map,List.length_range]at h
 refine Wq.ah (Wq.fK (Wq.aj ⟨rfl,_,h,fun H nl h=>Wq.ah (Wq.dw h fun H gl h=>Wq.aj ⟨rfl,_,h,fun H t h=>Wq.NZ h.hd ?_⟩)⟩))
 have h:=h.aX
 have h:=(h.kE).kE
 refine Wq.gd [(10,.int S),(9,.int (1+d2)),(78,.int (2+d3)),(79,.int (5+d4)),(12,.int most),(5,.int blocks),(14,.int (1+d6)),(6,.ref dl)] rfl h rfl rfl fun H h=>Wq.gd [(10,.int S),(9,.int (1+d2)),(78,.int (2+d3)),(79,.int (5+d4)),(12,.int most),(5,.int blocks),(14,.int (1+d6)),(6,.ref dl),(17,.ref nl)] rfl h rfl rfl fun H h=>Wq.gd [(10,.int S),(9,.int (1+d2)),(78,.int (2+d3)),(79,.int (5+d4)),(12,.int most),(5,.int blocks),(14,.int (1+d6)),(6,.ref dl),(17,.ref nl),(80,.ref gl)] rfl h rfl rfl fun H h=>?_
 refine Wq.seq (Wq.ao (Wq.g6 (Wq.ah (Wq.pure (Wq.ah (Wq.pure (Wq.ah (Wq.pure (Wq.ah (Wq.pure (Wq.aj ⟨rfl,_,h,fun H t h=>Wq.N0 h.hd ?_⟩)))))))))))
 have h:=h.aX
 refine Wq.gd [(10,.int S),(9,.int (1+d2)),(78,.int (2+d3)),(79,.int (5+d4)),(12,.int most),(5,.int blocks),(14,.int (1+d6)),(6,.ref dl),(17,.ref nl),(80,.ref gl),(18,.int 0)] rfl h rfl rfl fun H h=>Wq.gd [(10,.int S),(9,.int (1+d2)),(78,.int (2+d3)),(79,.int (5+d4)),(12,.int most),(5,.int blocks),(14,.int (1+d6)),(6,.ref dl),(17,.ref nl),(80,.ref gl),(18,.int 0),(19,.int 0)] rfl h rfl rfl fun H h=>Wq.gd [(10,.int S),(9,.int (1+d2)),(78,.int (2+d3)),(79,.int (5+d4)),(12,.int most),(5,.int blocks),(14,.int (1+d6)),(6,.ref dl),(17,.ref nl),(80,.ref gl),(18,.int 0),(19,.int 0),(2,.int 0)] rfl h rfl rfl fun H h=>Wq.gd [(10,.int S),(9,.int (1+d2)),(78,.int (2+d3)),(79,.int (5+d4)),(12,.int most),(5,.int blocks),(14,.int (1+d6)),(6,.ref dl),(17,.ref nl),(80,.ref gl),(18,.int 0),(19,.int 0),(2,.int 0),(68,.int 0)] rfl h rfl rfl fun H h=>?_
 unfold dS
 refine Wq.seq (Wq.aE (Wq.ae rfl ?_))
 have h:=((((h.qb).qc).kE).kE).kE
 have h:=h.sub (.cons_cons _ (.cons_cons _ (.cons_cons _ (.cons_cons _ (.cons_cons _ (.cons _ (List.Sublist.refl _)))))))
 refine q H w6 k6 ⟨bk,dl,nl,gl,S,1+d2,2+d3,5+d4,most,blocks,1+d6,0,0,0,0,List.replicate blocks.toNat (zeros S),[],[]⟩ hw hk (Int.le_trans b6 (by decide)) ⟨hS2,⟨?_,?_⟩,⟨?_,?_⟩,⟨?_,?_⟩,em.symm,⟨?_,?_⟩,⟨?_,?_⟩⟩ rfl rfl rfl rfl rfl rfl rfl ?_
 all_goals try (dsimp only;lia)
 have er:List.replicate blocks.toNat (V.bytes (zeros S))=(List.replicate blocks.toNat (zeros S)).map V.bytes:=by simp only[List.map_replicate]
 simp only[er]at h
 exact h
end
theorem N5(l:List Int):intsOf (l.map V.int)=some l:=by
 induction l with
 |nil=>rfl
 |cons a r ih=>
  unfold intsOf at ih ⊢
  rw[List.map_cons,List.mapM_cons,ih]
  rfl
section
variable {X:Addr->Hp->Prop} {lo:List (Option V)} {H:Hp}
theorem Wq.xi{Q:Bool->St->Prop}{i:Int}{a:Nat}{l:List Int}{r:Bool}(e:H[a]? =some (.list (l.map V.int)))(er:decide (i∈l)=r)(q:Q (!r) ⟨lo,H⟩):Wq (cB .NotIn (.int i) (.ref a) ⟨lo,H⟩) Q X:=by
 refine Wq.bind (Wq.bind (Wq.ar rfl (Wq.bind (Wq.ar rfl (Wq.bind (Wq.obj e (Wq.bind (Wq.ar (N5 l) ?_))))))))
 have:l.contains i=r:=by rw[<-er];simp
 rw[this]
 exact q
end
noncomputable def Bk.own (b:Bk) (x:Int):Bool:=decide (b.start<=x)&&decide (x<b.start+b.log)
noncomputable def Bk.room (b:Bk):Bool:=decide ((b.ns.length:Int)+(b.calls+1)*b.each<=b.most)
noncomputable def Bk.put (b:Bk) (x:Int) (o:List UInt8):Bk:={b with g:=dput b.g x (.bytes o)}
noncomputable def Bk.note (b:Bk) (x:Int):Bk:={b with ns:=b.ns++[x]}
section
variable {b:Bk} {F:List Cl} {H:Hp} {n:Nat} {Q:V->Hp->Prop} {X:Addr->Hp->Prop}
theorem N6(h:Holds H (bj b++F)){x:Int}(q:Q (.bool (b.own x)) H):Cq (Rn 1 n (.af 552) [.ref b.bk,.int x] H) Q X:=by
 rw[Ka]
 unfold Bk.own at q
 refine Cq.fin (Wq.seq (Wq.aE (Wq.bind (Wq.aZ rfl (bc h) rfl (Wq.bind (Wq.j9 (Wq.ae rfl (Wq.gS (r:=decide (b.start<=x)) rfl ?_))))))))
 cases hd:decide (b.start<=x)with
 |false=>rw[hd]at q;exact q
 |true=>
  rw[hd]at q
  exact Wq.aS (Wq.au (Wq.aZ rfl (bc h) rfl (Wq.aZ rfl (bc h) rfl (Wq.bZ (Wq.eP (r:=decide (x<b.start+b.log)) rfl q)))))
theorem xj(h:Holds H (bj b++F))(hl:b.ns.length<=1000)(he:b.each.natAbs<=1000)(q:Q (.bool b.room) H):Cq (Rn 1 n (.af 580) [.ref b.bk] H) Q X:=by
 rw[KY]
 unfold Bk.room at q
 refine Cq.fin (Wq.seq (Wq.aE (Wq.d8 (Wq.au (Wq.ak (Wq.ah (Wq.aZ rfl (bc h) rfl (Wq.aj (Wq.d9 (dK h) (by rw[List.length_map];unfold lim;lia) ?_)))))))))
 refine Wq.au (Wq.au (Wq.aZ rfl (bc h) rfl (Wq.pure (Wq.bZ (Wq.aZ rfl (bc h) rfl (Wq.fZ (.inr (by lia)) (Wq.bZ ?_)))))))
 refine Wq.aZ rfl (bc h) rfl (Wq.gS (r:=_) rfl ?_)
 rw[List.length_map]
 exact q
theorem mx(h:Holds H (bj b++F)){x:Int}{o:List UInt8}(hl:b.ns.length<1000)(hg:b.g.length<=lim)
  (q1:b.calls=0∨b.own x=true->Q (.str 77) H) (q2:b.calls≠0->b.own x=false->x ∉ b.ns->(b.ns.length:Int)=b.most->Q (.str 76) H)
  (q3:b.calls≠0->b.own x=false->x∈b.ns->∀ H',Holds H' (bj (b.put x o)++F)->Q (.str 75) H')
  (q4:b.calls≠0->b.own x=false->x ∉ b.ns->(b.ns.length:Int)≠b.most->∀ H',Holds H' (bj ((b.note x).put x o)++F)->Q (.str 75) H'):
  Cq (Rn 2 n (.af 559) [.ref b.bk,.int x,.bytes o] H) Q X:=by
 rw[Kk]
 have hlm:(b.ns.map V.int).length<=lim:=by rw[List.length_map];unfold lim;lia
 refine Cq.fin (Wq.seq (Wq.aH (Wq.or (Wq.bind (Wq.aZ rfl (bc h) rfl (Wq.aS (Wq.pure (Wq.dH (r:=decide (b.calls=0)) rfl ?_))))))))
 cases d1:decide (b.calls=0)with
 |true=>
  unfold gy
  refine Wq.seq (Wq.aE (Wq.pure ?_))
  exact q1 (.inl (of_decide_eq_true d1))
 |false=>
  have d1:=of_decide_eq_false d1
  unfold gy
  refine Wq.jh (Wq.bind (Wq.ak (Wq.ah (Wq.ae rfl (Wq.ah (Wq.ae rfl (Wq.aj (Wq.cy rfl (N6 h (Wq.truth ?_))))))))))
  cases d2:b.own x with
  |true=>
   refine Wq.seq (Wq.aE (Wq.pure ?_))
   exact q1 (.inr d2)
  |false=>
   refine Wq.dj ?_
   have fin:∀ {H:Hp} {c:Bk},Holds H (bj c++F)->c.bk=b.bk->c.g.length<=lim->(∀ H',Holds H' (bj (c.put x o)++F)->Q (.str 75) H')->Wq (aD [Lite.ao (ae 2) (fun v=>((ae 0)>>=fun o=>(pure (V.str 80))>>=fun i=>aw o i)>>=fun o=>(ae 1)>>=fun i=>bA o i v),Lite.aE (pure (V.str 75))] ⟨[some (.ref b.bk),some (.int x),some (.bytes o),none,none],H⟩) (eN Q) X:=by
    intro H c h e hg q
    rw[<-e]
    refine Wq.seq (Wq.ao (Wq.ae rfl (Wq.bind (Wq.aZ rfl (bc h) rfl (Wq.bind (Wq.ae rfl (Wq.kf (kC h) hg (h.wa _) fun H h=>?_)))))))
    unfold dS
    refine Wq.seq (Wq.aE (Wq.pure ?_))
    exact q H h
   refine Wq.seq (Wq.aH (Wq.bind (Wq.ae rfl (Wq.aS (Wq.aZ rfl (bc h) rfl (Wq.xi (dK h) (r:=decide (x∈b.ns)) rfl ?_))))))
   cases d3:decide (x∈b.ns)with
   |true=>
    refine Wq.dj ?_
    exact fin h rfl hg (q3 d1 d2 (of_decide_eq_true d3))
   |false=>
    have d3:=of_decide_eq_false d3
    refine Wq.seq (Wq.aH (Wq.bind (Wq.ak (Wq.ah (Wq.aZ rfl (bc h) rfl (Wq.aj (Wq.d9 (dK h) hlm (Wq.aS (Wq.aZ rfl (bc h) rfl (Wq.dH (r:=decide ((b.ns.length:Int)=b.most)) (by rw[List.length_map]) ?_))))))))))
    cases d4:decide ((b.ns.length:Int)=b.most)with
    |true=>
     refine Wq.seq (Wq.aE (Wq.pure ?_))
     exact q2 d1 d2 d3 (of_decide_eq_true d4)
    |false=>
     refine Wq.dj ?_
     refine Wq.seq (Wq.az (Wq.append (ys:=b.ns.map V.int) (Wq.aZ rfl (bc h) rfl ⟨rfl,dK h,Wq.ae rfl ⟨dK h,by rw[List.length_map];unfold lim;lia,?_⟩⟩)))
     have h:=h.iA (.list (b.ns.map V.int++[.int x]))
     have er:O.list (b.ns.map V.int++[.int x])=.list ((b.note x).ns.map V.int):=by unfold Bk.note;simp
     refine fin (c:=b.note x) ?_ rfl hg (q4 d1 d2 d3 (of_decide_eq_false d4))
     rw[er]at h
     show Holds (H.set b.nl (.list (b.ns.map V.int++[.int x]))) _
     rw[er]
     exact h
end
noncomputable def Dl (n:Nat) (d:Int->List UInt8):List (List UInt8):=(List.range n).map fun (k:Nat)=>d (k:Int)
theorem qd{n:Nat}{d:Int->List UInt8}:(Dl n d).length=n:=by delta Dl;simp
theorem N7{n:Nat}{d:Int->List UInt8}{k:Int}(h0:0<=k)(h1:k<n):(Dl n d)[k.toNat]? =some (d k):=by
 delta Dl
 rw[List.getElem?_map,List.getElem?_range (by lia)]
 simp[Int.toNat_of_nonneg h0]
theorem xk{n:Nat}{d d':Int->List UInt8}(h:∀ k,0<=k->k<n->d k=d' k):Dl n d=Dl n d':=by
 delta Dl
 refine List.map_congr_left fun k hk=>h _ (by lia) ?_
 have:=List.mem_range.mp hk
 lia
theorem N8{n:Nat}{d:Int->List UInt8}{k:Int}{o:List UInt8}(h0:0<=k):(Dl n d).set k.toNat o=Dl n (upd d k o):=by
 apply List.ext_getElem?
 intro i
 delta Dl
 rw[List.getElem?_set]
 by_cases hi:k.toNat=i
 ·rw[if_pos hi]
  have e:k=(i:Int):=by lia
  by_cases hl:i<n
  ·rw[if_pos (by simpa using hi▸hl),List.getElem?_map,List.getElem?_range hl]
   simp[upd,e]
  ·rw[if_neg (by simpa using (show ¬ k.toNat<n by lia)),List.getElem?_eq_none (by simpa using (show n<=i by lia))]
 ·rw[if_neg hi,List.getElem?_map,List.getElem?_map]
  by_cases hl:i<n
  ·rw[List.getElem?_range hl]
   have:(i:Int)≠k:=by lia
   simp[upd,this]
  ·have:(List.range n)[i]? =none:=by simp;lia
   rw[this];rfl
theorem N9{n:Nat}{d:Int->List UInt8}{k:Int}{o:List UInt8}(h0:0<=k):((Dl n d).map V.bytes).set k.toNat (.bytes o)=(Dl n (upd d k o)).map V.bytes:=by
 rw[<-List.map_set,N8 h0]
theorem qe{k:Int}{n:Nat}(h0:0<=k)(h1:k<n):place k n=some k.toNat:=by
 delta place
 rw[if_pos h0,if_pos (by lia)]
section
variable {X:Addr->Hp->Prop} {lo:List (Option V)} {H:Hp}
theorem Wq.my{Q:Fl->St->Prop}{i k a:Nat}{es:List (Nat×V)}{x y:Int}{e:M V}{c':List Cl}(e0:lo[i]? =some (some (.ref a)))(eS:H[a]? =some (.cI es))(ev:es.lookup k=some (.int x))(hl:Nat.ble es.length 1000=true)
  (he:Wq (e ⟨lo,H⟩) (fun v s=>v=.int y∧s=⟨lo,H⟩) X) (hc:Holds (H.set a (.cI (dput es k (.int (x+y))))) c') (q:∀ H',Holds H' c'->Q .next ⟨lo,H'⟩):
  Wq (((Lite.ae i)>>=fun o=>(Pure.pure (V.str k))>>=fun i=>aw o i>>=fun a=>e>>=fun b=>bF .Add a b>>=fun r=>bA o i r>>=fun _=>Pure.pure .next:M Fl) ⟨lo,H⟩) Q X:=by
 refine Wq.bind (Wq.ae e0 (Wq.bind (Wq.pure (Wq.bind (Wq.pY eS ev (Wq.bind (he.mono (fun v s q'=>?_) fun _ _ q=>q)))))))
 obtain⟨rfl,rfl⟩:=q'
 exact Wq.bind (Wq.pure (Wq.bind (Wq.pZ eS hl hc fun H h=>q H h)))
theorem Wq.Oa{Q:Fl->St->Prop}{i k a:Nat}{es:List (Nat×V)}{x y:Int}{c':List Cl}(e0:lo[i]? =some (some (.ref a)))(eS:H[a]? =some (.cI es))(ev:es.lookup k=some (.int x))(hl:Nat.ble es.length 1000=true)
  (hc:Holds (H.set a (.cI (dput es k (.int (x-y))))) c') (q:∀ H',Holds H' c'->Q .next ⟨lo,H'⟩):
  Wq (((Lite.ae i)>>=fun o=>(Pure.pure (V.str k))>>=fun i=>aw o i>>=fun a=>(Pure.pure (V.int y))>>=fun b=>bF .Sub a b>>=fun r=>bA o i r>>=fun _=>Pure.pure .next:M Fl) ⟨lo,H⟩) Q X:=by
 refine Wq.bind (Wq.ae e0 (Wq.bind (Wq.pure (Wq.bind (Wq.pY eS ev (Wq.bind (Wq.pure (Wq.bind (Wq.pure ?_)))))))))
 exact Wq.bind (Wq.pZ eS hl hc fun H h=>q H h)
end
noncomputable def Bk.bU (b:Bk) (k:Int):Bk:={b with calls:=k}
noncomputable def Bk.w (b:Bk) (k:Int):Bk:={b with writes:=b.writes+k}
noncomputable def Bk.f4 (b:Bk):Bk:={b with ej:=b.ej+4}
noncomputable def Bk.c1 (b:Bk):Bk:={b with bN:=b.bN+1}
noncomputable def Bk.cZ (b:Bk) (D:List (List UInt8)):Bk:={b with D:=D}
noncomputable def Bk.nn (b:Bk) (u:Nat):Bk:={b with nl:=u,ns:=[]}
noncomputable def Bk.ng (b:Bk) (u:Nat):Bk:={b with gl:=u,g:=[]}
noncomputable def Bk.turn (b:Bk) (N:Nat) (d:Int->List UInt8):Bk:=(b.bU 0).cZ (Dl N d)
theorem xl{b:Bk}{F:List Cl}{H:Hp}{N:Nat}{d:Int->List UInt8}{k:Int}{o:List UInt8}(h:Holds H (bj (b.turn N d)++F))(h0:0<=k):Holds (H.set b.dl (.list (((b.turn N d).D.map V.bytes).set k.toNat (.bytes o)))) (bj (b.turn N (upd d k o))++F):=by
 have e:O.list (((b.turn N d).D.map V.bytes).set k.toNat (.bytes o))=.list ((b.turn N (upd d k o)).D.map V.bytes):=congrArg O.list (N9 h0)
 simp only[e]
 exact h.dT _
theorem Ob{W D:Int->List UInt8}{p:Int}{ns:List Int}{i:Nat}{x:Int}(hx:ns[i]? =some x)(hp:x<p∨p+i<x)(k:Int):
  upd (upd (bO W p ns i (bP W ns i D)) (p+i) (W x)) x (W x) k=bO W p ns (i+1) (bP W ns (i+1) D) k:=by
 have e1:=pR (v:=W) (p:=p) hx (bP W ns i D)
 have e2:=xa (v:=W) hx D
 rw[show upd (bO W p ns i (bP W ns i D)) (p+i) (W x)=bO W p ns (i+1) (bP W ns i D) from funext e1,<-show upd (bP W ns i D) x (W x)=bP W ns (i+1) D from funext e2]
 delta upd
 by_cases h:k=x
 ·rw[if_pos h,pS (by lia),if_pos h]
 ·rw[if_neg h]
  delta bO
  split
  ·rfl
  ·show bP W ns i D k=if k=x then W x else bP W ns i D k
   rw[if_neg h]
section
variable {b:Bk} {F:List Cl} {H:Hp} {n:Nat} {Q:V->Hp->Prop} {X:Addr->Hp->Prop}
theorem Oc(h:Holds H (bj b++F)){W D:Int->List UInt8}{N:Nat}(hD:b.D=Dl N D)(hN:N<=1000)(hl:b.ns.length<=900)(hs:0<=b.start)(hsl:b.start+1+b.ns.length<=N)(hn:∀ k∈b.ns,(bp (0<=k) (k<N) (k<b.start∨b.start+b.ns.length<k)))(hg:∀ k∈b.ns,b.g.lookup k=some (.bytes (W k)))
  (q1:b.calls=0->Q (.str 77) H) (q2:b.calls≠0->(b.calls-1=0->b.ns=[])->∀ H',Holds H' (bj (b.bU (b.calls-1))++F)->Q (.str 75) H')
  (q3:b.calls=1->b.ns≠[]->∀ H' u v,Holds H' (bj (((((((b.bU 0).cZ (Dl N (bO W (b.start+1) b.ns b.ns.length (bP W b.ns b.ns.length D)))).w (2*b.ns.length+2)).f4).c1).nn u).ng v)++F)->Q (.str 75) H'):
  Cq (Rn 1 n (.af 573) [.ref b.bk] H) Q X:=by
 rw[KS]
 have hlm:(b.ns.map V.int).length<=lim:=by rw[List.length_map];delta lim;lia
 refine Cq.fin (Wq.seq (Wq.aH (Wq.bind (Wq.aZ rfl (bc h) rfl (Wq.aS (Wq.pure (Wq.dH (r:=decide (b.calls=0)) rfl ?_)))))))
 cases d1:decide (b.calls=0)with
 |true=>
  refine Wq.seq (Wq.aE (Wq.pure ?_))
  exact q1 (of_decide_eq_true d1)
 |false=>
  have d1:=of_decide_eq_false d1
  refine Wq.dj ?_
  refine Wq.seq (Wq.Oa (c':=bj (b.bU (b.calls-1))++F) rfl (bc h) rfl rfl (h.cO _) fun H h=>?_)
  refine Wq.seq (Wq.aH (Wq.and (Wq.bind (Wq.aZ rfl (bc (b:=b.bU (b.calls-1)) h) rfl (Wq.aS (Wq.pure (Wq.dH (r:=decide (b.calls-1=0)) rfl ?_)))))))
  have fin:∀ H,Q (.str 75) H->Wq (aD [Lite.aE (Pure.pure (V.str 75))] ⟨[some (.ref b.bk),none,none,none,none],H⟩) (eN Q) X:=fun H q=>by
   refine Wq.seq (Wq.aE (Wq.pure ?_))
   exact q
  cases d2:decide (b.calls-1=0)with
  |false=>
   delta gz
   refine Wq.dj ?_
   exact fin H (q2 d1 (fun z=>absurd z (of_decide_eq_false d2)) H h)
  |true=>
   have d2:=of_decide_eq_true d2
   delta gz
   refine Wq.kA (Wq.bind (Wq.aZ rfl (bc (b:=b.bU (b.calls-1)) h) rfl (Wq.aS (Wq.fH (Wq.aj ⟨rfl,h,fun H u h=>?_⟩)))))
   refine Wq.ne (r:=decide (b.ns=[])) ?_ ?_
   ·rw[pV (h.gc (.tail _ (.tail _ (.head _)))) (h.on _ (.tail _ (.tail _ (.tail _ (.head _))))) h.hd]
    congr 1
    exact decide_eq_decide.mpr List.map_eq_nil_iff
   have h:=h.aX
   cases d3:decide (b.ns=[])with
   |true=>
    refine Wq.dj ?_
    exact fin H (q2 d1 (fun _=>of_decide_eq_true d3) H h)
   |false=>
    have d3:=of_decide_eq_false d3
    have e1:b.calls=1:=by lia
    rw[d2]at h
    have hD0:b.bU 0=b.turn N (bO W (b.start+1) b.ns 0 (bP W b.ns 0 D)):=by
     have:b.D=Dl N (bO W (b.start+1) b.ns 0 (bP W b.ns 0 D)):=by
      rw[hD]
      exact xk fun k _ _=>by simp only[pQ,w9]
     delta Bk.turn Bk.cZ
     rw[<-this]
     rfl
    rw[hD0]at h
    refine Wq.seq (Wq.fG (a:=b.nl) (xs:=b.ns.map V.int) (fun i st=>bV fun x y=>st.lo=[some (.ref b.bk),x,y,none,none]∧Holds st.H (bj (b.turn N (bO W (b.start+1) b.ns i (bP W b.ns i D)))++F)) (mn (ca:=0) hl) (Wq.aZ rfl (bc (b:=b.turn N _) h) rfl ⟨rfl,dK (b:=b.turn N _) h,_,_,rfl,h⟩) (fun i st I=>?_) (fun i x st hx I=>?_) fun st I=>?_)
    ·obtain⟨x,y,_,h⟩:=I
     exact dK (b:=b.turn N _) h
    ·obtain⟨x1,y1,e,h⟩:=I
     obtain⟨lo',H⟩:=st
     subst e
     obtain⟨x,rfl,hxn⟩:=pT hx
     have hi:i<b.ns.length:=(List.getElem?_eq_some_iff.mp hxn).1
     have hxm:=List.mem_of_getElem? hxn
     obtain⟨hx0,hx1,hx2⟩:=hn x hxm
     have h:=h.app [O.tuple [.int i,.int x]]
     refine Wq.fW mi (Wq.av (Wq.av ?_))
     generalize H++[O.tuple [.int i,.int x]]=H at h
     have hl1:∀ d,Nat.ble ((Dl N d).map V.bytes).length 1000=true:=fun d=>Nat.ble_eq_true_of_le (by simp only[List.length_map,qd];exact hN)
     have hp:∀ (d:Int->List UInt8) (k:Int),0<=k->k<N->place k ((Dl N d).map V.bytes).length=some k.toNat:=fun d k h0 h1=>by simp only[List.length_map,qd];exact qe h0 h1
     refine Wq.seq (Wq.ao (Wq.bind (Wq.aZ rfl (bc (b:=b.turn N _) h) rfl (Wq.bind (Wq.ae rfl (Wq.xc (kC (b:=b.turn N _) h) (hg x hxm) (Wq.bind (Wq.aZ rfl (bc (b:=b.turn N _) h) rfl (Wq.bind (Wq.au (Wq.au (Wq.aZ rfl (bc (b:=b.turn N _) h) rfl (Wq.pure (Wq.bZ (Wq.ae rfl (Wq.bZ ?_))))))))))))))))
     have e0:(b.turn N (bO W (b.start+1) b.ns i (bP W b.ns i D))).start=b.start:=rfl
     rw[e0]
     refine Wq.mv (mw (b:=b.turn N _) h) (hl1 _) (hp _ _ (by lia) (by lia)) (xl h (by lia)) fun H h=>?_
     refine Wq.seq (Wq.ao (Wq.bind (Wq.aZ rfl (bc (b:=b.turn N _) h) rfl (Wq.bind (Wq.ae rfl (Wq.xc (kC (b:=b.turn N _) h) (hg x hxm) (Wq.bind (Wq.aZ rfl (bc (b:=b.turn N _) h) rfl (Wq.bind (Wq.ae rfl ?_))))))))))
     refine Wq.mv (mw (b:=b.turn N _) h) (hl1 _) (hp _ _ hx0 hx1) (xl h hx0) fun H h=>?_
     rw[funext (Ob hxn (p:=b.start+1) (D:=D) (W:=W) (by lia))]at h
     exact⟨_,_,rfl,h⟩
    ·obtain⟨x1,y1,e,h⟩:=I
     obtain⟨lo',H⟩:=st
     subst e
     rw[List.length_map]at h
     have q:=q3 e1 d3
     generalize bO W (b.start+1) b.ns b.ns.length (bP W b.ns b.ns.length D)=d at q h
     have q:∀ H' u v,Holds H' (bj ((((((b.turn N d).w (2*b.ns.length+2)).f4).c1).nn u).ng v)++F)->Q (.str 75) H':=q
     have e2:b.bk=(b.turn N d).bk:=rfl
     have e3:b.ns=(b.turn N d).ns:=rfl
     rw[e2]at fin ⊢
     rw[e3]at hlm q
     generalize b.turn N d=b at h q fin hlm
     delta dS
     refine Wq.seq (Wq.my (y:=2*b.ns.length+2) (c':=bj (b.w (2*b.ns.length+2))++F) rfl (bc h) rfl rfl ?_ (h.cO _) fun H h=>?_)
     ·exact Wq.au (Wq.au (Wq.pure (Wq.ak (Wq.ah (Wq.aZ rfl (bc h) rfl (Wq.aj (Wq.d9 (dK h) hlm (Wq.fZ (.inl (by decide)) (Wq.pure (Wq.bZ ⟨by rw[List.length_map],rfl⟩))))))))))
     refine Wq.seq (Wq.my (c':=bj ((b.w (2*b.ns.length+2)).f4)++F) rfl (bc (b:=b.w (2*b.ns.length+2)) h) rfl rfl (Wq.pure ⟨rfl,rfl⟩) (h.cO _) fun H h=>?_)
     refine Wq.seq (Wq.my (c':=bj ((b.w (2*b.ns.length+2)).f4.c1)++F) rfl (bc (b:=(b.w (2*b.ns.length+2)).f4) h) rfl rfl (Wq.pure ⟨rfl,rfl⟩) (h.cO _) fun H h=>?_)
     have e4:b.bk=((b.w (2*b.ns.length+2)).f4.c1).bk:=rfl
     rw[e4]at fin ⊢
     generalize (b.w (2*b.ns.length+2)).f4.c1=b at h q fin
     refine Wq.seq (Wq.ao (Wq.g6 (Wq.ah (Wq.fK (Wq.aj ⟨rfl,_,h,fun H u h=>Wq.ah (Wq.dw h fun H v h=>Wq.aj ⟨rfl,_,h,fun H t h=>Wq.fW h.hd ?_⟩)⟩)))))
     have h:=h.aX.qb.sw
     refine Wq.gd (qa (b.nn u)) rfl h rfl rfl fun H h=>Wq.gd (qa ((b.nn u).ng v)) rfl h rfl rfl fun H h=>?_
     have h:=h.qb.qc.qc
     have h:=h.sub (.cons_cons _ (.cons_cons _ (.cons_cons _ (.cons_cons _ (.cons _ (.cons _ (List.Sublist.refl _)))))))
     refine fin H (q H u v h)
end
section
variable {s:Dk} {c:Ch} {j:Jn} {F:List Cl} {H:Hp} {n:Nat} {Q:V->Hp->Prop} {X:Addr->Hp->Prop} {l1 l2:List Bf} {b:Bf}
theorem Od{Y:List Cl}{a:Nat}{o:O}(h:Holds H (Y++DC s c ((a,o)::F)))(o':O):Holds (H.set a o') (Y++DC s c ((a,o')::F)):=by
 have e:∀ o,Y++DC s c ((a,o)::F)=(Y++cA s c++aW s)++(a,o)::F:=fun o=>by simp only[List.append_assoc]
 simp only[e]at h ⊢
 exact h.setAt o'
theorem g7{Y:List Cl}{x:Cl}(h:Holds H (Y++DC s c F))(hx:x∈F):H[x.1]? =some x.2:=h.on x (List.mem_append_right _ (List.mem_append_right _ (List.mem_append_right _ hx)))
noncomputable abbrev mz (C:V->List V->Hp->CR):List (M Fl):=[aH ((ae 5)>>=fun a=>aJ a [.NotEq] [pure (V.str 75)]) [Lite.az (aB P0 C (aO 6) "fill" [ae 4])] [],
 Lite.az (aB P0 C (ae 0) "release" [aO 6]),Lite.aE (ae 5)]
theorem Oe{Y G:List Cl}{cb jo:Nat}{x o old z:V}(h:Holds H (Y++DC s c ((cb,.cell (some (.ref b.a)))::G)))(ok:bl s c)(e:c.ai=l1++b::l2)(hh:b.h=1)(q:∀ H',Holds H' (Y++DC s (c.with (l1++l2++[b.hold 0])) ((cb,.cell (some (.ref b.a)))::G))->Q (.str 75) H'):
  Wq (aD (mz (Rn 2 n)) ⟨[some (.ref c.ca),some (.ref jo),some x,some o,some old,some (.str 75),some (.ref cb),none],H⟩) (eN Q) X:=by
 refine Wq.seq (Wq.cN (Wq.bind (Wq.ae rfl (Wq.aS (Wq.pure (Wq.ne (r:=true) rfl ⟨rfl,?_⟩))))))
 refine Wq.seq (Wq.az (Wq.aI ma rfl rfl (Wq.ae rfl ⟨rfl,bo (cE h),Wq.ah (Wq.aO rfl (g7 h (.head _)) (Wq.aj (mh (cE h) ok e hh fun H h=>?_)))⟩)))
 unfold dS
 refine Wq.seq (Wq.aE (Wq.ae rfl ?_))
 exact q H (dJ h)
theorem Of{Y G:List Cl}{cb jo k:Nat}{x o z:V}{old:List UInt8}(hk:k≠75)(h:Holds H (Y++DC s c ((cb,.cell (some (.ref b.a)))::G)))(ok:bl s c)(e:c.ai=l1++b::l2)(hh:b.h=1)(ho:old.length=b.x.length)
  (q:∀ H',Holds H' (Y++DC s (c.with (l1++l2++[(b.data old).hold 0])) ((cb,.cell (some (.ref b.a)))::G))->Q (.str k) H'):
  Wq (aD (mz (Rn 2 n)) ⟨[some (.ref c.ca),some (.ref jo),some x,some o,some (.bytes old),some (.str k),some (.ref cb),none],H⟩) (eN Q) X:=by
 have hm:b∈c.ai:=by rw[e];exact List.mem_append_right _ (.head _)
 have hz:=ok.ai.z b hm
 have hlim:=jf hz ok.dk.z.2
 have hv:bX H 4 (.str k) (.str 75)=some false:=by
  show some (k==75)=some false
  have:(k==75)=false:=by simpa using hk
  rw[this]
 refine Wq.seq (Wq.o7 (Wq.bind (Wq.ae rfl (Wq.aS (Wq.pure (Wq.ne (r:=false) hv ⟨rfl,?_⟩))))))
 have hb:=cW e (cE h)
 refine Wq.seq (Wq.az (Wq.aI pb rfl rfl (Wq.aO rfl (g7 h (.head _)) ⟨rfl,bS hb,Wq.ah (Wq.ae rfl (Wq.aj (pC hb hlim ho fun H h=>?_)))⟩)))
 have h:Holds H (DC s (c.with (l1++b.data old::l2)) (Y++(cb,.cell (some (.ref b.a)))::G)):=iC (b:=b) (b':=b.data old) rfl h
 have ok1:bl s (c.with (l1++b.data old::l2)):=ok.swap e rfl rfl (by show((old.length:Nat):Int)=s.S;rw[ho];exact hz) (ok.ai.p b hm) fun _ z=>by
  have z:b.h=0:=z
  rw[hh]at z;contradiction
 refine Wq.seq (Wq.az (Wq.aI ma rfl rfl (Wq.ae rfl ⟨rfl,bo (c:=c.with (l1++b.data old::l2)) h,Wq.ah (Wq.aO rfl (g7 (dJ h) (.head _)) (Wq.aj (mh (c:=c.with (l1++b.data old::l2)) (b:=b.data old) (l1:=l1) (l2:=l2) h ok1 rfl hh fun H h=>?_)))⟩)))
 unfold dS
 refine Wq.seq (Wq.aE (Wq.ae rfl ?_))
 exact q H (dJ h)
end
section
variable {s:Dk} {c c1:Ch} {j:Jn} {F:List Cl} {H:Hp} {n:Nat} {Q:V->Hp->Prop} {X:Addr->Hp->Prop} {l1 l2:List Bf} {b:Bf}
theorem Got.clean{x:Int}(r:Rest s c)(g:Got s c c1 l1 l2 b x)(hp:b.p=0):b.x=aT s b.n:=by
 simp only[g.kj,g.num]
 unfold view
 cases e:c.ai.find? (fun b=>b.n==x)with
 |none=>rfl
 |some b0=>
  have h0:=List.mem_of_find?_eq_some e
  have hn:b0.n=x:=by simpa using List.find?_some e
  have:=g.pins
  simp only[e]at this
  have:=r.ok.clean b0 h0 (this.symm.trans hp) (r.idle b0 h0)
  simp only[hn]at this;exact this
theorem Got.back{x:Int}(r:Rest s c)(g:Got s c c1 l1 l2 b x){b':Bf}(e1:b'.n=b.n)(e2:b'.a=b.a)(e3:b'.h=0)(ex:(b'.x.length:Int)=s.S)(ep:0<=b'.p)(cl:b'.p=0->b'.x=aT s b.n):
  Rest s (c1.with (l1++l2++[b']))∧∀ k,view s (c1.with (l1++l2++[b'])) k=(if k=x then b'.x else view s c k)∧aN (c1.with (l1++l2++[b'])) k=if k=x then b'.p else aN c k:=by
 have sw:=g.ok.swap (b':=b') g.e e1 e2 ex ep (fun hp _=>by rw[e1];exact cl hp)
 exact pI r g (b':=b') e1 e3 sw.roll fun k _=>rfl
theorem Og(h:Holds H (aL c.ca j++DC s c F))(y:Sys s c j)(hk:∀ k,(j.nt.lookup k).isSome=decide (k∈j.ns))(hnt:j.nt.length<=1000){x:Int}(h1:0<=x)(h2:x<s.B){o:List UInt8}(ho:(o.length:Int)=s.S)
  (q1:j.calls=0∨j.own x=true->∀ H' c',Rest s c'->(∀ k,view s c' k=view s c k∧aN c' k=aN c k)->c'.ca=c.ca->c'.most=c.most->Holds H' (aL c'.ca j++DC s c' F)->Q (.str 77) H')
  (q2:j.calls≠0->j.own x=false->x ∉ j.ns->j.most<=(j.ns.length:Int)->∀ H' c',Rest s c'->(∀ k,view s c' k=view s c k∧aN c' k=aN c k)->c'.ca=c.ca->c'.most=c.most->Holds H' (aL c'.ca j++DC s c' F)->Q (.str 76) H')
  (q3:j.calls≠0->j.own x=false->x∈j.ns->∀ H' c',Rest s c'->(∀ k,view s c' k=upd (view s c) x o k∧aN c' k=aN c k)->c'.ca=c.ca->c'.most=c.most->Holds H' (aL c'.ca j++DC s c' F)->Q (.str 75) H')
  (q4:j.calls≠0->j.own x=false->x ∉ j.ns->(j.ns.length:Int)<j.most->∀ H' c',Rest s c'->(∀ k,view s c' k=upd (view s c) x o k∧aN c' k=if k=x then aN c x+1 else aN c k)->c'.ca=c.ca->c'.most=c.most->Holds H' (aL c'.ca (j.note x)++DC s c' F)->Q (.str 75) H'):
  Cq (Rn 6 n (.af 566) [.ref c.ca,.ref j.jo,.int x,.bytes o] H) Q X:=by
 rw[KD]
 have h:Holds (H++[O.cell (some (.ref j.jo)),O.cell none]) ((H.length,.cell (some (.ref j.jo)))::(H.length+1,.cell none)::(aL c.ca j++DC s c F)):=by
  have h2:=(h.new (.cell (some (.ref j.jo)))).new (.cell none)
  have e:H++[O.cell (some (.ref j.jo)),O.cell none]=(H++[O.cell (some (.ref j.jo))])++[O.cell none]:=by simp
  have el:(H++[O.cell (some (.ref j.jo))]).length=H.length+1:=by simp
  rw[el]at h2
  rw[e]
  exact h2.sw
 generalize H.length=cj at h
 generalize cj+1=cb at h
 generalize H++[O.cell (some (.ref j.jo)),O.cell none]=H at h
 have h:Holds H (aL c.ca j++DC s c ((cb,.cell none)::(cj,.cell (some (.ref j.jo)))::F)):=into (Y:=aL c.ca j) (into (Y:=(cb,.cell none)::aL c.ca j) h)
 refine Cq.fin (Wq.seq (Wq.ao (Wq.aI pd rfl rfl (Wq.ae rfl ⟨rfl,bo (cE h),Wq.ah (Wq.ae rfl (Wq.aj (pF (cE h) y.r.ok y.r.idle h1 h2 (pH y.r y.f) fun H c1 l1 l2 b g h=>?_)))⟩))))
 have h:=dJ h
 refine Wq.dB rfl (g7 h (.head _)) ?_
 have h:=Od h (.cell (some (.ref b.a)))
 generalize H.set cb (.cell (some (.ref b.a)))=H at h
 have hca:=g.ca
 have hmo:=g.most
 rw[<-hca]at h ⊢
 have hx:=g.num
 have hm:b∈c1.ai:=by rw[g.e];exact List.mem_append_right _ (.head _)
 have hz:=g.ok.ai.z b hm
 have hp0:=g.ok.ai.p b hm
 have hb:=cW g.e (cE h)
 have hlim:=jf hz g.ok.dk.z.2
 have hol:o.length=b.x.length:=Int.ofNat.inj (ho.trans hz.symm)
 refine Wq.seq (Wq.ao (Wq.aI pa rfl rfl (Wq.aO rfl (g7 h (.head _)) ⟨rfl,bS hb,Wq.aj (pB hb hlim (Wq.av ?_))⟩)))
 refine Wq.seq (Wq.az (Wq.aI pb rfl rfl (Wq.aO rfl (g7 h (.head _)) ⟨rfl,bS hb,Wq.ah (Wq.ae rfl (Wq.aj (pC hb hlim hol fun H h=>?_)))⟩)))
 have h:=dJ (iC (b:=b) (b':=b.data o) rfl h)
 have hb1:(b.data o).h=1:=g.held
 have ok1:bl s (c1.with (l1++b.data o::l2)):=g.ok.swap g.e rfl rfl ho hp0 fun _ z=>by rw[hb1]at z;contradiction
 have fail:∀ (H:Hp) (k t f:Nat) (e:Expr) (sc:Scope) (lo':List (Option V)) (z:V),k≠75->Holds H ((t,.tuple [.str k,.none])::(aL c1.ca j++DC s (c1.with (l1++b.data o::l2)) ((f,.cQ e sc lo')::(cb,.cell (some (.ref b.a)))::(cj,.cell (some (.ref j.jo)))::F)))->
   (∀ H' c',Rest s c'->(∀ k,view s c' k=view s c k∧aN c' k=aN c k)->c'.ca=c.ca->c'.most=c.most->Holds H' (aL c'.ca j++DC s c' F)->Q (.str k) H')->
   Wq (aD (mz (Rn 5 n)) ⟨[some (.ref c1.ca),some (.ref cj),some (.int x),some (.bytes o),some (.bytes b.x),some (.str k),some (.ref cb),none],H⟩) (eN Q) X:=by
  intro H k t f e sc lo' z hk h q
  refine Of (c:=c1.with (l1++b.data o::l2)) (b:=b.data o) (n:=n+3) (z:=z) hk (iF h.aX) ok1 rfl hb1 hol.symm fun H h=>?_
  obtain⟨r2,e2⟩:=g.back y.r (b':=((b.data o).data b.x).hold 0) rfl rfl rfl hz hp0 (show b.p=0->b.x=aT s b.n from g.clean y.r)
  refine q H _ r2 (fun k=>?_) hca hmo (iF (iF h))
  obtain⟨v1,v2⟩:=e2 k
  rw[v1,v2]
  by_cases hk:k=x
  ·rw[if_pos hk,if_pos hk,hk];exact⟨g.kj,g.km⟩
  ·rw[if_neg hk,if_neg hk];exact⟨rfl,rfl⟩
 have told:∀ (H:Hp) (t f:Nat) (e:Expr) (sc:Scope) (lo':List (Option V)) (z:V) (j':Jn) (b':Bf),b'.n=b.n->b'.a=b.a->b'.h=1->b'.x=o->0<b'.p->Holds H ((t,.tuple [.str 75,.none])::(aL c1.ca j'++DC s (c1.with (l1++b'::l2)) ((f,.cQ e sc lo')::(cb,.cell (some (.ref b.a)))::(cj,.cell (some (.ref j.jo)))::F)))->
   (∀ H' c',Rest s c'->(∀ k,view s c' k=upd (view s c) x o k∧aN c' k=if k=x then b'.p else aN c k)->c'.ca=c.ca->c'.most=c.most->Holds H' (aL c'.ca j'++DC s c' F)->Q (.str 75) H')->
   Wq (aD (mz (Rn 5 n)) ⟨[some (.ref c1.ca),some (.ref cj),some (.int x),some (.bytes o),some (.bytes b.x),some (.str 75),some (.ref cb),none],H⟩) (eN Q) X:=by
  intro H t f e sc lo' z j' b' f1 f2 f3 f4 f5 h q
  have h:=iF h.aX
  rw[<-f2]at h
  have sw:=g.ok.swap (b':=b') g.e f1 f2 (by rw[f4];exact ho) (by lia) (fun hp _=>by lia)
  refine Oe (c:=c1.with (l1++b'::l2)) (b:=b') (n:=n+3) (z:=z) h sw rfl f3 fun H h=>?_
  obtain⟨r2,e2⟩:=g.back y.r (b':=b'.hold 0) f1 f2 rfl (by show(b'.x.length:Int)=s.S;rw[f4];exact ho) (by show 0<=b'.p;lia) (fun hp=>by have hp:b'.p=0:=hp;lia)
  refine q H _ r2 (fun k=>?_) hca hmo (iF (iF h))
  obtain⟨v1,v2⟩:=e2 k
  rw[v1,v2]
  refine⟨?_,rfl⟩
  unfold upd
  rw[<-f4];rfl
 refine Wq.seq (Wq.ao (Wq.bind (Wq.ak (Wq.ah (Wq.du (lo':=[some (.ref cb),some (.ref cj)]) rfl h fun H f h=>Wq.aj (Wq.cy rfl (iG (Cq.cQ h.hd (KH _) ?_))))))))
 have h:=into h
 refine Wq.aI Mp rfl rfl (Wq.aO rfl (g7 h (.tail _ (.tail _ (.head _)))) ⟨rfl,aU h,Wq.ah (Wq.aO rfl (g7 h (.tail _ (.head _))) (Wq.aj ?_))⟩)
 refine Nj (b:=b.data o) h ok1 rfl (by rw[hb1];decide) (by have:=y.lo.m;lia) (by unfold lim;lia) hk (fun d1=>?_) (fun d1 d2=>?_) (fun d1 d2 d3=>?_) (fun d1 d2 d3 d4=>?_) (fun d1 d2 d3 d4 H h=>?_)
 ·refine⟨77,_,.inr ⟨rfl,rfl⟩,h,fun H t h=>Wq.bind (Wq.pure (Wq.eA h.hd rfl rfl rfl (Wq.av ?_)))⟩
  exact fail H 77 t f _ _ _ .none (by decide) h (q1 (.inl d1))
 ·refine⟨77,_,.inr ⟨rfl,rfl⟩,h,fun H t h=>Wq.bind (Wq.pure (Wq.eA h.hd rfl rfl rfl (Wq.av ?_)))⟩
  exact fail H 77 t f _ _ _ .none (by decide) h (q1 (.inr (by rw[<-hx];exact d2)))
 ·refine⟨_,h,fun H t h=>Wq.bind (Wq.pure (Wq.eA h.hd rfl rfl rfl (Wq.av ?_)))⟩
  have hpx:b.p=aN c x:=g.km
  have d3:x∈j.ns:=by rw[<-hx];exact d3
  have hp1:aN c x=1:=by rw[y.eh,if_pos d3]
  refine told H t f _ _ _ .none j (b.data o) rfl rfl hb1 rfl (by show 0<b.p;lia) h fun H' c' r' e' ca' mo' h'=>?_
  refine q3 d1 (by rw[<-hx];exact d2) d3 H' c' r' (fun k=>⟨(e' k).1,?_⟩) ca' mo' h'
  rw[(e' k).2]
  by_cases hk:k=x
  ·rw[if_pos hk,hk];exact hpx
  ·rw[if_neg hk]
 ·refine⟨76,_,.inl ⟨rfl,rfl⟩,h,fun H t h=>Wq.bind (Wq.pure (Wq.eA h.hd rfl rfl rfl (Wq.av ?_)))⟩
  exact fail H 76 t f _ _ _ .none (by decide) h (q2 d1 (by rw[<-hx];exact d2) (by rw[<-hx];exact d3) d4)
 ·refine⟨_,h,fun H t h=>Wq.bind (Wq.pure (Wq.eA h.hd rfl rfl rfl (Wq.av ?_)))⟩
  have hpx:b.p=aN c x:=g.km
  refine told H t f _ _ _ .none (j.note b.n) ((b.data o).pin (b.p+1)) rfl rfl hb1 rfl (by show 0<b.p+1;lia) h fun H' c' r' e' ca' mo' h'=>?_
  rw[hx]at h'
  refine q4 d1 (by rw[<-hx];exact d2) (by rw[<-hx];exact d3) d4 H' c' r' (fun k=>⟨(e' k).1,?_⟩) ca' mo' h'
  rw[(e' k).2]
  by_cases hk:k=x
  ·rw[if_pos hk,if_pos hk,<-hpx];rfl
  ·rw[if_neg hk,if_neg hk]
end
structure bf(s:Dk)(c:Ch)(j:Jn)(b:Bk):Prop where
 y:Sys s c j
 bk:kD b
 hk:∀ k,(j.nt.lookup k).isSome=decide (k∈j.ns)
 nt:bY s.B j.nt
 ns:j.ns=b.ns
 calls:j.calls=b.calls
 bN:j.bN=b.bN
 most:j.most=b.most
 each:j.each=b.each
 start:j.start=b.start
 size:j.size=b.log
 B:s.B=b.blocks
 S:s.S=b.size
 cm:c.most=b.ai
 w:s.w=b.writes
 f:s.f=b.ej
 D:b.D=Dl b.blocks.toNat (aT s)
 head:aT s b.start=zeros s.S
 gk:bY b.blocks b.g
 gv:∀ k∈b.ns,b.g.lookup k=some (.bytes (view s c k))
 gn:∀ k,k ∉ b.ns->b.g.lookup k=none
 len:(b.ns.length:Int)<=b.most
 c0:0<=b.calls∧b.calls<=b.most
structure kF(s:Dk)(c:Ch)(j:Jn)(b:Bk)(s':Dk)(c':Ch)(j':Jn)(b':Bk):Prop where
 dk:s'.dk=s.dk
 ca:c'.ca=c.ca
 jo:j'.jo=j.jo
 bk:b'.bk=b.bk
noncomputable def All (s:Dk) (c:Ch) (j:Jn) (b:Bk) (p:Nat) (w k:Int) (F:List Cl):List Cl:=aL c.ca j++DC s c (bj b++(p,bL w k)::F)
section
variable {s:Dk} {c:Ch} {j:Jn} {b:Bk} {p:Nat} {w k:Int} {F:List Cl} {H:Hp}
theorem bw(h:Holds H (All s c j b p w k F)):Holds H (bj b++(aL c.ca j++DC s c ((p,bL w k)::F))):=by
 refine h.perm ?_
 have e1:All s c j b p w k F=(aL c.ca j++cA s c++aW s)++(bj b++(p,bL w k)::F):=by delta All;simp only[List.append_assoc]
 have e2:bj b++(aL c.ca j++DC s c ((p,bL w k)::F))=bj b++((aL c.ca j++cA s c++aW s)++(p,bL w k)::F):=by simp only[List.append_assoc]
 simp only[e1,e2]
 exact iD
theorem kG(h:Holds H (bj b++(aL c.ca j++DC s c ((p,bL w k)::F)))):Holds H (All s c j b p w k F):=by
 refine h.perm ?_
 have e1:All s c j b p w k F=(aL c.ca j++cA s c++aW s)++(bj b++(p,bL w k)::F):=by delta All;simp only[List.append_assoc]
 have e2:bj b++(aL c.ca j++DC s c ((p,bL w k)::F))=bj b++((aL c.ca j++cA s c++aW s)++(p,bL w k)::F):=by simp only[List.append_assoc]
 simp only[e1,e2]
 exact iD
theorem jk(h:Holds H (All s c j b p w k F)):Holds H ((p,bL w k)::(aL c.ca j++DC s c (bj b++F))):=by
 refine h.perm ?_
 have e1:All s c j b p w k F=(aL c.ca j++cA s c++aW s++bj b)++(p,bL w k)::F:=by delta All;simp only[List.append_assoc]
 have e2:aL c.ca j++DC s c (bj b++F)=(aL c.ca j++cA s c++aW s++bj b)++F:=by simp only[List.append_assoc]
 simp only[e1,e2]
 exact List.perm_middle
theorem g8(h:Holds H ((p,bL w k)::(aL c.ca j++DC s c (bj b++F)))):Holds H (All s c j b p w k F):=by
 refine h.perm ?_
 have e1:All s c j b p w k F=(aL c.ca j++cA s c++aW s++bj b)++(p,bL w k)::F:=by delta All;simp only[List.append_assoc]
 have e2:aL c.ca j++DC s c (bj b++F)=(aL c.ca j++cA s c++aW s++bj b)++F:=by simp only[List.append_assoc]
 simp only[e1,e2]
 exact List.perm_middle.symm
theorem fL{x:Cl}(h:Holds H (x::All s c j b p w k F)):Holds H (All s c j b p w k (x::F)):=by
 refine h.perm ?_
 have e1:∀ F,All s c j b p w k F=(aL c.ca j++cA s c++aW s++bj b++[(p,bL w k)])++F:=fun F=>by delta All;simp only[List.append_assoc,List.cons_append,List.nil_append]
 simp only[e1,e1]
 exact List.perm_middle.symm
theorem fu{x:Cl}(h:Holds H (All s c j b p w k (x::F))):Holds H (All s c j b p w k F):=by
 have e1:∀ F,All s c j b p w k F=(aL c.ca j++cA s c++aW s++bj b++[(p,bL w k)])++F:=fun F=>by delta All;simp only[List.append_assoc,List.cons_append,List.nil_append]
 simp only[e1]at h ⊢
 exact h.sub (List.Sublist.append (List.Sublist.refl _) (List.sublist_cons_self _ _))
theorem cP{x:Cl}(h:Holds H (All s c j b p w k F))(hx:x∈F):H[x.1]? =some x.2:=
 h.on x (List.mem_append_right _ (List.mem_append_right _ (List.mem_append_right _ (List.mem_append_right _ (.tail _ hx)))))
theorem Sys.calls(y:Sys s c j)(k:Int):Sys s c (j.bU k):=⟨y.r,y.f,⟨y.lo.a,y.lo.b,y.lo.l,y.lo.n,y.lo.m⟩,y.hS,y.nd,y.eh,y.hD,y.hu⟩
theorem bf.qf(v:bf s c j b){k:Int}(hk:0<=k∧k<=b.most):bf s c (j.bU k) (b.bU k) where
 y:=v.y.calls k
 bk:=⟨v.bk.size,v.bk.start,v.bk.log,v.bk.ai,v.bk.most,v.bk.blocks,v.bk.each⟩
 hk:=v.hk
 nt:=v.nt
 ns:=v.ns
 calls:=rfl
 bN:=v.bN
 most:=v.most
 each:=v.each
 start:=v.start
 size:=v.size
 B:=v.B
 S:=v.S
 cm:=v.cm
 w:=v.w
 f:=v.f
 D:=v.D
 head:=v.head
 gk:=v.gk
 gv:=v.gv
 gn:=v.gn
 len:=v.len
 c0:=hk
theorem bf.room(v:bf s c j b):j.room=b.room:=by
 delta Jn.room Bk.room
 simp only[v.ns,v.calls,v.each,v.most]
theorem bf.own(v:bf s c j b)(x:Int):j.own x=b.own x:=by
 delta Jn.own Bk.own
 simp only[v.start,v.size]
theorem bf.begun(v:bf s c j b)(h:b.room=true):bf s c (j.bU (j.calls+1)) (b.bU (b.calls+1)):=by
 rw[v.calls]
 refine v.qf ?_
 have h:=of_decide_eq_true h
 have h1:=v.c0.1
 have h2:=v.bk.each.1
 have h3:=v.len
 refine⟨by lia,?_⟩
 have h4:(b.calls+1)*1<=(b.calls+1)*b.each:=Int.mul_le_mul_of_nonneg_left h2 (by lia)
 lia
end
section
variable {s s':Dk} {c c' g:Ch} {j:Jn} {b:Bk} {x:Int} {o:List UInt8}
theorem bf.xm(v:bf s c j b)(hp:∀ k,aN c' k=aN c k)(mo:c'.most=c.most):fq c':=by
 obtain⟨ns,h1,h2⟩:=v.y.f
 exact⟨ns,by rw[mo];exact h1,fun k hk=>h2 k (by rw[<-hp];exact hk)⟩
theorem bf.kept(v:bf s c j b)(r:Rest s c')(e:∀ k,view s c' k=view s c k∧aN c' k=aN c k)(mo:c'.most=c.most):bf s c' j b where
 y:=⟨r,v.xm (fun k=>(e k).2) mo,v.y.lo,v.y.hS,v.y.nd,fun k=>(e k).2.trans (v.y.eh k),fun k hk=>(e k).1.trans (v.y.hD k hk),v.y.hu⟩
 bk:=v.bk
 hk:=v.hk
 nt:=v.nt
 ns:=v.ns
 calls:=v.calls
 bN:=v.bN
 most:=v.most
 each:=v.each
 start:=v.start
 size:=v.size
 B:=v.B
 S:=v.S
 cm:=mo.trans v.cm
 w:=v.w
 f:=v.f
 D:=v.D
 head:=v.head
 gk:=v.gk
 gv k hk:=by rw[(e k).1];exact v.gv k hk
 gn:=v.gn
 len:=v.len
 c0:=v.c0
theorem bf.wrote(v:bf s c j b)(hx:x∈j.ns)(r:Rest s c')(e:∀ k,view s c' k=upd (view s c) x o k∧aN c' k=aN c k)(mo:c'.most=c.most):bf s c' j (b.put x o) where
 y:=⟨r,v.xm (fun k=>(e k).2) mo,v.y.lo,v.y.hS,v.y.nd,fun k=>(e k).2.trans (v.y.eh k),fun k hk=>by
  rw[(e k).1]
  unfold upd
  rw[if_neg (fun h=>hk (by rw[h];exact hx))]
  exact v.y.hD k hk,v.y.hu⟩
 bk:=⟨v.bk.size,v.bk.start,v.bk.log,v.bk.ai,v.bk.most,v.bk.blocks,v.bk.each⟩
 hk:=v.hk
 nt:=v.nt
 ns:=v.ns
 calls:=v.calls
 bN:=v.bN
 most:=v.most
 each:=v.each
 start:=v.start
 size:=v.size
 B:=v.B
 S:=v.S
 cm:=mo.trans v.cm
 w:=v.w
 f:=v.f
 D:=v.D
 head:=v.head
 gk:=v.gk.put (v.y.lo.n x hx).1 (by have:=(v.y.lo.n x hx).2;rw[v.B]at this;exact this) _
 gv k hk:=by
  show(dput b.g x (.bytes o)).lookup k=_
  rw[gU,(e k).1]
  unfold upd
  by_cases h:k=x
  ·rw[if_pos h,if_pos h]
  ·rw[if_neg h,if_neg h];exact v.gv k hk
 gn k hk:=by
  show(dput b.g x (.bytes o)).lookup k=_
  rw[gU,if_neg (fun h=>hk (by rw[h];show x∈b.ns;rw[<-v.ns];exact hx))]
  exact v.gn k hk
 len:=v.len
 c0:=v.c0
theorem bf.cK(v:bf s c j b)(hx:x ∉ j.ns)(h1:0<=x)(h2:x<s.B)(ho:j.own x=false)(hl:(j.ns.length:Int)<j.most)(r:Rest s c')(e:∀ k,view s c' k=upd (view s c) x o k∧aN c' k=if k=x then aN c x+1 else aN c k)(mo:c'.most=c.most):
  bf s c' (j.note x) ((b.note x).put x o):=by
 have hm:=v.bk.m
 have hmo:=v.most
 have hns:=v.ns
 have eh:∀ k,aN c' k=if k∈(j.note x).ns then 1 else 0:=fun k=>by
  show _=if k∈j.ns++[x]then 1 else 0
  rw[(e k).2]
  by_cases h:k=x
  ·rw[if_pos h,if_pos (by rw[h];simp),v.y.eh x,if_neg hx];rfl
  ·rw[if_neg h,v.y.eh k]
   by_cases h3:k∈j.ns
   ·rw[if_pos h3,if_pos (List.mem_append_left _ h3)]
   ·rw[if_neg h3,if_neg (by simp[h3,h])]
 have el:((j.note x).ns.length:Int)=(j.ns.length:Int)+1:=by show((j.ns++[x]).length:Int)=_;simp
 have hb:¬ (j.start<=x∧x<j.start+j.size):=by
  intro hh
  unfold Jn.own at ho
  rw[decide_eq_true hh.1,decide_eq_true hh.2]at ho
  contradiction
 have hbl:b.ns.length=j.ns.length:=by rw[hns]
 exact {
  y:=⟨r,⟨(j.note x).ns,by rw[mo,v.cm,el];lia,fun k hk=>by
    rw[eh k]at hk
    by_cases h:k∈(j.note x).ns
    ·exact h
    ·rw[if_neg h]at hk;exact absurd rfl hk⟩,
   ⟨v.y.lo.a,v.y.lo.b,by rw[el];show _<j.size;rw[v.size];lia,fun k hk=>by
    rcases List.mem_append.mp (show k∈j.ns++[x] from hk)with hk |hk
    ·exact v.y.lo.n k hk
    ·have:k=x:=by simpa using hk
     subst this
     exact⟨h1,h2,by show k<j.start∨j.start+j.size<=k;lia⟩,by show(j.ns++[x]).length<=900;simp;lia⟩,
   by rw[el,v.S];lia,by
    show(j.ns++[x]).Nodup
    rw[List.nodup_append]
    exact⟨v.y.nd,by simp,fun a ha k hk e=>hx (by
     have:k=x:=by simpa using hk
     rw[<-this,<-e];exact ha)⟩,eh,fun k hk=>by
    have hk:k ∉ j.ns++[x]:=hk
    rw[(e k).1]
    unfold upd
    rw[if_neg (fun h=>hk (by rw[h];simp))]
    exact v.y.hD k fun h=>hk (List.mem_append_left _ h),v.y.hu⟩
  bk:=⟨v.bk.size,v.bk.start,v.bk.log,v.bk.ai,v.bk.most,v.bk.blocks,v.bk.each⟩
  hk:=fun k=>by
   show((dput j.nt x (.int j.ns.length)).lookup k).isSome=decide (k∈j.ns++[x])
   rw[gU]
   by_cases h:k=x
   ·rw[if_pos h,h];simp
   ·rw[if_neg h,v.hk k]
    exact decide_eq_decide.mpr (by simp[h])
  nt:=v.nt.put h1 h2 _
  ns:=by show j.ns++[x]=b.ns++[x];rw[hns]
  calls:=v.calls
  bN:=v.bN
  most:=v.most
  each:=v.each
  start:=v.start
  size:=v.size
  B:=v.B
  S:=v.S
  cm:=mo.trans v.cm
  w:=v.w
  f:=v.f
  D:=v.D
  head:=v.head
  gk:=v.gk.put h1 (by rw[<-v.B];exact h2) _
  gv:=fun k hk=>by
   show(dput b.g x (.bytes o)).lookup k=_
   rw[gU,(e k).1]
   unfold upd
   by_cases h:k=x
   ·rw[if_pos h,if_pos h]
   ·rw[if_neg h,if_neg h]
    have hk:k∈b.ns++[x]:=hk
    exact v.gv k (by
     rcases List.mem_append.mp hk with q |q
     ·exact q
     ·exact absurd (by simpa using q) h)
  gn:=fun k hk=>by
   have hk:k ∉ b.ns++[x]:=hk
   show(dput b.g x (.bytes o)).lookup k=_
   rw[gU,if_neg (fun h=>hk (by rw[h];simp))]
   exact v.gn k fun h=>hk (List.mem_append_left _ h)
  len:=by show((b.ns++[x]).length:Int)<=b.most;rw[List.length_append];simp;lia
  c0:=v.c0}
noncomputable def Bk.closed (b:Bk) (D:List (List UInt8)) (k:Int) (u v:Nat):Bk:={b with calls:=0,D:=D,writes:=b.writes+k,ej:=b.ej+4,bN:=b.bN+1,nl:=u,ns:=[],gl:=v,g:=[]}
theorem Oh{b:Bk}{D:List (List UInt8)}{k:Int}{u v:Nat}:((((((b.bU 0).cZ D).w k).f4).c1).nn u).ng v=b.closed D k u v:=by simp only[Bk.ng,Bk.nn,Bk.c1,Bk.f4,Bk.w,Bk.cZ,Bk.bU,Bk.closed]
noncomputable def Jn.closed (j:Jn) (u v:Nat):Jn:={j with calls:=0,nums:=u,cK:=v,bN:=j.bN+1,ns:=[],nt:=[]}
theorem xn{j:Jn}{u v:Nat}:(j.bU 0).fresh u v=j.closed u v:=by simp only[Jn.fresh,Jn.bU,Jn.closed]
theorem bf.ended{u1 u2 u3 u4:Nat}(v:bf s c j b)(G:cn s c s' g (2*j.ns.length+2) 4 (eR (view s c) s.S j.start j.ns) (eR (view s c) s.S j.start j.ns))(r:Rest s' c')(e:∀ k,view s' c' k=view s' g k∧aN c' k=0)(mo:c'.most=c.most)(hu:s'.un=[]):
  bf s' c' (j.closed u1 u2) (b.closed (Dl b.blocks.toNat (bO (view s c) (b.start+1) b.ns b.ns.length (bP (view s c) b.ns b.ns.length (aT s)))) (2*b.ns.length+2) u3 u4):=by
 have hm:=v.bk.m
 have hb:=v.bk
 have h1:=hb.ai;have h2:=hb.start;have h3:=hb.log;have h4:=hb.blocks;have h5:=hb.size
 have hst:=v.start
 have hsz:=v.size
 have hns:=v.ns
 have hst2:b.start ∉ b.ns:=fun h=>by
  have:=(v.y.lo.n b.start (by rw[hns];exact h)).3
  lia
 have hB:b.closed (Dl b.blocks.toNat (bO (view s c) (b.start+1) b.ns b.ns.length (bP (view s c) b.ns b.ns.length (aT s)))) (2*b.ns.length+2) u3 u4={b with calls:=0,D:=Dl b.blocks.toNat (aT s'),writes:=b.writes+(2*b.ns.length+2),ej:=b.ej+4,bN:=b.bN+1,nl:=u3,ns:=[],gl:=u4,g:=[]}:=by
  have eD:Dl b.blocks.toNat (bO (view s c) (b.start+1) b.ns b.ns.length (bP (view s c) b.ns b.ns.length (aT s)))=Dl b.blocks.toNat (aT s'):=by
   refine xk fun k _ _=>?_
   simp only[G.cZ,hst,hns]
   unfold eR
   by_cases hk:k=b.start
   ·rw[if_pos hk,pS (by lia),hk]
    unfold bP
    rw[List.take_length,if_neg hst2]
    exact v.head
   ·rw[if_neg hk]
    unfold bO
    split
    ·rfl
    ·unfold bP
     rw[List.take_length]
     split
     ·rfl
     ·rename_i h
      exact(v.y.hD k (by rw[hns];exact h)).symm
  rw[eD];rfl
 rw[hB]
 have hw:s'.w=b.writes+(2*b.ns.length+2):=by simp only[G.w,v.w,hns]
 have hf:s'.f=b.ej+4:=by simp only[G.f,v.f]
 have hcm:j.bN+1=b.bN+1:=by rw[v.bN]
 have hh:aT s' b.start=zeros s'.S:=by
  simp only[G.cZ,G.S,hst]
  exact if_pos rfl
 have h0:((([]:List Int).length:Nat):Int)=0:=rfl
 have hy:Sys s' c' (j.closed u1 u2):=
  ⟨r,⟨[],by simp only[mo,v.cm,h0];lia,fun k hk=>absurd (e k).2 hk⟩,
   ⟨v.y.lo.a,by rw[G.B];exact v.y.lo.b,by show((([]:List Int).length:Nat):Int)<j.size;simp only[hsz,h0];lia,fun k hk=>(nomatch hk),by show([]:List Int).length<=900;decide⟩,
   by simp only[G.S,v.S];show 4*(((([]:List Int).length:Nat):Int)+1)<=b.size;rw[h0];lia,List.nodup_nil,fun k=>by rw[(e k).2];exact(if_neg (by show k ∉ [];simp)).symm,fun k _=>by simp only[(e k).1,G.view,G.cZ],hu⟩
 exact⟨hy,⟨v.bk.size,v.bk.start,v.bk.log,v.bk.ai,v.bk.most,v.bk.blocks,v.bk.each⟩,fun _=>rfl,bY.nil,rfl,rfl,hcm,v.most,v.each,v.start,v.size,G.B.trans v.B,G.S.trans v.S,mo.trans v.cm,hw,hf,rfl,hh,bY.nil,fun k hk=>(nomatch hk),fun _ _=>rfl,by show((([]:List Int).length:Nat):Int)<=b.most;rw[h0];lia,by show 0<=(0:Int)∧(0:Int)<=b.most;lia⟩
end
noncomputable abbrev xo (C:V->List V->Hp->CR):List (M Fl):=[Lite.ao (fj ((ak P0 C (V.af 580) [ae 3])>>=truth) (pure (V.str 75)) (pure (V.str 76))) (av 5),aH ((ae 5)>>=fun a=>aJ a [.Eq] [pure (V.str 75)]) [(ae 3)>>=fun o=>(pure (V.str 18))>>=fun i=>aw o i>>=fun a=>(pure (V.int 1))>>=fun b=>bF .Add a b>>=fun r=>bA o i r>>=fun _=>pure .next] [],Lite.aE (dg ((ak P0 C (V.af 540) [Lite.du (dR [some 2]) (cM (tS 29) 0).1 (cM (tS 29) 0).2])>>=fun o=>(pure (V.int 0))>>=fun i=>aw o i) [.Eq] [ae 5])]
noncomputable abbrev xp (C:V->List V->Hp->CR):List (M Fl):=[Lite.ao (ak P0 C (V.af 573) [ae 3]) (av 5),
 Lite.aE (dg ((ak P0 C (V.af 540) [Lite.du (dR [some 2]) (cM (tS 29) 1).1 (cM (tS 29) 1).2])>>=fun o=>(pure (V.int 0))>>=fun i=>aw o i) [.Eq] [ae 5])]
section
variable {s:Dk} {c:Ch} {j:Jn} {b:Bk} {p cj n:Nat} {w k:Int} {F:List Cl} {H:Hp} {X:Addr->Hp->Prop} {Q:Fl->St->Prop} {kv:V}
theorem bf.jl(v:bf s c j b):b.ns.length<=5:=by have:=v.len;have:=v.bk.m;omega
theorem Oi(h:Holds H (All s c j b p w k F))(v:bf s c j b)(hF:(cj,O.cell (some (.ref j.jo)))∈F)(q:∀ H' lo' s' c' j' b',bf s' c' j' b'->kF s c j b s' c' j' b'->Holds H' (All s' c' j' b' p w k F)->Q (.ret (.bool true)) ⟨lo',H'⟩):
  Wq (aD (xo (Rn 9 n)) ⟨[some (.ref p),some (.ref c.ca),some (.ref cj),some (.ref b.bk),some kv,none,none,none,none,none,none,none,none,none,none,none],H⟩) Q X:=by
 have hl:=v.jl
 have he:=v.bk.each
 have hm:=v.bk.m
 have hb:=bw h
 refine Wq.seq (Wq.ao (Wq.fj (Wq.bind (Wq.ak (Wq.ah (Wq.ae rfl (Wq.aj (Wq.cy rfl (xj hb (by omega) (by omega) (Wq.truth ?_))))))))))
 cases hr:b.room with
 |true=>
  refine Wq.pure (Wq.av ?_)
  refine Wq.seq (Wq.o7 (Wq.bind (Wq.ae rfl (Wq.aS (Wq.pure (Wq.eq (r:=true) rfl ⟨rfl,?_⟩))))))
  refine Wq.seq (Wq.my (c':=bj (b.bU (b.calls+1))++(aL c.ca j++DC s c ((p,bL w k)::F))) rfl (bc hb) rfl rfl (Wq.pure ⟨rfl,rfl⟩) (hb.cO _) fun H h=>?_)
  have h:=kG h
  refine Wq.seq (Wq.aE (Wq.d8 (Wq.bind (Wq.ak (Wq.ah (Wq.du (lo':=[some (.ref cj)]) rfl h fun H f h=>Wq.aj (Wq.cy rfl (iG (Cq.cQ h.hd (v7 _) ?_)))))))))
  have h:=fL h
  refine Wq.aI wj rfl rfl (Wq.aO rfl (cP h (.tail _ hF)) ⟨rfl,aU h,Wq.aj ?_⟩)
  refine wX h (by rw[v.ns];omega) (by rw[v.each];omega) (fun _ H h=>?_) (fun z=>by simp only[v.room,hr]at z;contradiction)
  refine⟨_,h,fun H t h=>Wq.bind (Wq.pure (Wq.eA h.hd rfl rfl rfl (Wq.ae rfl (Wq.eq (r:=true) rfl ?_))))⟩
  exact q H _ s c _ _ (v.begun hr) ⟨rfl,rfl,rfl,rfl⟩ (fu (j:=j.bU (j.calls+1)) h.aX)
 |false=>
  refine Wq.pure (Wq.av ?_)
  refine Wq.seq (Wq.cN (Wq.bind (Wq.ae rfl (Wq.aS (Wq.pure (Wq.eq (r:=false) rfl ⟨rfl,?_⟩))))))
  refine Wq.seq (Wq.aE (Wq.d8 (Wq.bind (Wq.ak (Wq.ah (Wq.du (lo':=[some (.ref cj)]) rfl h fun H f h=>Wq.aj (Wq.cy rfl (iG (Cq.cQ h.hd (v7 _) ?_)))))))))
  have h:=fL h
  refine Wq.aI wj rfl rfl (Wq.aO rfl (cP h (.tail _ hF)) ⟨rfl,aU h,Wq.aj ?_⟩)
  refine wX h (by rw[v.ns];omega) (by rw[v.each];omega) (fun z=>by simp only[v.room,hr]at z;contradiction) (fun _=>?_)
  refine⟨76,_,.inl ⟨rfl,rfl⟩,h,fun H t h=>Wq.bind (Wq.pure (Wq.eA h.hd rfl rfl rfl (Wq.ae rfl (Wq.eq (r:=true) rfl ?_))))⟩
  exact q H _ s c _ _ v ⟨rfl,rfl,rfl,rfl⟩ (fu h.aX)
theorem bf.places(v:bf s c j b):(dW (b.blocks.toNat<=1000) (0<=b.start) (b.start+1+b.ns.length<=b.blocks.toNat) (∀ k∈b.ns,(bp (0<=k) (k<b.blocks.toNat) (k<b.start∨b.start+b.ns.length<k)))):=by
 have hl:=v.len
 have hm:=v.bk.m
 have h1:=v.bk.start;have h2:=v.bk.log;have h3:=v.bk.blocks
 refine⟨by lia,by lia,by lia,fun k hk=>?_⟩
 have:=v.y.lo.n k (by rw[v.ns];exact hk)
 simp only[v.start,v.size,v.B]at this
 obtain⟨t1,t2,t3⟩:=this
 exact⟨by lia,by lia,by lia⟩
theorem xq{Qb:V->Hp->Prop}(h:Holds H (All s c j b p w k F))(v:bf s c j b)
  (q1:b.calls=0->Qb (.str 77) H)
  (q2:b.calls≠0->(b.calls-1=0->b.ns=[])->∀ H',Holds H' (All s c j (b.bU (b.calls-1)) p w k F)->Qb (.str 75) H')
  (q3:b.calls=1->b.ns≠[]->∀ H' u1 u2,Holds H' (All s c j (b.closed (Dl b.blocks.toNat (bO (view s c) (b.start+1) b.ns b.ns.length (bP (view s c) b.ns b.ns.length (aT s)))) (2*b.ns.length+2) u1 u2) p w k F)->Qb (.str 75) H'):
  Cq (Rn 1 n (.af 573) [.ref b.bk] H) Qb X:=by
 obtain⟨p1,p2,p3,p4⟩:=v.places
 refine Oc (bw h) (W:=view s c) (D:=aT s) v.D p1 (by have:=v.jl;lia) p2 p3 p4 v.gv q1 (fun d1 d2 H h=>q2 d1 d2 H (kG h)) fun d1 d2 H u1 u2 h=>?_
 simp only[Oh]at h
 exact q3 d1 d2 H u1 u2 (kG h)
theorem Oj(h:Holds H (All s c j b p w k F))(v:bf s c j b)(hF:(cj,O.cell (some (.ref j.jo)))∈F)(q:∀ H' lo' s' c' j' b',bf s' c' j' b'->kF s c j b s' c' j' b'->Holds H' (All s' c' j' b' p w k F)->Q (.ret (.bool true)) ⟨lo',H'⟩):
  Wq (aD (xp (Rn 9 n)) ⟨[some (.ref p),some (.ref c.ca),some (.ref cj),some (.ref b.bk),some kv,none,none,none,none,none,none,none,none,none,none,none],H⟩) Q X:=by
 have hm:=v.bk.m
 have c0:=v.c0
 refine Wq.seq (Wq.ao (Wq.ak (Wq.ah (Wq.ae rfl (Wq.aj (Wq.cy rfl (xq h v (fun d1=>?_) (fun d1 d2 H h=>?_) fun d1 d2 H u1 u2 h=>?_)))))))
 ·refine Wq.av ?_
  refine Wq.seq (Wq.aE (Wq.d8 (Wq.bind (Wq.ak (Wq.ah (Wq.du (lo':=[some (.ref cj)]) rfl h fun H f h=>Wq.aj (Wq.cy rfl (iG (Cq.cQ h.hd (o6 _) ?_)))))))))
  have h:=fL h
  refine Wq.aI jd rfl rfl (Wq.aO rfl (cP h (.tail _ hF)) ⟨rfl,aU h,Wq.aj ?_⟩)
  refine ji h v.y (fun _=>?_) (fun z=>absurd (v.calls.trans d1) z) (fun z=>by simp only[v.calls,d1]at z;contradiction)
  refine⟨77,_,.inr ⟨rfl,rfl⟩,h,fun H t h=>Wq.bind (Wq.pure (Wq.eA h.hd rfl rfl rfl (Wq.ae rfl (Wq.eq (r:=true) rfl ?_))))⟩
  exact q H _ s c _ _ v ⟨rfl,rfl,rfl,rfl⟩ (fu h.aX)
 ·refine Wq.av ?_
  refine Wq.seq (Wq.aE (Wq.d8 (Wq.bind (Wq.ak (Wq.ah (Wq.du (lo':=[some (.ref cj)]) rfl h fun H f h=>Wq.aj (Wq.cy rfl (iG (Cq.cQ h.hd (o6 _) ?_)))))))))
  have h:=fL h
  refine Wq.aI jd rfl rfl (Wq.aO rfl (cP h (.tail _ hF)) ⟨rfl,aU h,Wq.aj ?_⟩)
  refine ji h v.y (fun z=>absurd (v.calls.symm.trans z) d1) (fun _ _ H h=>?_) (fun z1 z2=>absurd (v.ns.trans (d2 (by simp only[<-v.calls,z1];rfl))) z2)
  refine⟨_,h,fun H t h=>Wq.bind (Wq.pure (Wq.eA h.hd rfl rfl rfl (Wq.ae rfl (Wq.eq (r:=true) rfl ?_))))⟩
  have v':=v.qf (k:=b.calls-1) (by lia)
  simp only[v.calls]at h
  exact q H _ s c _ _ v' ⟨rfl,rfl,rfl,rfl⟩ (fu (j:=j.bU (b.calls-1)) h.aX)
 ·refine Wq.av ?_
  refine Wq.seq (Wq.aE (Wq.d8 (Wq.bind (Wq.ak (Wq.ah (Wq.du (lo':=[some (.ref cj)]) rfl h fun H f h=>Wq.aj (Wq.cy rfl (iG (Cq.cQ h.hd (o6 _) ?_)))))))))
  have h:=fL h
  refine Wq.aI jd rfl rfl (Wq.aO rfl (cP h (.tail _ hF)) ⟨rfl,aU h,Wq.aj ?_⟩)
  refine ji h v.y (fun z=>by simp only[v.calls,d1]at z;contradiction) (fun _ z H h=>absurd (v.ns.symm.trans (z (by simp only[v.calls,d1];rfl))) d2) (fun _ _ H s' c' v1 v2 g G r' e' ca' mo' hu' h=>?_)
  refine⟨_,h,fun H t h=>Wq.bind (Wq.pure (Wq.eA h.hd rfl rfl rfl (Wq.ae rfl (Wq.eq (r:=true) rfl ?_))))⟩
  simp only[xn]at h
  exact q H _ s' c' _ _ (v.ended G r' e' mo' hu') ⟨G.dk,ca',rfl,rfl⟩ (fu (j:=j.closed v1 v2) h.aX)
end
noncomputable abbrev mA (C:V->List V->Hp->CR):List (M Fl):=[Lite.aE (dg (ak P0 C (V.af 566) [ae 1,aO 2,ae 6,ae 7]) [.Eq] [ak P0 C (V.af 559) [ae 3,ae 6,ae 7]])]
section
variable {s:Dk} {c:Ch} {j:Jn} {b:Bk} {p cj n:Nat} {w k:Int} {F:List Cl} {H:Hp} {X:Addr->Hp->Prop} {Q:Fl->St->Prop} {kv:V}
theorem Ol{x:Int}{o:List UInt8}(h:Holds H (All s c j b p w k F))(v:bf s c j b)(hF:(cj,O.cell (some (.ref j.jo)))∈F)(h1:0<=x)(h2:x<b.blocks)(ho:(o.length:Int)=b.size)
  (q:∀ H' lo' s' c' j' b',bf s' c' j' b'->kF s c j b s' c' j' b'->Holds H' (All s' c' j' b' p w k F)->Q (.ret (.bool true)) ⟨lo',H'⟩):
  Wq (aD (mA (Rn 9 n)) ⟨[some (.ref p),some (.ref c.ca),some (.ref cj),some (.ref b.bk),some kv,none,some (.int x),some (.bytes o),none,none,none,none,none,none,none,none],H⟩) Q X:=by
 have hl:=v.jl
 have hB:=v.bk.blocks;have hs:=v.bk.start;have hlo:=v.bk.log
 have hg:b.g.length<=lim:=v.gk.lim (by lia)
 have hnt:j.nt.length<=1000:=by
  have h1:=v.nt.len
  have h2:=v.B
  lia
 have h2s:x<s.B:=by rw[v.B];exact h2
 have hos:(o.length:Int)=s.S:=by rw[v.S];exact ho
 have en:∀ y,y∈j.ns↔y∈b.ns:=fun y=>by rw[v.ns]
 have ec:=v.calls
 have eo:=v.own x
 have em:=v.most
 have el:=v.ns
 have hlen:=v.len
 refine Wq.seq (Wq.aE (Wq.d8 (Wq.ak (Wq.ah (Wq.ae rfl (Wq.ah (Wq.aO rfl (cP h hF) (Wq.ah (Wq.ae rfl (Wq.ah (Wq.ae rfl (Wq.aj (Wq.cy rfl ?_)))))))))))))
 refine Og (n:=n+3) h v.y v.hk hnt h1 h2s hos (fun d H c' r e ca mo h=>?_) (fun d1 d2 d3 d4 H c' r e ca mo h=>?_) (fun d1 d2 d3 H c' r e ca mo h=>?_) (fun d1 d2 d3 d4 H c' r e ca mo h=>?_)
 ·have h:Holds H (All s c' j b p w k F):=h
  have v':=v.kept r e mo
  have d:b.calls=0∨b.own x=true:=by rw[<-ec,<-eo];exact d
  have no:b.calls≠0->b.own x=false->False:=fun d1 d2=>by
   rcases d with d |d
   ·exact d1 d
   ·rw[d]at d2;contradiction
  refine Wq.ak (Wq.ah (Wq.ae rfl (Wq.ah (Wq.ae rfl (Wq.ah (Wq.ae rfl (Wq.aj (Wq.cy rfl (mx (bw h) (by lia) hg (fun _=>Wq.eq (r:=true) rfl ?_) (fun d1 d2=>(no d1 d2).elim) (fun d1 d2=>(no d1 d2).elim) (fun d1 d2=>(no d1 d2).elim))))))))))
  exact q H _ s c' j b v' ⟨rfl,ca,rfl,rfl⟩ h
 ·have h:Holds H (All s c' j b p w k F):=h
  have v':=v.kept r e mo
  refine Wq.ak (Wq.ah (Wq.ae rfl (Wq.ah (Wq.ae rfl (Wq.ah (Wq.ae rfl (Wq.aj (Wq.cy rfl (mx (bw h) (by lia) hg (fun d=>?_) (fun _ _ _ _=>Wq.eq (r:=true) rfl ?_) (fun _ _ z=>absurd z (fun z=>d3 ((en x).mpr z))) (fun _ _ _ z=>?_))))))))))
  ·rcases d with d |d
   ·exact absurd (ec.trans d) d1
   ·rw[<-eo,d2]at d;contradiction
  ·exact q H _ s c' j b v' ⟨rfl,ca,rfl,rfl⟩ h
  ·rw[em,el]at d4
   exact absurd (by lia) z
 ·have h:Holds H (All s c' j b p w k F):=h
  refine Wq.ak (Wq.ah (Wq.ae rfl (Wq.ah (Wq.ae rfl (Wq.ah (Wq.ae rfl (Wq.aj (Wq.cy rfl (mx (bw h) (by lia) hg (fun d=>?_) (fun _ _ z=>absurd ((en x).mp d3) z) (fun _ _ _ H h=>Wq.eq (r:=true) rfl ?_) (fun _ _ z=>absurd ((en x).mp d3) z))))))))))
  ·rcases d with d |d
   ·exact absurd (ec.trans d) d1
   ·rw[<-eo,d2]at d;contradiction
  ·exact q H _ s c' j _ (v.wrote d3 r e mo) ⟨rfl,ca,rfl,rfl⟩ (kG (b:=b.put x o) h)
 ·have h:Holds H (All s c' (j.note x) b p w k F):=h
  refine Wq.ak (Wq.ah (Wq.ae rfl (Wq.ah (Wq.ae rfl (Wq.ah (Wq.ae rfl (Wq.aj (Wq.cy rfl (mx (bw h) (by lia) hg (fun d=>?_) (fun _ _ _ z=>?_) (fun _ _ z=>absurd z (fun z=>d3 ((en x).mpr z))) (fun _ _ _ _ H h=>Wq.eq (r:=true) rfl ?_))))))))))
  ·rcases d with d |d
   ·exact absurd (ec.trans d) d1
   ·rw[<-eo,d2]at d;contradiction
  ·rw[em,el]at d4
   exact absurd d4 (by lia)
  ·exact q H _ s c' _ _ (v.cK d3 h1 h2s d2 d4 r e mo) ⟨rfl,ca,rfl,rfl⟩ (kG (b:=(b.note x).put x o) h)
end
noncomputable abbrev xr (C:V->List V->Hp->CR):M Fl:=aH ((ae 4)>>=fun a=>aJ a [.Gt] [pure (V.int 2)]) [Lite.ao ((listS [pure (V.int 0),au .Add ((ae 3)>>=fun o=>(pure (V.str 9))>>=fun i=>aw o i) ((ae 3)>>=fun o=>(pure (V.str 78))>>=fun i=>aw o i),au .Add (au .Add ((ae 3)>>=fun o=>(pure (V.str 9))>>=fun i=>aw o i) ((ae 3)>>=fun o=>(pure (V.str 78))>>=fun i=>aw o i)) (pure (V.int 1))])>>=fun o=>(ak P0 C (V.af 533) [ae 0,pure (V.int 3)])>>=fun i=>aw o i) (av 6)] []
noncomputable abbrev xt (C:V->List V->Hp->CR):List (M Fl):=Lite.ao (tupS [ak P0 C (V.af 533) [ae 0,(ae 3)>>=fun o=>(pure (V.str 5))>>=fun i=>aw o i],ak P0 C (V.ty "bytes") [au .Mult (listS [ak P0 C (V.af 533) [ae 0,pure (V.int 256)]]) ((ae 3)>>=fun o=>(pure (V.str 10))>>=fun i=>aw o i)]]) (dh [av 6,av 7])::aH (allM .And [(ae 4)>>=fun a=>aJ a [.Eq] [pure (V.int 2)],((ae 3)>>=fun o=>(pure (V.str 17))>>=fun i=>aw o i)>>=fun a=>aJ a [.NotEq] [listS []]]) [Lite.ao (((ae 3)>>=fun o=>(pure (V.str 17))>>=fun i=>aw o i)>>=fun o=>(ak P0 C (V.af 533) [ae 0,ak P0 C (V.bi "len") [(ae 3)>>=fun o=>(pure (V.str 17))>>=fun i=>aw o i]])>>=fun i=>aw o i) (av 6)] [xr C]::mA C
noncomputable abbrev xu (C:V->List V->Hp->CR):List (M Fl):=aH ((ae 4)>>=fun a=>aJ a [.Lt] [pure (V.int 5)]) (xt C) []::xp C
section
variable {X:Addr->Hp->Prop} {lo:List (Option V)} {H:Hp}
theorem Wq.qg{Q:V->St->Prop}{n p:Nat}{w k m:Int}{F:List Cl}{e1 e2:M V}(h1:e1 ⟨lo,H⟩=.ok (.ref p) ⟨lo,H⟩)(h2:Wq (e2 ⟨lo,H⟩) (fun v s=>v=.int m∧s=⟨lo,H⟩) X)(h:Holds H ((p,bL w k)::F))(hw:0<=w)(hk:0<=k)(hk2:k<=100000)(hm:0<m)(hm2:m<=100000)
  (q:∀ H' d w' k',0<=d->d<m->0<=w'->0<=k'->k'<=k+1->Holds H' ((p,bL w' k')::F)->Q (.int d) ⟨lo,H'⟩):Wq (Lite.ak P0 (Rn 1 n) (V.af 533) [e1,e2] ⟨lo,H⟩) Q X:=by
 refine Wq.ak (Wq.ah (Wq.of h1 (Wq.ah (h2.mono (fun v s q'=>?_) fun _ _ q=>q))))
 obtain⟨rfl,rfl⟩:=q'
 exact Wq.aj (Wq.cy rfl (xd h hw hk hk2 hm hm2 q))
theorem Wq.Om{Q:V->St->Prop}{a:Nat}{n:Int}{v:V}{c:List Cl}(e:H[a]? =some (.list [v]))(h:0<=n∧n<=1000)(hc:Holds H c)(q:∀ H' t,Holds H' ((t,.list (List.replicate n.toNat v))::c)->Q (.ref t) ⟨lo,H'⟩):Wq (binop .Mult (.ref a) (.int n) ⟨lo,H⟩) Q X:=by
 refine Wq.bind (Wq.guard rfl (Wq.bind (Wq.bH e (Wq.bind (Wq.guard ?_ (Wq.bind (Wq.pure (Wq.dw hc q))))))))
 have:n<=(lim:Int):=by unfold lim;lia
 simp only[decide_eq_true h.1,decide_eq_true this];rfl
end
section
variable {s:Dk} {c:Ch} {j:Jn} {b:Bk} {p cj n:Nat} {w k:Int} {F:List Cl} {H:Hp} {X:Addr->Hp->Prop} {Q:Fl->St->Prop}
theorem Oo(h:Holds H ((p,bL w k)::(aL c.ca j++DC s c (bj b++F)))):H[b.bk]? =some (jj b):=bc (bw (g8 h))
theorem Oq:(b.nl,O.list (b.ns.map V.int))∈All s c j b p w k F:=List.mem_append_right _ (List.mem_append_right _ (List.mem_append_right _ (List.mem_append_left _ (.tail _ (.tail _ (.head _))))))
theorem three{i a b c:Int}(h0:0<=i)(h1:i<3):∃ x:Int,(bp (x=a∨x=b∨x=c) (place i 3=some i.toNat) ([V.int a,V.int b,V.int c][i.toNat]? =some (.int x))):=by
 have:i=0∨i=1∨i=2:=by lia
 rcases this with rfl |rfl |rfl
 ·exact⟨a,.inl rfl,rfl,rfl⟩
 ·exact⟨b,.inr (.inl rfl),rfl,rfl⟩
 ·exact⟨c,.inr (.inr rfl),rfl,rfl⟩
theorem Ot{d:Int}(h:Holds H (All s c j b p w k F))(v:bf s c j b)(hw:0<=w)(hk:0<=k)(hk2:k<=10000)(hF:(cj,O.cell (some (.ref j.jo)))∈F)
  (q:∀ H' lo' s' c' j' b' w' k',bf s' c' j' b'->kF s c j b s' c' j' b'->0<=w'->0<=k'->k'<=k+4->Holds H' (All s' c' j' b' p w' k' F)->Q (.ret (.bool true)) ⟨lo',H'⟩):
  Wq (aD (xt (Rn 9 n)) ⟨[some (.ref p),some (.ref c.ca),some (.ref cj),some (.ref b.bk),some (.int d),none,none,none,none,none,none,none,none,none,none,none],H⟩) Q X:=by
 have hB:=v.bk.blocks;have hs:=v.bk.start;have hlo:=v.bk.log;have hsz:=v.bk.size
 refine Wq.seq (Wq.ao (Wq.g6 (Wq.ah (Wq.qg rfl (Wq.aZ rfl (bc (bw h)) rfl ⟨rfl,rfl⟩) (jk h) hw hk (by lia) (by lia) (by lia) fun H x w1 k1 x0 x1 hw hk b1 h=>Wq.ah ?_))))
 refine Wq.ak (Wq.ah (Wq.au (Wq.fK (Wq.ah (Wq.take rfl rfl h hw hk (Int.le_refl _) (by lia) (by decide) (by decide) fun H y w2 k2 y0 y1 hw hk b2 h=>Wq.aj ⟨rfl,_,h,fun H t h=>?_⟩)))))
 refine Wq.aZ rfl (Oo h.aX) rfl (Wq.Om h.hd (by lia) h.aX fun H t2 h=>Wq.aj ?_)
 obtain⟨o,ho,hlen⟩:=pP (l:=List.replicate b.size.toNat y) (fun i hi=>by rw[List.eq_of_mem_replicate hi];exact⟨y0,y1⟩)
 rw[List.map_replicate]at ho
 rw[List.length_replicate]at hlen
 refine Wq.wY h.hd (by rw[List.length_replicate];unfold lim;lia) ho (Wq.aj ⟨rfl,_,h.aX,fun H t3 h=>Wq.fW h.hd (Wq.av (Wq.av ?_))⟩)
 have h:=g8 h.aX
 have hol:(o.length:Int)=b.size:=by lia
 have fin:∀ H x w' k',Holds H (All s c j b p w' k' F)->0<=w'->0<=k'->k'<=k+4->0<=x->x<b.blocks->Wq (aD (mA (Rn 9 n)) ⟨[some (.ref p),some (.ref c.ca),some (.ref cj),some (.ref b.bk),some (.int d),none,some (.int x),some (.bytes o),none,none,none,none,none,none,none,none],H⟩) Q X:=
  fun H x w' k' h a1 a2 a3 a4 a5=>Ol h v hF a4 a5 hol fun H lo' s' c' j' b' v' sm h=>q H lo' s' c' j' b' w' k' v' sm a1 a2 a3 h
 have els:∀ H,Holds H (All s c j b p w2 k2 F)->Wq (aD [xr (Rn 9 n)] ⟨[some (.ref p),some (.ref c.ca),some (.ref cj),some (.ref b.bk),some (.int d),none,some (.int x),some (.bytes o),none,none,none,none,none,none,none,none],H⟩) (dS (mA (Rn 9 n)) Q X) X:=by
  intro H h
  refine Wq.seq (Wq.aH (Wq.bind (Wq.ae rfl (Wq.aS (Wq.pure (Wq.jc (r:=decide (d>2)) rfl ?_))))))
  cases d1:decide (d>2)with
  |false=>
   refine Wq.dj ?_
   exact fin H x w2 k2 h hw hk (by lia) x0 x1
  |true=>
   have hb:=bc (bw h)
   refine Wq.seq (Wq.ao (Wq.bind (Wq.fK (Wq.ah (Wq.pure (Wq.ah (Wq.au (Wq.aZ rfl hb rfl (Wq.aZ rfl hb rfl (Wq.bZ (Wq.ah (Wq.au (Wq.au (Wq.aZ rfl hb rfl (Wq.aZ rfl hb rfl (Wq.bZ (Wq.pure (Wq.bZ (Wq.aj ⟨rfl,_,h,fun H t h=>?_⟩)))))))))))))))))))
   have h:=fL h
   refine Wq.bind (Wq.take rfl rfl (jk h) hw hk (Int.le_refl _) (by lia) (by decide) (by decide) fun H i w3 k3 i0 i1 hw hk b3 h=>?_)
   have h:=g8 h
   obtain⟨x',hx',ep,ev⟩:=three (a:=0) (b:=b.start+b.log) (c:=b.start+b.log+1) i0 i1
   refine Wq.fJ (cP h (.head _)) rfl ep ev (Wq.av ?_)
   exact fin H x' w3 k3 (fu h) hw hk (by lia) (by lia) (by lia)
 refine Wq.seq (Wq.aH (Wq.and (Wq.bind (Wq.ae rfl (Wq.aS (Wq.pure (Wq.dH (r:=decide (d=2)) rfl ?_)))))))
 cases d1:decide (d=2)with
 |false=>
  unfold gz
  dsimp only
  exact els H h
 |true=>
  unfold gz
  dsimp only
  refine Wq.kA (Wq.bind (Wq.aZ rfl (bc (bw h)) rfl (Wq.aS (Wq.fH (Wq.aj ⟨rfl,h,fun H u h=>?_⟩)))))
  refine Wq.ne (r:=decide (b.ns=[])) ?_ ?_
  ·rw[pV (h.gc Oq) (dK (bw h.aX)) h.hd]
   congr 1
   exact decide_eq_decide.mpr List.map_eq_nil_iff
  have h:=h.aX
  cases d2:decide (b.ns=[])with
  |true=>exact els H h
  |false=>
   have d2:=of_decide_eq_false d2
   have hl:=v.jl
   have hl1:0<b.ns.length:=List.length_pos_iff.mpr d2
   refine Wq.seq (Wq.ao (Wq.bind (Wq.aZ rfl (bc (bw h)) rfl (Wq.bind (Wq.qg (m:=b.ns.length) rfl ?_ (jk h) hw hk (by lia) (by lia) (by lia) fun H i w3 k3 i0 i1 hw hk b3 h=>?_)))))
   ·exact Wq.ak (Wq.ah (Wq.aZ rfl (bc (bw h)) rfl (Wq.aj (Wq.d9 (dK (bw h)) (by rw[List.length_map];unfold lim;lia) ⟨by rw[List.length_map],rfl⟩))))
   have h:=g8 h
   have hi:i.toNat<b.ns.length:=by lia
   have hx:=(v.places).4 b.ns[i.toNat] (List.getElem_mem hi)
   refine Wq.fJ (v:=.int b.ns[i.toNat]) (dK (bw h)) (Nat.ble_eq_true_of_le (by rw[List.length_map];lia)) (by rw[List.length_map];exact qe i0 i1) (by simp only[List.getElem?_map,List.getElem?_eq_getElem hi];rfl) (Wq.av ?_)
   have hx2:=hx.2
   exact fin H _ w3 k3 h hw hk (by lia) hx.1 (by lia)
theorem Ou{Q:V->Hp->Prop}(h:Holds H (All s c j b p w k F))(v:bf s c j b)(hw:0<=w)(hk:0<=k)(hk2:k<=1000)
  (q:∀ H' s' c' j' b' w' k',bf s' c' j' b'->kF s c j b s' c' j' b'->0<=w'->0<=k'->k'<=k+5->Holds H' (All s' c' j' b' p w' k' F)->Q (.bool true) H'):
  Cq (Rn 10 n (.af 592) [.ref p,.ref c.ca,.ref j.jo,.ref b.bk] H) Q X:=by
 rw[LN]
 have h:=fL (h.new (.cell (some (.ref j.jo))))
 generalize H.length=cj at h
 generalize H++[O.cell (some (.ref j.jo))]=H at h
 refine Cq.fin (Wq.seq (Wq.ao (Wq.take rfl rfl (jk h) hw hk (Int.le_refl _) (by lia) (by decide) (by decide) fun H d w1 k1 d0 d1 hw hk b1 h=>Wq.av ?_)))
 have h:=g8 h
 have hF:(cj,O.cell (some (.ref j.jo)))∈(cj,O.cell (some (.ref j.jo)))::F:=.head _
 have one:Wq (aD (xo (Rn 9 n)) ⟨[some (.ref p),some (.ref c.ca),some (.ref cj),some (.ref b.bk),some (.int d),none,none,none,none,none,none,none,none,none,none,none],H⟩) (dS (xu (Rn 9 n)) (eN Q) X) X:=
  Oi h v hF fun H lo' s' c' j' b' v' sm h=>q H s' c' j' b' w1 k1 v' sm hw hk (by lia) (fu h)
 have nxt:Wq (aD (xu (Rn 9 n)) ⟨[some (.ref p),some (.ref c.ca),some (.ref cj),some (.ref b.bk),some (.int d),none,none,none,none,none,none,none,none,none,none,none],H⟩) (eN Q) X:=by
  refine Wq.seq (Wq.aH (Wq.bind (Wq.ae rfl (Wq.aS (Wq.pure (Wq.eP (r:=decide (d<5)) rfl ?_))))))
  cases e1:decide (d<5)with
  |true=>
   refine Ot h v hw hk (by lia) hF fun H lo' s' c' j' b' w' k' v' sm a1 a2 a3 h=>?_
   exact q H s' c' j' b' w' k' v' sm a1 a2 (by lia) (fu h)
  |false=>
   refine Wq.dj ?_
   refine Oj h v hF fun H lo' s' c' j' b' v' sm h=>?_
   exact q H s' c' j' b' w1 k1 v' sm hw hk (by lia) (fu h)
 refine Wq.seq (Wq.aH (Wq.or (Wq.bind (Wq.ae rfl (Wq.aS (Wq.pure (Wq.dH (r:=decide (d=0)) rfl ?_)))))))
 cases e1:decide (d=0)with
 |true=>exact one
 |false=>
  unfold gy
  refine Wq.jh (Wq.and (Wq.bind (Wq.ae rfl (Wq.aS (Wq.pure (Wq.dH (r:=decide (d=1)) rfl ?_))))))
  cases e2:decide (d=1)with
  |false=>exact nxt
  |true=>
   unfold gz
   refine Wq.kA (Wq.bind (Wq.aZ rfl (bc (bw h)) rfl (Wq.aS (Wq.pure (Wq.dH (r:=decide (b.calls=0)) rfl ?_)))))
   cases e3:decide (b.calls=0)with
   |true=>exact one
   |false=>exact nxt
end
noncomputable abbrev Ov (C:V->List V->Hp->CR):List (M Fl):=[
 Lite.ao (aB P0 C (ae 2) "known" []) (dB 6),
 aH ((Lite.dG P0 (dR [none,none,some 6]) ((ae 4)>>=fun o=>(pure (V.str 17))>>=fun i=>aw o i) (av 1) [(ae 1)>>=fun a=>aJ a [.NotIn] [aO 2]] (ae 1))>>=fun a=>aJ a [.NotEq] [listS []]) [Lite.aE (pure (V.bool false))] [],
 Lite.ao (ak P0 C (V.af 533) [ae 0,(ae 4)>>=fun o=>(pure (V.str 5))>>=fun i=>aw o i]) (av 5),
 aH ((aB P0 C (ae 2) "peek" [ae 5])>>=fun a=>aJ a [.NotEq] [aB P0 C ((ae 4)>>=fun o=>(pure (V.str 80))>>=fun i=>aw o i) "get" [ae 5,((ae 4)>>=fun o=>(pure (V.str 6))>>=fun i=>aw o i)>>=fun o=>(ae 5)>>=fun i=>aw o i]]) [Lite.aE (pure (V.bool false))] [],
 Lite.aE (dg (aB P0 C (ae 2) "free_count" []) [.Eq] [au .Sub ((ae 4)>>=fun o=>(pure (V.str 79))>>=fun i=>aw o i) (ak P0 C (V.bi "len") [(ae 4)>>=fun o=>(pure (V.str 17))>>=fun i=>aw o i])])]
section
variable {X:Addr->Hp->Prop} {lo:List (Option V)} {H:Hp} {n:Nat}
theorem kH{a:Int}:bX H (n+1) (.int a) (.int a)=some true:=by show some (a==a)=_;simp
theorem Ow{a:Bool}:bX H (n+1) (.bool a) (.bool a)=some true:=by show some (a==a)=_;simp
theorem xw{a:List UInt8}:bX H (n+1) (.bytes a) (.bytes a)=some true:=by show some (a==a)=_;simp
theorem Ox{l:List (List UInt8)}:∀ x∈l.map V.bytes,bX H (n+1) x x=some true:=fun x hx=>by
 obtain⟨a,_,rfl⟩:=List.mem_map.mp hx
 exact xw
theorem xy{l:List Int}:∀ x∈l.map V.int,bX H (n+1) x x=some true:=fun x hx=>by
 obtain⟨a,_,rfl⟩:=List.mem_map.mp hx
 exact kH
end
section
variable {s:Dk} {c:Ch} {j:Jn} {b:Bk} {p cd ck n:Nat} {w k:Int} {F:List Cl} {H:Hp} {X:Addr->Hp->Prop}
theorem Oy{a:Nat}{o:O}(h:Holds H (All s c j b p w k ((a,o)::F)))(o':O):Holds (H.set a o') (All s c j b p w k ((a,o')::F)):=by
 have e1:∀ F,All s c j b p w k F=(aL c.ca j++cA s c++aW s++bj b++[(p,bL w k)])++F:=fun F=>by unfold All;simp only[List.append_assoc,List.cons_append,List.nil_append]
 simp only[e1]at h ⊢
 exact h.setAt o'
theorem bf.free(v:bf s c j b):(c.ai.filter fun b=>!b.free).length=b.ns.length:=by
 have idle:=v.y.r.idle
 have nd:=v.y.r.ok.ai.nd
 have hp:=v.y.eh
 have p0:=v.y.r.ok.ai.p
 have free_iff:∀ y∈c.ai,(!y.free)=true↔y.n∈b.ns:=fun y hy=>by
  have e1:aN c y.n=y.p:=by unfold aN;rw[iE nd hy]
  have e2:=hp y.n
  rw[e1,v.ns]at e2
  unfold Bf.free
  rw[decide_eq_true (idle y hy),Bool.true_and]
  by_cases hm:y.n∈b.ns
  ·rw[if_pos hm]at e2
   simp[hm,e2]
  ·rw[if_neg hm]at e2
   simp[hm,e2]
 have n1:((c.ai.filter fun b=>!b.free).map (·.n)).Nodup:=(List.filter_sublist.map _).nodup nd
 have l1:=pG (ns:=b.ns) n1 fun m hm=>by
  obtain⟨y,hy,rfl⟩:=List.mem_map.mp hm
  have:=List.mem_filter.mp hy
  exact(free_iff y this.1).mp this.2
 have n2:b.ns.Nodup:=by rw[<-v.ns];exact v.y.nd
 have l2:=pG (ns:=(c.ai.filter fun b=>!b.free).map (·.n)) n2 fun m hm=>by
  have e2:=hp m
  rw[v.ns,if_pos hm]at e2
  unfold aN at e2
  cases ef:c.ai.find? (fun b=>b.n==m)with
  |none=>rw[ef]at e2;contradiction
  |some y=>
   have hy:=List.mem_of_find?_eq_some ef
   have hn:y.n=m:=by simpa using List.find?_some ef
   exact List.mem_map.mpr ⟨y,List.mem_filter.mpr ⟨hy,(free_iff y hy).mpr (by rw[hn];exact hm)⟩,hn⟩
 rw[List.length_map]at l1 l2
 lia
theorem bf.known(v:bf s c j b):∀ m∈b.ns,m∈c.ai.map fun b=>b.n:=fun m hm=>by
 have e2:=v.y.eh m
 rw[v.ns,if_pos hm]at e2
 unfold aN at e2
 cases ef:c.ai.find? (fun b=>b.n==m)with
 |none=>rw[ef]at e2;contradiction
 |some y=>exact List.mem_map.mpr ⟨y,List.mem_of_find?_eq_some ef,by simpa using List.find?_some ef⟩
theorem bf.look(v:bf s c j b)(x:Int):(b.g.lookup x).getD (.bytes (aT s x))=.bytes (view s c x):=by
 by_cases h:x∈b.ns
 ·rw[v.gv x h];rfl
 ·rw[v.gn x h]
  show V.bytes (aT s x)=_
  rw[v.y.hD x (by rw[v.ns];exact h)]
theorem Oz{a:Nat}{o:O}{x:Cl}(h:Holds H (All s c j b p w k (x::(a,o)::F)))(o':O):Holds (H.set a o') (All s c j b p w k (x::(a,o')::F)):=by
 have e1:∀ F,All s c j b p w k (x::F)=(aL c.ca j++cA s c++aW s++bj b++[(p,bL w k),x])++F:=fun F=>by unfold All;simp only[List.append_assoc,List.cons_append,List.nil_append]
 simp only[e1]at h ⊢
 exact h.setAt o'
theorem OA{Y:List Cl}:(DC s c (Y++F)).Perm (Y++DC s c F):=(List.Perm.append_left _ iD).trans iD
theorem OB{α β:Type}{l:List α}:l.filterMap (fun _=>(none:Option β))=[]:=by
 induction l with
 |nil=>rfl
 |cons a r ih=>simp only[List.filterMap_cons,ih]
theorem OC{Q:V->Hp->Prop}(h:Holds H (All s c j b p w k ((ck,.cell none)::(cd,.cell (some (.ref s.dk)))::F)))(v:bf s c j b)(hw:0<=w)(hk:0<=k)(hk2:k<=1000)
  (q:∀ H' c' w' k',bf s c' j b->c'.ca=c.ca->0<=w'->0<=k'->k'<=k+1->Holds H' (All s c' j b p w' k' F)->Q (.bool true) H'):
  Wq (aD (Ov (Rn 5 n)) ⟨[some (.ref p),some (.ref cd),some (.ref c.ca),some (.ref j.jo),some (.ref b.bk),none,some (.ref ck),none,none,none,none],H⟩) (eN Q) X:=by
 have hB:=v.bk.blocks;have hs:=v.bk.start;have hlo:=v.bk.log
 have hl:=v.jl
 have hble:Nat.ble (b.ns.map V.int).length 1000=true:=Nat.ble_eq_true_of_le (by simp only[List.length_map];lia)
 refine Wq.seq (Wq.ao (Wq.aI My rfl rfl (Wq.ae rfl ⟨rfl,bo (cE h),Wq.aj (Nd (cE h) v.y.r.ok fun H t h=>?_)⟩)))
 have h:=fL (h.perm (List.Perm.cons _ OA))
 have er:(c.ai.map fun b=>V.int b.n)=(c.ai.map fun b=>b.n).map V.int:=by simp only[List.map_map];rfl
 simp only[er]at h
 refine Wq.dB rfl (cP h (.tail _ (.head _))) ?_
 have h:=Oz h (.cell (some (.ref t)))
 generalize H.set ck (.cell (some (.ref t)))=H at h
 refine Wq.seq (Wq.cN (Wq.bind (Wq.dG (c:=_) (lo':=[none,none,some (.ref ck)]) (items:=b.ns.map V.int) (o:=some (b.nl,b.ns.map V.int)) (fun _=>none) (fun lo=>bV fun x y=>lo=[x,y,some (.ref ck)]) (Wq.aZ rfl (bc (bw h)) rfl ⟨rfl,h,pL (dK (bw h)) hble⟩) rfl ⟨_,_,rfl⟩ (fun st h=>kh (dK (bw h))) (by simp only[List.length_map];lia) (fun y hy lo1 H1 hL h1=>?_) fun H t2 h=>?_)))
 ·obtain⟨x,z,rfl⟩:=hL
  obtain⟨m,hm,rfl⟩:=List.mem_map.mp hy
  refine Wq.bind (Wq.av (Wq.bind ?_))
  refine Wq.kA (Wq.bind (Wq.ae rfl (Wq.aS (Wq.aO rfl (cP h1 (.tail _ (.head _))) (Wq.xi (cP h1 (.head _)) (r:=true) (decide_eq_true (v.known m hm)) ?_)))))
  exact⟨rfl,rfl,_,_,rfl⟩
 simp only[OB]at h
 refine Wq.aS (Wq.fK (Wq.aj ⟨rfl,_,h,fun H t3 h=>Wq.ne (r:=true) (jg (h.gc (.head _)) (h.on _ (.tail _ (.head _))) h.hd fun _ z=>nomatch z) ⟨rfl,?_⟩⟩))
 have h:=h.aX.aX
 refine Wq.seq (Wq.ao (Wq.qg rfl (Wq.aZ rfl (bc (bw h)) rfl ⟨rfl,rfl⟩) (jk h) hw hk (by lia) (by lia) (by lia) fun H x w1 k1 x0 x1 hw hk b1 h=>Wq.av ?_))
 have h:=g8 h
 refine Wq.seq (Wq.cN (Wq.bind (Wq.aI pf rfl rfl (Wq.ae rfl ⟨rfl,bo (cE h),Wq.ah (Wq.ae rfl (Wq.aj (pJ (cE h) v.y.r v.y.f x0 (by simp only[v.B];exact x1) fun H c2 r2 e2 ca2 mo2 h=>?_)))⟩))))
 have h:Holds H (All s c2 j b p w1 k1 ((t,.list ((c.ai.map fun b=>b.n).map V.int))::(ck,.cell (some (.ref t)))::(cd,.cell (some (.ref s.dk)))::F)):=by
  have h:=dJ h
  simp only[<-ca2]at h
  exact h
 have v2:=v.kept r2 e2 mo2
 have hx:((b.D.map V.bytes)[x.toNat]?)=some (.bytes (aT s x)):=by rw[v.D,List.getElem?_map,N7 x0 (by lia)];rfl
 have hDl:(b.D.map V.bytes).length=b.blocks.toNat:=by simp only[List.length_map,v.D,qd]
 refine Wq.aS (Wq.dictGet (Wq.aZ rfl (bc (bw h)) rfl ⟨rfl,kC (bw h),Wq.ah (Wq.ae rfl (Wq.ah (Wq.bind (Wq.aZ rfl (bc (bw h)) rfl (Wq.bind (Wq.ae rfl (Wq.fJ (mw (bw h)) (Nat.ble_eq_true_of_le (by simp only[hDl];lia)) (by simp only[hDl];exact qe x0 (by lia)) hx (Wq.aj ⟨kC (bw h),.inr ⟨x,_,rfl,?_⟩⟩))))))))⟩))
 have ed:(cR b.g x).getD (.bytes (aT s x))=.bytes (view s c x):=v.look x
 simp only[ed]
 refine Wq.ne (r:=true) xw ⟨rfl,?_⟩
 refine Wq.seq (Wq.aE (Wq.d8 (Wq.aI Mz rfl rfl (Wq.ae rfl ⟨by simp only[ca2],bo (cE h),Wq.aj (Nf (cE h) r2.ok fun H h=>?_)⟩))))
 have h:Holds H (All s c2 j b p w1 k1 ((t,.list ((c.ai.map fun b=>b.n).map V.int))::(ck,.cell (some (.ref t)))::(cd,.cell (some (.ref s.dk)))::F)):=dJ h
 refine Wq.au (Wq.aZ rfl (bc (bw h)) rfl (Wq.ak (Wq.ah (Wq.aZ rfl (bc (bw h)) rfl (Wq.aj (Wq.d9 (dK (bw h)) (by simp only[List.length_map];unfold lim;lia) (Wq.fY ?_)))))))
 simp only[v2.free,v2.cm,List.length_map]
 refine Wq.eq (r:=true) kH ?_
 exact q H c2 w1 k1 v2 ca2 hw hk (by lia) (fu (fu (fu h)))
end
noncomputable def xA (s:Dk):V->Option V
 | .int i=>some (.bytes (aT s i))
 |_=>none
theorem OD{s:Dk}{n:Nat}:(((List.range n).map fun (k:Nat)=>(k:Int)).map V.int).filterMap (xA s)=(Dl n (aT s)).map V.bytes:=by
 unfold Dl
 rw[List.map_map,List.map_map]
 generalize List.range n=l
 induction l with
 |nil=>rfl
 |cons a r ih=>
  rw[List.map_cons,List.map_cons,List.filterMap_cons,ih]
  rfl
section
variable {s:Dk} {c:Ch} {j:Jn} {b:Bk} {p n:Nat} {w k:Int} {F:List Cl} {H:Hp} {X:Addr->Hp->Prop} {Q:V->Hp->Prop}
theorem xB:(s.eO,O.list (s.un.map fun t=>V.ref t.1))∈All s c j b p w k F:=List.mem_append_right _ (List.mem_append_right _ (List.mem_append_left _ (.tail _ (.tail _ (.tail _ (.head _))))))
theorem xC(h:Holds H (All s c j b p w k F))(v:bf s c j b)(hw:0<=w)(hk:0<=k)(hk2:k<=1000)
  (q:∀ H' c' w' k',bf s c' j b->c'.ca=c.ca->0<=w'->0<=k'->k'<=k+1->Holds H' (All s c' j b p w' k' F)->Q (.bool true) H'):
  Cq (Rn 6 n (.af 585) [.ref p,.ref s.dk,.ref c.ca,.ref j.jo,.ref b.bk] H) Q X:=by
 simp only[Lh]
 have h:Holds (H++[O.cell (some (.ref s.dk)),O.cell none]) (All s c j b p w k ((H.length+1,.cell none)::(H.length,.cell (some (.ref s.dk)))::F)):=by
  have h2:=fL ((fL (h.new (.cell (some (.ref s.dk))))).new (.cell none))
  have e:H++[O.cell (some (.ref s.dk)),O.cell none]=(H++[O.cell (some (.ref s.dk))])++[O.cell none]:=by simp
  have el:(H++[O.cell (some (.ref s.dk))]).length=H.length+1:=by simp
  simp only[el]at h2
  simp only[e]
  exact h2
 generalize H.length=cd at h
 generalize cd+1=ck at h
 generalize H++[O.cell (some (.ref s.dk)),O.cell none]=H at h
 have hB:=v.bk.blocks;have hs:=v.bk.start;have hlo:=v.bk.log
 have he:=v.bk.each
 have hm:=v.bk.m
 have hl:=v.jl
 have hlj:j.ns.length<=1000:=by simp only[v.ns];lia
 have hlm:(b.ns.map V.int).length<=lim:=by simp only[List.length_map];unfold lim;lia
 refine Cq.fin (Wq.seq (Wq.cN (Wq.bind (Wq.fK (Wq.ah (Wq.ld rfl (aU h) (aV (by decide)) rfl rfl (Wq.ah (Wq.ld rfl (aU h) (aV (by decide)) rfl rfl (Wq.ah (Wq.aI Mo rfl rfl (Wq.ae rfl ⟨rfl,aU h,Wq.aj (Ni h hlj (Wq.aj ⟨rfl,_,h,fun H t h=>?_⟩))⟩)))))))))))
 refine Wq.aS (Wq.fK (Wq.ah (Wq.aZ rfl (bc (bw h.aX)) rfl (Wq.ah (Wq.aZ rfl (bc (bw h.aX)) rfl (Wq.ah (Wq.au (Wq.aZ rfl (bc (bw h.aX)) rfl (Wq.ak (Wq.ah (Wq.aZ rfl (bc (bw h.aX)) rfl (Wq.aj (Wq.d9 (dK (bw h.aX)) hlm (Wq.fY (Wq.aj ⟨rfl,_,h,fun H t2 h=>Wq.ne (r:=true) ?_ ⟨rfl,?_⟩⟩)))))))))))))))
 ·have e:([V.int j.calls,.int j.bN,.int (j.most-j.ns.length)]:List V)=[b.calls,b.bN,b.most-(b.ns.map V.int).length].map V.int:=by
   rw[v.calls,v.bN,v.most,v.ns,List.length_map];rfl
  simp only[e]at h
  exact jg (h.gc (.head _)) (h.on _ (.tail _ (.head _))) h.hd xy
 have h:=h.aX.aX
 refine Wq.seq (Wq.cN (Wq.or (Wq.bind (Wq.aI wi rfl rfl (Wq.ae rfl ⟨rfl,aU h,Wq.aj (wV h hlj (by simp only[v.each];lia) (Wq.aS (Wq.ak (Wq.ah (Wq.ae rfl (Wq.aj (Wq.cy rfl (xj (bw h) (by lia) (by lia) (Wq.ne (r:=true) ?_ ?_)))))))))⟩)))))
 ·simp only[v.room];exact Ow
 unfold gy
 dsimp only[Bool.not_true]
 refine Wq.jh (Wq.bind (Wq.ld rfl (aU h) (aV (by decide)) rfl rfl (Wq.aS (Wq.aZ rfl (bc (bw h)) rfl (Wq.ne (r:=true) ?_ ⟨rfl,?_⟩)))))
 ·have e1:H[j.nums]? =some (.list (b.ns.map V.int)):=by simp only[<-v.ns];exact eQ h
  refine jg ?_ e1 (dK (bw h)) xy
  have h2:Holds H ((j.jo,gD c.ca j)::(j.nums,.list (j.ns.map V.int))::(j.cK,.dict j.nt)::DC s c (bj b++(p,bL w k)::_)):=h
  exact fun e=>(h2.aX.gc (a:=b.nl) (o:=.list (b.ns.map V.int)) (.tail _ (List.mem_append_right _ (List.mem_append_right _ (List.mem_append_left _ (.tail _ (.tail _ (.head _)))))))) e.symm
 have hb:0<=b.blocks∧b.blocks<=1000:=by lia
 have hS:=v.y.r.ok.dk.z
 refine Wq.seq (Wq.cN (Wq.bind (Wq.dG (c:=_) (lo':=[none,none,some (.ref cd)]) (items:=(rangeInts b.blocks).map V.int) (o:=none) (xA s) (fun lo=>bV fun x y=>lo=[x,y,some (.ref cd)]) (Wq.ak (Wq.ah (Wq.aZ rfl (bc (bw h)) rfl (Wq.aj (Wq.kr h hb fun H r h=>⟨rfl,h.aX,ku h.hd hb⟩))))) rfl ⟨_,_,rfl⟩ (fun st h=>rfl) (by simp only[iH hb.1];simp;lia) (fun y hy lo1 H1 hL h1=>?_) fun H t h=>?_)))
 ·obtain⟨x,z,rfl⟩:=hL
  simp only[iH hb.1]at hy
  obtain⟨i,hi,rfl⟩:=List.mem_map.mp hy
  obtain⟨m,hm,rfl⟩:=List.mem_map.mp hi
  have hm:=List.mem_range.mp hm
  have hD:=fX (cE h1)
  refine Wq.bind (Wq.av (Wq.bind (Wq.pure ?_)))
  refine Wq.bind (Wq.aI wt rfl rfl (Wq.aO rfl (cP h1 (.tail _ (.head _))) ⟨rfl,cz hD,Wq.ah (Wq.ae rfl (Wq.aj (wu hD (by lia) (by simp only[v.B];lia) ⟨hS.1,by unfold lim;lia⟩ ?_)))⟩))
  exact⟨congrArg some (wy v.y.r.ok.dk _),rfl,_,_,rfl⟩
 rw[iH hb.1,OD]at h
 refine Wq.aS (Wq.aZ rfl (bc (bw h.aX)) rfl (Wq.ne (r:=true) ?_ ⟨rfl,?_⟩))
 ·refine jg ?_ h.hd (by simp only[<-v.D];exact mw (bw h.aX)) Ox
  exact fun e=>(h.gc (a:=b.dl) (o:=.list (b.D.map V.bytes)) (List.mem_append_right _ (List.mem_append_right _ (List.mem_append_right _ (List.mem_append_left _ (.tail _ (.head _))))))) e.symm
 have h:=h.aX
 have hD:=cz (fX (cE h))
 refine Wq.seq (Wq.cN (Wq.bind (Wq.fK (Wq.ah (Wq.bind (Wq.aO rfl (cP h (.tail _ (.head _))) (Wq.gA hD (bR (by decide)) rfl rfl (Wq.ah (Wq.bind (Wq.aO rfl (cP h (.tail _ (.head _))) (Wq.gA hD (bR (by decide)) rfl rfl (Wq.ah (Wq.bind (Wq.aO rfl (cP h (.tail _ (.head _))) (Wq.gA hD (bR (by decide)) rfl rfl (Wq.aj ⟨rfl,_,h,fun H t h=>?_⟩))))))))))))))))
 refine Wq.aS (Wq.fK (Wq.ah (Wq.aZ rfl (bc (bw h.aX)) rfl (Wq.ah (Wq.aZ rfl (bc (bw h.aX)) rfl (Wq.ah (Wq.fK (Wq.aj ⟨rfl,_,h,fun H u h=>Wq.aj ⟨rfl,_,h,fun H t2 h=>Wq.ne (r:=true) ?_ ⟨rfl,?_⟩⟩⟩))))))))
 ·have eu:H[s.eO]? =some (.list []):=by
   have:=h.on _ (.tail _ (.tail _ (.tail _ xB)))
   simp only[v.y.hu]at this
   exact this
  have nu:s.eO≠u:=h.aX.gc (.tail _ xB)
  have i1:bX H 3 (.int b.writes) (.int b.writes)=some true:=kH
  have i2:bX H 3 (.int b.ej) (.int b.ej)=some true:=kH
  have i3:bX H 3 (.ref s.eO) (.ref u)=some true:=jg nu eu (h.on _ (.tail _ (.head _))) fun _ z=>nomatch z
  refine xb (h.gc (.tail _ (.head _))) (h.on _ (.tail _ (.tail _ (.head _)))) h.hd rfl ?_
  show dX (bX H 3) [.int s.w,.int s.f,.ref s.eO] [.int b.writes,.int b.ej,.ref u]=some true
  rw[v.w,v.f]
  simp only[dX,i1,i2,i3,Option.bind_some,Bool.and_self]
 exact OC h.aX.aX.aX v hw hk hk2 q
end
section
variable {X:Addr->Hp->Prop}
theorem Wq.OE{it:M V}{t:V->M Unit}{body:List (M Fl)}{Q:Fl->St->Prop}{lo:List (Option V)}{H:Hp}{N:Nat}(I:Nat->St->Prop)
  (hi:Wq (it ⟨lo,H⟩) (fun v s=>∃ items,(bp (iter v s=.ok (items,none) s) (items.length<=N) (I 0 s))) X)
  (step:∀ i v s,i<N->I i s->Wq (t v s) (fun _ s=>Wq (aD body s) (je (I (i+1)) Q) X) X) (fin:∀ i s,I i s->i<=N->Q .next s):Wq (Lite.dF it t body ⟨lo,H⟩) Q X:=by
 unfold Lite.dF
 refine Wq.bind (hi.mono (fun v s q=>?_) fun _ _ q=>q)
 obtain⟨items,ei,hl,h⟩:=q
 refine Wq.bind ?_
 simp only[ei]
 show Wq ((Lite.loop (bJ none) (fun v=>Pure.pure v>>=Lite.da t (aD body>>=d7)) items>>=eF) s) Q X
 refine Wq.bind (Wq.loop (fun vs st=>∃ i,i+vs.length<=N∧I i st) (fun vs st h=>rfl) (fun v vs st h=>?_) (fun st h=>?_) items s ⟨0,by lia,h⟩)
 ·obtain⟨i,hi,h⟩:=h
  have hi:i+(vs.length+1)<=N:=hi
  refine Wq.da ((step i v st (by lia) h).mono (fun _ s q=>q.mono (fun fl s' q=>?_) fun _ _ q=>q) fun _ _ q=>q)
  cases fl with
  |next=>exact⟨i+1,by lia,q⟩
  |ret r=>exact q
 ·obtain⟨i,hi,h⟩:=h
  exact fin i st h (by simpa using hi)
noncomputable def OF (body:M Fl) (I:Nat->St->Prop) (m:Nat) (Q:Fl->St->Prop) (X:Addr->Hp->Prop):Bool->St->Prop
 |true,s=>∃ m',m=m'+1∧Wq (body s) (fun fl s'=>fl=.next∧I m' s') X
 |false,s=>Q .next s
theorem Wq.eE{test:M Bool}{body:M Fl}{Q:Fl->St->Prop}(I:Nat->St->Prop)(step:∀ m s,I m s->Wq (test s) (OF body I m Q X) X):∀ n m s,m<n->I m s->Wq (Lite.eE test body n s) Q X
 | 0,m,s,h,_=>absurd h (Nat.not_lt_zero _)
 |n+1,m,s,h,hI=>by
  unfold Lite.eE
  obtain⟨lo,H⟩:=s
  refine Wq.bind ((step m ⟨lo,H⟩ hI).mono (fun t s' q=>?_) fun _ _ q=>q)
  cases t with
  |false=>exact q
  |true=>
   obtain⟨m',rfl,q⟩:=q
   obtain⟨lo',H'⟩:=s'
   refine Wq.bind (q.mono (fun fl s'' q=>?_) fun _ _ q=>q)
   obtain⟨rfl,q⟩:=q
   exact Wq.eE I step n m' s'' (by lia) q
theorem OG{H:Hp}{n a b:Nat}{xs ys:List V}(ne:a≠b)(ea:H[a]? =some (.tuple xs))(eb:H[b]? =some (.tuple ys))(hl:xs.length=ys.length){r:Bool}(h:dX (bX H n) xs ys=some r):bX H (n+1) (.ref a) (.ref b)=some r:=by
 show(if a=b then none else js (bX H n) H[a]? H[b]?)=some r
 rw[if_neg ne,ea,eb]
 show(if xs.length=ys.length then dX (bX H n) xs ys else none)=some r
 rw[if_pos hl];exact h
theorem Wq.qh{lo:List (Option V)}{H:Hp}{C:V->List V->Hp->CR}{Q:V->St->Prop}{D init:Addr}{args:List V}{c:List Cl}(e:P0.cls.lookup D=some init)(hc:Holds H c)
  (h:∀ H' t,Holds H' ((t,.inst D [])::c)->Cq (C (.af init) (V.ref t::args) H') (fun v H''=>v=.none∧Q (.ref t) ⟨lo,H''⟩) X):Wq (aR P0 C true (.af D) args ⟨lo,H⟩) Q X:=
 Wq.v9 e (h _ _ (hc.new _))
end
section
variable {s:Dk} {c:Ch} {F:List Cl} {H:Hp}
theorem pull{x:Cl}{Y:List Cl}(h:Holds H (Y++DC s c (x::F))):Holds H (x::(Y++DC s c F)):=by
 have e:∀ F,Y++DC s c F=(Y++cA s c++aW s)++F:=fun F=>by simp only[List.append_assoc]
 simp only[e]at h
 simp only[e]
 exact h.perm List.perm_middle
end
theorem bf.new{b:Bk}{t ke le un t2 row bT t3 nums cK:Nat}(hb:kD b)(h1:b.calls=0)(h2:b.bN=0)(h3:b.writes=0)(h4:b.ej=0)(h5:b.D=List.replicate b.blocks.toNat (zeros b.size))(h6:b.ns=[])(h7:b.g=[]):
  bf (g5 t ke le un b.blocks b.size) (kB t2 row bT b.ai b.size) ⟨t3,nums,cK,b.start,b.log,min (b.log-1) (b.size.fdiv 4-1),b.most,b.each,0,0,[],[]⟩ b:=by
 have s1:=hb.size;have s2:=hb.start;have s3:=hb.log;have s4:=hb.ai;have s5:=hb.blocks;have s6:=hb.each
 have sm:=hb.m
 have h0:((([]:List Int).length:Nat):Int)=0:=rfl
 have hz:∀ x,aT (g5 t ke le un b.blocks b.size) x=zeros b.size:=fun x=>rfl
 refine⟨⟨⟨⟨NH (by lia) (by lia),⟨List.nodup_nil,fun _ z=>(nomatch z),fun _ z=>(nomatch z),fun _ z=>(nomatch z)⟩,fun _ z=>(nomatch z),fun _=>rfl,bY.nil,?_,?_,rfl⟩,fun _ z=>(nomatch z)⟩,
  ⟨[],?_,fun k hk=>absurd rfl hk⟩,⟨?_,?_,?_,fun _ z=>(nomatch z),by show([]:List Int).length<=900;decide⟩,?_,List.nodup_nil,fun k=>(if_neg (by show k ∉ [];simp)).symm,fun _ _=>rfl,rfl⟩,
  hb,fun _=>rfl,bY.nil,h6.symm,h1.symm,h2.symm,rfl,rfl,rfl,rfl,rfl,rfl,rfl,h3.symm,h4.symm,?_,hz _,by rw[h7];exact bY.nil,by rw[h6];exact fun _ z=>(nomatch z),by rw[h7];exact fun _ _=>rfl,?_,?_⟩
 ·show((([]:List Bf).length:Nat):Int)<=b.ai;simp;lia
 ·show b.ai<=1000;lia
 ·show((([]:List Int).length:Nat):Int)<b.ai;rw[h0];lia
 ·show 0<=b.start;lia
 ·show b.start+b.log<=b.blocks;lia
 ·show((([]:List Int).length:Nat):Int)<b.log;rw[h0];lia
 ·show 4*(((([]:List Int).length:Nat):Int)+1)<=b.size;rw[h0];lia
 ·rw[h5]
  unfold Dl
  rw[show(fun (k:Nat)=>aT (g5 t ke le un b.blocks b.size) (k:Int))=fun _=>zeros b.size from funext fun k=>hz _]
  rw[List.map_const',List.length_range]
 ·rw[h6,h0];lia
 ·rw[h1];lia
noncomputable abbrev OH (C:V->List V->Hp->CR):M Fl:=Lite.dF (ak P0 C (V.ty "range") [fj ((ae 2)>>=truth) (au .Add (pure (V.int 10)) (ak P0 C (V.af 533) [ae 1,pure (V.int 15)])) (pure (V.int 7))]) (av 6) [aH (allM .Or [((ak P0 C (V.af 592) [ae 1,ae 5,aO 7,ae 3])>>=truth)>>=fun b=>pure (!b),((ak P0 C (V.af 585) [ae 1,ae 4,ae 5,aO 7,ae 3])>>=truth)>>=fun b=>pure (!b)]) [Lite.aE (pure (V.bool false))] []]
noncomputable abbrev OI (C:V->List V->Hp->CR):M Fl:=Lite.eE (((ae 3)>>=fun o=>(pure (V.str 18))>>=fun i=>aw o i)>>=fun a=>aJ a [.Gt] [pure (V.int 0)]) (aD [Lite.az (ak P0 C (V.af 573) [ae 3]),Lite.az (aB P0 C (aO 7) "end" [])]) 1000
noncomputable abbrev OJ (C:V->List V->Hp->CR):M Fl:=Lite.aE (j8 .And [ak P0 C (V.af 585) [ae 1,ae 4,ae 5,aO 7,ae 3],dg (ak P0 C (V.af 540) [Lite.du (dR [some 7]) (cM (tS 30) 0).1 (cM (tS 30) 0).2]) [.Eq] [tupS [pure (V.str 77),pure V.none]]])
theorem OK:P0.cls.lookup 515=some 435:=by kernel_rfl
theorem OL:P0.cls.lookup 417=some 320:=by kernel_rfl
theorem OM:P0.cls.lookup 204=some 117:=by kernel_rfl
noncomputable abbrev iI (xs:List Int) (p:Nat) (big:V) (bk dk ca cj:Nat) (i:Option V):List (Option V):=[some (.ints xs),some (.ref p),some big,some (.ref bk),some (.ref dk),some (.ref ca),i,some (.ref cj),none,none,none,none,none,none,none,none,none,none,none,none]
structure At(p dk ca jo bk:Nat)(F:List Cl)(K:Int)(H:Hp)(s:Dk)(c:Ch)(j:Jn)(b:Bk)(w k:Int):Prop where
 v:bf s c j b
 dk:s.dk=dk
 ca:c.ca=ca
 jo:j.jo=jo
 bk:b.bk=bk
 pw:0<=w
 pk:0<=k∧k<=K
 h:Holds H (All s c j b p w k F)
section
variable {s:Dk} {c:Ch} {j:Jn} {b:Bk} {p dk ca jo bk cj n:Nat} {w k K:Int} {F:List Cl} {H:Hp} {X:Addr->Hp->Prop} {xs:List Int} {big:V} {io:Option V}
theorem ON{Q:V->Hp->Prop}(a:At p dk ca jo bk F K H s c j b w k)(hK:K<=1000)(hF:(cj,O.cell (some (.ref jo)))∈F)(hc:b.calls=0)(q:∀ H',Q (.bool true) H'):
  Wq (aD [OJ (Rn 10 n)] ⟨iI xs p big bk dk ca cj io,H⟩) (eN Q) X:=by
 obtain⟨v,rfl,rfl,rfl,rfl,hw,hk,h⟩:=a
 refine Wq.seq (Wq.aE (Wq.wB (Wq.ak (Wq.ah (Wq.ae rfl (Wq.ah (Wq.ae rfl (Wq.ah (Wq.ae rfl (Wq.ah (Wq.aO rfl (cP h hF) (Wq.ah (Wq.ae rfl (Wq.aj (Wq.cy rfl (xC (n:=n+4) h v hw hk.1 (by lia) fun H c' w' k' v' ca' hw hk1 hk2 h=>⟨true,rfl,.inl ⟨rfl,?_⟩⟩))))))))))))))))
 refine Wq.d8 (Wq.ak (Wq.ah (Wq.du (lo':=[some (.ref cj)]) rfl h fun H f h=>Wq.aj (Wq.cy rfl (iG (Cq.cQ h.hd (Mf _) ?_))))))
 have h:=fL h
 refine Wq.aI jd rfl rfl (Wq.aO rfl (cP h (.tail _ hF)) ⟨rfl,aU h,Wq.aj ?_⟩)
 have hc:=v'.calls.trans hc
 refine ji (n:=n+1) h v'.y (fun _=>?_) (fun z=>absurd hc z) (fun z=>by rw[hc]at z;contradiction)
 refine⟨77,_,.inr ⟨rfl,rfl⟩,h,fun H t h=>Wq.g6 (Wq.ah (Wq.pure (Wq.ah (Wq.pure (Wq.aj ⟨rfl,_,h,fun H t2 h=>Wq.eq (r:=true) ?_ ?_⟩)))))⟩
 ·exact OG (h.gc (.head _)) (h.on _ (.tail _ (.head _))) h.hd rfl rfl
 ·exact q _
theorem OO{Q:Fl->St->Prop}(a:At p dk ca jo bk F K H s c j b w k)(hF:(cj,O.cell (some (.ref jo)))∈F)(q:∀ H' s' c' j' b',At p dk ca jo bk F K H' s' c' j' b' w k->b'.calls=0->Q .next ⟨iI xs p big bk dk ca cj io,H'⟩):
  Wq (OI (Rn 10 n) ⟨iI xs p big bk dk ca cj io,H⟩) Q X:=by
 have hm:=a.v.bk.m
 have c0:=a.v.c0
 refine Wq.eE (fun m st=>iJ fun H s c j b=>(bp (st=⟨iI xs p big bk dk ca cj io,H⟩) (At p dk ca jo bk F K H s c j b w k) (b.calls=(m:Int)))) (fun m st I=>?_) 1000 b.calls.toNat _ (by lia) ⟨H,s,c,j,b,rfl,a,by lia⟩
 obtain⟨H,s,c,j,b,rfl,⟨v,rfl,rfl,rfl,rfl,hw,hk,h⟩,hc⟩:=I
 refine Wq.bind (Wq.aZ rfl (bc (bw h)) rfl (Wq.aS (Wq.pure (Wq.jc (r:=decide (b.calls>0)) rfl ?_))))
 cases d1:decide (b.calls>0)with
 |false=>
  have d1:=of_decide_eq_false d1
  exact q H s c j b ⟨v,rfl,rfl,rfl,rfl,hw,hk,h⟩ (by lia)
 |true=>
  have d1:=of_decide_eq_true d1
  have hm:=v.bk.m
  have c0:=v.c0
  refine⟨m-1,by lia,?_⟩
  refine Wq.seq (Wq.az (Wq.ak (Wq.ah (Wq.ae rfl (Wq.aj (Wq.cy rfl (xq (n:=n+9) h v (fun d=>?_) (fun d1 d2 H h=>?_) fun d1 d2 H u1 u2 h=>?_)))))))
  ·lia
  ·refine Wq.seq (Wq.az (Wq.aI jd rfl rfl (Wq.aO rfl (cP h hF) ⟨rfl,aU h,Wq.aj ?_⟩)))
   refine ji (n:=n+3) h v.y (fun z=>absurd (v.calls.symm.trans z) d1) (fun _ _ H h=>?_) (fun z1 z2=>absurd (v.ns.trans (d2 (by simp only[<-v.calls,z1];rfl))) z2)
   have v':=v.qf (k:=b.calls-1) (by lia)
   simp only[v.calls]at h
   exact⟨rfl,H,s,c,_,_,rfl,⟨v',rfl,rfl,rfl,rfl,hw,hk,h⟩,by show b.calls-1=_;lia⟩
  ·refine Wq.seq (Wq.az (Wq.aI jd rfl rfl (Wq.aO rfl (cP h hF) ⟨rfl,aU h,Wq.aj ?_⟩)))
   refine ji (n:=n+3) h v.y (fun z=>by simp only[v.calls,d1]at z;contradiction) (fun _ z H h=>absurd (v.ns.symm.trans (z (by simp only[v.calls,d1];rfl))) d2) (fun _ _ H s' c' v1 v2 g G r' e' ca' mo' hu' h=>?_)
   simp only[xn]at h
   exact⟨rfl,H,s',c',_,_,rfl,⟨v.ended G r' e' mo' hu',G.dk,ca',rfl,rfl,hw,hk,h⟩,by show(0:Int)=_;lia⟩
end
section
variable {s:Dk} {c:Ch} {j:Jn} {b:Bk} {p dk ca jo bk cj n:Nat} {w k K:Int} {F:List Cl} {H:Hp} {X:Addr->Hp->Prop} {xs:List Int} {big:Bool} {io:Option V}
theorem OP{Q:V->Hp->Prop}(a:At p dk ca jo bk F K H s c j b w k)(hK:K<=900)(q:∀ H' s' c' j' b' w' k',At p dk ca jo bk F (K+5) H' s' c' j' b' w' k'->Q (.bool true) H'):
  Cq (Rn 10 n (.af 592) [.ref p,.ref ca,.ref jo,.ref bk] H) Q X:=by
 obtain⟨v,rfl,rfl,rfl,rfl,hw,hk,h⟩:=a
 exact Ou h v hw hk.1 (by lia) fun H s' c' j' b' w' k' v' sm hw hk1 hk2 h=>q H s' c' j' b' w' k' ⟨v',sm.dk,sm.ca,sm.jo,sm.bk,hw,⟨hk1,by lia⟩,h⟩
theorem OQ{Q:V->Hp->Prop}(a:At p dk ca jo bk F K H s c j b w k)(hK:K<=900)(q:∀ H' s' c' j' b' w' k',At p dk ca jo bk F (K+1) H' s' c' j' b' w' k'->Q (.bool true) H'):
  Cq (Rn 6 n (.af 585) [.ref p,.ref dk,.ref ca,.ref jo,.ref bk] H) Q X:=by
 obtain⟨v,rfl,rfl,rfl,rfl,hw,hk,h⟩:=a
 exact xC h v hw hk.1 (by lia) fun H c' w' k' v' ca' hw hk1 hk2 h=>q H s c' j b w' k' ⟨v',rfl,ca',rfl,rfl,hw,⟨hk1,by lia⟩,h⟩
theorem OR{Q:Fl->St->Prop}(a:At p dk ca jo bk F 20 H s c j b w k)(hF:(cj,O.cell (some (.ref jo)))∈F)(q:∀ H' s' c' j' b' w' k' io',At p dk ca jo bk F 900 H' s' c' j' b' w' k'->Q .next ⟨iI xs p (.bool big) bk dk ca cj io',H'⟩):
  Wq (OH (Rn 10 n) ⟨iI xs p (.bool big) bk dk ca cj io,H⟩) Q X:=by
 refine Wq.OE (N:=24) (fun i st=>gF fun H s c j b w=>bV fun k io=>st=⟨iI xs p (.bool big) bk dk ca cj io,H⟩∧At p dk ca jo bk F (30+10*i) H s c j b w k) ?_ (fun i v st hi I=>?_) fun i st I hi=>?_
 ·refine Wq.ak (Wq.ah (Wq.fj (Wq.bind (Wq.ae rfl (Wq.truth ?_)))))
  obtain⟨v,rfl,rfl,rfl,rfl,hw,hk,h⟩:=a
  cases big with
  |true=>
   refine Wq.au (Wq.pure (Wq.take rfl rfl (jk h) hw hk.1 (Int.le_refl _) (by lia) (by decide) (by decide) fun H d w1 k1 d0 d1 hw hk1 hk2 h=>Wq.bZ (Wq.aj (Wq.kr (g8 h) (by lia) fun H r h=>⟨_,ku h.hd (by lia),?_,?_⟩))))
   ·rw[List.length_map,iH (by lia),List.length_map,List.length_range];lia
   ·exact⟨H,s,c,j,b,w1,k1,io,rfl,v,rfl,rfl,rfl,rfl,hw,⟨hk1,by lia⟩,h.aX⟩
  |false=>
   refine Wq.pure (Wq.aj (Wq.kr h (by lia) fun H r h=>⟨_,ku h.hd (by lia),?_,?_⟩))
   ·rw[List.length_map,iH (by lia),List.length_map,List.length_range];decide
   ·exact⟨H,s,c,j,b,w,k,io,rfl,v,rfl,rfl,rfl,rfl,hw,⟨hk.1,by lia⟩,h.aX⟩
 ·obtain⟨H,s,c,j,b,w,k,io,rfl,a⟩:=I
  refine Wq.av ?_
  refine Wq.seq (Wq.cN (Wq.or (Wq.bind (Wq.bind (Wq.ak (Wq.ah (Wq.ae rfl (Wq.ah (Wq.ae rfl (Wq.ah (Wq.aO rfl (cP a.h hF) (Wq.ah (Wq.ae rfl (Wq.aj (Wq.cy rfl (OP a (by lia) fun H s c j b w k a=>Wq.truth (Wq.pure ?_)))))))))))))))))
  unfold gy
  dsimp only[Bool.not_true]
  refine Wq.jh (Wq.bind (Wq.bind (Wq.ak (Wq.ah (Wq.ae rfl (Wq.ah (Wq.ae rfl (Wq.ah (Wq.ae rfl (Wq.ah (Wq.aO rfl (cP a.h hF) (Wq.ah (Wq.ae rfl (Wq.aj (Wq.cy rfl (OQ (n:=n+4) a (by lia) fun H s c j b w k a=>Wq.truth (Wq.pure ⟨rfl,?_⟩)))))))))))))))))
  exact⟨H,s,c,j,b,w,k,_,rfl,a.v,a.dk,a.ca,a.jo,a.bk,a.pw,⟨a.pk.1,by have:=a.pk.2;lia⟩,a.h⟩
 ·obtain⟨H,s,c,j,b,w,k,io,rfl,a⟩:=I
  exact q H s c j b w k io ⟨a.v,a.dk,a.ca,a.jo,a.bk,a.pw,⟨a.pk.1,by have:=a.pk.2;lia⟩,a.h⟩
theorem OS{Q:V->Hp->Prop}(hl:xs.length<=63)(q:∀ H',Q (.bool true) H'):Cq (Rn 11 n (.af 599) [.ints xs] []) Q X:=by
 simp only[Md]
 have h:Holds [] []:=⟨fun x hx=>(nomatch hx),List.nodup_nil⟩
 have h:=h.new (.cell none)
 generalize ([]:Hp).length=cj at h
 generalize ([]:Hp)++[O.cell none]=H at h
 refine Cq.fin (Wq.seq (Wq.ao (Wq.g6 (Wq.ah (Wq.ak (Wq.ah (Wq.ae rfl (Wq.aj (Wq.cy rfl (NQ h (by lia) fun H p w hw h=>Wq.ah ?_))))))))))
 have e2:∀ lo H,aR P0 (Rn 10 n) true (.bi "len") [.ints xs] ⟨lo,H⟩=(Lite.guard (decide (xs.length<=lim))>>=fun _=>Pure.pure (V.int xs.length)) ⟨lo,H⟩:=fun lo H=>by kernel_rfl
 refine Wq.d8 (Wq.ak (Wq.ah (Wq.ae rfl (Wq.aj ?_))))
 simp only[e2]
 refine Wq.bind (Wq.guard (decide_eq_true (by unfold lim;lia)) (Wq.pure (Wq.pure (Wq.jc (r:=decide ((xs.length:Int)>1)) rfl (Wq.aj ⟨rfl,_,h,fun H t h=>Wq.fW h.hd (Wq.av (Wq.av ?_))⟩)))))
 have h:=h.aX
 generalize decide ((xs.length:Int)>1)=big
 refine Wq.seq (Wq.ao (Wq.ak (Wq.ah (Wq.ae rfl (Wq.aj (Wq.cy rfl (N4 (n:=n+8) h hw (Int.le_refl _) (by decide) fun H w k b hw hk hk2 hb b1 b2 b3 b4 b5 b6 b7 h=>Wq.av ?_)))))))
 have hbk:∀ {H:Hp} {F:List Cl},Holds H ((p,bL w k)::(bj b++F))->H[b.bk]? =some (jj b):=fun h=>bc h.aX
 have s1:=hb.size;have s2:=hb.start;have s3:=hb.log;have s4:=hb.ai;have s5:=hb.blocks;have s6:=hb.each
 have sm:=hb.m
 refine Wq.seq (Wq.ao (Wq.ak (Wq.ah (Wq.aZ rfl (hbk h) rfl (Wq.ah (Wq.aZ rfl (hbk h) rfl (Wq.aj (Wq.qh OK h fun H t h=>NI h (by lia) (by lia) fun H ke le un h=>⟨rfl,Wq.av ?_⟩))))))))
 have hbk2:∀ {H:Hp} {Y F:List Cl},Holds H (Y++((p,bL w k)::(bj b++F)))->H[b.bk]? =some (jj b):=fun h=>h.on _ (List.mem_append_right _ (.tail _ (List.mem_append_left _ (.head _))))
 refine Wq.seq (Wq.ao (Wq.ak (Wq.ah (Wq.ae rfl (Wq.ah (Wq.aZ rfl (hbk2 h) rfl (Wq.aj (Wq.qh OL h fun H t2 h=>NJ h (by lia) fun H row bT h=>⟨rfl,Wq.av ?_⟩))))))))
 have hbk3:∀ {H:Hp} {Y Z F:List Cl},Holds H (Y++(Z++((p,bL w k)::(bj b++F))))->H[b.bk]? =some (jj b):=fun h=>h.on _ (List.mem_append_right _ (List.mem_append_right _ (.tail _ (List.mem_append_left _ (.head _)))))
 refine Wq.seq (Wq.ao (Wq.ak (Wq.ah (Wq.ae rfl (Wq.ah (Wq.aZ rfl (hbk3 h) rfl (Wq.ah (Wq.aZ rfl (hbk3 h) rfl (Wq.ah (Wq.aZ rfl (hbk3 h) rfl (Wq.aj (Wq.qh OM h fun H t3 h=>?_))))))))))))
 refine NM (s:=g5 t ke le un b.blocks b.size) (c:=kB t2 row bT b.ai b.size) (most:=b.most) h hb.most (by lia) (by lia) (by show b.start+b.log<=b.blocks;lia) (by lia) s6.1 s6.2 fun H nums cK h=>⟨rfl,?_⟩
 have v:=bf.new (t:=t) (ke:=ke) (le:=le) (un:=un) (t2:=t2) (row:=row) (bT:=bT) (t3:=t3) (nums:=nums) (cK:=cK) hb b1 b2 b3 b4 b5 b6 b7
 have h:=g8 (pull h)
 have h:Holds H (All (g5 t ke le un b.blocks b.size) (kB t2 row bT b.ai b.size) ⟨t3,nums,cK,b.start,b.log,min (b.log-1) (b.size.fdiv 4-1),b.most,b.each,0,0,[],[]⟩ b p w k [(cj,.cell none)]):=h
 refine Wq.dB rfl (cP h (.head _)) ?_
 have h:=Oy h (.cell (some (.ref t3)))
 generalize H.set cj (.cell (some (.ref t3)))=H at h
 have a:At p t t2 t3 b.bk [(cj,.cell (some (.ref t3)))] 20 H _ _ _ b w k:=⟨v,rfl,rfl,rfl,rfl,hw,⟨hk,by lia⟩,h⟩
 refine Wq.seq (Wq.cN (Wq.bind (Wq.bind (Wq.aO rfl (cP h (.head _)) (Wq.gA (aU h) (aV (by decide)) rfl rfl (Wq.aS (Wq.aZ rfl (bc (bw h)) rfl (Wq.ne (r:=true) kH ⟨rfl,?_⟩))))))))
 refine Wq.seq (OR (io:=none) a (.head _) fun H s c j b w k io a=>?_)
 refine Wq.seq (OO a (.head _) fun H s c j b a hc=>?_)
 exact ON a (by decide) (.head _) hc q
end
theorem OT(xs:List Int)(h:xs.length<=63):∃ H,run P0 40 (.af 599) [.ints xs] []=.ok (.bool true) H:=by
 have hq:Cq (run P0 40 (.af 599) [.ints xs] []) (fun v _=>v=.bool true) nx:=OS (n:=29) h fun _=>rfl
 generalize run P0 40 (.af 599) [.ints xs] []=r at hq
 cases r with
 |ok v H=>
  have hq:v=.bool true:=hq
  subst hq
  exact⟨H,rfl⟩
 |exc c H=>exact hq.elim
 |no=>exact hq.elim
theorem PySem.W.holds_open{r:OpenRow}{q:Program}{loose:List Str}{Xt:Shared->Bool}{XP:(Str->Option Value)->Heap->Prop}{α:Type}{Yf:Shared->α}{Ya:World->α}{YP:World->Heap->Prop}{d:DefRec}{kwd:List (Str×PySem.Expr)}{N:Nat}
  (left:LeftO r.prog q loose Xt Yf Ya N) (hY:∀ w s,Yf s=Ya w->YP w s.heap) (hYk:∀ w h h',YP w h->(∀ b o,h.get? b=some o->h'.get? b=some o)->YP w h')
  (hX:∀ s,Xt s=true->XP (s.heap.nsMap mainGlobals) s.heap) (hXk:∀ mg h h',XP mg h->(∀ b o,h.get? b=some o->h'.get? b=some o)->XP mg h')
  (hdef:defOf q r.name=some (d,kwd)) (hp:r.prog.theDef r.name=some (d.params,d.body,d.scope)) (hk:kwWritten? d.params.kwonlyargs d.params.kw_defaults=some kwd) (hRf:∀ s,Xt s=true->RecFacts r.records s.heap) (hwr:(!r.writes||r.records.isEmpty)=true)
  (k1:r.wellSaid=true) (ok:(chainsOk q&&opensWell r.prog&&(frees r.toRowW&&r.within.isEmpty))=true) (hb:r.prog.bare) (hw:r.toRowW.promised)
  (call:tY q loose XP YP r.toRowW d kwd fun f vs=>PySem.call f vs):r.Holds:=by
 have hch:chainsOk q=true:=(Bool.and_eq_true_iff.mp (Bool.and_eq_true_iff.mp ok).1).1
 have H:=open_anyG (r:=r.toRowW) (defs:=if r.pinned then [r.name]else []) (kps:=r.keeps) (writes:=r.writes)
  (run:=fun f vs=>fD (.bool true) (PySem.call f vs))
  (tree:=fun vs=>fD (.done (.ret (.bool true))) (do match<-nsGet mainNs r.name with
   |some f=>do ret (<-PySem.call f vs)
   |none=>unsupported "claim.caller:no-such-global")) left hY hYk hX hXk hRf hwr ok hb hw
  (fun vs w s mg f Q E hg hf h=>by
   have h':=ED h
   refine fun Γ p hΓ=>?_
   have h:=h Γ p hΓ
   unfold fD at h ⊢
   rw[Sem.wp_stack]at h ⊢
   cases e:iy ((Γ.code,p)::Γ.below)with
   |true=>rw[e,if_pos rfl,Sem.wp_pure]at h;rw[if_pos rfl,Sem.wp_pure];exact h
   |false=>
    rw[if_neg Bool.false_ne_true]
    have n:=tX e
    exact ax (wpAny_nsGet hg (by rw[hf];exact aG (dU h' (fun v s' q=>aM q) fun _ _ q=>q))) Γ p hΓ ⟨n _ (.head _),fun x hx=>n x (.tail _ hx)⟩)
  (fun w s hg G n hn=>by
   obtain rfl:n=r.name:=by split at hn<;>simp_all
   exact pinned_of_view hg G hdef hp hk)
  fun w s₀ s₁ mg mb G Y args vs as hpre hlay L low=>by
   obtain⟨a,o,pm,cd,doc,dV,kV,h1,h2,h3,h4,h5⟩:=G.fn hdef
   obtain⟨z1,z2⟩:=call w s₀ s₁ mg mb G Y a o pm cd doc dV kV h2 h3 h4 h5 (defOf_name hdef▸h1) L.gens args vs as hpre hlay L.reads L.well (L.low low)
   exact⟨.ref a,h1,EC z1 z2⟩
 refine⟨k1,hw,H.1,H.2.1,fun w=>⟨(H.2.2 w).1,fun s hs=>?_⟩⟩
 obtain⟨s₀,hf,hg0,s₁,T,pins,rec1,rec2,cf⟩:=(H.2.2 w).2 s hs
 refine⟨s₀,hf,hg0,s₁,T,pins,rec1,rec2,fun args hpre hlay ord hord=>?_⟩
 obtain⟨vs,s₂,hlaid,n,o,s',hsched,rest⟩:=cf args hpre hlay ord hord
 have hz:s₂.asleep:=by
  obtain⟨s₀',hf',_,s₁',T',hz',_⟩:=(left.behind hX hch w).2 s hs
  obtain rfl:s₀'=s₀:=Option.some.inj (hf'.symm.trans hf)
  refine Shared.asleep_of_life ?_ hz'
  have hal:=layAllW_rest _ _ _ hlaid
  exact hal.2.2.2.trans (T.2.1.trans T'.2.1.symm)
 obtain⟨n',hn'⟩:=EE hz hsched
 exact⟨vs,s₂,hlaid,n',o,s',hn',rest⟩
end Lite
namespace Lite.hd
theorem tw10005708024487084042:True:=⟨⟩
theorem tw10022822789989958569:True:=⟨⟩
theorem tw10028126384241447778:True:=⟨⟩
theorem tw10060109218636627014:True:=⟨⟩
theorem tw1006447886073748375:True:=⟨⟩
theorem tw10068815695744845896:True:=⟨⟩
theorem tw10083195486772392327:True:=⟨⟩
theorem tw10213163866420829131:True:=⟨⟩
theorem tw10222554513853111793:True:=⟨⟩
theorem tw10228217655825320656:True:=⟨⟩
theorem tw10288397530738588594:True:=⟨⟩
theorem tw10293811844989402623:True:=⟨⟩
theorem tw10318939863778940896:True:=⟨⟩
theorem tw1032121490735964090:True:=⟨⟩
theorem tw1033719815446517951:True:=⟨⟩
theorem tw10346325289775363057:True:=⟨⟩
theorem tw10357302057775344044:True:=⟨⟩
theorem tw10375530704238758956:True:=⟨⟩
theorem tw10382545796240341964:True:=⟨⟩
theorem tw10420880417304633488:True:=⟨⟩
theorem tw10424473435592312539:True:=⟨⟩
theorem tw10427751870231444934:True:=⟨⟩
theorem tw10456631225730433462:True:=⟨⟩
theorem tw10457659154352249693:True:=⟨⟩
theorem tw105112615733742124:True:=⟨⟩
theorem tw10523502157812301366:True:=⟨⟩
theorem tw10529838514991031212:True:=⟨⟩
theorem tw10535304684341447523:True:=⟨⟩
theorem tw10543284712294097776:True:=⟨⟩
theorem tw10554569866526182532:True:=⟨⟩
theorem tw10578695669695947952:True:=⟨⟩
theorem tw10613523449461465716:True:=⟨⟩
theorem tw10642041169696857302:True:=⟨⟩
theorem tw1068876486961362188:True:=⟨⟩
theorem tw10706356423892633809:True:=⟨⟩
theorem tw10725329949708198185:True:=⟨⟩
theorem tw10746496018480353898:True:=⟨⟩
theorem tw10768562862562443505:True:=⟨⟩
theorem tw10773670307314495196:True:=⟨⟩
theorem tw10787808555608247006:True:=⟨⟩
theorem tw10875938341122902778:True:=⟨⟩
theorem tw10891298155748464496:True:=⟨⟩
theorem tw10897574390592710727:True:=⟨⟩
theorem tw1102226704895469226:True:=⟨⟩
theorem tw11023957219096726726:True:=⟨⟩
theorem tw11082407105735558854:True:=⟨⟩
theorem tw11153394562281038759:True:=⟨⟩
theorem tw11165880385530193541:True:=⟨⟩
theorem tw11187022684911276607:True:=⟨⟩
theorem tw11240886700207000090:True:=⟨⟩
theorem tw11276389262694312530:True:=⟨⟩
theorem tw11299519638263910551:True:=⟨⟩
theorem tw11300703203500378111:True:=⟨⟩
theorem tw11308056178077938841:True:=⟨⟩
theorem tw11341743262503143626:True:=⟨⟩
theorem tw1134360717933597955:True:=⟨⟩
theorem tw11358177363491034274:True:=⟨⟩
theorem tw11368038461714728287:True:=⟨⟩
theorem tw11368657528043545684:True:=⟨⟩
theorem tw11428183992369747606:True:=⟨⟩
theorem tw11451130649805867234:True:=⟨⟩
theorem tw11480413038915020339:True:=⟨⟩
theorem tw11487646216699699458:True:=⟨⟩
theorem tw11506008993456800206:True:=⟨⟩
theorem tw11511306892852253674:True:=⟨⟩
theorem tw1154820374619876825:True:=⟨⟩
theorem tw11558674442398029223:True:=⟨⟩
theorem tw11569723641731629667:True:=⟨⟩
theorem tw11588326903324763540:True:=⟨⟩
theorem tw11641999107681390898:True:=⟨⟩
theorem tw11658797403040910497:True:=⟨⟩
theorem tw11662090894961510328:True:=⟨⟩
theorem tw11718190357696531347:True:=⟨⟩
theorem tw11727812069784809677:True:=⟨⟩
theorem tw1175633879434396754:True:=⟨⟩
theorem tw11800619335847502775:True:=⟨⟩
theorem tw11805807847957591702:True:=⟨⟩
theorem tw11806123436949482536:True:=⟨⟩
theorem tw11808873570836376911:True:=⟨⟩
theorem tw11846234276193535410:True:=⟨⟩
theorem tw11873609422401581029:True:=⟨⟩
theorem tw11898049202504177958:True:=⟨⟩
theorem tw11898436918360642056:True:=⟨⟩
theorem tw11920076947733438582:True:=⟨⟩
theorem tw11942424571020991628:True:=⟨⟩
theorem tw11954950437142127572:True:=⟨⟩
theorem tw1197747643722640119:True:=⟨⟩
theorem tw11998778745327432924:True:=⟨⟩
theorem tw12021184362895309747:True:=⟨⟩
theorem tw12063882489928725548:True:=⟨⟩
theorem tw12066780113378734313:True:=⟨⟩
theorem tw12091945213219071218:True:=⟨⟩
theorem tw12092532907555851223:True:=⟨⟩
theorem tw12100802976449760929:True:=⟨⟩
theorem tw12101819598589348812:True:=⟨⟩
theorem tw12145461110170802134:True:=⟨⟩
theorem tw12148376282459401439:True:=⟨⟩
theorem tw12177185315091323906:True:=⟨⟩
theorem tw12211624853788787798:True:=⟨⟩
theorem tw12236624510410808224:True:=⟨⟩
theorem tw12238082117827273116:True:=⟨⟩
theorem tw12241983569398094556:True:=⟨⟩
theorem tw12273428314367945320:True:=⟨⟩
theorem tw12282724558898385875:True:=⟨⟩
theorem tw12336840107074553721:True:=⟨⟩
theorem tw12360120175697936053:True:=⟨⟩
theorem tw12370352457906923431:True:=⟨⟩
theorem tw12370471417227883562:True:=⟨⟩
theorem tw12375973347951663681:True:=⟨⟩
theorem tw12376827825827117492:True:=⟨⟩
theorem tw12415455316123612837:True:=⟨⟩
theorem tw12458881536722568037:True:=⟨⟩
theorem tw1246541338861652678:True:=⟨⟩
theorem tw12465547818603193400:True:=⟨⟩
theorem tw12470619691349924896:True:=⟨⟩
theorem tw12492751795189919409:True:=⟨⟩
theorem tw1253017371831836766:True:=⟨⟩
theorem tw12535813494482307020:True:=⟨⟩
theorem tw12653189214734413593:True:=⟨⟩
theorem tw12683416081208198298:True:=⟨⟩
theorem tw12706229678847623779:True:=⟨⟩
theorem tw12730092551379993043:True:=⟨⟩
theorem tw12767881980255117880:True:=⟨⟩
theorem tw12781708100756627869:True:=⟨⟩
theorem tw12795777727929255997:True:=⟨⟩
theorem tw12809369457247244713:True:=⟨⟩
theorem tw12813162354880568069:True:=⟨⟩
theorem tw12834644003903032553:True:=⟨⟩
theorem tw12849776768120727893:True:=⟨⟩
theorem tw12873498274433899470:True:=⟨⟩
theorem tw12897511918057833332:True:=⟨⟩
theorem tw12919854379792328417:True:=⟨⟩
theorem tw12943015651364807464:True:=⟨⟩
theorem tw12957086007811978591:True:=⟨⟩
theorem tw12970009834491896581:True:=⟨⟩
theorem tw12984241800132323522:True:=⟨⟩
theorem tw12996973988565535469:True:=⟨⟩
theorem tw12998129971687919274:True:=⟨⟩
theorem tw13011318089250428836:True:=⟨⟩
theorem tw13045236482974333688:True:=⟨⟩
theorem tw13046730917185994173:True:=⟨⟩
theorem tw13073131354077717296:True:=⟨⟩
theorem tw13097933343451868573:True:=⟨⟩
theorem tw1313799804664379957:True:=⟨⟩
theorem tw13203907535008463227:True:=⟨⟩
theorem tw13239694463932870477:True:=⟨⟩
theorem tw13253544788863911686:True:=⟨⟩
theorem tw13262901131705101125:True:=⟨⟩
theorem tw13268795890764257625:True:=⟨⟩
theorem tw13332433591415063689:True:=⟨⟩
theorem tw13338820911721678222:True:=⟨⟩
theorem tw13371171522301085020:True:=⟨⟩
theorem tw13374151487577448374:True:=⟨⟩
theorem tw13456180967355966804:True:=⟨⟩
theorem tw1347727636278356736:True:=⟨⟩
theorem tw13483368383104941393:True:=⟨⟩
theorem tw13501668769214126979:True:=⟨⟩
theorem tw13518644851810262741:True:=⟨⟩
theorem tw13556454878141898273:True:=⟨⟩
theorem tw13574434589379649762:True:=⟨⟩
theorem tw13590521693783735962:True:=⟨⟩
theorem tw13649332882585609679:True:=⟨⟩
theorem tw13651126325703100396:True:=⟨⟩
theorem tw13666444802638093426:True:=⟨⟩
theorem tw13709525136675953775:True:=⟨⟩
theorem tw13741482209453106019:True:=⟨⟩
theorem tw1377593146290591511:True:=⟨⟩
theorem tw1390183723866889434:True:=⟨⟩
theorem tw13935403915731964256:True:=⟨⟩
theorem tw13942914384818928214:True:=⟨⟩
theorem tw1395320363199090872:True:=⟨⟩
theorem tw13977321873979072752:True:=⟨⟩
theorem tw14021619795597152209:True:=⟨⟩
theorem tw14049933392675454870:True:=⟨⟩
theorem tw14076691992004652796:True:=⟨⟩
theorem tw14111609382807137400:True:=⟨⟩
theorem tw14149447352732621952:True:=⟨⟩
theorem tw14171896759317773336:True:=⟨⟩
theorem tw14174127167598438318:True:=⟨⟩
theorem tw14192530224294190564:True:=⟨⟩
theorem tw14203274533107336906:True:=⟨⟩
theorem tw14226575706604133568:True:=⟨⟩
theorem tw14255490028455655972:True:=⟨⟩
theorem tw14260514446998131279:True:=⟨⟩
theorem tw14298172855851728559:True:=⟨⟩
theorem tw1429992920369467767:True:=⟨⟩
theorem tw14370485791786362658:True:=⟨⟩
theorem tw14416762764198358317:True:=⟨⟩
theorem tw14431430363997990938:True:=⟨⟩
theorem tw14431553750589714415:True:=⟨⟩
theorem tw14459539495166095372:True:=⟨⟩
theorem tw14468951771147876475:True:=⟨⟩
theorem tw14500168066690857469:True:=⟨⟩
theorem tw1450318124306955647:True:=⟨⟩
theorem tw14504105319968488518:True:=⟨⟩
theorem tw14517460688949435820:True:=⟨⟩
theorem tw14555908325915970971:True:=⟨⟩
theorem tw14570544649545568281:True:=⟨⟩
theorem tw14576803631643464322:True:=⟨⟩
theorem tw14595900911178361620:True:=⟨⟩
theorem tw14640876081452949519:True:=⟨⟩
theorem tw1465111661297063587:True:=⟨⟩
theorem tw14705274030564696555:True:=⟨⟩
theorem tw14731194676214942922:True:=⟨⟩
theorem tw14747500774228690956:True:=⟨⟩
theorem tw14757280620848790026:True:=⟨⟩
theorem tw14776983237585204006:True:=⟨⟩
theorem tw14784712974945410071:True:=⟨⟩
theorem tw14855059229057191807:True:=⟨⟩
theorem tw14859240857207920781:True:=⟨⟩
theorem tw14862555161635505114:True:=⟨⟩
theorem tw14921103232786867431:True:=⟨⟩
theorem tw14922628098411965389:True:=⟨⟩
theorem tw14947242766895990787:True:=⟨⟩
theorem tw14974322346001899085:True:=⟨⟩
theorem tw15027724629572137064:True:=⟨⟩
theorem tw15056490310582513454:True:=⟨⟩
theorem tw15088249145128822719:True:=⟨⟩
theorem tw15154906962887941119:True:=⟨⟩
theorem tw15162531745308580033:True:=⟨⟩
theorem tw15168024749663596480:True:=⟨⟩
theorem tw1517707228089475167:True:=⟨⟩
theorem tw15183339748518857935:True:=⟨⟩
theorem tw15185421151565412665:True:=⟨⟩
theorem tw15188352297153259452:True:=⟨⟩
theorem tw1520834807378006009:True:=⟨⟩
theorem tw15225386557174564548:True:=⟨⟩
theorem tw15243859920225897611:True:=⟨⟩
theorem tw15261042430103542392:True:=⟨⟩
theorem tw15281271222831152564:True:=⟨⟩
theorem tw15293741976013674066:True:=⟨⟩
theorem tw15296407428241563023:True:=⟨⟩
theorem tw15321185713046780365:True:=⟨⟩
theorem tw15321510933553317311:True:=⟨⟩
theorem tw15361992017524346438:True:=⟨⟩
theorem tw15376999476380211151:True:=⟨⟩
theorem tw15399731652423139413:True:=⟨⟩
theorem tw154688917752741434:True:=⟨⟩
theorem tw1547267054170488586:True:=⟨⟩
theorem tw1547936858742680320:True:=⟨⟩
theorem tw15487514558044485362:True:=⟨⟩
theorem tw15515723892874785794:True:=⟨⟩
theorem tw15525947789364086836:True:=⟨⟩
theorem tw15540936918677963762:True:=⟨⟩
theorem tw15563536642949451641:True:=⟨⟩
theorem tw15569478525757061999:True:=⟨⟩
theorem tw15592130015348200817:True:=⟨⟩
theorem tw15602028455269058591:True:=⟨⟩
theorem tw15647512147010798473:True:=⟨⟩
theorem tw15677399141575038083:True:=⟨⟩
theorem tw15679199706442594557:True:=⟨⟩
theorem tw15682248049098952552:True:=⟨⟩
theorem tw15693238132707138340:True:=⟨⟩
theorem tw15775252497421826203:True:=⟨⟩
theorem tw15776132604372054689:True:=⟨⟩
theorem tw15803384439870940541:True:=⟨⟩
theorem tw1582935998727909762:True:=⟨⟩
theorem tw15858188217559433738:True:=⟨⟩
theorem tw15890420509206126140:True:=⟨⟩
theorem tw15894213503130756924:True:=⟨⟩
theorem tw15897304265910493800:True:=⟨⟩
theorem tw15914305485592862798:True:=⟨⟩
theorem tw15939518860625986690:True:=⟨⟩
theorem tw1597265817371326919:True:=⟨⟩
theorem tw15977025392646251198:True:=⟨⟩
theorem tw15979507332783472857:True:=⟨⟩
theorem tw15982129812444183189:True:=⟨⟩
theorem tw15983168683859082904:True:=⟨⟩
theorem tw15994950879331987827:True:=⟨⟩
theorem tw16005547790620229256:True:=⟨⟩
theorem tw16032381248245742408:True:=⟨⟩
theorem tw16044654152121285800:True:=⟨⟩
theorem tw16047362025732174408:True:=⟨⟩
theorem tw16051047806529525574:True:=⟨⟩
theorem tw16051361171202651484:True:=⟨⟩
theorem tw16053218145213786778:True:=⟨⟩
theorem tw1609838778111431662:True:=⟨⟩
theorem tw16113966571225554114:True:=⟨⟩
theorem tw16188951011237250821:True:=⟨⟩
theorem tw16239236154346860841:True:=⟨⟩
theorem tw16245335817986715770:True:=⟨⟩
theorem tw16261571227992054153:True:=⟨⟩
theorem tw1628127622534723218:True:=⟨⟩
theorem tw16295245751056130031:True:=⟨⟩
theorem tw16305833442615236795:True:=⟨⟩
theorem tw16326230178471293483:True:=⟨⟩
theorem tw16328622063910885029:True:=⟨⟩
theorem tw16338721909528328247:True:=⟨⟩
theorem tw16368819654566819485:True:=⟨⟩
theorem tw1637205666986757063:True:=⟨⟩
theorem tw16378200226239429930:True:=⟨⟩
theorem tw16397140412962037265:True:=⟨⟩
theorem tw16452819772843466330:True:=⟨⟩
theorem tw16502989743899477907:True:=⟨⟩
theorem tw16551585103838419569:True:=⟨⟩
theorem tw1657468989109814886:True:=⟨⟩
theorem tw16629438498196158945:True:=⟨⟩
theorem tw16632399359220255494:True:=⟨⟩
theorem tw16643126800453206412:True:=⟨⟩
theorem tw16644520438819083295:True:=⟨⟩
theorem tw16680221812125375106:True:=⟨⟩
theorem tw16719498977788989917:True:=⟨⟩
theorem tw16772844464526139287:True:=⟨⟩
theorem tw16801754640960095663:True:=⟨⟩
theorem tw16921618140385794653:True:=⟨⟩
theorem tw1695454452595117527:True:=⟨⟩
theorem tw16959353204117355811:True:=⟨⟩
theorem tw1696275988938537112:True:=⟨⟩
theorem tw17025891391572175781:True:=⟨⟩
theorem tw17028227904664409063:True:=⟨⟩
theorem tw1703485479385429847:True:=⟨⟩
theorem tw17068847844275218400:True:=⟨⟩
theorem tw1714334723104424408:True:=⟨⟩
theorem tw17233827966285697863:True:=⟨⟩
theorem tw17280927203850301463:True:=⟨⟩
theorem tw17296169380261253902:True:=⟨⟩
theorem tw17311607253471228485:True:=⟨⟩
theorem tw17316048697388990784:True:=⟨⟩
theorem tw17324293617651184102:True:=⟨⟩
theorem tw1732501098519999783:True:=⟨⟩
theorem tw17346100347606335624:True:=⟨⟩
theorem tw17349113968525930593:True:=⟨⟩
theorem tw17371650414024925993:True:=⟨⟩
theorem tw17379139954018817605:True:=⟨⟩
theorem tw17380112668456787324:True:=⟨⟩
theorem tw17382689314669072533:True:=⟨⟩
theorem tw17399906490733892856:True:=⟨⟩
theorem tw1743283376273552926:True:=⟨⟩
theorem tw17455294839049547355:True:=⟨⟩
theorem tw17470347308905363990:True:=⟨⟩
theorem tw17474638727289440975:True:=⟨⟩
theorem tw17484935444940836336:True:=⟨⟩
theorem tw17491430307806273471:True:=⟨⟩
theorem tw17497587547379454486:True:=⟨⟩
theorem tw1752248093982456692:True:=⟨⟩
theorem tw17547488410203958120:True:=⟨⟩
theorem tw17603504800111740767:True:=⟨⟩
theorem tw17691065210395637889:True:=⟨⟩
theorem tw17729287382750497891:True:=⟨⟩
theorem tw17752321130170505093:True:=⟨⟩
theorem tw17767883471638459787:True:=⟨⟩
theorem tw17770822359058707321:True:=⟨⟩
theorem tw17772237588450045000:True:=⟨⟩
theorem tw17800685127791968431:True:=⟨⟩
theorem tw17812775533722517963:True:=⟨⟩
theorem tw17817072792448386778:True:=⟨⟩
theorem tw17853516713988378740:True:=⟨⟩
theorem tw17865726940741893939:True:=⟨⟩
theorem tw17881252573898416946:True:=⟨⟩
theorem tw17886200183439369910:True:=⟨⟩
theorem tw17889480234569622198:True:=⟨⟩
theorem tw18010442629679897397:True:=⟨⟩
theorem tw18014038690726638934:True:=⟨⟩
theorem tw18025908251733132280:True:=⟨⟩
theorem tw18053589469561098497:True:=⟨⟩
theorem tw18071998882718542160:True:=⟨⟩
theorem tw18072641722511153688:True:=⟨⟩
theorem tw18103869375728043329:True:=⟨⟩
theorem tw18144487152110821327:True:=⟨⟩
theorem tw1819547063495803464:True:=⟨⟩
theorem tw18217932304809003433:True:=⟨⟩
theorem tw1824007131679064849:True:=⟨⟩
theorem tw18251802517027997864:True:=⟨⟩
theorem tw18283987126026637027:True:=⟨⟩
theorem tw18301150754784925187:True:=⟨⟩
theorem tw18336295576168540576:True:=⟨⟩
theorem tw1833805351372587716:True:=⟨⟩
theorem tw1836400513132937016:True:=⟨⟩
theorem tw18393965034315841994:True:=⟨⟩
theorem tw1845447031319227828:True:=⟨⟩
theorem tw1847749304351690186:True:=⟨⟩
theorem tw1861282533000026537:True:=⟨⟩
theorem tw1887272795189607964:True:=⟨⟩
theorem tw1896905785347256386:True:=⟨⟩
theorem tw1912011746353459457:True:=⟨⟩
theorem tw1929849973151575479:True:=⟨⟩
theorem tw2033973658703252279:True:=⟨⟩
theorem tw2037569894095066193:True:=⟨⟩
theorem tw2061100730976839159:True:=⟨⟩
theorem tw2061929825369442512:True:=⟨⟩
theorem tw20835323389311244:True:=⟨⟩
theorem tw2084094027525989262:True:=⟨⟩
theorem tw2210232860973323305:True:=⟨⟩
theorem tw2211681444219294996:True:=⟨⟩
theorem tw2297378991512384508:True:=⟨⟩
theorem tw2324127535959415842:True:=⟨⟩
theorem tw2355265468918955084:True:=⟨⟩
theorem tw2381873164734230933:True:=⟨⟩
theorem tw2392576626419527358:True:=⟨⟩
theorem tw2398855086083314504:True:=⟨⟩
theorem tw2403368860429383835:True:=⟨⟩
theorem tw2452468835794319112:True:=⟨⟩
theorem tw2455898245772390679:True:=⟨⟩
theorem tw254511305498481063:True:=⟨⟩
theorem tw2649356396997660068:True:=⟨⟩
theorem tw2656916702608817678:True:=⟨⟩
theorem tw2660741866316671196:True:=⟨⟩
theorem tw2680507200590810005:True:=⟨⟩
theorem tw2718731099837499402:True:=⟨⟩
theorem tw2728402104416510987:True:=⟨⟩
theorem tw2751251062467010336:True:=⟨⟩
theorem tw2757224767296303422:True:=⟨⟩
theorem tw2762283968112760762:True:=⟨⟩
theorem tw277174618620085063:True:=⟨⟩
theorem tw2775664834221094906:True:=⟨⟩
theorem tw277683740611452028:True:=⟨⟩
theorem tw2777336300627130964:True:=⟨⟩
theorem tw2790503962140331194:True:=⟨⟩
theorem tw2812088278694869068:True:=⟨⟩
theorem tw2835171784089945829:True:=⟨⟩
theorem tw284660272656687728:True:=⟨⟩
theorem tw2854238159296355849:True:=⟨⟩
theorem tw2916805389436004699:True:=⟨⟩
theorem tw2924564079855496233:True:=⟨⟩
theorem tw2935397852121354034:True:=⟨⟩
theorem tw293729559605052250:True:=⟨⟩
theorem tw2957336833376251540:True:=⟨⟩
theorem tw3011389993820805383:True:=⟨⟩
theorem tw3051870970374998508:True:=⟨⟩
theorem tw3107359725643763546:True:=⟨⟩
theorem tw3140138896332664278:True:=⟨⟩
theorem tw3141083344605960638:True:=⟨⟩
theorem tw3172296194753578114:True:=⟨⟩
theorem tw3176808119693368933:True:=⟨⟩
theorem tw3177556035920247777:True:=⟨⟩
theorem tw3199497526822938085:True:=⟨⟩
theorem tw3222910660002319749:True:=⟨⟩
theorem tw3247340549330790479:True:=⟨⟩
theorem tw3256005370221396472:True:=⟨⟩
theorem tw3274741813005194510:True:=⟨⟩
theorem tw3294353612729643847:True:=⟨⟩
theorem tw3307405603957310138:True:=⟨⟩
theorem tw3325922102339626857:True:=⟨⟩
theorem tw3335585691516284756:True:=⟨⟩
theorem tw3344186498689144370:True:=⟨⟩
theorem tw3368009042475428217:True:=⟨⟩
theorem tw3369705805703858963:True:=⟨⟩
theorem tw3427067856132480018:True:=⟨⟩
theorem tw3486747701743991332:True:=⟨⟩
theorem tw3510574466941647948:True:=⟨⟩
theorem tw3600785912424886037:True:=⟨⟩
theorem tw361795773076791647:True:=⟨⟩
theorem tw3622886641853575710:True:=⟨⟩
theorem tw362696018265601567:True:=⟨⟩
theorem tw3646228370445823705:True:=⟨⟩
theorem tw3699603178452469427:True:=⟨⟩
theorem tw372085770248470490:True:=⟨⟩
theorem tw3769420787403058365:True:=⟨⟩
theorem tw3799201287595461791:True:=⟨⟩
theorem tw3832065569215139295:True:=⟨⟩
theorem tw3868334482461912025:True:=⟨⟩
theorem tw3868772948465934897:True:=⟨⟩
theorem tw3873983698992401446:True:=⟨⟩
theorem tw391339756401334535:True:=⟨⟩
theorem tw3932290574394596724:True:=⟨⟩
theorem tw3954193056715188733:True:=⟨⟩
theorem tw3955253068839883851:True:=⟨⟩
theorem tw3960566528973700846:True:=⟨⟩
theorem tw4029311698027196215:True:=⟨⟩
theorem tw4045490263413826085:True:=⟨⟩
theorem tw4066557984878587076:True:=⟨⟩
theorem tw4075796534618545665:True:=⟨⟩
theorem tw4091116272238160798:True:=⟨⟩
theorem tw4098015255076183527:True:=⟨⟩
theorem tw4130348438764158093:True:=⟨⟩
theorem tw4142291550549690711:True:=⟨⟩
theorem tw421518471439461264:True:=⟨⟩
theorem tw4222600389112999340:True:=⟨⟩
theorem tw4248958333261697039:True:=⟨⟩
theorem tw4253553875779902022:True:=⟨⟩
theorem tw4345797343417237382:True:=⟨⟩
theorem tw4351344034919006955:True:=⟨⟩
theorem tw4362503716609032519:True:=⟨⟩
theorem tw4417371210222699279:True:=⟨⟩
theorem tw4421307403840308223:True:=⟨⟩
theorem tw4442430544916312249:True:=⟨⟩
theorem tw4469572898536590073:True:=⟨⟩
theorem tw447217072206621937:True:=⟨⟩
theorem tw4475977251668547387:True:=⟨⟩
theorem tw4484197830830712437:True:=⟨⟩
theorem tw4485389052393426279:True:=⟨⟩
theorem tw4512281229633303718:True:=⟨⟩
theorem tw4513169777595613321:True:=⟨⟩
theorem tw4535805459210966620:True:=⟨⟩
theorem tw4545526765385549069:True:=⟨⟩
theorem tw4595083676386348988:True:=⟨⟩
theorem tw4613534508946790816:True:=⟨⟩
theorem tw4643065303211593402:True:=⟨⟩
theorem tw4644574342012704655:True:=⟨⟩
theorem tw4647474105317286914:True:=⟨⟩
theorem tw4686936876325000815:True:=⟨⟩
theorem tw4690706663074241825:True:=⟨⟩
theorem tw4703083126413942431:True:=⟨⟩
theorem tw4770945270817484987:True:=⟨⟩
theorem tw4771705331380179927:True:=⟨⟩
theorem tw4772365444844888635:True:=⟨⟩
theorem tw483623305836872470:True:=⟨⟩
theorem tw4844522379840143152:True:=⟨⟩
theorem tw4856726169917617242:True:=⟨⟩
theorem tw491645433770448450:True:=⟨⟩
theorem tw4941179573059629831:True:=⟨⟩
theorem tw4978271047439187164:True:=⟨⟩
theorem tw4986048885072846170:True:=⟨⟩
theorem tw4994156828000145245:True:=⟨⟩
theorem tw5021159341502182505:True:=⟨⟩
theorem tw5053474539363668564:True:=⟨⟩
theorem tw5061335928252748438:True:=⟨⟩
theorem tw5075904444905022149:True:=⟨⟩
theorem tw5083762395874956485:True:=⟨⟩
theorem tw508946934771506659:True:=⟨⟩
theorem tw5102749307170705379:True:=⟨⟩
theorem tw5104227728395711794:True:=⟨⟩
theorem tw5110034341009117999:True:=⟨⟩
theorem tw5125612453738583285:True:=⟨⟩
theorem tw5127992424349488640:True:=⟨⟩
theorem tw512915931892477798:True:=⟨⟩
theorem tw5134759747266736421:True:=⟨⟩
theorem tw516285665383948724:True:=⟨⟩
theorem tw5177606583998438929:True:=⟨⟩
theorem tw519777768314049409:True:=⟨⟩
theorem tw5220258274483808855:True:=⟨⟩
theorem tw5232746867898515832:True:=⟨⟩
theorem tw5255250177112071460:True:=⟨⟩
theorem tw5261039353091854873:True:=⟨⟩
theorem tw5284524425346711721:True:=⟨⟩
theorem tw5309216385890196829:True:=⟨⟩
theorem tw5345466308699539657:True:=⟨⟩
theorem tw5373512371449403278:True:=⟨⟩
theorem tw5425112403692650312:True:=⟨⟩
theorem tw543117262849043607:True:=⟨⟩
theorem tw5433988978075426213:True:=⟨⟩
theorem tw5529072951412028601:True:=⟨⟩
theorem tw5535453158809282031:True:=⟨⟩
theorem tw5570638069417164443:True:=⟨⟩
theorem tw5587138814102906318:True:=⟨⟩
theorem tw5666679019804600601:True:=⟨⟩
theorem tw5696929322294362823:True:=⟨⟩
theorem tw5725745653618968430:True:=⟨⟩
theorem tw5728282936527973904:True:=⟨⟩
theorem tw5778885256109117273:True:=⟨⟩
theorem tw5792961836267041666:True:=⟨⟩
theorem tw5796531294419197266:True:=⟨⟩
theorem tw5848157136071801944:True:=⟨⟩
theorem tw5851476650430449425:True:=⟨⟩
theorem tw5867933148373789859:True:=⟨⟩
theorem tw5930928084305784778:True:=⟨⟩
theorem tw5944183436778095479:True:=⟨⟩
theorem tw5966241317455580065:True:=⟨⟩
theorem tw5966287396431907013:True:=⟨⟩
theorem tw5966821697642265322:True:=⟨⟩
theorem tw5974779449901450933:True:=⟨⟩
theorem tw598943716890851004:True:=⟨⟩
theorem tw6052104959466035970:True:=⟨⟩
theorem tw6065513109948933265:True:=⟨⟩
theorem tw6067509391170371810:True:=⟨⟩
theorem tw6071753939040082240:True:=⟨⟩
theorem tw6086040213331694420:True:=⟨⟩
theorem tw6091761556422023801:True:=⟨⟩
theorem tw6115103169762008866:True:=⟨⟩
theorem tw615117912572597654:True:=⟨⟩
theorem tw6154990144189284045:True:=⟨⟩
theorem tw6215339413341550137:True:=⟨⟩
theorem tw6225784056044934065:True:=⟨⟩
theorem tw6232520848155244493:True:=⟨⟩
theorem tw6237692679500358670:True:=⟨⟩
theorem tw625673698820961534:True:=⟨⟩
theorem tw6291477933882655596:True:=⟨⟩
theorem tw6370254679670884181:True:=⟨⟩
theorem tw6379892032189065356:True:=⟨⟩
theorem tw6441757517628013130:True:=⟨⟩
theorem tw644860909573802277:True:=⟨⟩
theorem tw6468799625516634148:True:=⟨⟩
theorem tw652587314131721340:True:=⟨⟩
theorem tw6537314568495852623:True:=⟨⟩
theorem tw6545376604126115873:True:=⟨⟩
theorem tw6556023329225055576:True:=⟨⟩
theorem tw6616420327843047549:True:=⟨⟩
theorem tw6638456795542974109:True:=⟨⟩
theorem tw6648832203541589364:True:=⟨⟩
theorem tw6655105445429243539:True:=⟨⟩
theorem tw6664658313098801630:True:=⟨⟩
theorem tw6749731436282834135:True:=⟨⟩
theorem tw6753444208418629507:True:=⟨⟩
theorem tw6809923157600598175:True:=⟨⟩
theorem tw6855829345631005815:True:=⟨⟩
theorem tw6908578314027350325:True:=⟨⟩
theorem tw6936234086474674313:True:=⟨⟩
theorem tw6943168711526508307:True:=⟨⟩
theorem tw6969981926746438750:True:=⟨⟩
theorem tw6987693603028903835:True:=⟨⟩
theorem tw7012648400725768102:True:=⟨⟩
theorem tw7024983271383376862:True:=⟨⟩
theorem tw7034392491814628289:True:=⟨⟩
theorem tw7053686557527084102:True:=⟨⟩
theorem tw7102702046794632765:True:=⟨⟩
theorem tw7127057379301505896:True:=⟨⟩
theorem tw716519627679674622:True:=⟨⟩
theorem tw7167921327066588941:True:=⟨⟩
theorem tw7177126179574509851:True:=⟨⟩
theorem tw7193735793317129519:True:=⟨⟩
theorem tw7212181660298840990:True:=⟨⟩
theorem tw7217787130911133228:True:=⟨⟩
theorem tw7227736591670042444:True:=⟨⟩
theorem tw7341693313244138361:True:=⟨⟩
theorem tw7364356590890774351:True:=⟨⟩
theorem tw7373129081406592705:True:=⟨⟩
theorem tw7394944085219679118:True:=⟨⟩
theorem tw7452748994744040713:True:=⟨⟩
theorem tw7488912351809228801:True:=⟨⟩
theorem tw752437325914164048:True:=⟨⟩
theorem tw7551946984746225736:True:=⟨⟩
theorem tw7601522176031889788:True:=⟨⟩
theorem tw7636495397946253166:True:=⟨⟩
theorem tw7661266327600273744:True:=⟨⟩
theorem tw7663239767204321901:True:=⟨⟩
theorem tw7686095093656907456:True:=⟨⟩
theorem tw7703621455093833107:True:=⟨⟩
theorem tw7707050656182708342:True:=⟨⟩
theorem tw7714124478507263117:True:=⟨⟩
theorem tw7731399557259577132:True:=⟨⟩
theorem tw7899380355779753105:True:=⟨⟩
theorem tw7901676450566830368:True:=⟨⟩
theorem tw7917243276602100391:True:=⟨⟩
theorem tw7923781974241055652:True:=⟨⟩
theorem tw794669822221202969:True:=⟨⟩
theorem tw794866480564368941:True:=⟨⟩
theorem tw8037521906540831695:True:=⟨⟩
theorem tw8078869176703749789:True:=⟨⟩
theorem tw8106830627608414787:True:=⟨⟩
theorem tw8113995423132324331:True:=⟨⟩
theorem tw8204334425807359807:True:=⟨⟩
theorem tw8210322332874148684:True:=⟨⟩
theorem tw8221916107002022775:True:=⟨⟩
theorem tw831617940740559113:True:=⟨⟩
theorem tw8346930919353055881:True:=⟨⟩
theorem tw8356856727953953468:True:=⟨⟩
theorem tw83588711090620078:True:=⟨⟩
theorem tw8368647483590461103:True:=⟨⟩
theorem tw8369145133152255039:True:=⟨⟩
theorem tw8382488884109978106:True:=⟨⟩
theorem tw8462093265062818858:True:=⟨⟩
theorem tw8510973876953195476:True:=⟨⟩
theorem tw8535328051838080090:True:=⟨⟩
theorem tw8544951272985842160:True:=⟨⟩
theorem tw8556598017875939299:True:=⟨⟩
theorem tw8578977566637950878:True:=⟨⟩
theorem tw8579877909236855806:True:=⟨⟩
theorem tw8607008460155521137:True:=⟨⟩
theorem tw8626085201716351218:True:=⟨⟩
theorem tw8632833477358903237:True:=⟨⟩
theorem tw8677850925825912275:True:=⟨⟩
theorem tw8727331260100837826:True:=⟨⟩
theorem tw8778404989963498382:True:=⟨⟩
theorem tw8801819661956239773:True:=⟨⟩
theorem tw8851907800048284475:True:=⟨⟩
theorem tw8914758653389745991:True:=⟨⟩
theorem tw8924680844513525960:True:=⟨⟩
theorem tw893934820116277787:True:=⟨⟩
theorem tw8966217292662973402:True:=⟨⟩
theorem tw8988003263304543094:True:=⟨⟩
theorem tw9024897867182974120:True:=⟨⟩
theorem tw9045780003587678203:True:=⟨⟩
theorem tw9047943295942423924:True:=⟨⟩
theorem tw90514443300799528:True:=⟨⟩
theorem tw9078135638429933324:True:=⟨⟩
theorem tw9113579009163953565:True:=⟨⟩
theorem tw9147701586234616618:True:=⟨⟩
theorem tw9159973557594359296:True:=⟨⟩
theorem tw9174210445978041946:True:=⟨⟩
theorem tw9179354890958459821:True:=⟨⟩
theorem tw9201047042452335612:True:=⟨⟩
theorem tw920329450489468674:True:=⟨⟩
theorem tw9235649536708287450:True:=⟨⟩
theorem tw9329651615077323523:True:=⟨⟩
theorem tw9445494990904908836:True:=⟨⟩
theorem tw9452224912743264679:True:=⟨⟩
theorem tw9452708119836844800:True:=⟨⟩
theorem tw9470493885860874440:True:=⟨⟩
theorem tw9499775347001895509:True:=⟨⟩
theorem tw953587713289998742:True:=⟨⟩
theorem tw9617747440061457075:True:=⟨⟩
theorem tw9648324457889202719:True:=⟨⟩
theorem tw9706481851051000698:True:=⟨⟩
theorem tw9712732941927949541:True:=⟨⟩
theorem tw9736366739689922021:True:=⟨⟩
theorem tw9736463076353642753:True:=⟨⟩
theorem tw9778593028234150944:True:=⟨⟩
theorem tw9779847071908926267:True:=⟨⟩
theorem tw9794997590744385806:True:=⟨⟩
theorem tw9802001948993207950:True:=⟨⟩
theorem tw9804295807069209235:True:=⟨⟩
theorem tw9810430684182701781:True:=⟨⟩
theorem tw9812535868595922261:True:=⟨⟩
theorem tw9830366980773385491:True:=⟨⟩
theorem tw9835701027400992811:True:=⟨⟩
theorem tw9849192697697351470:True:=⟨⟩
theorem tw9863962898511554086:True:=⟨⟩
theorem tw9880152953286913638:True:=⟨⟩
theorem tw9889789192577823111:True:=⟨⟩
theorem tw9907809970958615990:True:=⟨⟩
theorem tw9910702604972413829:True:=⟨⟩
theorem tw991514739226002071:True:=⟨⟩
theorem tw9944830486707315874:True:=⟨⟩
theorem tw9972117185757046144:True:=⟨⟩
theorem tw9982201285281980880:True:=⟨⟩
theorem tw9995668983356239747:True:=⟨⟩
end Lite.hd
namespace Lite
open _root_.PySem _root_.PySem.W _root_.PyProof.Rows _root_.PySem.Calls
theorem OU(w:World)(h:Heap)(cl:Str->Option Addr)(args:List WData)(vals:List Value)(as:List Addr)(hpre:PySem.Challenge.rw_nz0219_01.row.toRowW.claim.pre args=true)(hlay:WData.layableAll args=true)
  (hrd:ReadsAllW PySem.Challenge.rw_nz0219_01.row.toRowW.records cl h vals args as) (hwl:WellAll w.params h vals args) (hlo:∀ a∈as,(a==sysModules)=false):
  ∃ l vs xs,vals=[.ref l]∧h.IsList l vs.toArray∧IntsAre vs xs∧xs.length<=63:=by
 wrow_args hpre hlay hrd hwl hlo
 exact⟨_,_,_,rfl,by assumption,by assumption,by omega⟩
theorem OV(args:List WData):PySem.Challenge.rw_nz0219_01.row.toRowW.claim.post args (.bool true) args=true:=by
 wrow_post
theorem OW:∃ f,P0.fn 36=some f∧ja f.body∧f.params=[("self":Str),("reason":Str)]∧f.scope.names=gx:=by
 refine⟨fS 36 (mS 2 0),by kernel_rfl,⟨_,_,_,_,_,_,_,_,_,_,rfl,by kernel_rfl⟩,by kernel_rfl,by kernel_rfl⟩
noncomputable def OX:List (Addr×Addr):=[(565,561),(591,587),(598,594)]
set_option Elab.async true
set_option maxHeartbeats 8000000 in
theorem hd:PySem.Challenge.rw_nz0219_01.Holds:=by
 w_on;o_law;k_head;(case hw=>w_witness2)
 refine(EZ (P:=P0) (fns:=ub) (lam:=ua) (b:=4) (fI:=36) (tb:=OX) (law:=599) (n:=39) (f:=fS 599 (tS 30)) (fun p=>⟨by kernel_rfl,by kernel_rfl,by kernel_rfl,by kernel_rfl,by kernel_rfl,by kernel_rfl,by kernel_rfl,rfl,by kernel_rfl,by kernel_rfl,by kernel_rfl,by decide,by kernel_rfl,by kernel_rfl,OW,by kernel_rfl,by kernel_rfl,by kernel_rfl,by kernel_rfl,by decide,by kernel_rfl⟩) rfl ?_ (fun p=>?_) ?_ (by decide) (by decide) OU OT OV fun a x=>?_)
 ·kernel_rfl
 ·kernel_rfl
 ·kernel_rfl
 ·rfl
end Lite
theorem PySem.Challenge.cw_nz0219_01_holds : PySem.Challenge.rw_nz0219_01.Holds :=
 Lite.hd
