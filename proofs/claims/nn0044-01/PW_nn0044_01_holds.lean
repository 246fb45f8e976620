import PyProof.Rows.All
import PyProof.AssignAttr
import PyProof.FactsAll.int_0
import PyProof.CallRoads
import PyProof.CompUse
import PyProof.CompFree
import PyProof.ExcBaseAll.Exception
import PyProof.InstLoad
import PyProof.InstStoreFacts
import PyProof.ObjNew
import PyProof.Rows.CatchBare
import KE.BitLaws
import KE.LcTurns
import KE.KNest
import KE.KLam
import KE.KTurns
import KE.KRevIter
import Wide.FinOn
import OpenK.AllK
import Wide.All
import Lean
import PySem.Challenge.RW_nn0044_01
open PySem PySem.W PyProof.Rows PySem.Calls PySem.Spec PySem.SeqAt
set_option maxRecDepth 100000
set_option linter.unusedVariables false
set_option linter.unusedSimpArgs false
set_option linter.unusedSectionVars false
set_option Elab.async false
set_option compiler.extract_closed false
set_option genSizeOf false
set_option genInjectivity false
set_option tactic.hygienic false
namespace Internal

section KO
local macro_rules | `(tactic| omega)=>`(tactic| ((fail_if_success (fail_if_success omega +splitDisjunctions)); first | lia -abstractProof | omega +splitDisjunctions))
noncomputable section A1
theorem nt {p:Prop} (h:false=true):p:=Bool.noConfusion h
theorem nsE {α:Type _} {a:α} {p:Prop} (h:none=some a):p:=absurd h nofun
theorem lists2 {α β:Type} {P:List α->List β->Prop} (nn:P [] []) (nc:∀ b m,P [] (b :: m)) (cn:∀ a l,P (a :: l) []) (cc:∀ a l b m,P l m->P (a :: l) (b :: m)):∀ l m,P l m:=by
  intro l
  induction l with
  | nil=>intro m; cases m with
    | nil=>exact nn
    | cons b m=>exact nc b m
  | cons a l ih=>intro m; cases m with
    | nil=>exact cn a l
    | cons b m=>exact cc a l b m (ih m)
theorem hid {G:Prop} (h:∀ P:Prop,(G->P)->P):G:=h G id
noncomputable abbrev Gh:=Addr->Option Obj
noncomputable abbrev lsObj (vs:List Value) (n:Nat):Obj:={ cls:=.type "list",data:=.seq vs.toArray n }
noncomputable abbrev tpObj (vs:List Value) (n:Nat):Obj:={ cls:=.type "tuple",data:=.seq vs.toArray n }
structure FI where
  qual:Str
  params:Arguments
  body:FuncBody
  scope:Scope
  frees:List Str
inductive V where
  | none
  | bool (b:Bool)
  | int (i:Int)
  | list (xs:List V)
  | tup (xs:List V)
  | fn (a:Addr)
  | inst (c:Addr) (fs:List (Str × V))
  | clo (fi:FI) (xs:List V)
noncomputable def DictIs (o:Obj) (m:Str->Option Value):Prop:=∃ es ep,o.data=.dict es ep/\StrKeys es/\UniqKeys es/\∀ name,nsFind es name=m name
structure CloFd (fi:FI) (fd:FuncData):Prop where
  params:fd.params=fi.params
  body:fd.body=fi.body
  scope:fd.scope=fi.scope
  qual:fd.qualname=fi.qual
  globals:fd.globals=mainGlobals
  builtins:fd.builtins=builtinsNs
  defaults:fd.defaults=.none
  kwdefaults:fd.kwdefaults=.none
mutual
inductive Rep (g:Gh):Value->V->Prop
  | none:Rep g .none .none
  | bool (b):Rep g (.bool b) (.bool b)
  | int (i t):Rep g (.int i t) (.int i)
  | list {a vs n xs}:g a=some (lsObj vs n)->RepL g vs xs->Rep g (.ref a) (.list xs)
  | tup {a vs n xs}:g a=some (tpObj vs n)->RepL g vs xs->Rep g (.ref a) (.tup xs)
  | fn (a):Rep g (.ref a) (.fn a)
  | inst {a d oa od C fs vs}:g a=some oa->oa.cls=.ref C->(∀ c,oa.data≠.cls c)->oa.dict=some d->d≠a->g d=some od->DictIs od (λ y=>((fs.map (·.1)).zip vs).lookup y)->RepL g vs (fs.map (·.2))->Rep g (.ref a) (.inst C fs)
  | clo {a o fd fi xs c oc ws t}:g a=some o->o.cls=.type "function" -> o.data=.func fd->CloFd fi fd->fd.code=.ref c->g c=some oc->oc.data=.fields ws->ws[1]?=some (.str fi.qual t) ->
      fd.closure.map (·.1)=fi.frees->RepC g (fd.closure.map (·.2)) xs->Rep g (.ref a) (.clo fi xs)
inductive RepL (g:Gh):List Value->List V->Prop
  | nil:RepL g [] []
  | cons {v x vs xs}:Rep g v x->RepL g vs xs->RepL g (v :: vs) (x :: xs)
inductive RepC (g:Gh):List Addr->List V->Prop
  | nil:RepC g [] []
  | cons {c o v x cs xs}:g c=some o->o.data=.cell (some v)->Rep g v x->RepC g cs xs->RepC g (c :: cs) (x :: xs)
end
noncomputable abbrev GLe (g g':Gh):Prop:=∀ b o,g b=some o->g' b=some o
theorem rep_rec {g g':Gh} (k:GLe g g'):(∀ v x,Rep g v x->Rep g' v x)/\(∀ vs xs,RepL g vs xs->RepL g' vs xs)/\∀ cs xs,RepC g cs xs->RepC g' cs xs :=
  have l1:∀ b o,g b=some o->g' b=some o:=k
  ⟨λ v x r=>Rep.rec (motive_1:=λ v x _=>Rep g' v x) (motive_2:=λ vs xs _=>RepL g' vs xs) (motive_3:=λ cs xs _=>RepC g' cs xs) .none .bool .int (λ h _ r=>.list (l1 _ _ h) r) (λ h _ r=>.tup (l1 _ _ h) r) .fn
      (λ h1 h2 h3 h4 h5 h6 h7 _ r=>.inst (l1 _ _ h1) h2 h3 h4 h5 (l1 _ _ h6) h7 r) (λ h1 h2 h3 h4 h5 h6 h7 h8 h9 _ r=>.clo (l1 _ _ h1) h2 h3 h4 h5 (l1 _ _ h6) h7 h8 h9 r) .nil (λ _ _ h r=>.cons h r) .nil (λ h1 h2 _ _ h r=>.cons (l1 _ _ h1) h2 h r) r,
   λ v x r=>RepL.rec (motive_1:=λ v x _=>Rep g' v x) (motive_2:=λ vs xs _=>RepL g' vs xs) (motive_3:=λ cs xs _=>RepC g' cs xs) .none .bool .int (λ h _ r=>.list (l1 _ _ h) r) (λ h _ r=>.tup (l1 _ _ h) r) .fn
      (λ h1 h2 h3 h4 h5 h6 h7 _ r=>.inst (l1 _ _ h1) h2 h3 h4 h5 (l1 _ _ h6) h7 r) (λ h1 h2 h3 h4 h5 h6 h7 h8 h9 _ r=>.clo (l1 _ _ h1) h2 h3 h4 h5 (l1 _ _ h6) h7 h8 h9 r) .nil (λ _ _ h r=>.cons h r) .nil (λ h1 h2 _ _ h r=>.cons (l1 _ _ h1) h2 h r) r,
   λ v x r=>RepC.rec (motive_1:=λ v x _=>Rep g' v x) (motive_2:=λ vs xs _=>RepL g' vs xs) (motive_3:=λ cs xs _=>RepC g' cs xs) .none .bool .int (λ h _ r=>.list (l1 _ _ h) r) (λ h _ r=>.tup (l1 _ _ h) r) .fn
      (λ h1 h2 h3 h4 h5 h6 h7 _ r=>.inst (l1 _ _ h1) h2 h3 h4 h5 (l1 _ _ h6) h7 r) (λ h1 h2 h3 h4 h5 h6 h7 h8 h9 _ r=>.clo (l1 _ _ h1) h2 h3 h4 h5 (l1 _ _ h6) h7 h8 h9 r) .nil (λ _ _ h r=>.cons h r) .nil (λ h1 h2 _ _ h r=>.cons (l1 _ _ h1) h2 h r) r⟩
theorem Rep.mono {g g':Gh} (k:GLe g g') {v x} (r:Rep g v x):Rep g' v x:=(rep_rec k).1 _ _ r
theorem RepL.mono {g g':Gh} (k:GLe g g') {v x} (r:RepL g v x):RepL g' v x:=(rep_rec k).2.1 _ _ r
theorem RepC.mono {g g':Gh} (k:GLe g g') {v x} (r:RepC g v x):RepC g' v x:=(rep_rec k).2.2 _ _ r
theorem RepL.ind {g:Gh} {P:List Value->List V->Prop} {vs:List Value} {xs:List V} (r:RepL g vs xs) (h0:P [] []) (h1:∀ v x vs xs,Rep g v x->RepL g vs xs->P vs xs->P (v :: vs) (x :: xs)):P vs xs :=
  RepL.rec (motive_1:=λ _ _ _=>True) (motive_2:=λ vs xs _=>P vs xs) (motive_3:=λ _ _ _=>True) trivial (λ _=>trivial) (λ _ _=>trivial) (λ _ _ _=>trivial) (λ _ _ _=>trivial) (λ _=>trivial)
    (λ _ _ _ _ _ _ _ _ _=>trivial) (λ _ _ _ _ _ _ _ _ _ _ _=>trivial) h0 (λ h r _ q=>h1 _ _ _ _ h r q) trivial (λ _ _ _ _ _ _=>trivial) r
theorem RepC.ind {g:Gh} {P:List Addr->List V->Prop} {cs:List Addr} {xs:List V} (r:RepC g cs xs) (h0:P [] []) (h1:∀ c o v x cs xs,g c=some o->o.data=.cell (some v)->Rep g v x->P cs xs->P (c :: cs) (x :: xs)):P cs xs :=
  RepC.rec (motive_1:=λ _ _ _=>True) (motive_2:=λ _ _ _=>True) (motive_3:=λ cs xs _=>P cs xs) trivial (λ _=>trivial) (λ _ _=>trivial) (λ _ _ _=>trivial) (λ _ _ _=>trivial) (λ _=>trivial)
    (λ _ _ _ _ _ _ _ _ _=>trivial) (λ _ _ _ _ _ _ _ _ _ _ _=>trivial) trivial (λ _ _ _ _=>trivial) h0 (λ e d h _ _ q=>h1 _ _ _ _ _ _ e d h q) r
theorem RepL.length {g:Gh} {vs:List Value} {xs:List V} (r:RepL g vs xs):vs.length=xs.length:=r.ind (P:=λ vs xs=>vs.length=xs.length) rfl λ _ _ _ _ _ _ ih=>congrArg Nat.succ ih
theorem RepL.append {g:Gh} {vs:List Value} {xs:List V} {ws ys} (r:RepL g vs xs) (q:RepL g ws ys):RepL g (vs ++ ws) (xs ++ ys):=r.ind (P:=λ vs xs=>RepL g (vs ++ ws) (xs ++ ys)) q λ _ _ _ _ h _ ih=>.cons h ih
theorem RepL.get {g:Gh} {vs:List Value} {xs:List V} (r:RepL g vs xs) {i:Nat} {x:V} (e:xs[i]?=some x):∃ v,vs[i]?=some v/\Rep g v x:=by
  refine r.ind (P:=λ vs xs=>∀ i,xs[i]?=some x->∃ v,vs[i]?=some v/\Rep g v x) (λ _ h=>by rw [List.getElem?_nil] at h; cases h) (λ v y vs xs h _ ih i e=>?_) i e
  cases i with
  | zero=>exact ⟨v,rfl,Option.some.inj e ▸ h⟩
  | succ i=>exact ih i e
theorem RepL.getV {g:Gh} {vs:List Value} {xs:List V} (r:RepL g vs xs) {i:Nat} {v:Value} (e:vs[i]?=some v):∃ x,xs[i]?=some x/\Rep g v x:=by
  refine r.ind (P:=λ vs xs=>∀ i,vs[i]?=some v->∃ x,xs[i]?=some x/\Rep g v x) (λ _ h=>by rw [List.getElem?_nil] at h; cases h) (λ w y vs xs h _ ih i e=>?_) i e
  cases i with
  | zero=>exact ⟨y,rfl,Option.some.inj e ▸ h⟩
  | succ i=>exact ih i e
theorem RepL.set {g:Gh} {v:Value} {x:V} (hv:Rep g v x) {vs:List Value} {xs:List V} (r:RepL g vs xs) (i:Nat):RepL g (vs.set i v) (xs.set i x):=by
  refine r.ind (P:=λ vs xs=>∀ i,RepL g (vs.set i v) (xs.set i x)) (λ _=>.nil) (λ w y vs xs h q ih i=>?_) i
  cases i with
  | zero=>exact .cons hv q
  | succ i=>exact .cons h (ih i)
theorem RepL.take {g:Gh} {vs:List Value} {xs:List V} (r:RepL g vs xs) (i:Nat):RepL g (vs.take i) (xs.take i):=by
  refine r.ind (P:=λ vs xs=>∀ i,RepL g (vs.take i) (xs.take i)) (λ i=>by rw [List.take_nil,List.take_nil]; exact .nil) (λ w y vs xs h q ih i=>?_) i
  cases i with
  | zero=>exact .nil
  | succ i=>exact .cons h (ih i)
theorem RepL.drop {g:Gh} {vs:List Value} {xs:List V} (r:RepL g vs xs) (i:Nat):RepL g (vs.drop i) (xs.drop i):=by
  refine r.ind (P:=λ vs xs=>∀ i,RepL g (vs.drop i) (xs.drop i)) (λ i=>by rw [List.drop_nil,List.drop_nil]; exact .nil) (λ w y vs xs h q ih i=>?_) i
  cases i with
  | zero=>exact .cons h q
  | succ i=>exact ih i
structure TabI where
  c:Addr
  P:Addr
  pos:Pos
  qual:Str
structure Gd where
  prog:Program
  w:World
  K:Frag
  gh:Heap
  mg:Str->Option Value
  mb:Str->Option Value
  kin:K.In gh
  ng:gh.Ns mainGlobals mg
  nb:gh.Ns builtinsNs mb
  nolim:gh.NoLimit
  blt:∀ x:Str,x ≠ "__name__" -> mb x=bootBuiltins x
  bmain:∃ bm ob,mg "__builtins__" = some (.ref bm)/\bm≠builtinsNs/\gh.get? bm=some ob/\ob.cls=.type "module" /\ ob.dict=some builtinsNs/\ob.data=.plain
  tabs:List TabI
  codes:∀ q∈tabs,CodeHd gh q.c q.P
  tabOff:∀ q∈tabs,gh.get? q.P=none
  tabInj:∀ q∈tabs,∀ q'∈tabs,q.P=q'.P->q=q'
noncomputable def TabOk (g:Gh) (h:Heap) (q:TabI):Prop :=
  ∃ ps,h.get? q.P=some (tabObj ps)/\(ps=#[]\/∃ c' oc vs t,ps=#[rawInt q.pos.line,rawInt q.pos.col,.ref c']/\g c'=some oc/\oc.data=.fields vs/\vs[1]?=some (.str q.qual t))
structure Ok (G:Gd) (g:Gh) (h:Heap):Prop where
  gnd:∀ b o,G.gh.get? b=some o->g b=some o
  sub:∀ b o,g b=some o->h.get? b=some o
  tab:∀ q∈G.tabs,TabOk g h q
  off:∀ q∈G.tabs,g q.P=none
noncomputable def Gd.isTab (G:Gd) (b:Addr):Prop:=∃ q∈G.tabs,q.P=b
structure Step (G:Gd) (X:Addr->Prop) (g:Gh) (h:Heap) (g':Gh) (h':Heap):Prop where
  gle:GLe g g'
  kept:∀ b o,¬ X b->¬ G.isTab b->h.get? b=some o->h'.get? b=some o
  fresh:∀ b o,g' b=some o->g b=some o\/h.get? b=none\/X b\/G.isTab b
  nf:∀ b o,h.get? b=some o->(∀ vs,o.data≠.fields vs)->∃ o',h'.get? b=some o'/\∀ vs,o'.data≠.fields vs
theorem Step.refl (G:Gd) (X:Addr->Prop) (g:Gh) (h:Heap):Step G X g h g h :=
  ⟨λ _ _ e=>e,λ _ _ _ _ e=>e,λ _ _ e=>.inl e,λ _ o e n=>⟨o,e,n⟩⟩
theorem Step.old {G:Gd} {X:Addr->Prop} {g g1:Gh} {h h1:Heap} (a:Step G X g h g1 h1) {b:Addr} (e:h1.get? b=none):h.get? b=none\/X b\/G.isTab b:=by
  cases q:h.get? b with
  | none=>exact .inl rfl
  | some o =>
    by_cases nx:X b
    . exact .inr (.inl nx)
    . by_cases nt:G.isTab b
      . exact .inr (.inr nt)
      . rw [a.kept b o nx nt q] at e; cases e
theorem Step.trans {G:Gd} {X X':Addr->Prop} {g g1 g2:Gh} {h h1 h2:Heap} (a:Step G X g h g1 h1) (b:Step G X' g1 h1 g2 h2) (hX:∀ b,X' b->X b\/h.get? b=none):Step G X g h g2 h2 where
  gle:=λ x o e=>b.gle x o (a.gle x o e)
  kept:=λ x o nx nt e=>b.kept x o (λ q=>(hX x q).elim nx λ l=>by rw [l] at e; cases e) nt (a.kept x o nx nt e)
  fresh:=λ x o e=>by
    rcases b.fresh x o e with q | q | q | q
    . exact a.fresh x o q
    . rcases a.old q with z | z
      . exact .inr (.inl z)
      . exact .inr (.inr z)
    . exact (hX x q).elim (λ z=>.inr (.inr (.inl z))) λ z=>.inr (.inl z)
    . exact .inr (.inr (.inr q))
  nf:=λ x o e n=>by
    obtain ⟨o1,e1,n1⟩:=a.nf x o e n
    exact b.nf x o1 e1 n1
theorem Step.trans' {G:Gd} {X:Addr->Prop} {g g1 g2:Gh} {h h1 h2:Heap} (a:Step G X g h g1 h1) (b:Step G X g1 h1 g2 h2):Step G X g h g2 h2 :=
  a.trans b λ _ q=>.inl q
theorem Step.weaken {G:Gd} {X X':Addr->Prop} {g g1:Gh} {h h1:Heap} (a:Step G X g h g1 h1) (hX:∀ b,X b->X' b\/h.get? b=none):Step G X' g h g1 h1 where
  gle:=a.gle
  kept:=λ x o nx nt e=>a.kept x o (λ q=>(hX x q).elim nx λ l=>by rw [l] at e; cases e) nt e
  fresh:=λ x o e=>by
    rcases a.fresh x o e with q | q | q | q
    . exact .inl q
    . exact .inr (.inl q)
    . exact (hX x q).elim (λ z=>.inr (.inr (.inl z))) λ z=>.inr (.inl z)
    . exact .inr (.inr (.inr q))
  nf:=a.nf
structure Grow (h h':Heap):Prop where
  kept:∀ b o,h.get? b=some o->h'.get? b=some o
theorem Grow.refl (h:Heap):Grow h h:=⟨λ _ _ e=>e⟩
theorem Grow.trans {h h1 h2:Heap} (a:Grow h h1) (b:Grow h1 h2):Grow h h2:=⟨λ x o e=>b.kept x o (a.kept x o e)⟩
theorem Grow.push (h:Heap) (o:Obj):Grow h (h.push o):=⟨λ _ _ e=>Heap.get?_push_of_some o e⟩
theorem Grow.old {h h':Heap} (x:Grow h h') {b:Addr} (e:h'.get? b=none):h.get? b=none:=by
  cases q:h.get? b with
  | none=>rfl
  | some o=>rw [x.kept _ _ q] at e; cases e
theorem Grow.extBut {h h':Heap} (x:Heap.ExtBut h.objs.size h h'):Grow h h':=⟨λ b o e=>x b o (Nat.ne_of_lt (Heap.lt_size e)) e⟩
theorem get?_size (h:Heap):h.get? h.objs.size=none:=by
  cases q:h.get? h.objs.size with
  | none=>rfl
  | some o=>exact absurd (Heap.lt_size q) (Nat.lt_irrefl _)
theorem Grow.step {G:Gd} {X:Addr->Prop} {g:Gh} {h h':Heap} (x:Grow h h'):Step G X g h g h' :=
  ⟨λ _ _ e=>e,λ b o _ _ e=>x.kept b o e,λ _ _ e=>.inl e,λ b o e n=>⟨o,x.kept b o e,n⟩⟩
theorem TabOk.grow {g:Gh} {h h':Heap} {q:TabI} (x:Grow h h') (t:TabOk g h q):TabOk g h' q :=
  let ⟨ps,e,r⟩:=t; ⟨ps,x.kept _ _ e,r⟩
theorem TabOk.gmono {g g':Gh} {h:Heap} {q:TabI} (x:GLe g g') (t:TabOk g h q):TabOk g' h q :=
  t.imp λ ps h=>⟨h.1,h.2.imp id λ r=>r.imp λ c'=>Exists.imp λ oc=>Exists.imp λ vs=>Exists.imp λ tk h=>⟨h.1,x _ _ h.2.1,h.2.2⟩⟩
theorem Ok.grow {G:Gd} {g:Gh} {h h':Heap} (o:Ok G g h) (x:Grow h h'):Ok G g h' :=
  ⟨o.gnd,λ b ob e=>x.kept b ob (o.sub b ob e),λ q hq=>(o.tab q hq).grow x,o.off⟩
noncomputable def gset (g:Gh) (a:Addr) (o:Obj):Gh:=λ b=>if b=a then some o else g b
theorem gset_self (g:Gh) (a:Addr) (o:Obj):gset g a o a=some o:=if_pos rfl
theorem gset_ne {g:Gh} {a b:Addr} {o:Obj} (h:b≠a):gset g a o b=g b:=if_neg h
theorem gset_le {g:Gh} {a:Addr} {o:Obj} (h:g a=none\/g a=some o):GLe g (gset g a o):=λ b ob e=>by
  by_cases q:b=a
  . subst q; rw [gset_self]
    rcases h with h | h <;> rw [h] at e <;> cases e; rfl
  . rw [gset_ne q]; exact e
theorem Ok.learn {G:Gd} {g:Gh} {h:Heap} {a:Addr} {o:Obj} (k:Ok G g h) (hg:g a=none) (ha:h.get? a=some o) (ht:∀ ps,o≠tabObj ps):Ok G (gset g a o) h where
  gnd:=λ b ob e=>gset_le (.inl hg) b ob (k.gnd b ob e)
  sub:=λ b ob e=>by
    by_cases q:b=a
    . subst q; rw [gset_self] at e; cases e; exact ha
    . rw [gset_ne q] at e; exact k.sub b ob e
  tab:=λ q hq=>(k.tab q hq).gmono (gset_le (.inl hg))
  off:=λ q hq=>by
    have hne:q.P≠a:=λ z=>by
      obtain ⟨ps,e,_⟩:=k.tab q hq
      rw [z,ha] at e; exact ht ps (Option.some.inj e)
    rw [gset_ne hne]; exact k.off q hq
theorem Step.learn {G:Gd} {X:Addr->Prop} {g g1:Gh} {h h1:Heap} {a:Addr} {o:Obj} (k:Step G X g h g1 h1) (hg:g1 a=none) (hn:h.get? a=none\/X a):Step G X g h (gset g1 a o) h1 where
  gle:=λ b ob e=>gset_le (.inl hg) b ob (k.gle b ob e)
  kept:=k.kept
  fresh:=λ b ob e=>by
    by_cases q:b=a
    . subst q; exact .inr (hn.imp id .inl)
    . rw [gset_ne q] at e; exact k.fresh b ob e
  nf:=k.nf
theorem Ok.new {G:Gd} {g:Gh} {h:Heap} (k:Ok G g h) {a:Addr} (ha:h.get? a=none):g a=none:=by
  cases e:g a with
  | none=>rfl
  | some ob=>rw [k.sub _ _ e] at ha; cases ha
inductive Cell where
  | un
  | val (x:V)
  | ro (x:V)
  | own (a:Addr) (xs:List V)
  | box (a:Addr)
noncomputable abbrev Loc:=List (Str × Cell)
noncomputable def Cell.owns:Cell->Addr->Prop
  | .own a _,b=>b=a
  | .box a,b=>b=a
  | _,_=>False
noncomputable def Cell.addrs:Cell->List Addr
  | .own a _=>[a]
  | .box a=>[a]
  | _=>[]
theorem addrs_own {a b:Addr} {xs:List V} (h:b∈(Cell.own a xs).addrs):b=a:=List.mem_singleton.mp h
theorem addrs_nodup (c:Cell):c.addrs.Nodup:=by cases c <;> first | exact .nil | exact List.nodup_cons.mpr ⟨List.not_mem_nil,.nil⟩
theorem owns_addrs {c:Cell} {b:Addr} (h:b∈c.addrs):c.owns b:=by cases c <;> first | exact List.mem_singleton.mp h | exact absurd h List.not_mem_nil
theorem addrs_owns {c:Cell} {b:Addr} (h:c.owns b):b∈c.addrs:=by cases c <;> first | exact h.elim | exact List.mem_singleton.mpr h
theorem addrs_val {x:V} {b:Addr} {P:Prop} (h:b∈(Cell.val x).addrs):P:=nomatch h
noncomputable def Cell.isRo:Cell->Bool
  | .ro _=>true
  | _=>false
noncomputable def slotIs (env:Env) (h:Heap) (m:Str->Option Value) (x:Str) (v:Option Value):Prop :=
  (env.kindOf x=some .local/\m x=v)\/(env.kindOf x≠some .local/\∃ c,env.cells.lookup x=some c/\h.IsCell c v)
noncomputable def cellOk (env:Env) (g:Gh) (h:Heap) (m:Str->Option Value) (β:List V) (x:Str):Cell->Prop
  | .un=>slotIs env h m x none
  | .val X=>∃ v,slotIs env h m x (some v)/\Rep g v X
  | .ro X=>∃ v,slotIs env h m x (some v)/\Rep g v X
  | .own a xs=>slotIs env h m x (some (.ref a))/\∃ vs n,h.get? a=some (lsObj vs n)/\RepL g vs xs
  | .box a=>slotIs env h m x (some (.ref a))/\∃ vs n,h.get? a=some (lsObj vs n)/\RepL g vs β
noncomputable def mutBy (env:Env) (x:Str) (c:Cell) (b:Addr):Prop :=
  (c.isRo=false/\env.kindOf x≠some .local/\env.cells.lookup x=some b)\/c.owns b
noncomputable def Mut (env:Env) (ρ:Loc) (b:Addr):Prop:=b=env.locals\/∃ p∈ρ,mutBy env p.1 p.2 b
structure Fm where
  scope:Scope
  keys:List Str
  plain:Bool:=true
  code:Option (Value × Str):=none
structure Inv (G:Gd) (Φ:Fm) (env:Env) (ρ:Loc) (β:List V) (g:Gh) (h:Heap):Prop where
  ok:Ok G g h
  ns:∃ m,h.Ns env.locals m/\∀ p∈ρ,cellOk env g h m β p.1 p.2
  off:∀ b,Mut env ρ b->g b=none
  keys:ρ.map (·.1)=Φ.keys
  apart:(ρ.flatMap (·.2.addrs)).Nodup
structure EnvOk (Φ:Fm) (env:Env):Prop where
  scope:env.scope=Φ.scope
  fn:env.scope.kind=.function
  globals:env.globals=mainGlobals
  builtins:env.builtins=builtinsNs
  names:(env.scope.names.map (·.1)).Nodup
  nodbg:∀ k∈env.scope.names,k.1≠("__debug__" : Str)/\k.1≠("__classdict__" : Str)
  nodup:Φ.keys.Nodup
  kinds:∀ x∈Φ.keys,env.kindOf x=some .local\/((env.kindOf x=some .cell\/env.kindOf x=some .free)/\∃ c,env.cells.lookup x=some c)
  nofree:Φ.plain=true->∀ x∈Φ.keys,env.kindOf x≠some .free
  inj:Φ.plain=true->∀ x y c,env.cells.lookup x=some c->env.cells.lookup y=some c->x=y
  code:∀ c q,Φ.code=some (c,q)->env.code=c/\env.qual=q
structure Rm (G:Gd) (k:Nat) (A:Around) (h:Heap):Prop where
  hd:A.handled=none
  dp:A.depth + 3 * k < 990
  un:A.units + 100 * k + 1000 < cLine
  fr:∃ l,A.frames=some l/\h.FunFrames G.gh l
theorem funFrames_nf {base h h':Heap} (k:∀ b o,h.get? b=some o->(∀ vs,o.data≠.fields vs)->∃ o',h'.get? b=some o'/\∀ vs,o'.data≠.fields vs) :
    ∀ {l:List Env},h.FunFrames base l->h'.FunFrames base l:=by
  intro l
  induction l with
  | nil=>exact λ _=>trivial
  | cons e l ih=>exact λ z=>⟨z.1,z.2.1.imp λ L w=>w.elim λ o w=>(k L o w.2.2.1 w.2.2.2).imp λ o' v=>⟨w.1,w.2.1,v⟩,ih z.2.2⟩
theorem Rm.step {G:Gd} {k:Nat} {A:Around} {X:Addr->Prop} {g g':Gh} {h h':Heap} (r:Rm G k A h) (s:Step G X g h g' h'):Rm G k A h' :=
  ⟨r.hd,r.dp,r.un,let ⟨l,a,b⟩:=r.fr; ⟨l,a,funFrames_nf s.nf b⟩⟩
theorem Rm.grow {G:Gd} {k:Nat} {A:Around} {h h':Heap} (r:Rm G k A h) (s:Grow h h'):Rm G k A h' :=
  r.step (s.step (G:=G) (X:=λ _=>False) (g:=λ _=>none))
theorem Rm.le {G:Gd} {k k':Nat} {A:Around} {h:Heap} (r:Rm G k A h) (l:k'<=k):Rm G k' A h :=
  ⟨r.hd,by have:=r.dp; omega,by have:=r.un; omega,r.fr⟩
theorem Rm.units {G:Gd} {k:Nat} {A:Around} {h:Heap} (r:Rm G k A h):A.units + 1000 < cLine:=by have:=r.un; omega
noncomputable abbrev at_ (s:Shared) (h:Heap) (tk:Nat):Shared:={ s with heap:=h,toks:=tk }
noncomputable def WE (G:Gd) (Φ:Fm) (k:Nat) (e:Expr) (ρ:Loc) (β:List V) (K:V->List V->Prop):Prop :=
  ∀ (A:Around) (env:Env) (g:Gh) (s:Shared) (Q:Value->Shared->Prop) (E:Value->Shared->Prop),
    Rm G k A s.heap->EnvOk Φ env->Inv G Φ env ρ β g s.heap ->
    (∀ v x β' g' h' tk,K x β'->Inv G Φ env ρ β' g' h'->Rep g' v x->Step G (Mut env ρ) g s.heap g' h'->Q v (at_ s h' tk)) ->
    wpAny (model G.prog G.w) A (eval e env) Q E s
noncomputable def WL (G:Gd) (Φ:Fm) (k:Nat) (es:List Expr) (ρ:Loc) (β:List V) (K:List V->List V->Prop):Prop :=
  ∀ (A:Around) (env:Env) (g:Gh) (s:Shared) (pos:Pos) (Q:List Value->Shared->Prop) (E:Value->Shared->Prop),
    Rm G k A s.heap->EnvOk Φ env->Inv G Φ env ρ β g s.heap ->
    (∀ vs xs β' g' h' tk,K xs β'->Inv G Φ env ρ β' g' h'->RepL g' vs xs->Step G (Mut env ρ) g s.heap g' h'->Q vs (at_ s h' tk)) ->
    wpAny (model G.prog G.w) A (spliced (backTo pos (starEach es env))) Q E s
noncomputable def WT (G:Gd) (Φ:Fm) (k:Nat) (e:Expr) (ρ:Loc) (β:List V) (Kt Kf:List V->Prop):Prop :=
  ∀ (A:Around) (env:Env) (g:Gh) (s:Shared) (Q:Bool->Shared->Prop) (E:Value->Shared->Prop),
    Rm G k A s.heap->EnvOk Φ env->Inv G Φ env ρ β g s.heap ->
    (∀ (b:Bool) β' g' h' tk,(b=true->Kt β')->(b=false->Kf β')->Inv G Φ env ρ β' g' h'->Step G (Mut env ρ) g s.heap g' h'->Q b (at_ s h' tk)) ->
    wpAny (model G.prog G.w) A (isTrue e env (eval e env)) Q E s
inductive Fl where
  | next | brk | cont
  | ret (x:V)
  | reto (a:Addr) (xs:List V)
noncomputable def FlRep (env:Env) (ρ:Loc) (g:Gh) (h:Heap):Flow->Fl->Prop
  | .next,.next=>True
  | .brk,.brk=>True
  | .cont,.cont=>True
  | .ret v,.ret x=>Rep g v x
  | .ret v,.reto a xs=>v=.ref a/\g a=none/\Mut env ρ a/\∃ vs n,h.get? a=some (lsObj vs n)/\RepL g vs xs
  | _,_=>False
noncomputable def WS (G:Gd) (Φ:Fm) (k:Nat) (st:Stmt) (ρ:Loc) (β:List V) (K:Fl->Loc->List V->Prop):Prop :=
  ∀ (A:Around) (env:Env) (g:Gh) (s:Shared) (Q:Flow->Shared->Prop) (E:Value->Shared->Prop),
    Rm G k A s.heap->EnvOk Φ env->Inv G Φ env ρ β g s.heap ->
    (∀ fl f ρ' β' g' h' tk,K f ρ' β'->Inv G Φ env ρ' β' g' h'->FlRep env ρ' g' h' fl f->Step G (Mut env ρ) g s.heap g' h' ->
      (∀ b,Mut env ρ' b->Mut env ρ b\/s.heap.get? b=none)->Q fl (at_ s h' tk)) ->
    wpAny (model G.prog G.w) A (exec st env) Q E s
noncomputable def WSs (G:Gd) (Φ:Fm) (k:Nat) (st:List Stmt) (ρ:Loc) (β:List V) (K:Fl->Loc->List V->Prop):Prop :=
  ∀ (A:Around) (env:Env) (g:Gh) (s:Shared) (Q:Flow->Shared->Prop) (E:Value->Shared->Prop),
    Rm G k A s.heap->EnvOk Φ env->Inv G Φ env ρ β g s.heap ->
    (∀ fl f ρ' β' g' h' tk,K f ρ' β'->Inv G Φ env ρ' β' g' h'->FlRep env ρ' g' h' fl f->Step G (Mut env ρ) g s.heap g' h' ->
      (∀ b,Mut env ρ' b->Mut env ρ b\/s.heap.get? b=none)->Q fl (at_ s h' tk)) ->
    wpAny (model G.prog G.w) A (execs st env) Q E s
noncomputable def Spec (G:Gd) (k:Nat) (fv:V) (xs:List V) (P:V->Prop):Prop :=
  ∀ (A:Around) (g:Gh) (s:Shared) (f:Value) (vs:List Value) (Q:Value->Shared->Prop) (E:Value->Shared->Prop),
    Rm G k A s.heap->Ok G g s.heap->Rep g f fv->RepL g vs xs ->
    (∀ v x g' h' tk,P x->Ok G g' h'->Rep g' v x->Step G (λ _=>False) g s.heap g' h'->Q v (at_ s h' tk)) ->
    wpAny (model G.prog G.w) A (call f vs) Q E s
noncomputable def SpecIO (G:Gd) (k:Nat) (fv:V) (xs:List V) (ys:List V) (P:V->List V->Prop):Prop :=
  ∀ (A:Around) (g:Gh) (s:Shared) (f:Value) (a:Addr) (vs ws:List Value) (n:Nat) (Q:Value->Shared->Prop) (E:Value->Shared->Prop),
    Rm G k A s.heap->Ok G g s.heap->Rep g f fv->RepL g vs ys->s.heap.get? a=some (lsObj ws n)->RepL g ws xs->g a=none ->
    (∀ v x xs' ws' n' g' h' tk,P x xs'->Ok G g' h'->Rep g' v x->h'.get? a=some (lsObj ws' n')->RepL g' ws' xs'->g' a=none->Step G (λ b=>b=a) g s.heap g' h'->Q v (at_ s h' tk)) ->
    wpAny (model G.prog G.w) A (call f (.ref a :: vs)) Q E s
noncomputable def SpecO (G:Gd) (k:Nat) (fv:V) (xs:List V) (P:List V->Prop):Prop :=
  ∀ (A:Around) (g:Gh) (s:Shared) (f:Value) (vs:List Value) (Q:Value->Shared->Prop) (E:Value->Shared->Prop),
    Rm G k A s.heap->Ok G g s.heap->Rep g f fv->RepL g vs xs ->
    (∀ a ys ws n g' h' tk,P ys->Ok G g' h'->h'.get? a=some (lsObj ws n)->RepL g' ws ys->g' a=none->s.heap.get? a=none->Step G (λ _=>False) g s.heap g' h'->Q (.ref a) (at_ s h' tk)) ->
    wpAny (model G.prog G.w) A (call f vs) Q E s
end A1
noncomputable section A2
theorem Grow.isCell {h h':Heap} (x:Grow h h') {c:Addr} {v} (q:h.IsCell c v):h'.IsCell c v:=q.keeps x.kept
theorem Grow.ns {h h':Heap} (x:Grow h h') {a:Addr} {m} (q:h.Ns a m):h'.Ns a m:=q.keeps x.kept
theorem slotIs.grow {env:Env} {h h':Heap} {m x v} (y:Grow h h') (q:slotIs env h m x v):slotIs env h' m x v :=
  q.imp id λ z0=>z0.elim λ a z0=>z0.elim λ c z0=>z0.elim λ b d=>⟨a,c,b,y.isCell d⟩
theorem cellOk.map {env:Env} {g g':Gh} {h h':Heap} {m m':Str->Option Value} {β:List V} {x:Str} {c:Cell} (q:cellOk env g h m β x c) (k:GLe g g') (sl:∀ v,slotIs env h m x v->slotIs env h' m' x v) (ls:∀ a∈c.addrs,∀ vs n,h.get? a=some (lsObj vs n)->h'.get? a=some (lsObj vs n)):cellOk env g' h' m' β x c:=by
  cases c with
  | un=>exact sl _ q
  | val X=>exact q.imp λ v z=>⟨sl _ z.1,z.2.mono k⟩
  | ro X=>exact q.imp λ v z=>⟨sl _ z.1,z.2.mono k⟩
  | own a xs=>exact ⟨sl _ q.1,q.2.imp λ vs=>Exists.imp λ n z=>⟨ls a (.head _) vs n z.1,z.2.mono k⟩⟩
  | box a=>exact ⟨sl _ q.1,q.2.imp λ vs=>Exists.imp λ n z=>⟨ls a (.head _) vs n z.1,z.2.mono k⟩⟩
theorem cellOk.slot {env:Env} {g:Gh} {h:Heap} {m:Str->Option Value} {β:List V} {x:Str} {c:Cell} (q:cellOk env g h m β x c):∃ v,slotIs env h m x v:=by
  cases c with
  | un=>exact ⟨_,q⟩
  | val X=>exact q.elim λ v z=>⟨_,z.1⟩
  | ro X=>exact q.elim λ v z=>⟨_,z.1⟩
  | own a xs=>exact ⟨_,q.1⟩
  | box a=>exact ⟨_,q.1⟩
theorem cellOk.lst {env:Env} {g:Gh} {h:Heap} {m:Str->Option Value} {β:List V} {x:Str} {c:Cell} {b:Addr} (q:cellOk env g h m β x c) (ho:c.owns b):∃ vs n,h.get? b=some (lsObj vs n):=by
  cases c with
  | own a xs=>exact ho ▸ q.2.imp λ vs=>Exists.imp λ n z=>z.1
  | box a=>exact ho ▸ q.2.imp λ vs=>Exists.imp λ n z=>z.1
  | _=>exact ho.elim
theorem cellOk.beta {env:Env} {g:Gh} {h:Heap} {m:Str->Option Value} {β β':List V} {x:Str} {c:Cell} (q:cellOk env g h m β x c) (hb:∀ a,c≠.box a):cellOk env g h m β' x c:=by
  cases c with
  | box a=>exact absurd rfl (hb a)
  | _=>exact q
theorem cellOk.grow {env:Env} {g g':Gh} {h h':Heap} {m β x} (y:Grow h h') (k:GLe g g') {c:Cell} (q:cellOk env g h m β x c):cellOk env g' h' m β x c:=q.map k (λ _ s=>s.grow y) λ _ _ _ _=>y.kept _ _
theorem Inv.mut_in {G:Gd} {Φ:Fm} {env:Env} {ρ:Loc} {β:List V} {g:Gh} {h:Heap} (iv:Inv G Φ env ρ β g h) {b:Addr} (hb:Mut env ρ b):h.get? b≠none:=by
  obtain ⟨m,hn,hc⟩:=iv.ns
  rcases hb with rfl | ⟨⟨x,c⟩,hp,hm⟩
  . obtain ⟨o,_,_,e,_⟩:=hn; rw [e]; nofun
  . have q:=hc _ hp
    rcases hm with ⟨hr,hk,hl⟩ | ho
    . have:∀ {v},slotIs env h m x v->h.get? b≠none:=λ s=>by
        rcases s with ⟨a,_⟩ | ⟨_,c',hc',hv⟩
        . exact absurd a hk
        . rw [hl] at hc'; cases hc'; obtain ⟨o,e,_⟩:=hv; rw [e]; nofun
      exact q.slot.elim λ _ s=>this s
    . exact (q.lst ho).elim λ vs z=>z.elim λ n e=>by rw [e]; nofun
structure Ext (G:Gd) (g:Gh) (h:Heap) (g':Gh) (h':Heap):Prop where
  ok:Ok G g' h'
  gle:GLe g g'
  grow:Grow h h'
  fresh:∀ b o,g' b=some o->g b=some o\/h.get? b=none
theorem Ext.same {G:Gd} {g:Gh} {h:Heap} (o:Ok G g h):Ext G g h g h:=⟨o,λ _ _ e=>e,Grow.refl h,λ _ _ e=>.inl e⟩
theorem Ext.grown {G:Gd} {g:Gh} {h h':Heap} (o:Ok G g h) (x:Grow h h'):Ext G g h g h':=⟨o.grow x,λ _ _ e=>e,x,λ _ _ e=>.inl e⟩
theorem Ext.learn {G:Gd} {g g1:Gh} {h h1:Heap} (x:Ext G g h g1 h1) {a:Addr} {o:Obj} (hn:h.get? a=none) (hg:g1 a=none) (ha:h1.get? a=some o) (ht:∀ ps,o≠tabObj ps:=by nofun):Ext G g h (gset g1 a o) h1 :=
  ⟨x.ok.learn hg ha ht,λ b ob e=>gset_le (.inl hg) b ob (x.gle b ob e),x.grow,λ b ob e=>by
    by_cases q:b=a
    . subst q; exact .inr hn
    . rw [gset_ne q] at e; exact x.fresh b ob e⟩
theorem Ext.alloc {G:Gd} {g:Gh} {h:Heap} (o:Ok G g h) (ob:Obj) (hf:ob.isFreed=false:=by rfl) (ht:∀ ps,ob≠tabObj ps:=by nofun):Ext G g h (gset g h.objs.size ob) (h.push ob) :=
  (Ext.grown o (Grow.push h ob)).learn (get?_size h) (o.new (get?_size h)) (Heap.get?_push_size _ hf) ht
theorem Ext.trans {G:Gd} {g g1 g2:Gh} {h h1 h2:Heap} (a:Ext G g h g1 h1) (b:Ext G g1 h1 g2 h2):Ext G g h g2 h2 :=
  ⟨b.ok,λ x o e=>b.gle x o (a.gle x o e),a.grow.trans b.grow,λ x o e=>by
    rcases b.fresh x o e with q | q
    . exact a.fresh x o q
    . exact .inr (a.grow.old q)⟩
theorem Ext.step {G:Gd} {X:Addr->Prop} {g g1:Gh} {h h1:Heap} (a:Ext G g h g1 h1):Step G X g h g1 h1 :=
  ⟨a.gle,λ b o _ _ e=>a.grow.kept b o e,λ b o e=>(a.fresh b o e).imp id .inl,λ b o e n=>⟨o,a.grow.kept b o e,n⟩⟩
theorem Ext.inv {G:Gd} {Φ:Fm} {env:Env} {ρ:Loc} {β:List V} {g g':Gh} {h h':Heap} (iv:Inv G Φ env ρ β g h) (x:Ext G g h g' h'):Inv G Φ env ρ β g' h' where
  ok:=x.ok
  ns:=let ⟨m,a,b⟩:=iv.ns; ⟨m,x.grow.ns a,λ p hp=>(b p hp).grow x.grow x.gle⟩
  off:=λ b hb=>by
    cases e:g' b with
    | none=>rfl
    | some o => rcases x.fresh b o e with q | q
                . rw [iv.off b hb] at q; cases q
                . exact absurd q (iv.mut_in hb)
  keys:=iv.keys
  apart:=iv.apart
noncomputable def OpOk (G:Gd) (op:Operator) (a b c:V):Prop :=
  ∀ (A:Around) (g:Gh) (s:Shared) (u v:Value) (Q:Value->Shared->Prop) (E:Value->Shared->Prop),
    A.handled=none->A.units + 500 < cLine->Ok G g s.heap->Rep g u a->Rep g v b ->
    (∀ r g' h' tk,Ext G g s.heap g' h'->Rep g' r c->Q r (at_ s h' tk))->wpAny (model G.prog G.w) A (binaryOp op u v) Q E s
noncomputable def CmpOk (G:Gd) (op:CmpOp) (a b:V) (c:Bool):Prop :=
  ∀ (A:Around) (g:Gh) (s:Shared) (u v:Value) (Q:Value->Shared->Prop) (E:Value->Shared->Prop),
    A.handled=none->A.units + 500 < cLine->Ok G g s.heap->Rep g u a->Rep g v b ->
    (∀ g' h' tk,Ext G g s.heap g' h'->Q (.bool c) (at_ s h' tk))->wpAny (model G.prog G.w) A (compareOp op u v) Q E s
theorem Rep.int_inv {g:Gh} {v:Value} {i:Int} (r:Rep g v (.int i)):∃ t,v=.int i t:=by cases r; exact ⟨_,rfl⟩
theorem Rep.bool_inv {g:Gh} {v:Value} {i:Bool} (r:Rep g v (.bool i)):v=.bool i:=by cases r; rfl
theorem Rep.none_inv {g:Gh} {v:Value} (r:Rep g v .none):v=.none:=by cases r; rfl
theorem Rep.list_inv {g:Gh} {v:Value} {xs} (r:Rep g v (.list xs)):∃ a vs n,v=.ref a/\g a=some (lsObj vs n)/\RepL g vs xs:=by cases r with | list a b=>exact ⟨_,_,_,rfl,a,b⟩
theorem Rep.tup_inv {g:Gh} {v:Value} {xs} (r:Rep g v (.tup xs)):∃ a vs n,v=.ref a/\g a=some (tpObj vs n)/\RepL g vs xs:=by cases r with | tup a b=>exact ⟨_,_,_,rfl,a,b⟩
@[elab_as_elim] theorem Rep.int_e {g:Gh} {v:Value} {i:Int} {Q:Value->Prop} (r:Rep g v (.int i)) (k:∀ t,Q (.int i t)):Q v:=r.int_inv.elim λ t e=>e ▸ k t
@[elab_as_elim] theorem Rep.bool_e {g:Gh} {v:Value} {i:Bool} {Q:Value->Prop} (r:Rep g v (.bool i)) (k:Q (.bool i)):Q v:=r.bool_inv ▸ k
@[elab_as_elim] theorem Rep.none_e {g:Gh} {v:Value} {Q:Value->Prop} (r:Rep g v .none) (k:Q .none):Q v:=r.none_inv ▸ k
@[elab_as_elim] theorem Rep.list_e {g:Gh} {v:Value} {xs:List V} {Q:Value->Prop} (r:Rep g v (.list xs)) (k:∀ a vs n,g a=some (lsObj vs n)->RepL g vs xs->Q (.ref a)):Q v:=r.list_inv.elim λ a z=>z.elim λ vs z=>z.elim λ n z=>z.1 ▸ k a vs n z.2.1 z.2.2
@[elab_as_elim] theorem Rep.tup_e {g:Gh} {v:Value} {xs:List V} {Q:Value->Prop} (r:Rep g v (.tup xs)) (k:∀ a vs n,g a=some (tpObj vs n)->RepL g vs xs->Q (.ref a)):Q v:=r.tup_inv.elim λ a z=>z.elim λ vs z=>z.elim λ n z=>z.1 ▸ k a vs n z.2.1 z.2.2
@[elab_as_elim] theorem Rep.int_q {g:Gh} {v:Value} {x:V} {i:Int} {Q:Value->Prop} (e:x=.int i) (r:Rep g v x) (k:∀ t,Q (.int i t)):Q v:=by subst e; exact Rep.int_e r k
@[elab_as_elim] theorem Rep.bool_q {g:Gh} {v:Value} {x:V} {i:Bool} {Q:Value->Prop} (e:x=.bool i) (r:Rep g v x) (k:Q (.bool i)):Q v:=by subst e; exact Rep.bool_e r k
@[elab_as_elim] theorem Rep.none_q {g:Gh} {v:Value} {x:V} {Q:Value->Prop} (e:x=.none) (r:Rep g v x) (k:Q .none):Q v:=by subst e; exact Rep.none_e r k
@[elab_as_elim] theorem Rep.list_q {g:Gh} {v:Value} {x:V} {xs:List V} {Q:Value->Prop} (e:x=.list xs) (r:Rep g v x) (k:∀ a vs n,g a=some (lsObj vs n)->RepL g vs xs->Q (.ref a)):Q v:=by subst e; exact Rep.list_e r k
@[elab_as_elim] theorem Rep.tup_q {g:Gh} {v:Value} {x:V} {xs:List V} {Q:Value->Prop} (e:x=.tup xs) (r:Rep g v x) (k:∀ a vs n,g a=some (tpObj vs n)->RepL g vs xs->Q (.ref a)):Q v:=by subst e; exact Rep.tup_e r k
theorem OpOk.of_int {G:Gd} {op:Operator} {i j r:Int}
    (h:∀ (A:Around) (s:Shared) (t u:Tok) (Q:Value->Shared->Prop) (E:Value->Shared->Prop),A.handled=none->A.units + 500 < cLine->Q (.int r s.toks) { s with toks:=s.toks + 1 }->wpAny (model G.prog G.w) A (binaryOp op (.int i t) (.int j u)) Q E s) :
    OpOk G op (.int i) (.int j) (.int r):=λ A g s u v Q E hA hu ok ra rb k=>by
  refine Rep.int_e ra λ t=>?_
  refine Rep.int_e rb λ t'=>?_
  exact h A s t t' Q E hA hu (k _ g s.heap _ (.same ok) (.int _ _))
theorem op_add (G:Gd) (i j:Int):OpOk G .Add (.int i) (.int j) (.int (i + j)):=.of_int λ _ _ _ _ _ _ _ _ h=>add_int h
theorem op_sub (G:Gd) (i j:Int):OpOk G .Sub (.int i) (.int j) (.int (i - j)):=.of_int λ _ _ _ _ _ _ _ _ h=>PyProof.Rows.sub_int h
theorem bits_le_of {a:Int} {n:Nat} (h:a.natAbs < 2 ^ n):Builtin.Int.intBits a<=n:=by
  unfold Builtin.Int.intBits
  split
  . omega
  . rename_i hz
    have:=(Nat.log2_lt (by simpa using hz)).mpr h
    omega
theorem mulOk_of {a b:Int} (ha:a.natAbs < 2 ^ 1000) (hb:b.natAbs < 2 ^ 1000):IntMulOk a b:=by
  have h1:=bits_le_of ha
  have h2:=bits_le_of hb
  unfold IntMulOk
  have:Builtin.Int.intTooBig ((Builtin.Int.intBits a:Int) + (Builtin.Int.intBits b:Int))=false:=by
    unfold Builtin.Int.intTooBig bitsLine
    simp only [decide_eq_false_iff_not]
    omega
  rw [this]; simp
theorem op_mul (G:Gd) (i j:Int) (hi:i.natAbs < 2 ^ 1000) (hj:j.natAbs < 2 ^ 1000):OpOk G .Mult (.int i) (.int j) (.int (i * j)):=.of_int λ _ _ _ _ _ _ _ _ h=>PyProof.Rows.mul_int h (mulOk_of hi hj)
theorem op_mod (G:Gd) (i j:Int) (hj:0 < j):OpOk G .Mod (.int i) (.int j) (.int (i % j)):=.of_int λ _ _ _ _ _ _ _ _ h=>mod_int' (by omega) (by rw [Int.fmod_eq_emod_of_nonneg _ (by omega)]; exact h)
theorem noPylong {i j:Int} (hj:j.natAbs < 2 ^ 1000):Builtin.divisionGoesByPylong i j=false:=by
  unfold Builtin.divisionGoesByPylong
  simp only [Bool.and_eq_false_iff]
  left
  simp only [decide_eq_false_iff_not]
  split
  . omega
  . rename_i hz
    have:=(Nat.log2_lt (by simpa using hz)).mpr hj
    omega
theorem op_div (G:Gd) (i j:Int) (hj:0 < j) (hs:j.natAbs < 2 ^ 1000):OpOk G .FloorDiv (.int i) (.int j) (.int (i / j)) :=
  .of_int λ _ _ _ _ _ _ _ _ h=>PyProof.Rows.floordiv_int (by omega) (by rw [Int.fdiv_eq_ediv_of_nonneg _ (by omega)]; exact h) (.inl (noPylong hs))
theorem op_shl (G:Gd) (i j:Int) (hj:0<=j) (hj2:j<=100000) (hi:i.natAbs < 2 ^ 64):OpOk G .LShift (.int i) (.int j) (.int (i * 2 ^ j.toNat)):=.of_int λ _ _ _ _ _ _ _ _ h=>lshift_int_small hj (by omega) hi h
theorem op_pow (G:Gd) (i j:Int) (hj:0<=j) (hj2:j<=100000) (hi:i.natAbs < 2 ^ 64):OpOk G .Pow (.int i) (.int j) (.int (i ^ j.toNat)):=.of_int λ _ _ _ _ _ _ _ _ h=>pow_int_small hj (by omega) hi h
theorem op_shr (G:Gd) (i j:Int) (hj:0<=j):OpOk G .RShift (.int i) (.int j) (.int (i / 2 ^ j.toNat)) :=
  .of_int λ _ _ _ _ _ _ _ _ h=>PyProof.Rows.rshift_int hj (by rw [Int.fdiv_eq_ediv_of_nonneg _ (Int.le_of_lt (Int.pow_pos (by omega)))]; exact h)
theorem op_and (G:Gd) (i j:Int):OpOk G .BitAnd (.int i) (.int j) (.int (Builtin.bitAnd i j)):=.of_int λ _ _ _ _ _ _ _ _ h=>PyProof.Rows.and_int h
theorem op_or (G:Gd) (i j:Int):OpOk G .BitOr (.int i) (.int j) (.int (Builtin.bitOr i j)):=.of_int λ _ _ _ _ _ _ _ _ h=>PyProof.Rows.or_int h
theorem CmpOk.of_int {G:Gd} {op:CmpOp} {i j:Int} {r:Bool}
    (h:∀ (A:Around) (s:Shared) (t u:Tok) (Q:Value->Shared->Prop) (E:Value->Shared->Prop),Q (.bool r) s->wpAny (model G.prog G.w) A (compareOp op (.int i t) (.int j u)) Q E s) :
    CmpOk G op (.int i) (.int j) r:=λ A g s u v Q E _ _ ok ra rb k=>by
  refine Rep.int_e ra λ t=>?_
  refine Rep.int_e rb λ t'=>?_
  exact h A s t t' Q E (k g s.heap s.toks (.same ok))
theorem cmp_eq (G:Gd) (i j:Int):CmpOk G .Eq (.int i) (.int j) (decide (i=j)):=.of_int λ _ _ _ _ _ _ h=>PyProof.Rows.eq_int h
theorem cmp_ne (G:Gd) (i j:Int):CmpOk G .NotEq (.int i) (.int j) (decide (i≠j)):=.of_int λ _ _ _ _ _ _ h=>PyProof.Rows.ne_int (by rw [show (i != j)=decide (i≠j) from by by_cases q:i=j <;> simp [q]]; exact h)
theorem cmp_lt (G:Gd) (i j:Int):CmpOk G .Lt (.int i) (.int j) (decide (i < j)):=.of_int λ _ _ _ _ _ _ h=>PyProof.Rows.lt_int h
theorem cmp_le (G:Gd) (i j:Int):CmpOk G .LtE (.int i) (.int j) (decide (i<=j)):=.of_int λ _ _ _ _ _ _ h=>PyProof.Rows.le_int h
theorem cmp_gt (G:Gd) (i j:Int):CmpOk G .Gt (.int i) (.int j) (decide (j < i)):=.of_int λ _ _ _ _ _ _ h=>PyProof.Rows.gt_int h
theorem cmp_ge (G:Gd) (i j:Int):CmpOk G .GtE (.int i) (.int j) (decide (j<=i)):=.of_int λ _ _ _ _ _ _ h=>PyProof.Rows.ge_int h
theorem cmp_eqb (G:Gd) (c d:Bool):CmpOk G .Eq (.bool c) (.bool d) (c == d):=λ A g s u v Q E _ _ ok ra rb k=>by
  refine Rep.bool_e ra ?_; refine Rep.bool_e rb ?_; exact PyProof.Rows.eq_bool (k g s.heap s.toks (.same ok))
theorem cmp_neb (G:Gd) (c d:Bool):CmpOk G .NotEq (.bool c) (.bool d) (c != d):=λ A g s u v Q E _ _ ok ra rb k=>by
  refine Rep.bool_e ra ?_; refine Rep.bool_e rb ?_; exact PyProof.Rows.ne_bool (k g s.heap s.toks (.same ok))
theorem cmp_ne_none_int (G:Gd) (i:Int):CmpOk G .NotEq .none (.int i) true:=λ A g s u v Q E _ _ ok ra rb k=>by
  refine Rep.none_e ra ?_; refine Rep.int_e rb λ t=>?_; exact PySem.EqNone.ne_none_int (k g s.heap s.toks (.same ok))
theorem cmp_ne_int_none (G:Gd) (i:Int):CmpOk G .NotEq (.int i) .none true:=λ A g s u v Q E _ _ ok ra rb k=>by
  refine Rep.none_e rb ?_; refine Rep.int_e ra λ t=>?_; exact PySem.EqNone.ne_int_none (k g s.heap s.toks (.same ok))
theorem cmp_ne_none_none (G:Gd):CmpOk G .NotEq .none .none false:=λ A g s u v Q E _ _ ok ra rb k=>by
  refine Rep.none_e ra ?_; refine Rep.none_e rb ?_; exact PySem.EqNone.ne_none_none (k g s.heap s.toks (.same ok))
noncomputable def V.isNone:V->Bool
  | .none=>true
  | _=>false
theorem Rep.isNone {g:Gh} {v:Value} {x:V} (r:Rep g v x):(v == .none)=x.isNone:=by cases r <;> rfl
theorem cmp_is (G:Gd) (x:V):CmpOk G .Is x .none x.isNone:=λ A g s u v Q E _ _ ok ra rb k=>by
  refine Rep.none_e rb ?_; exact is_none_gen (by rw [ra.isNone]; exact k g s.heap s.toks (.same ok))
theorem cmp_isnot (G:Gd) (x:V):CmpOk G .IsNot x .none (!x.isNone):=λ A g s u v Q E _ _ ok ra rb k=>by
  refine Rep.none_e rb ?_; exact isnot_none_gen (by rw [ra.isNone]; exact k g s.heap s.toks (.same ok))
noncomputable abbrev IL (xs:List Int):V:=.list (xs.map .int)
theorem RepL.ints_inv {g:Gh} {vs:List Value} {xs:List Int} (r:RepL g vs (xs.map .int)):IntsAre vs xs:=by
  induction xs generalizing vs with
  | nil=>cases r; exact .nil
  | cons x xs ih=>cases r with
    | cons h r=>exact Rep.int_e h λ t=>.cons _ _ (ih r)
theorem Ok.isL {G:Gd} {g:Gh} {h:Heap} (o:Ok G g h) {a vs n} (e:g a=some (lsObj vs n)):h.IsList a vs.toArray:=⟨_,o.sub _ _ e,rfl,n,rfl⟩
theorem Ok.isT {G:Gd} {g:Gh} {h:Heap} (o:Ok G g h) {a vs n} (e:g a=some (tpObj vs n)):h.IsTuple a vs.toArray:=⟨_,o.sub _ _ e,rfl,n,rfl⟩
theorem cmp_eql (G:Gd) (xs ys:List Int):CmpOk G .Eq (IL xs) (IL ys) (decide (xs=ys)):=λ A g s u v Q E _ hu ok ra rb k=>by
  refine hid λ _ uQ=>?_
  obtain ⟨a,vs,n,rfl,ea,la⟩:=ra.list_inv
  obtain ⟨b,us,n',rfl,eb,lb⟩:=rb.list_inv
  refine uQ ?_
  exact eq_intsK (ok.isL ea) la.ints_inv (ok.isL eb) lb.ints_inv (by omega) (k g s.heap s.toks (.same ok))
theorem cmp_nel (G:Gd) (xs ys:List Int):CmpOk G .NotEq (IL xs) (IL ys) (decide (xs≠ys)):=λ A g s u v Q E _ hu ok ra rb k=>by
  refine hid λ _ uQ=>?_
  obtain ⟨a,vs,n,rfl,ea,la⟩:=ra.list_inv
  obtain ⟨b,us,n',rfl,eb,lb⟩:=rb.list_inv
  refine uQ ?_
  exact ne_intsK (ok.isL ea) la.ints_inv (ok.isL eb) lb.ints_inv (by omega) (by rw [show (!decide (xs=ys))=decide (xs≠ys) from by simp]; exact k g s.heap s.toks (.same ok))
theorem reads_IL {G:Gd} {g:Gh} {h:Heap} (o:Ok G g h) {v:Value} {xs:List Int} (r:Rep g v (IL xs)):∃ a,Reads h v (.list (xs.map .int)) a:=by
  refine Rep.list_e r λ a vs n ea la=>?_
  exact ⟨_,reads_of_ints (o.isL ea) la.ints_inv⟩
theorem reads_ILs {G:Gd} {g:Gh} {h:Heap} (o:Ok G g h) {vs:List Value} {xss:List (List Int)} (r:RepL g vs (xss.map IL)):∃ as,ReadsAll h vs (xss.map λ xs=>PyData.list (xs.map .int)) as:=by
  induction xss generalizing vs with
  | nil=>cases r; exact ⟨_,.nil⟩
  | cons x xs ih=>cases r with
    | cons q r=>exact (reads_IL o q).elim λ a ha=>(ih r).elim λ as has=>⟨_,.cons ha has⟩
theorem canLayAll0_lists:∀ xss:List (List Int),PyData.canLayAll0 (xss.map λ xs=>PyData.list (xs.map .int))=true
  | []=>by simp [PyData.canLayAll0]
  | n :: r=>by simp [PyData.canLayAll0,PyData.canLay0,canLayAll0_lists r,canLayAll0_ints n]
theorem depth_IL (xs:List Int):PyData.depth (.list (xs.map .int))<=2:=by
  have h1:=PySem.W.depthAll_ints xs
  simp only [PyData.depth]; omega
theorem any_lists (xs:List Int) (yss:List (List Int)):(yss.map λ ys=>PyData.list (ys.map .int)).any (λ y=>PyData.eqv y (.list (xs.map .int)))=decide (xs∈yss):=by
  induction yss with
  | nil=>rfl
  | cons ys r ih =>
    rw [List.map_cons,List.any_cons,ih,<- same_eq_eqv _ _ (by simp only [noMix]; exact noMix_ints ys xs)]
    simp only [PySem.Spec.same]
    rw [same_ints]
    by_cases h:xs=ys
    . simp [h]
    . have h':¬ ys=xs:=λ e=>h e.symm
      simp [h,h']
theorem cmp_in_lists (G:Gd) (xs:List Int) (yss:List (List Int)):CmpOk G .In (IL xs) (.list (yss.map IL)) (decide (xs∈yss)):=λ A g s u v Q E _ hu ok ra rb k=>by
  refine Rep.list_e rb λ b us n' eb lb=>?_
  obtain ⟨as,hx⟩:=reads_IL ok ra
  obtain ⟨bs,hc⟩:=reads_ILs ok lb
  have hd:=depth_IL xs
  exact in_list_reads (.list (ok.sub _ _ eb) rfl rfl (by simpa using hc)) hx (canLayAll0_lists _) (by simp only [PyData.canLay0]; exact canLayAll0_ints xs)
    (by have:min (PyData.depthAll (yss.map λ xs=>PyData.list (xs.map .int))) (PyData.depth (.list (xs.map .int)))<=2:=Nat.le_trans (Nat.min_le_right _ _) hd
        omega) (by rw [any_lists]; exact k g s.heap s.toks (.same ok))
theorem cmp_in_tlists (G:Gd) (xs:List Int) (yss:List (List Int)):CmpOk G .In (IL xs) (.tup (yss.map IL)) (decide (xs∈yss)):=λ A g s u v Q E _ hu ok ra rb k=>by
  refine Rep.tup_e rb λ b us n' eb lb=>?_
  obtain ⟨as,hx⟩:=reads_IL ok ra
  obtain ⟨bs,hc⟩:=reads_ILs ok lb
  have hd:=depth_IL xs
  exact in_tuple_reads (.tuple (ok.sub _ _ eb) rfl rfl (by simpa using hc)) hx (canLayAll0_lists _) (by simp only [PyData.canLay0]; exact canLayAll0_ints xs)
    (by have:min (PyData.depthAll (yss.map λ xs=>PyData.list (xs.map .int))) (PyData.depth (.list (xs.map .int)))<=2:=Nat.le_trans (Nat.min_le_right _ _) hd
        omega) (by rw [any_lists]; exact k g s.heap s.toks (.same ok))
theorem any_ints (x:Int) (ys:List Int):(ys.map PyData.int).any (λ y=>PyData.eqv y (.int x))=decide (x∈ys):=by
  induction ys with
  | nil=>rfl
  | cons y r ih =>
    rw [List.map_cons,List.any_cons,ih,<- same_eq_eqv _ _ (by rfl)]
    by_cases h:x=y
    . subst h; simp [PySem.Spec.same]
    . have h':¬ y=x:=λ e=>h e.symm
      have e1:(y == x)=false:=beq_eq_false_iff_ne.mpr h'
      simp only [PySem.Spec.same,List.mem_cons,h,false_or,e1,Bool.false_or]
theorem cmp_in_tints (G:Gd) (x:Int) (ys:List Int):CmpOk G .In (.int x) (.tup (ys.map .int)) (decide (x∈ys)):=λ A g s u v Q E _ hu ok ra rb k=>by
  refine Rep.tup_e rb λ b us n' eb lb=>?_
  refine Rep.int_e ra λ t=>?_
  exact in_tuple_reads (.tuple (ok.sub _ _ eb) rfl rfl (by simpa using readsAll_of_ints lb.ints_inv)) (.int x t) (canLayAll0_ints _) (by simp [PyData.canLay0])
    (by have:min (PyData.depthAll (ys.map PyData.int)) (PyData.depth (.int x))<=1:=Nat.le_trans (Nat.min_le_left _ _) (PySem.W.depthAll_ints ys)
        omega) (by rw [any_ints]; exact k g s.heap s.toks (.same ok))
end A2
noncomputable section A3
section
variable {G:Gd} {Φ:Fm} {k:Nat} {ρ:Loc} {β:List V}
theorem WE.mono {e:Expr} {K K':V->List V->Prop} (h:WE G Φ k e ρ β K) (hK:∀ x β',K x β'->K' x β'):WE G Φ k e ρ β K' :=
  λ A env g s Q E rm eo iv kk=>h A env g s Q E rm eo iv λ v x β' g' h' tk hk=>kk v x β' g' h' tk (hK x β' hk)
theorem WE_int {i:Int} {n pos K} (h:K (.int i) β):WE G Φ k (.Constant (.int i) n pos) ρ β K :=
  λ A env g s Q E rm eo iv kk=>wpAny_Constant_int (kk _ _ _ _ _ _ h iv (.int _ _) (.refl ..))
theorem WE_bool {i:Bool} {n pos K} (h:K (.bool i) β):WE G Φ k (.Constant (.bool i) n pos) ρ β K :=
  λ A env g s Q E rm eo iv kk=>Constant_bool (kk _ _ _ _ _ s.toks h iv (.bool _) (.refl ..))
theorem WE_none {n pos K} (h:K .none β):WE G Φ k (.Constant .none n pos) ρ β K :=
  λ A env g s Q E rm eo iv kk=>Constant_none (kk _ _ _ _ _ s.toks h iv .none (.refl ..))
theorem mem_names {env:Env} {x:Str} {kd:NameKind} (h:env.kindOf x=some kd):(x,kd)∈env.scope.names:=mem_of_lookup h
theorem EnvOk.dbg {env:Env} (eo:EnvOk Φ env) {x:Str} {kd:NameKind} (h:env.kindOf x=some kd):(x == ("__debug__" : Str))=false/\(x == ("__classdict__" : Str))=false :=
  let q:=eo.nodbg _ (mem_names h); ⟨beq_eq_false_iff_ne.mpr q.1,beq_eq_false_iff_ne.mpr q.2⟩
theorem lookup_of_nodup {α:Type} {l:List (Str × α)} {x:Str} {c:α} (hn:(l.map (·.1)).Nodup) (h:(x,c)∈l):l.lookup x=some c:=by
  induction l with
  | nil=>cases h
  | cons p r ih =>
    rw [List.map_cons,List.nodup_cons] at hn
    rw [List.lookup_cons]
    rcases List.mem_cons.mp h with e | h
    . rw [<- e,beq_self_eq_true]
    . have:x≠p.1:=λ q=>hn.1 (by rw [<- q]; exact List.mem_map_of_mem (f:=(·.1)) h)
      rw [beq_eq_false_iff_ne.mpr this]; exact ih hn.2 h
theorem EnvOk.glob {env:Env} (eo:EnvOk Φ env) {x:Str} {kd:NameKind} (h:(x,kd)∈Φ.scope.names):env.kindOf x=some kd :=
  lookup_of_nodup eo.names (by rw [eo.scope]; exact h)
theorem Inv.key {env:Env} {g:Gh} {h:Heap} (iv:Inv G Φ env ρ β g h) {x:Str} {c:Cell} (hm:(x,c)∈ρ):x∈Φ.keys:=by
  rw [<- iv.keys]; exact List.mem_map_of_mem (f:=(·.1)) hm
theorem load_slot {M:Model} {A:Around} {env:Env} {s:Shared} {Q:Value->Shared->Prop} {E:Value->Shared->Prop} (eo:EnvOk Φ env) {x:Str} (hk:x∈Φ.keys) {m:Str->Option Value} {v:Value} (hn:s.heap.Ns env.locals m)
    (hs:slotIs env s.heap m x (some v)) (h:Q v s):wpAny M A (loadName env x) Q E s:=by
  rcases hs with ⟨hl,hv⟩ | ⟨hl,c,hc,hv⟩
  . exact wpAny_loadName_local eo.fn hl hn hv h
  . rcases eo.kinds x hk with q | ⟨q | q,_⟩
    . exact absurd q hl
    . exact wpAny_loadName_cell eo.fn q hc hv h
    . exact wpAny_loadName_free eo.fn q hc hv h (eo.dbg q).2
theorem EnvOk.dbgk {env:Env} (eo:EnvOk Φ env) {x:Str} (hk:x∈Φ.keys):(x == ("__debug__" : Str))=false:=by
  rcases eo.kinds x hk with q | ⟨q | q,_⟩ <;> exact (eo.dbg q).1
theorem Inv.cell {env:Env} {g:Gh} {h:Heap} (iv:Inv G Φ env ρ β g h):∃ m,h.Ns env.locals m/\∀ {x c},(x,c)∈ρ->cellOk env g h m β x c :=
  let ⟨m,a,b⟩:=iv.ns; ⟨m,a,λ hm=>b _ hm⟩
theorem load_val {M:Model} {A:Around} {env:Env} {g:Gh} {s:Shared} {Q:Value->Shared->Prop} {E:Value->Shared->Prop} (eo:EnvOk Φ env) (iv:Inv G Φ env ρ β g s.heap) {x:Str} {X:V} (hm:(x,.val X)∈ρ\/(x,.ro X)∈ρ)
    (h:∀ v,Rep g v X->Q v s):wpAny M A (loadName env x) Q E s:=by
  obtain ⟨m,hn,hc⟩:=iv.cell
  rcases hm with hm | hm <;> obtain ⟨v,hs,hr⟩:=hc hm <;> exact load_slot eo (iv.key hm) hn hs (h v hr)
theorem load_own {M:Model} {A:Around} {env:Env} {g:Gh} {s:Shared} {Q:Value->Shared->Prop} {E:Value->Shared->Prop} (eo:EnvOk Φ env) (iv:Inv G Φ env ρ β g s.heap) {x:Str} {a:Addr} {xs:List V} (hm:(x,.own a xs)∈ρ)
    (h:Q (.ref a) s):wpAny M A (loadName env x) Q E s:=by
  obtain ⟨m,hn,hc⟩:=iv.cell
  exact load_slot eo (iv.key hm) hn (hc hm).1 h
theorem load_box {M:Model} {A:Around} {env:Env} {g:Gh} {s:Shared} {Q:Value->Shared->Prop} {E:Value->Shared->Prop} (eo:EnvOk Φ env) (iv:Inv G Φ env ρ β g s.heap) {x:Str} {a:Addr} (hm:(x,.box a)∈ρ)
    (h:Q (.ref a) s):wpAny M A (loadName env x) Q E s:=by
  obtain ⟨m,hn,hc⟩:=iv.cell
  exact load_slot eo (iv.key hm) hn (hc hm).1 h
theorem WE_name {x:Str} {X:V} {pos K} (hm:(x,.val X)∈ρ) (h:K X β):WE G Φ k (.Name x pos) ρ β K :=
  λ A env g s Q E rm eo iv kk=>wpAny_Name (load_val eo iv (.inl hm) λ v r=>kk v X β g s.heap s.toks h iv r (.refl ..)) (eo.dbgk (iv.key hm))
theorem WE_ro {x:Str} {X:V} {pos K} (hm:(x,.ro X)∈ρ) (h:K X β):WE G Φ k (.Name x pos) ρ β K :=
  λ A env g s Q E rm eo iv kk=>wpAny_Name (load_val eo iv (.inr hm) λ v r=>kk v X β g s.heap s.toks h iv r (.refl ..)) (eo.dbgk (iv.key hm))
theorem Ok.ns {g:Gh} {h:Heap} (o:Ok G g h):h.Ns mainGlobals G.mg:=G.ng.keeps λ b ob e=>o.sub b ob (o.gnd b ob e)
theorem Ok.nsb {g:Gh} {h:Heap} (o:Ok G g h):h.Ns builtinsNs G.mb:=G.nb.keeps λ b ob e=>o.sub b ob (o.gnd b ob e)
theorem load_glob {M:Model} {A:Around} {env:Env} {g:Gh} {s:Shared} {Q:Value->Shared->Prop} {E:Value->Shared->Prop} {pos} (eo:EnvOk Φ env) (ok:Ok G g s.heap) {x:Str} {v:Value} (hx:(x,NameKind.globalImplicit)∈Φ.scope.names) (hv:G.mg x=some v)
    (h:Q v s):wpAny M A (eval (.Name x pos) env) Q E s :=
  Name_function_global eo.fn (eo.glob hx) (loadGlobal_global (by rw [eo.globals]; exact ok.ns) hv h) (eo.dbg (eo.glob hx)).1
theorem load_blt {M:Model} {A:Around} {env:Env} {g:Gh} {s:Shared} {Q:Value->Shared->Prop} {E:Value->Shared->Prop} {pos} (eo:EnvOk Φ env) (ok:Ok G g s.heap) {x:Str} {v:Value} (hx:(x,NameKind.globalImplicit)∈Φ.scope.names) (hv:G.mg x=none/\G.mb x=some v)
    (h:Q v s):wpAny M A (eval (.Name x pos) env) Q E s :=
  Name_function_global eo.fn (eo.glob hx) (loadGlobal_builtin (by rw [eo.globals]; exact ok.ns) hv.1 (by rw [eo.builtins]; exact ok.nsb) hv.2 h) (eo.dbg (eo.glob hx)).1
theorem WE_globfn {x:Str} {a:Addr} {pos K} (hv:G.mg x=some (.ref a)) (hx:(x,NameKind.globalImplicit)∈Φ.scope.names) (h:K (.fn a) β):WE G Φ k (.Name x pos) ρ β K :=
  λ A env g s Q E rm eo iv kk=>load_glob eo iv.ok hx hv (kk _ _ _ _ _ s.toks h iv (.fn a) (.refl ..))
theorem WE_globint {x:Str} {i:Int} {t:Tok} {pos K} (hv:G.mg x=some (.int i t)) (hx:(x,NameKind.globalImplicit)∈Φ.scope.names) (h:K (.int i) β):WE G Φ k (.Name x pos) ρ β K :=
  λ A env g s Q E rm eo iv kk=>load_glob eo iv.ok hx hv (kk _ _ _ _ _ s.toks h iv (.int i t) (.refl ..))
theorem WE_bin {l r:Expr} {op pos K} (h:WE G Φ k l ρ β λ a β1=>WE G Φ k r ρ β1 λ b β2=>∃ c,OpOk G op a b c/\K c β2):WE G Φ k (.BinOp l op r pos) ρ β K :=
  λ A env g s Q E rm eo iv kk=>wpAny_BinOp (h A env g s _ E rm eo iv λ va a β1 g1 h1 tk1 hr iv1 ra st1 =>
    hr A env g1 _ _ E (rm.step st1) eo iv1 λ vb b β2 g2 h2 tk2 z0 iv2 rb st2=>z0.elim λ c z0=>z0.elim λ hop hk =>
      hop A g2 _ va vb Q E rm.hd (by have:=rm.units; omega) iv2.ok (ra.mono st2.gle) rb λ rv g3 h3 tk3 x rr =>
        kk rv c β2 g3 h3 tk3 hk (x.inv iv2) rr ((st1.trans' st2).trans' x.step))
theorem WE_neg {e:Expr} {pos K} (h:WE G Φ k e ρ β λ a β1=>∃ i,a=.int i/\K (.int (-i)) β1):WE G Φ k (.UnaryOp .USub e pos) ρ β K :=
  λ A env g s Q E rm eo iv kk=>UnaryOp_ (h A env g s _ E rm eo iv λ va a β1 g1 h1 tk1 z0 iv1 ra st1=>z0.elim λ i z0=>z0.elim λ hi hk=>by
    refine Rep.int_q hi ra λ t=>?_
    exact PyProof.Rows.neg_int (kk _ _ β1 g1 h1 (tk1 + 1) hk iv1 (.int _ _) st1))
noncomputable def noSet (e:Expr):Bool:=!Nat.beq e.ctorIdx 7
theorem noSet_marks {op:CmpOp} {e:Expr} (h:noSet e=true):behindInMarks op e=false:=by
  cases e <;> first | rfl | exact nt h
theorem WE_cmp {l r:Expr} {op pos K} (h:WE G Φ k l ρ β λ a β1=>WE G Φ k r ρ β1 λ b β2=>∃ c,CmpOk G op a b c/\K (.bool c) β2) (hs:noSet r=true):WE G Φ k (.Compare l [op] [r] pos) ρ β K :=
  λ A env g s Q E rm eo iv kk=>wpAny_Compare1 (h A env g s _ E rm eo iv λ va a β1 g1 h1 tk1 hr iv1 ra st1 =>
    hr A env g1 _ _ E (rm.step st1) eo iv1 λ vb b β2 g2 h2 tk2 z0 iv2 rb st2=>z0.elim λ c z0=>z0.elim λ hop hk =>
      hop A g2 _ va vb Q E rm.hd (by have:=rm.units; omega) iv2.ok (ra.mono st2.gle) rb λ g3 h3 tk3 x =>
        kk _ _ β2 g3 h3 tk3 hk (x.inv iv2) (.bool c) ((st1.trans' st2).trans' x.step)) (noSet_marks hs)
theorem WT_cmp {l r:Expr} {op pos Kt Kf} (h:WE G Φ k l ρ β λ a β1=>WE G Φ k r ρ β1 λ b β2=>∃ c,CmpOk G op a b c/\(c=true->Kt β2)/\(c=false->Kf β2)) (hs:noSet r=true):WT G Φ k (.Compare l [op] [r] pos) ρ β Kt Kf :=
  λ A env g s Q E rm eo iv kk=>wpAny_isTrue_Compare1 (h A env g s _ E rm eo iv λ va a β1 g1 h1 tk1 hr iv1 ra st1 =>
    hr A env g1 _ _ E (rm.step st1) eo iv1 λ vb b β2 g2 h2 tk2 z0 iv2 rb st2=>z0.elim λ c z0=>z0.elim λ hop hk =>
      hop A g2 _ va vb _ E rm.hd (by have:=rm.units; omega) iv2.ok (ra.mono st2.gle) rb λ g3 h3 tk3 x =>
        wpAny_truthy_bool (kk c β2 g3 h3 tk3 hk.1 hk.2 (x.inv iv2) ((st1.trans' st2).trans' x.step))) (noSet_marks hs)
theorem WT_chain {l r1 r2 : Expr} {op1 op2 pos Kt Kf} (h : WE G Φ k l ρ β fun a β1 => WE G Φ k r1 ρ β1 fun b β2 => ∃ c, CmpOk G op1 a b c ∧ (c = false → Kf β2) ∧
      (c=true->WE G Φ k r2 ρ β2 λ b2 β3=>∃ d,CmpOk G op2 b b2 d/\(d=true->Kt β3)/\(d=false->Kf β3))) (hs:lastMarks [op1,op2] [r1,r2]=false):WT G Φ k (.Compare l [op1,op2] [r1,r2] pos) ρ β Kt Kf :=
  λ A env g s Q E rm eo iv kk=>by
    refine isTrue_chain (h A env g s _ E rm eo iv λ va a β1 g1 h1 tk1 hr iv1 ra st1=>?_) hs
    refine test_link (hr A env g1 _ _ E (rm.step st1) eo iv1 λ vb b β2 g2 h2 tk2 z0 iv2 rb st2=>hid λ _ uQ=>z0.elim λ c z0=>z0.elim λ hop z0=>z0.elim λ hf ht=>uQ <| ?_)
    refine hop A g2 _ va vb _ E rm.hd (by have:=rm.units; omega) iv2.ok (ra.mono st2.gle) rb λ g3 h3 tk3 x=>?_
    refine wpAny_truthy_bool ?_
    have st3:=(st1.trans' st2).trans' (x.step (X:=Mut env ρ))
    cases c with
    | false=>exact kk false β2 g3 h3 tk3 (λ q=>by cases q) (λ _=>hf rfl) (x.inv iv2) st3
    | true =>
      refine test_last (ht rfl A env g3 _ _ E (rm.step st3) eo (x.inv iv2) λ vb2 b2 β3 g4 h4 tk4 z0 iv4 rb2 st4=>z0.elim λ d z0=>z0.elim λ hop2 hk=>?_)
      refine hop2 A g4 _ vb vb2 _ E rm.hd (by have:=rm.units; omega) iv4.ok ((rb.mono x.gle).mono st4.gle) rb2 λ g5 h5 tk5 x5=>?_
      exact wpAny_truthy_bool (kk d β3 g5 h5 tk5 hk.1 hk.2 (x5.inv iv4) ((st3.trans' st4).trans' x5.step))
theorem WT_not {e:Expr} {pos Kt Kf} (h:WT G Φ k e ρ β Kf Kt):WT G Φ k (.UnaryOp .Not e pos) ρ β Kt Kf :=
  λ A env g s Q E rm eo iv kk=>isTrue_not (h A env g s _ E rm eo iv λ b β' g' h' tk hf ht iv' st=>kk (!b) β' g' h' tk (λ q=>ht (by simpa using q)) (λ q=>hf (by simpa using q)) iv' st)
theorem WT_and {a b:Expr} {pos Kt Kf} (h:WT G Φ k a ρ β (λ β1=>WT G Φ k b ρ β1 Kt Kf) Kf):WT G Φ k (.BoolOp .And [a,b] pos) ρ β Kt Kf :=
  λ A env g s Q E rm eo iv kk=>isTrue_and (h A env g s _ E rm eo iv λ c β1 g1 h1 tk1 ht hf iv1 st1=>by
    cases c with
    | false=>exact kk false β1 g1 h1 tk1 (λ q=>by cases q) (λ _=>hf rfl) iv1 st1
    | true =>
      refine isTrue_and (ht rfl A env g1 _ _ E (rm.step st1) eo iv1 λ d β2 g2 h2 tk2 ht2 hf2 iv2 st2=>?_)
      cases d with
      | false=>exact kk false β2 g2 h2 tk2 (λ q=>by cases q) (λ _=>hf2 rfl) iv2 (st1.trans' st2)
      | true=>exact isTrue_and_nil (kk true β2 g2 h2 tk2 (λ _=>ht2 rfl) (λ q=>by cases q) iv2 (st1.trans' st2)))
theorem WT_or {a b:Expr} {pos Kt Kf} (h:WT G Φ k a ρ β Kt (λ β1=>WT G Φ k b ρ β1 Kt Kf)):WT G Φ k (.BoolOp .Or [a,b] pos) ρ β Kt Kf :=
  λ A env g s Q E rm eo iv kk=>isTrue_or (h A env g s _ E rm eo iv λ c β1 g1 h1 tk1 ht hf iv1 st1=>by
    cases c with
    | true=>exact kk true β1 g1 h1 tk1 (λ _=>ht rfl) (λ q=>by cases q) iv1 st1
    | false =>
      refine isTrue_or (hf rfl A env g1 _ _ E (rm.step st1) eo iv1 λ d β2 g2 h2 tk2 ht2 hf2 iv2 st2=>?_)
      cases d with
      | true=>exact kk true β2 g2 h2 tk2 (λ _=>ht2 rfl) (λ q=>by cases q) iv2 (st1.trans' st2)
      | false=>exact isTrue_or_nil (kk false β2 g2 h2 tk2 (λ q=>by cases q) (λ _=>hf2 rfl) iv2 (st1.trans' st2)))
noncomputable def plainTest (e:Expr):Bool:=!(Nat.beq e.ctorIdx 3 || (Nat.beq e.ctorIdx 0 || (Nat.beq e.ctorIdx 5 || Nat.beq e.ctorIdx 15)))
theorem plainTest_eq {e:Expr} (h:plainTest e=true) (env:Env) (whole:Sem Value):isTrue e env whole=(do let v <- whole; standAt e.pos; holding [v] (truthy v)):=by
  cases e <;> first | rfl | exact nt h
theorem WT_val {e:Expr} {Kt Kf} (h:WE G Φ k e ρ β λ v β1=>∃ c,v=.bool c/\(c=true->Kt β1)/\(c=false->Kf β1)) (hp:plainTest e=true):WT G Φ k e ρ β Kt Kf :=
  λ A env g s Q E rm eo iv kk=>isTrue_plain (h A env g s _ E rm eo iv λ v x β1 g1 h1 tk1 z0 iv1 r st1=>z0.elim λ c z0=>z0.elim λ hc hk=>by
    refine Rep.bool_q hc r ?_
    exact wpAny_truthy_bool (kk c β1 g1 h1 tk1 hk.1 hk.2 iv1 st1)) (plainTest_eq hp env _)
theorem WE_if {t a b:Expr} {pos K} (h:WT G Φ k t ρ β (λ β1=>WE G Φ k a ρ β1 K) (λ β1=>WE G Φ k b ρ β1 K)):WE G Φ k (.IfExp t a b pos) ρ β K :=
  λ A env g s Q E rm eo iv kk=>IfExp_ (h A env g s _ E rm eo iv λ c β1 g1 h1 tk1 ht hf iv1 st1=>by
    have go:∀ {e},WE G Φ k e ρ β1 K->wpAny (model G.prog G.w) A (eval e env) Q E (at_ s h1 tk1):=λ he =>
      he A env g1 _ Q E (rm.step st1) eo iv1 λ v x β2 g2 h2 tk2 hk iv2 r st2=>kk v x β2 g2 h2 tk2 hk iv2 r (st1.trans' st2)
    cases c with
    | true=>exact go (ht rfl)
    | false=>exact go (hf rfl))
theorem WE_not {e:Expr} {pos K} (h:WE G Φ k e ρ β λ v β1=>∃ c,v=.bool c/\K (.bool !c) β1):WE G Φ k (.UnaryOp .Not e pos) ρ β K :=
  λ A env g s Q E rm eo iv kk=>UnaryOp_ (h A env g s _ E rm eo iv λ va a β1 g1 h1 tk1 z0 iv1 r st1=>z0.elim λ c z0=>z0.elim λ hc hk=>by
    refine Rep.bool_q hc r ?_
    exact not_of (wpAny_truthy_bool (kk _ _ β1 g1 h1 tk1 hk iv1 (.bool _) st1)))
theorem WE_and {a b:Expr} {pos K} (h:WE G Φ k a ρ β λ v β1=>∃ c,v=.bool c/\(c=true->WE G Φ k b ρ β1 K)/\(c=false->K (.bool false) β1)):WE G Φ k (.BoolOp .And [a,b] pos) ρ β K :=
  λ A env g s Q E rm eo iv kk=>BoolOp_and (h A env g s _ E rm eo iv λ v x β1 g1 h1 tk1 z0 iv1 r st1=>z0.elim λ c z0=>z0.elim λ hc z0=>z0.elim λ ht hf=>by
    refine Rep.bool_q hc r ?_
    refine wpAny_truthy_bool ?_
    cases c with
    | false=>exact kk _ _ β1 g1 h1 tk1 (hf rfl) iv1 (.bool _) st1
    | true=>exact BoolOp_one (ht rfl A env g1 _ Q E (rm.step st1) eo iv1 λ v x β2 g2 h2 tk2 hk iv2 r st2=>kk v x β2 g2 h2 tk2 hk iv2 r (st1.trans' st2)))
theorem WE_or {a b:Expr} {pos K} (h:WE G Φ k a ρ β λ v β1=>∃ c,v=.bool c/\(c=false->WE G Φ k b ρ β1 K)/\(c=true->K (.bool true) β1)):WE G Φ k (.BoolOp .Or [a,b] pos) ρ β K :=
  λ A env g s Q E rm eo iv kk=>BoolOp_or (h A env g s _ E rm eo iv λ v x β1 g1 h1 tk1 z0 iv1 r st1=>z0.elim λ c z0=>z0.elim λ hc z0=>z0.elim λ hf ht=>by
    refine Rep.bool_q hc r ?_
    refine wpAny_truthy_bool ?_
    cases c with
    | true=>exact kk _ _ β1 g1 h1 tk1 (ht rfl) iv1 (.bool _) st1
    | false=>exact BoolOp_one (hf rfl A env g1 _ Q E (rm.step st1) eo iv1 λ v x β2 g2 h2 tk2 hk iv2 r st2=>kk v x β2 g2 h2 tk2 hk iv2 r (st1.trans' st2)))
noncomputable def noStar (e:Expr):Bool:=!Nat.beq e.ctorIdx 22
theorem starEach_cons {e:Expr} {rest:List Expr} {env:Env} (h:noStar e=true):starEach (e :: rest) env=(false,eval e env) :: starEach rest env:=by
  cases e <;> first | rfl | exact nt h
theorem WL_nil {K} (h:K [] β):WL G Φ k [] ρ β K :=
  λ A env g s pos Q E rm eo iv kk=>args_nil (kk _ _ _ _ _ s.toks h iv .nil (.refl ..))
theorem WL_cons {e:Expr} {rest K} (h:WE G Φ k e ρ β λ x β1=>WL G Φ k rest ρ β1 λ xs β2=>K (x :: xs) β2) (hs:noStar e=true):WL G Φ k (e :: rest) ρ β K :=
  λ A env g s pos Q E rm eo iv kk=>args_cons (h A env g s _ E rm eo iv λ v x β1 g1 h1 tk1 hr iv1 r st1 =>
    hr A env g1 _ pos _ E (rm.step st1) eo iv1 λ vs xs β2 g2 h2 tk2 hk iv2 rs st2=>kk _ _ β2 g2 h2 tk2 hk iv2 (.cons (r.mono st2.gle) rs) (st1.trans' st2)) (starEach_cons hs)
theorem WE_list {es:List Expr} {pos K} (h:WL G Φ k es ρ β λ xs β1=>xs.length<=1000/\K (.list xs) β1):WE G Φ k (.List es pos) ρ β K :=
  λ A env g s Q E rm eo iv kk=>List_ (h A env g s _ _ E rm eo iv λ vs xs β1 g1 h1 tk1 z0 iv1 rs st1=>z0.elim λ hl hk=>by
    have x:=Ext.alloc iv1.ok (lsObj vs 0)
    exact wpAny_newList (kk _ _ β1 _ _ tk1 hk (x.inv iv1) (.list (gset_self ..) (rs.mono x.gle)) (st1.trans' x.step)) (by rw [rs.length]; exact Nat.le_trans hl (by decide)))
theorem WE_tuple {es:List Expr} {n pos K} (h:WL G Φ k es ρ β λ xs β1=>xs.length<=1000/\K (.tup xs) β1):WE G Φ k (.Tuple es n pos) ρ β K :=
  λ A env g s Q E rm eo iv kk=>Tuple_ (h A env g s _ _ E rm eo iv λ vs xs β1 g1 h1 tk1 z0 iv1 rs st1=>z0.elim λ hl hk=>by
    have x:=Ext.alloc iv1.ok (tpObj vs 0)
    exact wpAny_newTuple (kk _ _ β1 _ _ tk1 hk (x.inv iv1) (.tup (gset_self ..) (rs.mono x.gle)) (st1.trans' x.step)) (by rw [rs.length]; exact Nat.le_trans hl (by decide)))
noncomputable def noSlice (e:Expr):Bool:=!Nat.beq e.ctorIdx 26
theorem sub_plain {slice:Expr} (h:noSlice slice=true) (o i:Value):subscripted slice false o i=operate [o,i] (getItem o i):=by
  cases slice <;> first | rfl | exact nt h
theorem tail_item {A:Around} {s:Shared} {Q:Value->Shared->Prop} {E:Value->Shared->Prop} {prog w} {value slice:Expr} {a:Addr} {vs:List Value} {n:Nat} {g:Gh} {xs:List V} {i:Int} {t:Tok} {j:Nat} {x:V} (hs:noSlice slice=true)
    (hl:s.heap.get? a=some (lsObj vs n)) (hr:RepL g vs xs) (hj:seqIndex? i xs.length=some j) (hlen:xs.length < 2 ^ 60) (hx:xs[j]?=some x) (h:∀ v,Rep g v x->Q v s) :
    wpAny (model prog w) A (subscriptTail value slice (.ref a) (.int i t)) Q E s:=by
  have L:s.heap.IsList a vs.toArray:=⟨_,hl,rfl,n,rfl⟩
  obtain ⟨v,hv,hrv⟩:=hr.get hx
  have hlen':vs.length=xs.length:=hr.length
  have hjl:j < xs.length:=(List.getElem?_eq_some_iff.mp hx).1
  refine tail_any L.typeIs slot_list_getitem.lookup ?_ (sub_plain hs _ _)
  unfold seqIndex? at hj
  by_cases hi:0<=i
  . refine wpAny_getItem_list L hi ?_ ?_ (h v hrv)
    . simp only at hj; split at hj <;> (split at hj <;> simp_all) <;> omega
    . have:i.toNat=j:=by simp only at hj; split at hj <;> (split at hj <;> simp_all) <;> omega
      rw [this]; simpa using hv
  . refine wpAny_getItem_list_neg L (by omega) ?_ ?_ ?_ (h v hrv)
    . simp only at hj; split at hj <;> (split at hj <;> simp_all) <;> omega
    . simp only at hj; split at hj <;> (split at hj <;> simp_all) <;> omega
    . have:(i + (vs.toArray.size:Int)).toNat=j:=by simp only at hj; split at hj <;> (split at hj <;> simp_all) <;> omega
      rw [this]; simpa using hv
end
end A3
noncomputable section A4
inductive SetAt (x:Str) (c:Cell):Loc->Cell->Loc->Prop
  | here {d ρ}:SetAt x c ((x,d) :: ρ) d ((x,c) :: ρ)
  | there {p ρ d ρ'}:SetAt x c ρ d ρ'->SetAt x c (p :: ρ) d (p :: ρ')
section
variable {x:Str} {c d:Cell} {ρ ρ':Loc}
theorem SetAt.keys (h:SetAt x c ρ d ρ'):ρ'.map (·.1)=ρ.map (·.1):=by
  induction h with
  | here=>rfl
  | there _ ih=>rw [List.map_cons,List.map_cons,ih]
theorem SetAt.mem_old (h:SetAt x c ρ d ρ'):(x,d)∈ρ:=by
  induction h with
  | here=>exact .head _
  | there _ ih=>exact .tail _ ih
theorem SetAt.of_mem (h:SetAt x c ρ d ρ') (hn:(ρ.map (·.1)).Nodup):∀ p∈ρ',p=(x,c)\/(p∈ρ/\p.1≠x):=by
  induction h with
  | here =>
    intro p hp
    rw [List.map_cons,List.nodup_cons] at hn
    rcases List.mem_cons.mp hp with e | hp
    . exact .inl e
    . exact .inr ⟨.tail _ hp,λ q=>hn.1 (by rw [<- q]; exact List.mem_map_of_mem (f:=(·.1)) hp)⟩
  | there h ih =>
    intro p hp
    rw [List.map_cons,List.nodup_cons] at hn
    rcases List.mem_cons.mp hp with e | hp
    . exact .inr ⟨e ▸ .head _,λ q=>hn.1 (by rw [<- e,q]; exact List.mem_map_of_mem (f:=(·.1)) h.mem_old)⟩
    . exact (ih hn.2 p hp).imp id λ q=>⟨.tail _ q.1,q.2⟩
theorem mem_flat {α:Type} {β:Type} {f:α->List β} {a:α} {l:List α} {b:β}:b∈(a :: l).flatMap f ↔ b∈f a\/b∈l.flatMap f:=by rw [List.flatMap_cons,List.mem_append]
theorem SetAt.sub (h:SetAt x c ρ d ρ') {b:Addr} (hb:b∈ρ'.flatMap (·.2.addrs)):b∈ρ.flatMap (·.2.addrs)\/b∈c.addrs:=by
  induction h with
  | here=>exact (mem_flat.mp hb).elim .inr λ q=>.inl (mem_flat.mpr (.inr q))
  | there h ih=>exact (mem_flat.mp hb).elim (λ q=>.inl (mem_flat.mpr (.inl q))) λ q=>(ih q).imp (λ q=>mem_flat.mpr (.inr q)) id
theorem SetAt.apart (h:SetAt x c ρ d ρ') (hn:(ρ.flatMap (·.2.addrs)).Nodup) (hc:c.addrs.Nodup) (hd:∀ b∈c.addrs,b ∉ ρ.flatMap (·.2.addrs)):(ρ'.flatMap (·.2.addrs)).Nodup:=by
  induction h with
  | here =>
    rw [List.flatMap_cons,List.nodup_append] at hn ⊢
    exact ⟨hc,hn.2.1,λ a ha b hb q=>hd a ha (mem_flat.mpr (.inr (q ▸ hb)))⟩
  | there h ih =>
    rw [List.flatMap_cons,List.nodup_append] at hn ⊢
    refine ⟨hn.1,ih hn.2.1 λ b hb q=>hd b hb (mem_flat.mpr (.inr q)),λ a ha b hb q=>?_⟩
    rcases h.sub hb with z | z
    . exact hn.2.2 a ha b z q
    . exact hd b z (mem_flat.mpr (.inl (q ▸ ha)))
end
section
variable {G:Gd} {Φ:Fm} {k:Nat} {ρ ρ':Loc} {β:List V}
noncomputable def RvOk (env:Env) (g:Gh) (h:Heap) (v:Value):Cell->Prop
  | .val X=>Rep g v X
  | .own a xs=>v=.ref a/\g a=none/\∃ vs n,h.get? a=some (lsObj vs n)/\RepL g vs xs
  | _=>False
theorem RvOk.step {env:Env} {g g':Gh} {h h':Heap} {v:Value} {X:Addr->Prop} (ok:Ok G g h) (ok':Ok G g' h') (st:Step G X g h g' h'):∀ {c:Cell},(∀ b∈c.addrs,¬ X b)->RvOk env g h v c->RvOk env g' h' v c
  | .val _,_,r=>Rep.mono st.gle r
  | .own a xs,hx,⟨e,hg,vs,n,ha,r⟩=>by
    have nt:¬ G.isTab a:=λ z0=>z0.elim λ q z0=>z0.elim λ hq e=>by
      obtain ⟨ps,z,_⟩:=ok.tab q hq
      rw [e,ha] at z; cases z
    refine ⟨e,?_,vs,n,st.kept _ _ (hx a (.head _)) nt ha,r.mono st.gle⟩
    cases q:g' a with
    | none=>rfl
    | some o => rcases st.fresh a o q with z | z | z | z
                . rw [hg] at z; cases z
                . rw [ha] at z; cases z
                . exact absurd z (hx a (.head _))
                . exact absurd z nt
theorem mut_addrs {env:Env} {p:Str × Cell} {b:Addr} (hp:p∈ρ) (hb:b∈p.2.addrs):Mut env ρ b:=by
  exact .inr ⟨p,hp,.inr (owns_addrs hb)⟩
theorem cellOk.stored {env:Env} {g:Gh} {h h':Heap} {m m':Str->Option Value} {x y:Str} (hy:y≠x) (hm:∀ z,z≠x->m' z=m z) (hk:∀ b,b≠env.locals->h'.get? b=h.get? b) (hns:h.Ns env.locals m) :
    ∀ {c:Cell},cellOk env g h m β y c->cellOk env g h' m' β y c:=by
  have sl:∀ {v},slotIs env h m y v->slotIs env h' m' y v:=λ s=>s.imp (λ q=>⟨q.1,(hm y hy).trans q.2⟩) λ z0=>z0.elim λ a z0=>z0.elim λ c z0=>z0.elim λ b z0=>z0.elim λ o z0=>z0.elim λ e d=>⟨a,c,b,o,(hk c λ q=>by
    obtain ⟨oL,_,_,eL,dL,_⟩:=hns
    rw [q,eL] at e; cases e; rw [dL] at d; cases d).trans e,d⟩
  have ls:∀ {a vs n},h.get? a=some (lsObj vs n)->h'.get? a=some (lsObj vs n):=λ {a vs n} e=>(hk a λ q=>by
    obtain ⟨oL,_,_,eL,dL,_⟩:=hns
    rw [q,eL] at e; cases e; cases dL).trans e
  exact λ {c} q=>q.map (λ _ _ e=>e) (λ _=>sl) λ _ _ _ _=>ls
theorem cellOk.new {env:Env} {g:Gh} {h:Heap} {m:Str->Option Value} {x:Str} {v:Value} {c:Cell} (hs:slotIs env h m x (some v)) (hv:RvOk env g h v c):cellOk env g h m β x c:=by
  cases c with
  | val X=>exact ⟨v,hs,hv⟩
  | own a xs=>obtain ⟨rfl,_,r⟩:=hv; exact ⟨hs,r⟩
  | _=>exact hv.elim
theorem RvOk.heap {env:Env} {g:Gh} {h h':Heap} {v:Value} {c:Cell} (hv:RvOk env g h v c) (hk:∀ a∈c.addrs,∀ o,h.get? a=some o->h'.get? a=some o):RvOk env g h' v c:=by
  cases c with
  | val X=>exact hv
  | own a xs=>obtain ⟨e,hg,vs,n,ha,r⟩:=hv; exact ⟨e,hg,vs,n,hk a (.head _) _ ha,r⟩
  | _=>exact hv.elim
theorem store_ok {A:Around} {env:Env} {g:Gh} {s:Shared} {Q:Unit->Shared->Prop} {E:Value->Shared->Prop} {M:Model} (eo:EnvOk Φ env) (iv:Inv G Φ env ρ β g s.heap) {x:Str} {d c:Cell} (hset:SetAt x c ρ d ρ') (hd:d.isRo=false)
    (hpl:Φ.plain=true) {v:Value} (hv:RvOk env g s.heap v c) (hn:∀ b∈c.addrs,¬ Mut env ρ b)
    (h:∀ h' tk,Inv G Φ env ρ' β g h'->Step G (Mut env ρ) g s.heap g h'->(∀ b,Mut env ρ' b->Mut env ρ b\/b∈c.addrs)->Q () (at_ s h' tk)):wpAny M A (storeName env x v) Q E s:=by
  obtain ⟨m,hns,hc⟩:=iv.ns
  have hkey:=iv.key hset.mem_old
  have hf:env.kindOf x≠some .free:=eo.nofree hpl x hkey
  have ndk:(ρ.map (·.1)).Nodup:=by rw [iv.keys]; exact eo.nodup
  have hcro:c.isRo=false:=by cases c <;> first | rfl | exact hv.elim
  have mutg:∀ b,Mut env ρ' b->Mut env ρ b\/b∈c.addrs:=λ b hb=>by
    rcases hb with rfl | ⟨p,hp,hm⟩
    . exact .inl (.inl rfl)
    . rcases hset.of_mem ndk p hp with rfl | ⟨q,_⟩
      . rcases hm with ⟨_,z⟩ | z
        . exact .inl (.inr ⟨(x,d),hset.mem_old,.inl ⟨hd,z⟩⟩)
        . exact .inr (addrs_owns z)
      . exact .inl (.inr ⟨p,q,hm⟩)
  have off:∀ b,Mut env ρ' b->g b=none:=λ b hb=>by
    rcases mutg b hb with z | z
    . exact iv.off b z
    . cases c with
      | own a xs=>obtain ⟨_,hg,_⟩:=hv; rw [addrs_own z]; exact hg
      | val X=>exact addrs_val z
      | _=>exact hv.elim
  have apart:(ρ'.flatMap (·.2.addrs)).Nodup:=hset.apart iv.apart (addrs_nodup c) λ b hb q=>by
    obtain ⟨p,hp,hpb⟩:=List.mem_flatMap.mp q
    exact hn b hb (mut_addrs hp hpb)
  have keys:ρ'.map (·.1)=Φ.keys:=hset.keys.trans iv.keys
  refine hid λ _ uQ=>?_
  obtain ⟨oL,esL,epL,eL,dL,rL⟩:=id hns
  refine uQ ?_
  have fin:∀ (h':Heap) (w:Addr) (m':Str->Option Value),(∀ b,b≠w->h'.get? b=s.heap.get? b)->Mut env ρ w->(∀ ps,s.heap.get? w≠some (tabObj ps))->(∀ o,s.heap.get? w=some o->(∀ vs,o.data≠.fields vs)->∃ o',h'.get? w=some o'/\∀ vs,o'.data≠.fields vs) ->
      h'.Ns env.locals m'->(∀ p∈ρ',cellOk env g h' m' β p.1 p.2)->∀ tk,Q () (at_ s h' tk):=λ h' w m' hk hw hnt hnf hns' hc' tk=>by
    refine h h' tk ⟨⟨iv.ok.gnd,λ b o e=>(hk b λ q=>?_).trans (iv.ok.sub b o e),λ q hq=>?_,iv.ok.off⟩,⟨m',hns',hc'⟩,off,keys,apart⟩
      ⟨λ _ _ e=>e,λ b o nx _ e=>(hk b λ q=>nx (q ▸ hw)).trans e,λ _ _ e=>.inl e,λ b o e nfl=>?_⟩ mutg
    . rw [q,iv.off w hw] at e; cases e
    . obtain ⟨ps,e,r⟩:=iv.ok.tab q hq
      exact ⟨ps,(hk _ λ z=>hnt ps (z ▸ e)).trans e,r⟩
    . by_cases q:b=w
      . subst q; exact hnf o e nfl
      . exact ⟨o,(hk b q).trans e,nfl⟩
  rcases eo.kinds x hkey with hl | ⟨hl | hl,c₀,hc₀⟩
  . refine wpAny_storeName_local hl hns (λ h' hns' hs=>?_) (by rw [eo.fn]; rfl)
    refine fin h' env.locals _ (λ b hb=>hs.2 b hb) (.inl rfl) (λ ps e=>by rw [eL] at e; cases e; cases dL) (λ o e nfl=>?_) hns' (λ p hp=>?_) _
    . refine hid λ _ uQ=>?_
      obtain ⟨o',es',ep',e',d',_⟩:=hns'
      refine uQ ?_
      exact ⟨o',e',λ vs q=>by rw [d'] at q; cases q⟩
    . rcases hset.of_mem ndk p hp with rfl | ⟨q,hne⟩
      . exact cellOk.new (.inl ⟨hl,if_pos rfl⟩) (hv.heap λ a ha o e=>(hs.2 a λ q=>hn a ha (q ▸ .inl rfl)).trans e)
      . exact cellOk.stored hne (λ z hz=>if_neg hz) (λ b hb=>hs.2 b hb) hns (hc p q)
  . have hnl:env.kindOf x≠some .local:=by rw [hl]; decide
    have hcell:∃ v₀,s.heap.IsCell c₀ v₀:=by
      refine (hc _ hset.mem_old).slot.elim λ v s=>s.elim (λ z=>absurd z.1 hnl) λ z=>z.2.elim λ c' z=>⟨v,?_⟩
      rw [hc₀] at z; exact Option.some.inj z.1 ▸ z.2
    refine hid λ _ uQ=>?_
    obtain ⟨v₀,o₀,e₀,d₀⟩:=hcell
    refine uQ ?_
    refine wpAny_storeName_cell eo.fn hl hc₀ ⟨o₀,e₀,d₀⟩ λ h' hv' hs=>?_
    have hwm:Mut env ρ c₀:=.inr ⟨_,hset.mem_old,.inl ⟨hd,hnl,hc₀⟩⟩
    have hLc:env.locals≠c₀:=λ q=>by rw [q,e₀] at eL; cases eL; rw [dL] at d₀; cases d₀
    refine fin h' c₀ m (λ b hb=>hs.2 b hb) hwm (λ ps e=>by rw [e₀] at e; cases e; cases d₀) (λ o e nfl=>?_) (hns.sameBut hs hLc) (λ p hp=>?_) s.toks
    . obtain ⟨o',e',d'⟩:=hv'
      exact ⟨o',e',λ vs q=>by rw [d'] at q; cases q⟩
    . rcases hset.of_mem ndk p hp with rfl | ⟨q,hne⟩
      . exact cellOk.new (.inr ⟨hnl,c₀,hc₀,hv'⟩) (hv.heap λ a ha o e=>(hs.2 a λ q=>hn a ha (q ▸ hwm)).trans e)
      . have sl:∀ {v},slotIs env s.heap m p.1 v->slotIs env h' m p.1 v:=λ z=>z.imp id λ z0=>hid λ _ uQ=>z0.elim λ a z0=>z0.elim λ c' z0=>z0.elim λ b z0=>z0.elim λ o z0=>z0.elim λ e dd=>uQ <| ⟨a,c',b,o,(hs.2 c' λ q=>hne (eo.inj hpl _ _ _ (q ▸ b) hc₀)).trans e,dd⟩
        have ls:∀ {a vs n},s.heap.get? a=some (lsObj vs n)->h'.get? a=some (lsObj vs n):=λ {a vs n} e=>(hs.2 a λ q=>by
          rw [q,e₀] at e; cases e; cases d₀).trans e
        exact (hc p q).map (λ _ _ e=>e) (λ _=>sl) λ _ _ _ _=>ls
  . exact absurd hl hf
end
end A4
noncomputable section A5
section
variable {prog:Program} {w:World} {A:Around} {E:Value->Shared->Prop} {s:Shared}
theorem setItem_ls {l:Addr} {vs:List Value} {n:Nat} {k:Int} {t:Tok} {v:Value} {Q:Unit->Shared->Prop} (ho:s.heap.get? l=some (lsObj vs n)) (h0:0<=k) (hfit:k < 2 ^ 63) (hk:k < vs.length)
    (hQ:∀ h',h'.get? l=some (lsObj (vs.set k.toNat v) n)->Heap.SameBut l s.heap h'->Q () { s with heap:=h' }):wpAny (model prog w) A (setItem (.ref l) (.int k t) v) Q E s:=by
  have hl:s.heap.IsList l vs.toArray:=⟨_,ho,rfl,n,rfl⟩
  unfold setItem
  refine wpAny_holding ?_
  refine wpAny_bind (wpAny_sequenceKey hl.typeIs (by decide) ?_)
  refine wpAny_bind (wpAny_callSpecial?_slot (name:=Str.ofString "__setitem__") hl.typeIs slot_list_setitem (wpAny_call_entry slot_list_setitem hl.typeIs entry_list_setitem ?_ (args_list_setitem _ _ _)))
  show wpAny _ _ (Builtin.List.listSubscript? (.int k t) >>= _) _ _ s
  refine wpAny_bind (wpAny_listSubscript_int (fitsIndex_of h0 hfit) ?_)
  clear hfit
  obtain ⟨j,rfl⟩:=Int.eq_ofNat_of_zero_le h0
  have hj:j < vs.length:=by omega
  have hx':vs.toArray[j]?=some vs[j]:=by simp [hj]
  show wpAny _ _ ((seqItemAt l j >>= λ r=>pure (r.map (j,·))) >>= _) _ _ s
  refine wpAny_bind (wpAny_bind (wpAny_seqItemAt ho rfl (wpAny_pure ?_)))
  rw [hx']
  show wpAny _ _ (setSeqItemAt l j v >>= _) _ _ s
  refine wpAny_bind (wpAny_setSeqItemAt ho rfl ?_)
  have hfin:(s.heap.update l (Obj.mapSeq (·.setIfInBounds j v))).get? l=some (lsObj (vs.set (Int.ofNat j).toNat v) n):=by
    rw [Heap.get?_update_self _ ho rfl]; simp [Obj.mapSeq,lsObj]
  exact wpAny_pure ⟨.none,rfl,wpAny_pure (hQ _ hfin (Heap.SameBut.update ..))⟩
theorem append_ls {l:Addr} {vs:List Value} {n:Nat} {v:Value} {Q:Value->Shared->Prop} (ho:s.heap.get? l=some (lsObj vs n)) (hlen:vs.length<=10000)
    (hQ:∀ h',h'.get? l=some (lsObj (vs ++ [v]) (n + 1))->Heap.SameBut l s.heap h'->Q .none { s with heap:=h' }):wpAny (model prog w) A (call (.builtin "list.append") [.ref l,v]) Q E s:=by
  have hl:s.heap.IsList l vs.toArray:=⟨_,ho,rfl,n,rfl⟩
  refine wpAny_call_entry slot_list_append hl.typeIs entry_list_append ?_ (args_list_append _ _)
  show wpAny _ _ (updateSeq l (·.push v) >>= λ _=>ret .none) _ _ s
  refine wpAny_bind (wpAny_updateSeq ho rfl (wpAny_pure ⟨.none,rfl,hQ _ ?_ (Heap.SameBut.update ..)⟩) (by rw [sizeLine_eq]; simp; omega) (by rw [sizeLine_eq]; simp; omega))
  rw [Heap.get?_update_self _ ho rfl]; simp [Obj.mapSeq,lsObj]
end
theorem SetAt.addrs_same {x:Str} {c d:Cell} {ρ ρ':Loc} (h:SetAt x c ρ d ρ') (e:c.addrs=d.addrs):ρ'.flatMap (·.2.addrs)=ρ.flatMap (·.2.addrs):=by
  induction h with
  | here=>rw [List.flatMap_cons,List.flatMap_cons,e]
  | there _ ih=>rw [List.flatMap_cons,List.flatMap_cons,ih e]
theorem apart_ne {ρ:Loc} (hn:(ρ.flatMap (·.2.addrs)).Nodup) {p q:Str × Cell} (hp:p∈ρ) (hq:q∈ρ) (hne:p.1≠q.1) {a b:Addr} (ha:a∈p.2.addrs) (hb:b∈q.2.addrs):a≠b:=by
  induction ρ with
  | nil=>cases hp
  | cons r ρ ih =>
    rw [List.flatMap_cons,List.nodup_append] at hn
    rcases List.mem_cons.mp hp with e1 | hp' <;> rcases List.mem_cons.mp hq with e2 | hq'
    . exact absurd (by rw [e1,e2]) hne
    . exact hn.2.2 a (e1 ▸ ha) b (List.mem_flatMap.mpr ⟨q,hq',hb⟩)
    . exact λ z=>hn.2.2 b (e2 ▸ hb) a (List.mem_flatMap.mpr ⟨p,hp',ha⟩) z.symm
    . exact ih hn.2.1 hp' hq'
section
variable {G:Gd} {Φ:Fm} {k:Nat} {ρ ρ':Loc} {β β':List V} {env:Env} {g:Gh} {h h':Heap}
theorem Ok.turn (ok:Ok G g h) {a:Addr} {vs n} (ha:h.get? a=some (lsObj vs n)) (hg:g a=none) (hs:Heap.SameBut a h h'):Ok G g h' :=
  ⟨ok.gnd,λ b o e=>(hs.2 b λ q=>by rw [q,hg] at e; cases e).trans (ok.sub b o e),λ q hq=>by
    obtain ⟨ps,e,r⟩:=ok.tab q hq
    exact ⟨ps,(hs.2 _ λ z=>by rw [z,ha] at e; cases e).trans e,r⟩,ok.off⟩
theorem Step.turn (X:Addr->Prop) {a:Addr} {vs n vs' n'} (ha:h.get? a=some (lsObj vs n)) (ha':h'.get? a=some (lsObj vs' n')) (hX:X a) (hs:Heap.SameBut a h h'):Step G X g h g h' :=
  ⟨λ _ _ e=>e,λ b o nx _ e=>(hs.2 b λ q=>nx (q ▸ hX)).trans e,λ _ _ e=>.inl e,λ b o e nf=>by
    by_cases q:b=a
    . subst q; exact ⟨_,ha',nofun⟩
    . exact ⟨o,(hs.2 b q).trans e,nf⟩⟩
theorem cellOk.turned {m:Str->Option Value} {x:Str} {a:Addr} {vs n} (ha:h.get? a=some (lsObj vs n)) (hs:Heap.SameBut a h h'):∀ {c:Cell},a ∉ c.addrs->cellOk env g h m β x c->cellOk env g h' m β x c:=by
  have sl:∀ {v},slotIs env h m x v->slotIs env h' m x v:=λ s=>s.imp id λ z0=>z0.elim λ a' z0=>z0.elim λ c z0=>z0.elim λ b z0=>z0.elim λ o z0=>z0.elim λ e d=>⟨a',c,b,o,(hs.2 c λ q=>by rw [q,ha] at e; cases e; cases d).trans e,d⟩
  exact λ {c} hna q=>q.map (λ _ _ e=>e) (λ _=>sl) λ b hb _ _ e=>(hs.2 b λ z=>hna (z ▸ hb)).trans e
theorem slotIs.turned {m:Str->Option Value} {x:Str} {a:Addr} {vs n v} (ha:h.get? a=some (lsObj vs n)) (hs:Heap.SameBut a h h') (s:slotIs env h m x v):slotIs env h' m x v :=
  s.imp id λ z0=>z0.elim λ a' z0=>z0.elim λ c z0=>z0.elim λ b z0=>z0.elim λ o z0=>z0.elim λ e d=>⟨a',c,b,o,(hs.2 c λ q=>by rw [q,ha] at e; cases e; cases d).trans e,d⟩
theorem Inv.turn_own (eo:EnvOk Φ env) (iv:Inv G Φ env ρ β g h) {x:Str} {a:Addr} {xs xs':List V} {vs' n'} (hset:SetAt x (.own a xs') ρ (.own a xs) ρ') (ha':h'.get? a=some (lsObj vs' n')) (hr:RepL g vs' xs') (hs:Heap.SameBut a h h') :
    Inv G Φ env ρ' β g h'/\Step G (Mut env ρ) g h g h'/\∀ b,Mut env ρ' b->Mut env ρ b:=by
  obtain ⟨m,hns,hc⟩:=iv.ns
  have hm:=hset.mem_old
  obtain ⟨hsl,vs,n,ha,_⟩:=hc _ hm
  have hmut:Mut env ρ a:=mut_addrs hm (.head _)
  have ndk:(ρ.map (·.1)).Nodup:=by rw [iv.keys]; exact eo.nodup
  have mg:∀ b,Mut env ρ' b->Mut env ρ b:=λ b hb=>by
    rcases hb with rfl | ⟨p,hp,z⟩
    . exact .inl rfl
    . rcases hset.of_mem ndk p hp with rfl | ⟨q,_⟩
      . exact .inr ⟨_,hm,z⟩
      . exact .inr ⟨p,q,z⟩
  have addrs:=hset.addrs_same rfl
  refine ⟨⟨iv.ok.turn ha (iv.off a hmut) hs,⟨m,hns.sameBut hs ?_,λ p hp=>?_⟩,λ b hb=>iv.off b (mg b hb),hset.keys.trans iv.keys,addrs ▸ iv.apart⟩,Step.turn _ ha ha' hmut hs,mg⟩
  . intro q; obtain ⟨o,_,_,e,d,_⟩:=hns; rw [q,ha] at e; cases e; cases d
  . rcases hset.of_mem ndk p hp with rfl | ⟨q,hne⟩
    . exact ⟨hsl.turned ha hs,vs',n',ha',hr⟩
    . exact (hc p q).turned ha hs λ z=>apart_ne iv.apart q hm hne z (.head _:a∈(Cell.own a xs).addrs) rfl
theorem Inv.turn_box (eo:EnvOk Φ env) (iv:Inv G Φ env ρ β g h) {x:Str} {a:Addr} {vs' n'} (hm:(x,.box a)∈ρ) (hone:∀ y b,(y,.box b)∈ρ->y=x) (ha':h'.get? a=some (lsObj vs' n')) (hr:RepL g vs' β') (hs:Heap.SameBut a h h') :
    Inv G Φ env ρ β' g h'/\Step G (Mut env ρ) g h g h':=by
  obtain ⟨m,hns,hc⟩:=iv.ns
  obtain ⟨hsl,vs,n,ha,_⟩:=hc _ hm
  have hmut:Mut env ρ a:=mut_addrs hm (.head _)
  have ndk:(ρ.map (·.1)).Nodup:=by rw [iv.keys]; exact eo.nodup
  refine ⟨⟨iv.ok.turn ha (iv.off a hmut) hs,⟨m,hns.sameBut hs ?_,λ p hp=>?_⟩,iv.off,iv.keys,iv.apart⟩,Step.turn _ ha ha' hmut hs⟩
  . intro q; obtain ⟨o,_,_,e,d,_⟩:=hns; rw [q,ha] at e; cases e; cases d
  . by_cases hx:p.1=x
    . obtain ⟨y,c⟩:=p
      simp only at hx; subst hx
      have:c=.box a:=by
        have h1:=lookup_of_nodup ndk hp
        have h2:=lookup_of_nodup ndk hm
        rw [h1] at h2; exact Option.some.inj h2
      subst this
      exact ⟨hsl.turned ha hs,vs',n',ha',hr⟩
    . exact ((hc p hp).turned (β:=β) ha hs λ z=>apart_ne iv.apart hp hm hx z (.head _:a∈(Cell.box a).addrs) rfl).beta λ b e=>hx (hone p.1 b (e ▸ hp))
end
end A5
noncomputable section A6
section
variable {G:Gd} {Φ:Fm} {k:Nat} {ρ ρ':Loc} {β:List V}
theorem Inv.mut_nf {env:Env} {g:Gh} {h:Heap} (iv:Inv G Φ env ρ β g h) {b:Addr} (hb:Mut env ρ b):∃ o,h.get? b=some o/\∀ vs,o.data≠.fields vs:=by
  obtain ⟨m,hn,hc⟩:=iv.ns
  rcases hb with rfl | ⟨⟨x,c⟩,hp,hm⟩
  . obtain ⟨o,_,_,e,d,_⟩:=hn; exact ⟨o,e,λ vs q=>by rw [d] at q; cases q⟩
  . have q:=hc _ hp
    rcases hm with ⟨hr,hk,hl⟩ | ho
    . have:∀ {v},slotIs env h m x v->∃ o,h.get? b=some o/\∀ vs,o.data≠.fields vs:=λ s=>by
        rcases s with ⟨a,_⟩ | ⟨_,c',hc',hv⟩
        . exact absurd a hk
        . rw [hl] at hc'; cases hc'; obtain ⟨o,e,d⟩:=hv; exact ⟨o,e,λ vs q=>by rw [d] at q; cases q⟩
      exact q.slot.elim λ _ s=>this s
    . exact (q.lst ho).elim λ vs z=>z.elim λ n e=>⟨_,e,nofun⟩
theorem old_none {X:Addr->Prop} {g g':Gh} {h h':Heap} (st:Step G X g h g' h') (hx:∀ b,X b->∃ o,h.get? b=some o/\∀ vs,o.data≠.fields vs) (ok':Ok G g' h') {a:Addr} (e:h'.get? a=none):h.get? a=none:=by
  rcases st.old e with z | z | ⟨t,ht,z⟩
  . exact z
  . obtain ⟨o,ho,nf⟩:=hx a z
    obtain ⟨o',ho',_⟩:=st.nf a o ho nf
    rw [e] at ho'; cases ho'
  . obtain ⟨ps,q,_⟩:=ok'.tab t ht
    rw [z,e] at q; cases q
theorem Inv.old {env:Env} {g g':Gh} {h h':Heap} (iv:Inv G Φ env ρ β g h) (st:Step G (Mut env ρ) g h g' h') (ok':Ok G g' h') {a:Addr} (e:h'.get? a=none):h.get? a=none :=
  old_none st (λ _ hb=>iv.mut_nf hb) ok' e
noncomputable def WR (G:Gd) (Φ:Fm) (k:Nat) (e:Expr) (ρ:Loc) (β:List V) (K:Cell->List V->Prop):Prop :=
  ∀ (A:Around) (env:Env) (g:Gh) (s:Shared) (Q:Value->Shared->Prop) (E:Value->Shared->Prop),
    Rm G k A s.heap->EnvOk Φ env->Inv G Φ env ρ β g s.heap ->
    (∀ v c β' g' h' tk,K c β'->Inv G Φ env ρ β' g' h'->RvOk env g' h' v c->(∀ b∈c.addrs,s.heap.get? b=none)->Step G (Mut env ρ) g s.heap g' h'->Q v (at_ s h' tk)) ->
    wpAny (model G.prog G.w) A (eval e env) Q E s
theorem WR_val {e:Expr} {K} (h:WE G Φ k e ρ β λ x β'=>K (.val x) β'):WR G Φ k e ρ β K :=
  λ A env g s Q E rm eo iv kk=>h A env g s Q E rm eo iv λ v x β' g' h' tk hk iv' r st=>kk v (.val x) β' g' h' tk hk iv' r (λ _ hb=>addrs_val hb) st
theorem push_own {env:Env} {g:Gh} {h:Heap} (iv:Inv G Φ env ρ β g h) {vs:List Value} {xs:List V} (hr:RepL g vs xs) :
    Inv G Φ env ρ β g (h.push (lsObj vs 0))/\RvOk env g (h.push (lsObj vs 0)) (.ref h.objs.size) (.own h.objs.size xs)/\Step G (Mut env ρ) g h g (h.push (lsObj vs 0)) :=
  have x:=Ext.grown iv.ok (Grow.push h (lsObj vs 0))
  ⟨x.inv iv,⟨rfl,iv.ok.new (get?_size h),vs,0,Heap.get?_push_size _ rfl,hr⟩,x.step⟩
theorem WR_list {es:List Expr} {pos K} (h:WL G Φ k es ρ β λ xs β1=>xs.length<=1000/\∀ a,K (.own a xs) β1):WR G Φ k (.List es pos) ρ β K :=
  λ A env g s Q E rm eo iv kk=>List_ (h A env g s _ _ E rm eo iv λ vs xs β1 g1 h1 tk1 z0 iv1 rs st1=>z0.elim λ hl hk=>by
    obtain ⟨iv2,rv,st2⟩:=push_own iv1 rs
    exact wpAny_newList (kk _ _ β1 _ _ tk1 (hk _) iv2 rv (λ b hb=>by rw [addrs_own hb]; exact iv.old st1 iv1.ok (get?_size h1)) (st1.trans' st2)) (by rw [rs.length]; exact Nat.le_trans hl (by decide)))
theorem foldl_rep (v:Value):∀ (n:Nat) (a:Array Value),List.foldl (λ x1 x2=>x1 ++ x2) a (List.replicate n #[v])=a ++ (List.replicate n v).toArray
  | 0,a=>by simp
  | n + 1,a=>by
    rw [List.replicate_succ,List.foldl_cons,foldl_rep v n,List.replicate_succ]
    apply Array.ext'
    simp
theorem mul_ls {A:Around} {s:Shared} {Q:Value->Shared->Prop} {E:Value->Shared->Prop} {prog w} {l:Addr} {v:Value} {n:Nat} {x:Int} {u:Tok} (hl:s.heap.get? l=some (lsObj [v] n)) (hi:0<=x) (hi2:x<=10000)
    (h:Q (.ref s.heap.objs.size) { s with heap:=s.heap.push (lsObj (List.replicate x.toNat v) 0) }):wpAny (model prog w) A (binaryOp .Mult (.ref l) (.int x u)) Q E s:=by
  refine wpAny_binaryOp_repeat_ref (T := "list") (U := "int") (by decide) ⟨_,hl,rfl⟩ (λ s'=>typeIs_int s' x u) noFill_list_mul PySem.F.fills_int_mul PySem.F.slot_int_rmul repeat_list PySem.F.slot_int_index.lookup
    (call_meets PySem.F.slot_int_rmul (typeIs_int s x u) PySem.F.entry_int_rmul (PySem.F.args_int_rmul_2 _ _) (int___rmul___int_list x u l [v].toArray n)
      ⟨hl,rfl,⟨_,hl,rfl⟩,call_meets PySem.F.slot_list_mul ⟨_,hl,rfl⟩ PySem.F.entry_list_mul (PySem.F.args_list_mul_2 _ _)
        (AutoListH.list___mul___list_int_3 l [v].toArray n x u (by simp [Builtin.List.listFitsIndex]; omega) (by simp; omega) (by simp [Builtin.List.listTooLong,sizeLine]; omega)) ⟨hl,?_⟩⟩)
  have e:(List.foldl (λ x1 x2=>x1 ++ x2) #[] (List.replicate (if [v].toArray.isEmpty=true then 0 else x.toNat) [v].toArray))=(List.replicate x.toNat v).toArray:=by
    show (List.foldl (λ x1 x2=>x1 ++ x2) #[] (List.replicate x.toNat #[v]))=_
    rw [foldl_rep]; simp
  rw [e]
  exact h
theorem RepL.replicate {g:Gh} {v:Value} {x:V} (h:Rep g v x):∀ n,RepL g (List.replicate n v) (List.replicate n x)
  | 0=>.nil
  | n + 1=>.cons h (RepL.replicate h n)
theorem op_rep (G:Gd) (x:V) (n:Int) (h0:0<=n) (h1:n<=10000):OpOk G .Mult (.list [x]) (.int n) (.list (List.replicate n.toNat x)):=λ A g s u v Q E hA hu ok ra rb k=>by
  refine Rep.list_e ra λ a vs m ea la=>?_
  refine Rep.int_e rb λ t=>?_
  cases la with
  | @cons v0 _ _ _ hv r=>cases r with
    | nil =>
      have y:=Ext.alloc ok (lsObj (List.replicate n.toNat v0) 0)
      exact mul_ls (ok.sub _ _ ea) h0 h1 (k _ _ _ s.toks y (.list (gset_self ..) (RepL.replicate (hv.mono y.gle) _)))
theorem op_cat (G:Gd) (xs ys:List V) (h:xs.length + ys.length<=10000):OpOk G .Add (.list xs) (.list ys) (.list (xs ++ ys)):=λ A g s u v Q E hA hu ok ra rb k=>by
  refine Rep.list_e ra λ a vs m ea la=>?_
  refine Rep.list_e rb λ b us m' eb lb=>?_
  have y:=Ext.alloc ok (lsObj (vs ++ us) 0)
  refine PySem.P.add_list (ok.sub _ _ ea) (ok.sub _ _ eb) ?_ (by rw [sizeLine_eq]; simp [la.length,lb.length]; omega)
  have:=k _ _ _ s.toks y (.list (gset_self ..) ((la.mono y.gle).append (lb.mono y.gle)))
  simpa [lsObj] using this
noncomputable def OpNew (G:Gd) (op:Operator) (a b:V) (xs:List V):Prop :=
  ∀ (A:Around) (g:Gh) (s:Shared) (u v:Value) (Q:Value->Shared->Prop) (E:Value->Shared->Prop),
    A.handled=none->A.units + 500 < cLine->Ok G g s.heap->Rep g u a->Rep g v b ->
    (∀ vs,RepL g vs xs->Q (.ref s.heap.objs.size) { s with heap:=s.heap.push (lsObj vs 0) })->wpAny (model G.prog G.w) A (binaryOp op u v) Q E s
theorem new_rep (G:Gd) (x:V) (n:Int) (h0:0<=n) (h1:n<=10000):OpNew G .Mult (.list [x]) (.int n) (List.replicate n.toNat x):=λ A g s u v Q E hA hu ok ra rb k=>by
  refine Rep.list_e ra λ a vs m ea la=>?_
  refine Rep.int_e rb λ t=>?_
  cases la with
  | cons hv r=>cases r with
    | nil=>exact mul_ls (ok.sub _ _ ea) h0 h1 (k _ (RepL.replicate hv _))
theorem new_cat (G:Gd) (xs ys:List V) (h:xs.length + ys.length<=10000):OpNew G .Add (.list xs) (.list ys) (xs ++ ys):=λ A g s u v Q E hA hu ok ra rb k=>by
  refine Rep.list_e ra λ a vs m ea la=>?_
  refine Rep.list_e rb λ b us m' eb lb=>?_
  refine PySem.P.add_list (ok.sub _ _ ea) (ok.sub _ _ eb) ?_ (by rw [sizeLine_eq]; simp [la.length,lb.length]; omega)
  simpa [lsObj] using k _ (la.append lb)
theorem WS.mono {st:Stmt} {K K':Fl->Loc->List V->Prop} (h:WS G Φ k st ρ β K) (hK:∀ f r b,K f r b->K' f r b):WS G Φ k st ρ β K' :=
  λ A env g s Q E rm eo iv kk=>h A env g s Q E rm eo iv λ fl f ρ' β' g' h' tk hk=>kk fl f ρ' β' g' h' tk (hK _ _ _ hk)
theorem WSs.mono {st:List Stmt} {K K':Fl->Loc->List V->Prop} (h:WSs G Φ k st ρ β K) (hK:∀ f r b,K f r b->K' f r b):WSs G Φ k st ρ β K' :=
  λ A env g s Q E rm eo iv kk=>h A env g s Q E rm eo iv λ fl f ρ' β' g' h' tk hk=>kk fl f ρ' β' g' h' tk (hK _ _ _ hk)
theorem WSs_nil {K} (h:K .next ρ β):WSs G Φ k [] ρ β K :=
  λ A env g s Q E rm eo iv kk=>wpAny_execs_nil (kk .next .next ρ β g s.heap s.toks h iv trivial (.refl ..) λ b hb=>.inl hb)
noncomputable def Seq (G:Gd) (Φ:Fm) (k:Nat) (rest:List Stmt) (K:Fl->Loc->List V->Prop):Fl->Loc->List V->Prop
  | .next,ρ',β'=>WSs G Φ k rest ρ' β' K
  | f,ρ',β'=>K f ρ' β'
theorem mut_trans {env:Env} {ρ1 ρ2:Loc} {g g':Gh} {h h':Heap} (iv:Inv G Φ env ρ β g h) (st:Step G (Mut env ρ) g h g' h') (ok':Ok G g' h') (m1:∀ b,Mut env ρ1 b->Mut env ρ b\/h.get? b=none) (m2:∀ b,Mut env ρ2 b->Mut env ρ1 b\/h'.get? b=none) :
    ∀ b,Mut env ρ2 b->Mut env ρ b\/h.get? b=none:=λ b hb=>(m2 b hb).elim (m1 b) λ e=>.inr (iv.old st ok' e)
theorem FlRep_le {env:Env} {g:Gh} {h:Heap} {fl:Flow} {f:Fl} (r:FlRep env ρ g h fl f) (hn:f=.next):fl=.next:=by
  subst hn; cases fl <;> first | rfl | exact r.elim
@[elab_as_elim] theorem FlRep.next_e {env:Env} {g:Gh} {h:Heap} {fl:Flow} {Q:Flow->Prop} (r:FlRep env ρ g h fl .next) (k:Q .next):Q fl:=FlRep_le r rfl ▸ k
@[elab_as_elim] theorem FlRep.brk_e {env:Env} {g:Gh} {h:Heap} {fl:Flow} {Q:Flow->Prop} (r:FlRep env ρ g h fl .brk) (k:Q .brk):Q fl:=by cases fl <;> first | exact k | exact r.elim
@[elab_as_elim] theorem FlRep.cont_e {env:Env} {g:Gh} {h:Heap} {fl:Flow} {Q:Flow->Prop} (r:FlRep env ρ g h fl .cont) (k:Q .cont):Q fl:=by cases fl <;> first | exact k | exact r.elim
@[elab_as_elim] theorem FlRep.ret_e {env:Env} {g:Gh} {h:Heap} {fl:Flow} {x:V} {Q:Flow->Prop} (r:FlRep env ρ g h fl (.ret x)) (k:∀ v,Rep g v x->Q (.ret v)):Q fl:=by cases fl <;> first | exact k _ r | exact r.elim
@[elab_as_elim] theorem FlRep.reto_e {env:Env} {g:Gh} {h:Heap} {fl:Flow} {a:Addr} {xs:List V} {Q:Flow->Prop} (r:FlRep env ρ g h fl (.reto a xs)) (k:FlRep env ρ g h (.ret (.ref a)) (.reto a xs)->Q (.ret (.ref a))):Q fl:=by
  cases fl with
  | ret v=>rw [r.1]; exact k ⟨rfl,r.2⟩
  | _=>exact r.elim
theorem WSs_cons {st:Stmt} {rest:List Stmt} {K} (h:WS G Φ k st ρ β (Seq G Φ k rest K)):WSs G Φ k (st :: rest) ρ β K :=
  λ A env g s Q E rm eo iv kk=>wpAny_execs_cons (h A env g s _ E rm eo iv λ fl f ρ1 β1 g1 h1 tk1 hk iv1 fr st1 mg1=>by
    cases f with
    | next =>
      have:=FlRep_le fr rfl; subst this
      exact hk A env g1 _ Q E (rm.step st1) eo iv1 λ fl f ρ2 β2 g2 h2 tk2 hk2 iv2 fr2 st2 mg2=>kk fl f ρ2 β2 g2 h2 tk2 hk2 iv2 fr2 (st1.trans st2 mg1) (mut_trans iv st1 iv1.ok mg1 mg2)
    | brk=>exact FlRep.brk_e fr (kk .brk .brk ρ1 β1 g1 h1 tk1 hk iv1 trivial st1 mg1)
    | cont=>exact FlRep.cont_e fr (kk .cont .cont ρ1 β1 g1 h1 tk1 hk iv1 trivial st1 mg1)
    | ret x=>exact FlRep.ret_e fr λ v fr=>kk (.ret v) (.ret x) ρ1 β1 g1 h1 tk1 hk iv1 fr st1 mg1
    | reto a xs=>exact FlRep.reto_e fr λ fr=>kk (.ret (.ref a)) (.reto a xs) ρ1 β1 g1 h1 tk1 hk iv1 fr st1 mg1)
noncomputable def noComp (e:Expr):Bool:=!(Nat.beq e.ctorIdx 8 || (Nat.beq e.ctorIdx 9 || Nat.beq e.ctorIdx 10))
theorem swaps_no {v:Expr} (h:noComp v=true) (t:Option Expr) (l:Nat) (env:Env):swapsWith v t l env=pure false:=by
  cases v <;> first | rfl | exact nt h
theorem WS_assign {x:Str} {p:Pos} {value:Expr} {pos:Pos} {K} (h:WR G Φ k value ρ β λ c β1=>∃ d ρ',SetAt x c ρ d ρ'/\d.isRo=false/\K .next ρ' β1) (hc:noComp value=true) (hp:Φ.plain=true):WS G Φ k (.Assign [.Name x p] value pos) ρ β K :=
  λ A env g s Q E rm eo iv kk=>wpAny_Assign_Name (h A env g s _ E rm eo iv λ v c β1 g1 h1 tk1 z0 iv1 rv hfr st1=>z0.elim λ d z0=>z0.elim λ ρ' z0=>z0.elim λ hset z0=>z0.elim λ hd hk =>
    store_ok eo iv1 hset hd hp rv (λ b hb hm=>by obtain ⟨o,ho,_⟩:=iv.mut_nf hm; rw [hfr b hb] at ho; cases ho)
      λ h2 tk2 iv2 st2 mg2=>kk .next .next ρ' β1 g1 h2 tk2 hk iv2 trivial (st1.trans' st2) λ b hb=>(mg2 b hb).imp id λ z=>hfr b z) (swaps_no hc ..)
theorem WS_if {t:Expr} {a b:List Stmt} {pos K} (h:WT G Φ k t ρ β (λ β1=>WSs G Φ k a ρ β1 K) (λ β1=>WSs G Φ k b ρ β1 K)):WS G Φ k (.If t a b pos) ρ β K :=
  λ A env g s Q E rm eo iv kk=>wpAny_If (h A env g s _ E rm eo iv λ c β1 g1 h1 tk1 ht hf iv1 st1=>by
    have go:∀ {l},WSs G Φ k l ρ β1 K->wpAny (model G.prog G.w) A (execs l env) Q E (at_ s h1 tk1):=λ he =>
      he A env g1 _ Q E (rm.step st1) eo iv1 λ fl f ρ2 β2 g2 h2 tk2 hk2 iv2 fr2 st2 mg2=>kk fl f ρ2 β2 g2 h2 tk2 hk2 iv2 fr2 (st1.trans' st2) (mut_trans iv st1 iv1.ok (λ b hb=>.inl hb) mg2)
    cases c with
    | true=>exact go (ht rfl)
    | false=>exact go (hf rfl))
theorem WS_ret {e:Expr} {pos K} (h:WE G Φ k e ρ β λ x β1=>K (.ret x) ρ β1):WS G Φ k (.Return (some e) pos) ρ β K :=
  λ A env g s Q E rm eo iv kk=>wpAny_Return_some (h A env g s _ E rm eo iv λ v x β1 g1 h1 tk1 hk iv1 r st1=>kk (.ret v) (.ret x) ρ β1 g1 h1 tk1 hk iv1 r st1 λ b hb=>.inl hb)
theorem WS_cont {pos K} (h:K .cont ρ β):WS G Φ k (.Continue pos) ρ β K :=
  λ A env g s Q E rm eo iv kk=>wpAny_bind (wpAny_standAt (wpAny_pure (kk .cont .cont ρ β g s.heap s.toks h iv trivial (.refl ..) λ b hb=>.inl hb)))
end
end A6
noncomputable section A7
section
variable {G:Gd} {Φ:Fm} {k:Nat} {ρ ρ':Loc} {β:List V}
noncomputable def InOk (G:Gd) (op:Operator) (i j r:Int):Prop :=
  ∀ (A:Around) (s:Shared) (t u:Tok) (Q:Value->Shared->Prop) (E:Value->Shared->Prop),Q (.int r s.toks) { s with toks:=s.toks + 1 }->wpAny (model G.prog G.w) A (inplaceOp op (.int i t) (.int j u)) Q E s
theorem in_add (G:Gd) (i j:Int):InOk G .Add i j (i + j):=λ _ _ _ _ _ _ h=>iadd_int h
theorem in_sub (G:Gd) (i j:Int):InOk G .Sub i j (i - j):=λ _ _ _ _ _ _ h=>isub_int h
theorem in_shr (G:Gd) (i j:Int) (hj:0<=j):InOk G .RShift i j (i / 2 ^ j.toNat):=λ _ _ _ _ _ _ h=>irshift_int hj (by rw [Int.fdiv_eq_ediv_of_nonneg _ (Int.le_of_lt (Int.pow_pos (by omega)))]; exact h)
theorem in_mod (G:Gd) (i j:Int) (hj:0 < j):InOk G .Mod i j (i % j):=λ _ _ _ _ _ _ h=>imod_int (by omega) (by rw [Int.fmod_eq_emod_of_nonneg _ (by omega)]; exact h)
theorem in_or (G:Gd) (i j:Int):InOk G .BitOr i j (Builtin.bitOr i j):=λ _ _ _ _ _ _ h=>ior_int h
theorem WS_aug {x:Str} {p:Pos} {op:Operator} {value:Expr} {pos:Pos} {K} {i:Int} {X:V} (hset:∀ r,∃ ρ',SetAt x (.val (.int r)) ρ (.val (.int i)) ρ'/\ρ'=ρ') (h:WE G Φ k value ρ β λ v β1=>∃ j r ρ',v=.int j/\InOk G op i j r/\SetAt x (.val (.int r)) ρ (.val (.int i)) ρ'/\K .next ρ' β1)
    (hm:(x,.val (.int i))∈ρ) (hp:Φ.plain=true):WS G Φ k (.AugAssign (.Name x p) op value pos) ρ β K:=by
  intro A env g s Q E rm eo iv kk
  refine wpAny_AugAssign_Name (load_val eo iv (.inl hm) λ v0 r0=>?_)
  refine Rep.int_e r0 λ t0=>?_
  refine h A env g s _ E rm eo iv λ v c β1 g1 h1 tk1 z0 iv1 rv st1=>hid λ _ uQ=>z0.elim λ j z0=>z0.elim λ r z0=>z0.elim λ ρ' z0=>z0.elim λ hc z0=>z0.elim λ hop z0=>z0.elim λ hset hk=>uQ <| ?_
  refine Rep.int_q hc rv λ t1=>?_
  refine hop A _ t0 t1 _ E ?_
  exact store_ok (s:=at_ s h1 (tk1 + 1)) eo iv1 hset rfl hp (Rep.int _ _) (λ _ hb=>addrs_val hb)
    λ h2 tk2 iv2 st2 mg2=>kk .next .next ρ' β1 g1 h2 tk2 hk iv2 trivial (st1.trans' st2) λ b hb=>(mg2 b hb).imp id λ z=>addrs_val z
inductive SetAll:List Str->List Cell->Loc->Loc->Prop
  | nil {r:Loc}:SetAll [] [] r r
  | cons {x xs c cs} {r r1 r2:Loc} {d:Cell}:SetAt x c r d r1->d.isRo=false->SetAll xs cs r1 r2->SetAll (x :: xs) (c :: cs) r r2
noncomputable def RvAll (env:Env) (g:Gh) (h:Heap):List Value->List Cell->Prop
  | [],[]=>True
  | v :: vs,c :: cs=>RvOk env g h v c/\RvAll env g h vs cs
  | _,_=>False
noncomputable def addrsAll (cs:List Cell):List Addr:=cs.flatMap (·.addrs)
theorem RvAll.step {env:Env} {g g':Gh} {h h':Heap} {X:Addr->Prop} (ok:Ok G g h) (ok':Ok G g' h') (st:Step G X g h g' h') {vs:List Value} {cs:List Cell} (hx:∀ b∈addrsAll cs,¬ X b) (r:RvAll env g h vs cs):RvAll env g' h' vs cs :=
  lists2 (P:=λ vs cs=>(∀ b∈addrsAll cs,¬ X b)->RvAll env g h vs cs->RvAll env g' h' vs cs) (λ _ _=>trivial) (λ _ _ _ r=>r.elim) (λ _ _ _ r=>r.elim)
    (λ _ _ c cs ih hx r=>⟨r.1.step ok ok' st λ b hb=>hx b (List.mem_append_left _ hb),ih (λ b hb=>hx b (List.mem_append_right _ hb)) r.2⟩) vs cs hx r
noncomputable def TreesOk (M:Model) (A:Around) (env:Env) (E:Value->Shared->Prop):List (Value->Sem Unit)->List Str->Prop
  | [],[]=>True
  | t :: ts,x :: xs=>(∀ v s Q,wpAny M A (storeName env x v) Q E s->wpAny M A (t v) Q E s)/\TreesOk M A env E ts xs
  | _,_=>False
theorem TreesOk.map {M:Model} {A:Around} {env:Env} {E:Value->Shared->Prop}:∀ xs:List Str,TreesOk M A env E (xs.map λ n=>bindName env n) xs
  | []=>trivial
  | _ :: xs=>⟨λ v s Q h=>bindName_ h,TreesOk.map xs⟩
noncomputable def nms (l:List (Str × Pos)):List Expr:=l.map λ p=>.Name p.1 p.2
noncomputable def namesAre (ts:List Expr) (xs:List Str):Prop:=∃ ps,ts=nms ps/\ps.map (·.1)=xs
theorem TreesOk.nms {M:Model} {A:Around} {env:Env} {E:Value->Shared->Prop}:∀ ps:List (Str × Pos),TreesOk M A env E ((assignEach (nms ps) env).map (·.2)) (ps.map (·.1))/\(assignEach (Internal.nms ps) env).length=(ps.map (·.1)).length/\(assignEach (Internal.nms ps) env).findIdx? (·.1)=none
  | []=>⟨trivial,rfl,rfl⟩
  | p :: r=>by
    obtain ⟨h1,h2,h3⟩:=TreesOk.nms (M:=M) (A:=A) (env:=env) (E:=E) r
    have e:assignEach (Internal.nms (p :: r)) env=(false,assign (.Name p.1 p.2) env) :: assignEach (Internal.nms r) env:=rfl
    rw [e]
    exact ⟨⟨λ v s Q h=>PyProof.Rows.assign_Name h,h1⟩,congrArg Nat.succ h2,by rw [List.findIdx?_cons,h3]; rfl⟩
theorem TreesOk.names {M:Model} {A:Around} {env:Env} {E:Value->Shared->Prop} {ts:List Expr} {xs:List Str} (h:namesAre ts xs):TreesOk M A env E ((assignEach ts env).map (·.2)) xs/\(assignEach ts env).length=xs.length/\(assignEach ts env).findIdx? (·.1)=none:=by
  obtain ⟨ps,e,e2⟩:=h
  rw [e,<- e2]; exact TreesOk.nms ps
theorem addrs_cons {c:Cell} {cs:List Cell} {b:Addr}:b∈addrsAll (c :: cs) ↔ b∈c.addrs\/b∈addrsAll cs:=mem_flat
structure AsgI (G:Gd) (Φ:Fm) (env:Env) (β:List V) (ρ0:Loc) (g0:Gh) (h0:Heap) (cs:List Cell) (vs:List Value) (ρ:Loc) (g:Gh) (h:Heap):Prop where
  iv:Inv G Φ env ρ β g h
  rv:RvAll env g h vs cs
  hn:∀ b∈addrsAll cs,¬ Mut env ρ b
  hd:(addrsAll cs).Nodup
  hf:∀ b∈addrsAll cs,h0.get? b=none
  st:Step G (Mut env ρ0) g0 h0 g h
  mg:∀ b,Mut env ρ b->Mut env ρ0 b\/h0.get? b=none
theorem assign_core {A:Around} {env:Env} {E:Value->Shared->Prop} (eo:EnvOk Φ env) (hp:Φ.plain=true) {ρ0:Loc} {g0:Gh} {h0:Heap} {xs:List Str} {cs:List Cell} {ρ ρ':Loc} (h:SetAll xs cs ρ ρ') {g:Gh} :
    ∀ {ts:List (Value->Sem Unit)} {vs:List Value} {s:Shared} {Q:Unit->Shared->Prop},TreesOk (model G.prog G.w) A env E ts xs->AsgI G Φ env β ρ0 g0 h0 cs vs ρ g s.heap ->
      (∀ h' tk,Inv G Φ env ρ' β g h'->Step G (Mut env ρ0) g0 h0 g h'->(∀ b,Mut env ρ' b->Mut env ρ0 b\/h0.get? b=none)->Q () (at_ s h' tk)) ->
      wpAny (model G.prog G.w) A (assignInOrder ts vs) Q E s:=by
  induction h with
  | nil =>
    intro ts vs s Q ht I k
    cases ts with
    | nil=>exact assignInOrder_nil (k s.heap s.toks I.iv I.st I.mg)
    | cons=>exact ht.elim
  | cons h1 hro h2 ih =>
    intro ts vs s Q ht I k
    cases ts with
    | nil=>exact ht.elim
    | cons t ts =>
      cases vs with
      | nil=>exact I.rv.elim
      | cons v vs =>
        have hdj:=I.hd
        rw [addrsAll,List.flatMap_cons,List.nodup_append] at hdj
        have hnm:=λ b hb=>I.hn b (addrs_cons.mpr (.inr hb))
        refine assignInOrder_cons (ht.1 _ _ _ (store_ok eo I.iv h1 hro hp I.rv.1 (λ b hb=>I.hn b (addrs_cons.mpr (.inl hb))) λ h' tk iv1 st1 mg1=>?_))
        exact ih (s:=at_ s h' tk) ht.2 ⟨iv1,RvAll.step I.iv.ok iv1.ok st1 hnm I.rv.2,λ b hb hm=>(mg1 b hm).elim (hnm b hb) λ z=>hdj.2.2 b z b hb rfl,hdj.2.1,λ b hb=>I.hf b (addrs_cons.mpr (.inr hb)),I.st.trans st1 I.mg,
          λ b hb=>(mg1 b hb).elim (I.mg b) λ z=>.inr (I.hf b (addrs_cons.mpr (.inl z)))⟩ k
theorem assign_all {A:Around} {env:Env} {E:Value->Shared->Prop} (eo:EnvOk Φ env) (hp:Φ.plain=true) {ρ0:Loc} {g0:Gh} {h0:Heap}
    (ts:List (Value->Sem Unit)) (xs:List Str) (vs:List Value) (cs:List Cell) (ρ:Loc) (g:Gh) (s:Shared) (Q:Unit->Shared->Prop) (ht:TreesOk (model G.prog G.w) A env E ts xs) (h:SetAll xs cs ρ ρ') (iv:Inv G Φ env ρ β g s.heap) (rv:RvAll env g s.heap vs cs) (hn:∀ b∈addrsAll cs,¬ Mut env ρ b) (hd:(addrsAll cs).Nodup)
      (hf:∀ b∈addrsAll cs,h0.get? b=none) (st:Step G (Mut env ρ0) g0 h0 g s.heap) (mg:∀ b,Mut env ρ b->Mut env ρ0 b\/h0.get? b=none)
      (k:∀ h' tk,Inv G Φ env ρ' β g h'->Step G (Mut env ρ0) g0 h0 g h'->(∀ b,Mut env ρ' b->Mut env ρ0 b\/h0.get? b=none)->Q () (at_ s h' tk)) :
      wpAny (model G.prog G.w) A (assignInOrder ts vs) Q E s:=assign_core eo hp h ht ⟨iv,rv,hn,hd,hf,st,mg⟩ k
noncomputable def WRs (G:Gd) (Φ:Fm) (k:Nat) (es:List Expr) (ρ:Loc) (β:List V) (K:List Cell->List V->Prop):Prop :=
  ∀ (A:Around) (env:Env) (g:Gh) (s:Shared) (pos:Pos) (Q:List Value->Shared->Prop) (E:Value->Shared->Prop),
    Rm G k A s.heap->EnvOk Φ env->Inv G Φ env ρ β g s.heap ->
    (∀ vs cs β' g' h' tk,K cs β'->Inv G Φ env ρ β' g' h'->RvAll env g' h' vs cs->(∀ b∈addrsAll cs,s.heap.get? b=none)->(addrsAll cs).Nodup->Step G (Mut env ρ) g s.heap g' h'->Q vs (at_ s h' tk)) ->
    wpAny (model G.prog G.w) A (spliced (backTo pos (starEach es env))) Q E s
theorem WRs_nil {K} (h:K [] β):WRs G Φ k [] ρ β K :=
  λ A env g s pos Q E rm eo iv kk=>args_nil (kk [] [] _ _ _ s.toks h iv trivial (by intro b hb; simp [addrsAll] at hb) .nil (.refl ..))
theorem RvOk.there {env:Env} {g:Gh} {h:Heap} {v:Value} {c:Cell} (r:RvOk env g h v c):∀ b∈c.addrs,h.get? b≠none:=by
  cases c with
  | own a xs=>obtain ⟨_,_,vs,n,e,_⟩:=r; intro b hb; rw [addrs_own hb,e]; nofun
  | val X=>exact λ _ hb=>addrs_val hb
  | _=>exact r.elim
theorem WRs_cons {e:Expr} {rest K} (h:WR G Φ k e ρ β λ c β1=>WRs G Φ k rest ρ β1 λ cs β2=>K (c :: cs) β2) (hs:noStar e=true):WRs G Φ k (e :: rest) ρ β K :=
  λ A env g s pos Q E rm eo iv kk=>args_cons (h A env g s _ E rm eo iv λ v c β1 g1 h1 tk1 hr iv1 r hf st1 =>
    hr A env g1 _ pos _ E (rm.step st1) eo iv1 λ vs cs β2 g2 h2 tk2 hk iv2 rs hf2 hd2 st2=>by
      have hnm:∀ b∈c.addrs,¬ Mut env ρ b:=λ b hb hm=>by obtain ⟨o,ho,_⟩:=iv.mut_nf hm; rw [hf b hb] at ho; cases ho
      refine kk _ _ β2 g2 h2 tk2 hk iv2 ⟨r.step iv1.ok iv2.ok st2 hnm,rs⟩ (λ b hb=>?_) ?_ (st1.trans' st2)
      . simp only [addrsAll,List.flatMap_cons,List.mem_append] at hb
        rcases hb with z | z
        . exact hf b z
        . exact iv.old st1 iv1.ok (hf2 b z)
      . simp only [addrsAll,List.flatMap_cons]
        refine List.nodup_append.mpr ⟨addrs_nodup c,hd2,λ a ha b hb q=>?_⟩
        subst q
        exact r.there a ha (hf2 a hb)) (starEach_cons hs)
theorem RvAll.length {env:Env} {g:Gh} {h:Heap} {vs:List Value} {cs:List Cell}:RvAll env g h vs cs->vs.length=cs.length :=
  lists2 (P:=λ vs cs=>RvAll env g h vs cs->vs.length=cs.length) (λ _=>rfl) (λ _ _ r=>r.elim) (λ _ _ r=>r.elim) (λ _ _ _ _ ih r=>congrArg Nat.succ (ih r.2)) _ _
noncomputable abbrev scEnv (sc:Scope):Env:={ scope:=sc,locals:=0,globals:=0,cells:=[] }
theorem swapped_scope {env:Env} {sc:Scope} (h:env.scope=sc) (ts:List Expr) (v:Expr):swappedStores ts v env=swappedStores ts v (scEnv sc):=by
  subst h; rfl
theorem RvAll.mono {env:Env} {g g':Gh} {h h':Heap} (ok:Ok G g h) (x:Ext G g h g' h') {vs:List Value} {cs:List Cell} (r:RvAll env g h vs cs):RvAll env g' h' vs cs :=
  RvAll.step (X:=λ _=>False) ok x.ok x.step (λ _ _ q=>q) r
theorem tuple_obj {A:Around} {env:Env} {E:Value->Shared->Prop} {s:Shared} {g:Gh} {elts:List Expr} {n pos} {Q:Value->Shared->Prop} {K:List Cell->List V->Prop} (rm:Rm G k A s.heap) (eo:EnvOk Φ env) (iv:Inv G Φ env ρ β g s.heap) (h:WRs G Φ k elts ρ β λ cs β1=>cs.length<=1000/\K cs β1)
    (kk:∀ t vs cs β' g' h' tk,K cs β'->Inv G Φ env ρ β' g' h'->RvAll env g' h' vs cs->h'.IsTuple t vs.toArray->(∀ b∈addrsAll cs,s.heap.get? b=none)->(addrsAll cs).Nodup->Step G (Mut env ρ) g s.heap g' h'->Q (.ref t) (at_ s h' tk)) :
    wpAny (model G.prog G.w) A (eval (.Tuple elts n pos) env) Q E s :=
  Tuple_ (h A env g s _ _ E rm eo iv λ vs cs β1 g1 h1 tk1 z0 iv1 rs hf hd st1=>z0.elim λ hl hk=>by
    have x:=Ext.grown iv1.ok (Grow.push h1 (tpObj vs 0))
    exact wpAny_newTuple (kk _ vs cs β1 g1 _ tk1 hk (x.inv iv1) (rs.mono iv1.ok x) ⟨_,Heap.get?_push_size _ rfl,rfl,0,rfl⟩ hf hd (st1.trans' x.step)) (by rw [rs.length,sizeLine_eq]; omega))
theorem RvAll.append {env:Env} {g:Gh} {h:Heap} {a:List Value} {c:List Cell} {b d} (q:RvAll env g h a c) (r:RvAll env g h b d):RvAll env g h (a ++ b) (c ++ d) :=
  lists2 (P:=λ a c=>RvAll env g h a c->RvAll env g h (a ++ b) (c ++ d)) (λ _=>r) (λ _ _ q=>q.elim) (λ _ _ q=>q.elim) (λ _ _ _ _ ih q=>⟨q.1,ih q.2⟩) a c q
theorem RvAll.reverse {env:Env} {g:Gh} {h:Heap}:∀ {a:List Value} {c:List Cell},RvAll env g h a c->RvAll env g h a.reverse c.reverse
  | [],[],_=>trivial
  | v :: a,e :: c,q=>by simpa using (RvAll.reverse q.2).append (show RvAll env g h [v] [e] from ⟨q.1,trivial⟩)
  | [],_ :: _,q=>q.elim
  | _ :: _,[],q=>q.elim
theorem WS_swap {xs:List Str} {ts elts:List Expr} {n tp n2 p2 pos K} (h:WRs G Φ k elts ρ β λ cs β1=>cs.length<=1000/\cs.length=xs.length/\∃ ρ',SetAll xs.reverse cs.reverse ρ ρ'/\K .next ρ' β1)
    (hw:swappedStores [.Tuple ts n tp] (.Tuple elts n2 p2) (scEnv Φ.scope)=pure (some xs)) (hp:Φ.plain=true):WS G Φ k (.Assign [.Tuple ts n tp] (.Tuple elts n2 p2) pos) ρ β K :=
  λ A env g s Q E rm eo iv kk=>by
    refine Assign_Tuple_swapped (names:=xs) (tuple_obj rm eo iv h λ t vs cs β1 g1 h1 tk1 hk iv1 rs ht hf hd st1=>?_) rfl (by rw [swapped_scope eo.scope]; exact hw)
    obtain ⟨hlen,ρ',hset,hk⟩:=hk
    have hvl:vs.length=xs.length:=rs.length.trans hlen
    rw [<- show vs.toArray.size=xs.length from by simpa using hvl]
    refine wpAny_unpackItems_tuple rm.hd ht λ h2 he=>?_
    have gr:=Grow.extBut he
    have x:=Ext.grown iv1.ok gr
    have iv2:=x.inv iv1
    have rs2:=rs.mono iv1.ok x
    have mem:∀ b,b∈addrsAll cs.reverse ↔ b∈addrsAll cs:=λ b=>by simp [addrsAll]
    have rvr:RvAll env g1 h2 vs.toArray.toList.reverse cs.reverse:=by simpa using rs2.reverse
    refine assign_all eo hp _ xs.reverse _ cs.reverse ρ g1 _ _ (TreesOk.map _) hset iv2 rvr (λ b hb hm=>?_) ?_ (λ b hb=>hf b ((mem b).mp hb)) (st1.trans' x.step) (λ b hb=>.inl hb) λ h' tk iv3 st3 mg3=>kk .next .next ρ' β1 g1 h' tk hk iv3 trivial st3 mg3
    . obtain ⟨o,ho,_⟩:=iv.mut_nf hm; rw [hf b ((mem b).mp hb)] at ho; cases ho
    . have:(addrsAll cs.reverse).Perm (addrsAll cs):=by
        unfold addrsAll
        exact (List.reverse_perm cs).flatMap_right _
      exact this.nodup_iff.mpr hd
theorem WS_unpack {xs:List Str} {ts elts:List Expr} {n tp n2 p2 pos K} (h:WRs G Φ k elts ρ β λ cs β1=>cs.length<=1000/\cs.length=xs.length/\∃ ρ',SetAll xs cs ρ ρ'/\K .next ρ' β1)
    (hw:swappedStores [.Tuple ts n tp] (.Tuple elts n2 p2) (scEnv Φ.scope)=pure none) (hx:namesAre ts xs) (hp:Φ.plain=true):WS G Φ k (.Assign [.Tuple ts n tp] (.Tuple elts n2 p2) pos) ρ β K :=
  λ A env g s Q E rm eo iv kk=>by
    refine Assign_Tuple (tuple_obj rm eo iv h λ t vs cs β1 g1 h1 tk1 hk iv1 rs ht hf hd st1=>?_) rfl (by rw [swapped_scope eo.scope]; exact hw)
    refine hid λ _ uQ=>?_
    obtain ⟨hlen,ρ',hset,hk⟩:=hk
    obtain ⟨t1,t2,t3⟩:=TreesOk.names (M:=model G.prog G.w) (A:=A) (env:=env) (E:=E) hx
    refine uQ ?_
    refine wpAny_assign_Tuple rm.hd ht (by rw [t2,<- hlen,<- rs.length]; simp) t3 λ h2 he=>?_
    have x:=Ext.grown iv1.ok (Grow.extBut he)
    refine assign_all eo hp _ xs _ cs ρ g1 _ _ t1 hset (x.inv iv1) (by simpa using rs.mono iv1.ok x) (λ b hb hm=>?_) hd hf (st1.trans' x.step) (λ b hb=>.inl hb) λ h' tk iv3 st3 mg3=>kk .next .next ρ' β1 g1 h' tk hk iv3 trivial st3 mg3
    obtain ⟨o,ho,_⟩:=iv.mut_nf hm; rw [hf b hb] at ho; cases ho
theorem RvAll.vals {env:Env} {g:Gh} {h:Heap} {vs:List Value} {xs:List V} (r:RepL g vs xs):RvAll env g h vs (xs.map .val) :=
  r.ind (P:=λ vs xs=>RvAll env g h vs (xs.map .val)) trivial λ _ _ _ _ a _ q=>⟨a,q⟩
theorem addrsAll_vals (xs:List V):addrsAll (xs.map .val)=[]:=by
  induction xs with
  | nil=>rfl
  | cons x xs ih=>exact ih
theorem WS_unpackv {xs:List Str} {ts:List Expr} {value:Expr} {n tp pos K} (h:WE G Φ k value ρ β λ v β1=>∃ ys ρ',v=.tup ys/\ys.length=xs.length/\SetAll xs (ys.map .val) ρ ρ'/\K .next ρ' β1)
    (hw:swappedStores [.Tuple ts n tp] value (scEnv Φ.scope)=pure none) (hx:namesAre ts xs) (hc:noComp value=true) (hp:Φ.plain=true):WS G Φ k (.Assign [.Tuple ts n tp] value pos) ρ β K :=
  λ A env g s Q E rm eo iv kk=>by
    refine Assign_Tuple (h A env g s _ E rm eo iv λ v c β1 g1 h1 tk1 z0 iv1 rv st1=>hid λ _ uQ=>z0.elim λ ys z0=>z0.elim λ ρ' z0=>z0.elim λ hv z0=>z0.elim λ hlen z0=>z0.elim λ hset hk=>uQ <| ?_) (show swapsWithSole [.Tuple ts n tp] value pos.line env=pure false from swaps_no hc (some (.Tuple ts n tp)) pos.line env) (by rw [swapped_scope eo.scope]; exact hw)
    subst hv
    refine hid λ _ uQ=>?_
    obtain ⟨t,vs,m,rfl,et,lt⟩:=rv.tup_inv
    obtain ⟨t1,t2,t3⟩:=TreesOk.names (M:=model G.prog G.w) (A:=A) (env:=env) (E:=E) hx
    refine uQ ?_
    refine wpAny_assign_Tuple rm.hd (iv1.ok.isT et) (by rw [t2,<- hlen,<- lt.length]; simp) t3 λ h2 he=>?_
    have x:=Ext.grown iv1.ok (Grow.extBut he)
    have na:=addrsAll_vals ys
    exact assign_all eo hp _ xs _ _ ρ g1 _ _ t1 hset (x.inv iv1) (by simpa using RvAll.vals lt) (by rw [na]; intro b hb; cases hb) (by rw [na]; exact .nil) (by rw [na]; intro b hb; cases hb) (st1.trans' x.step) (λ b hb=>.inl hb) λ h' tk iv3 st3 mg3=>kk .next .next ρ' β1 g1 h' tk hk iv3 trivial st3 mg3
end
end A7
noncomputable section A8
section
variable {G:Gd} {Φ:Fm} {k:Nat} {ρ ρ':Loc} {β:List V}
noncomputable def idx (xs:List V) (i:Int):Option V:=if xs.length < 2 ^ 60 then (seqIndex? i xs.length).bind (xs[·]?) else none
theorem idx_pos {xs:List V} {i:Int} {x:V} (h0:0<=i) (hx:xs[i.toNat]?=some x) (hl:xs.length<=100000):idx xs i=some x:=by
  have h1:=(List.getElem?_eq_some_iff.mp hx).1
  have e:seqIndex? i xs.length=some i.toNat:=by
    unfold seqIndex?
    have:¬ i < 0:=by omega
    have h2:i < (xs.length:Int):=by omega
    simp [this,h0,h2]
  rw [idx,if_pos (show xs.length < 2 ^ 60 by omega),e]
  exact hx
theorem idx_last {xs:List V} {x:V} (hl:xs.length<=100000):idx (xs ++ [x]) (-1)=some x:=by
  have hlen:(xs ++ [x]).length=xs.length + 1:=by simp
  have e:seqIndex? (-1) (xs ++ [x]).length=some xs.length:=by
    rw [hlen]; unfold seqIndex?
    have h1:(0:Int)<=-1 + ((xs.length + 1:Nat):Int):=by omega
    have h2:-1 + ((xs.length + 1:Nat):Int) < ((xs.length + 1:Nat):Int):=by omega
    have h3:(-1 + ((xs.length + 1:Nat):Int)).toNat=xs.length:=by omega
    simp only [show (-1:Int) < 0 by decide,if_true,h1,h2,decide_true,Bool.and_self,h3]
  rw [idx,if_pos (show (xs ++ [x]).length < 2 ^ 60 by omega),e]
  simp
theorem WE_sub {value slice:Expr} {pos K} (h:WE G Φ k value ρ β λ o β1=>WE G Φ k slice ρ β1 λ j β2=>∃ xs i x,(o=.list xs\/o=.tup xs)/\j=.int i/\idx xs i=some x/\K x β2) (hs:noSlice slice=true):WE G Φ k (.Subscript value slice pos) ρ β K :=
  λ A env g s Q E rm eo iv kk=>Subscript_ (h A env g s _ E rm eo iv λ vo o β1 g1 h1 tk1 hr iv1 ro st1 =>
    hr A env g1 _ _ E (rm.step st1) eo iv1 λ vj j β2 g2 h2 tk2 z0 iv2 rj st2=>z0.elim λ xs z0=>z0.elim λ i z0=>z0.elim λ x z0=>z0.elim λ ho z0=>z0.elim λ hj z0=>z0.elim λ hx hk=>by
      refine Rep.int_q hj rj λ t=>?_
      unfold idx at hx
      split at hx
      . rename_i hlen
        obtain ⟨j,hj,hxj⟩:=Option.bind_eq_some_iff.mp hx
        rcases ho with rfl | rfl
        . refine Rep.list_e (ro.mono st2.gle) λ a vs n ea la=>?_
          exact tail_item hs (iv2.ok.sub _ _ ea) la hj hlen hxj λ v r=>kk v x β2 g2 h2 tk2 hk iv2 r (st1.trans' st2)
        . refine Rep.tup_e (ro.mono st2.gle) λ a vs n ea la=>?_
          obtain ⟨v,hv,hrv⟩:=la.get hxj
          have hjb:=(List.getElem?_eq_some_iff.mp hxj).1
          have hi:-(2 ^ 63:Int)<=i/\i < 2 ^ 63:=by
            unfold seqIndex? at hj
            simp only at hj
            split at hj <;> (split at hj <;> simp_all) <;> omega
          exact tail_any (iv2.ok.isT ea).typeIs slot_tuple_getitem.lookup (PyProof.Rows.getItem_tuple (iv2.ok.isT ea) hi.1 hi.2 (by simpa [la.length] using hj) (by simpa using hv) (kk v x β2 g2 h2 tk2 hk iv2 hrv (st1.trans' st2))) (sub_plain hs _ _)
      . cases hx)
theorem WE_subown {x:Str} {a:Addr} {xs:List V} {p slice pos K} (hm:(x,.own a xs)∈ρ) (h:WE G Φ k slice ρ β λ j β2=>∃ i X,j=.int i/\idx xs i=some X/\K X β2) (hs:noSlice slice=true):WE G Φ k (.Subscript (.Name x p) slice pos) ρ β K :=
  λ A env g s Q E rm eo iv kk=>Subscript_ (wpAny_Name (load_own eo iv hm (
    h A env g _ _ E rm eo iv λ vj j β2 g2 h2 tk2 z0 iv2 rj st2=>z0.elim λ i z0=>z0.elim λ X z0=>z0.elim λ hj z0=>z0.elim λ hx hk=>by
      refine Rep.int_q hj rj λ t=>?_
      unfold idx at hx
      split at hx
      . rename_i hlen
        obtain ⟨j,hj,hxj⟩:=Option.bind_eq_some_iff.mp hx
        obtain ⟨m,hn,hc⟩:=iv2.cell
        obtain ⟨_,vs,n,ea,la⟩:=hc hm
        exact tail_item hs ea la hj hlen hxj λ v r=>kk v X β2 g2 h2 tk2 hk iv2 r st2
      . cases hx)) (eo.dbgk (iv.key hm)))
theorem WE_subbox {x:Str} {a:Addr} {p slice pos K} (hm:(x,.box a)∈ρ) (h:WE G Φ k slice ρ β λ j β2=>∃ i X,j=.int i/\idx β2 i=some X/\K X β2) (hs:noSlice slice=true):WE G Φ k (.Subscript (.Name x p) slice pos) ρ β K :=
  λ A env g s Q E rm eo iv kk=>Subscript_ (wpAny_Name (load_box eo iv hm (
    h A env g _ _ E rm eo iv λ vj j β2 g2 h2 tk2 z0 iv2 rj st2=>z0.elim λ i z0=>z0.elim λ X z0=>z0.elim λ hj z0=>z0.elim λ hx hk=>by
      refine Rep.int_q hj rj λ t=>?_
      unfold idx at hx
      split at hx
      . rename_i hlen
        obtain ⟨j,hj,hxj⟩:=Option.bind_eq_some_iff.mp hx
        obtain ⟨m,hn,hc⟩:=iv2.cell
        obtain ⟨_,vs,n,ea,la⟩:=hc hm
        exact tail_item hs ea la hj hlen hxj λ v r=>kk v X β2 g2 h2 tk2 hk iv2 r st2
      . cases hx)) (eo.dbgk (iv.key hm)))
theorem tail_slice {A:Around} {s:Shared} {Q:Value->Shared->Prop} {E:Value->Shared->Prop} {prog w} {value slice:Expr} {l sl:Addr} {vs:List Value} {n:Nat} {vl vu:Value} {lo hi:Option Int} (hs:∀ o i,subscripted slice false o i=operate [i,o] (getItem o i))
    (hl:s.heap.get? l=some (lsObj vs n)) (hsl:s.heap.IsSliceOf sl vl vu .none) (pl:IsPart vl lo) (pu:IsPart vu hi) (hlen:vs.length<=100000)
    (h:Q (.ref s.heap.objs.size) { s with heap:=s.heap.push { cls:=.type "list",data:=.seq (slicePick vs.toArray lo hi none) } }) :
    wpAny (model prog w) A (subscriptTail value slice (.ref l) (.ref sl)) Q E s :=
  have L:s.heap.IsList l vs.toArray:=⟨_,hl,rfl,n,rfl⟩
  tail_any L.typeIs slot_list_getitem.lookup (wpAny_getItem_list_slice L hsl pl pu .none (by simp) h (by rw [sizeLine_eq]; simp; omega)) (hs _ _)
theorem slice_node {A:Around} {env:Env} {s:Shared} {Q:Value->Shared->Prop} {E:Value->Shared->Prop} {prog w} {lo up:Option Expr} {pos}
    (h:wpAny (model prog w) A (valueOrNone (evalOpt lo env)) (λ l s1=>wpAny (model prog w) A (valueOrNone (evalOpt up env)) (λ u s2 =>
      Q (.ref s2.heap.objs.size) { s2 with heap:=s2.heap.push { cls:=.type "slice",data:=.fields #[l,u,.none] } }) E s1) E s):wpAny (model prog w) A (eval (.Slice lo up none pos) env) Q E s:=by
  show wpAny _ A (do
    let l <- valueOrNone (evalOpt lo env)
    let u <- holding [l] (valueOrNone (evalOpt up env))
    let st <- holding [l,u] (valueOrNone (evalOpt none env))
    newFields "slice" [l,u,st]) Q E s
  refine wpAny_bind (wpAny_mono h (λ l s1 h1=>wpAny_bind (wpAny_holding (wpAny_mono h1 (λ u s2 h2=>wpAny_bind (wpAny_holding ?_)) λ _ _ x=>x))) λ _ _ x=>x)
  refine wpAny_pure ?_
  exact wpAny_newObj_type h2
theorem WE_upto {value e:Expr} {sp pos K} (h:WE G Φ k value ρ β λ o β1=>WE G Φ k e ρ β1 λ j β2=>∃ xs i,o=.list xs/\j=.int i/\0<=i/\xs.length<=10000/\K (.list (xs.take i.toNat)) β2):WE G Φ k (.Subscript value (.Slice none (some e) none sp) pos) ρ β K :=
  λ A env g s Q E rm eo iv kk=>Subscript_ (h A env g s _ E rm eo iv λ vo o β1 g1 h1 tk1 hr iv1 ro st1=>by
    refine slice_node (wpAny_pure (hr A env g1 _ _ E (rm.step st1) eo iv1 λ vj j β2 g2 h2 tk2 z0 iv2 rj st2=>z0.elim λ xs z0=>z0.elim λ i z0=>z0.elim λ ho z0=>z0.elim λ hj z0=>z0.elim λ hi z0=>z0.elim λ hlen hk=>?_))
    refine Rep.int_q hj rj λ t=>?_
    refine Rep.list_q ho (ro.mono st2.gle) λ a vs n ea la=>?_
    obtain ⟨m,rfl⟩:=Int.eq_ofNat_of_zero_le hi
    have x:=Ext.grown iv2.ok (Grow.push h2 { cls:=.type "slice",data:=.fields #[.none,.int (m:Int) t,.none] })
    refine tail_slice (λ _ _=>rfl) (x.grow.kept _ _ (iv2.ok.sub _ _ ea)) ⟨_,Heap.get?_push_size _ rfl,rfl,rfl⟩ .none (.int _ _) (by rw [la.length]; omega) ?_
    rw [slicePick_upto']
    have y:=Ext.alloc x.ok (lsObj (vs.take m) 0)
    have z:=x.trans y
    exact kk _ _ β2 _ _ tk2 hk (z.inv iv2) (.list (gset_self ..) ((la.take m).mono z.gle)) ((st1.trans' st2).trans' z.step))
theorem WS_append {x:Str} {a:Addr} {xs:List V} {p ap cp pos:Pos} {e:Expr} {K} (hm:(x,.own a xs)∈ρ) (h:WE G Φ k e ρ β λ y β1=>xs.length<=1000/\∃ ρ',SetAt x (.own a (xs ++ [y])) ρ (.own a xs) ρ'/\K .next ρ' β1)
    (hs:noStar e=true) (hl:(ap.endLine == cp.line)=true):WS G Φ k (.Expr (.Call (.Attribute (.Name x p) "append" ap) [e] [] cp) pos) ρ β K :=
  λ A env g s Q E rm eo iv kk=>by
    refine wpAny_Expr ?_ (by unfold interactive; rw [eo.fn]; rfl) rfl
    have hst:starEach [e] env=[(false,eval e env)]:=by rw [starEach_cons hs]; rfl
    refine wpAny_Call_append rfl (by rw [hst]; rfl) hl (by rw [hst]; rfl) (wpAny_Name (load_own eo iv hm ?_) (eo.dbgk (iv.key hm)))
    obtain ⟨m,hn,hc⟩:=iv.cell
    obtain ⟨_,vs,n,ea,la⟩:=hc hm
    refine ⟨a,vs.toArray,rfl,⟨_,n,ea,rfl,rfl,rfl⟩,h A env g _ _ E rm eo iv λ vy y β1 g1 h1 tk1 z0 iv1 ry st1=>z0.elim λ hlen z0=>z0.elim λ ρ' z0=>z0.elim λ hset hk=>?_⟩
    obtain ⟨m1,hn1,hc1⟩:=iv1.cell
    obtain ⟨_,vs1,n1,ea1,la1⟩:=hc1 hm
    refine append_ls (s:=at_ s h1 tk1) ea1 (by rw [la1.length]; omega) λ h2 e2 hs2=>?_
    obtain ⟨iv2,st2,mg2⟩:=iv1.turn_own eo hset e2 (la1.append (.cons ry .nil)) hs2
    exact kk .next .next ρ' β1 g1 h2 tk1 hk iv2 trivial (st1.trans' st2) λ b hb=>.inl (mg2 b hb)
theorem WS_setown {x:Str} {a:Addr} {xs:List V} {p tp pos:Pos} {i e:Expr} {K} (hm:(x,.own a xs)∈ρ)
    (h:WE G Φ k e ρ β λ y β1=>WE G Φ k i ρ β1 λ j β2=>∃ n ρ',j=.int n/\0<=n/\n < xs.length/\xs.length<=100000/\SetAt x (.own a (xs.set n.toNat y)) ρ (.own a xs) ρ'/\K .next ρ' β2) (hc:noComp e=true) :
    WS G Φ k (.Assign [.Subscript (.Name x p) i tp] e pos) ρ β K :=
  λ A env g s Q E rm eo iv kk=>wpAny_Assign_Subscript (h A env g s _ E rm eo iv λ vy y β1 g1 h1 tk1 hi iv1 ry st1 =>
    wpAny_Name (load_own (s:=at_ s h1 tk1) eo iv1 hm (hi A env g1 _ _ E (rm.step st1) eo iv1 λ vj j β2 g2 h2 tk2 z0 iv2 rj st2=>z0.elim λ n z0=>z0.elim λ ρ' z0=>z0.elim λ hj z0=>z0.elim λ h0 z0=>z0.elim λ hlt z0=>z0.elim λ hlen z0=>z0.elim λ hset hk=>by
      subst hj
      refine Rep.int_e rj λ t=>?_
      obtain ⟨m,hn,hc⟩:=iv2.cell
      obtain ⟨_,vs,nn,ea,la⟩:=hc hm
      refine setItem_ls (s:=at_ s h2 tk2) ea h0 (by omega) (by rw [la.length]; omega) λ h3 e3 hs3=>?_
      obtain ⟨iv3,st3,mg3⟩:=iv2.turn_own eo hset e3 (la.set (ry.mono st2.gle) _) hs3
      exact kk .next .next ρ' β2 g2 h3 tk2 hk iv3 trivial ((st1.trans' st2).trans' st3) λ b hb=>.inl (mg3 b hb))) (eo.dbgk (iv.key hm))) (swaps_no hc ..)
theorem WS_setbox {x:Str} {a:Addr} {p tp pos:Pos} {i e:Expr} {K} (hm:(x,.box a)∈ρ) (hone:∀ y b,(y,.box b)∈ρ->y=x)
    (h:WE G Φ k e ρ β λ y β1=>WE G Φ k i ρ β1 λ j β2=>∃ n,j=.int n/\0<=n/\n < β2.length/\β2.length<=100000/\K .next ρ (β2.set n.toNat y)) (hc:noComp e=true) :
    WS G Φ k (.Assign [.Subscript (.Name x p) i tp] e pos) ρ β K :=
  λ A env g s Q E rm eo iv kk=>wpAny_Assign_Subscript (h A env g s _ E rm eo iv λ vy y β1 g1 h1 tk1 hi iv1 ry st1 =>
    wpAny_Name (load_box (s:=at_ s h1 tk1) eo iv1 hm (hi A env g1 _ _ E (rm.step st1) eo iv1 λ vj j β2 g2 h2 tk2 z0 iv2 rj st2=>z0.elim λ n z0=>z0.elim λ hj z0=>z0.elim λ h0 z0=>z0.elim λ hlt z0=>z0.elim λ hlen hk=>by
      refine Rep.int_q hj rj λ t=>?_
      obtain ⟨m,hn,hc⟩:=iv2.cell
      obtain ⟨_,vs,nn,ea,la⟩:=hc hm
      refine setItem_ls (s:=at_ s h2 tk2) ea h0 (by omega) (by rw [la.length]; omega) λ h3 e3 hs3=>?_
      obtain ⟨iv3,st3⟩:=iv2.turn_box eo hm hone e3 (la.set (ry.mono st2.gle) _) hs3
      exact kk .next .next ρ _ g2 h3 tk2 hk iv3 trivial ((st1.trans' st2).trans' st3) λ b hb=>.inl hb)) (eo.dbgk (iv.key hm))) (swaps_no hc ..)
theorem WSs_freeze {x:Str} {a:Addr} {xs:List V} {st:List Stmt} {K} (hset:SetAt x (.val (.list xs)) ρ (.own a xs) ρ') (h:WSs G Φ k st ρ' β K):WSs G Φ k st ρ β K :=
  λ A env g s Q E rm eo iv kk=>by
    have hm:=hset.mem_old
    obtain ⟨m,hn,hc⟩:=iv.ns
    obtain ⟨hsl,vs,n,ea,la⟩:=hc _ hm
    have hmut:Mut env ρ a:=mut_addrs hm (.head _)
    have hg:=iv.off a hmut
    have ndk:(ρ.map (·.1)).Nodup:=by rw [iv.keys]; exact eo.nodup
    have gle:=gset_le (o:=lsObj vs n) (.inl hg)
    have mg:∀ b,Mut env ρ' b->Mut env ρ b/\b≠a:=λ b hb=>by
      rcases hb with rfl | ⟨p,hp,z⟩
      . exact ⟨.inl rfl,λ q=>by obtain ⟨oL,_,_,eL,dL,_⟩:=hn; rw [q,ea] at eL; cases eL; cases dL⟩
      . rcases hset.of_mem ndk p hp with rfl | ⟨q,hne⟩
        . rcases z with z | z
          . refine ⟨.inr ⟨_,hm,.inl ⟨rfl,z.2⟩⟩,λ q=>?_⟩
            subst q
            rcases hsl with ⟨w,_⟩ | ⟨_,c,hc1,o,ho,hd⟩
            . exact z.2.1 w
            . rw [z.2.2] at hc1; cases hc1; rw [ea] at ho; cases ho; cases hd
          . exact z.elim
        . refine ⟨.inr ⟨p,q,z⟩,λ w=>?_⟩
          subst w
          rcases z with z | z
          . have:=hc p q
            have nocell:∀ {v},¬ slotIs env s.heap m p.1 v:=λ sl=>by
              rcases sl with ⟨w,_⟩ | ⟨_,c,hc1,o,ho,hd⟩
              . exact z.2.1 w
              . rw [z.2.2] at hc1; cases hc1; rw [ea] at ho; cases ho; cases hd
            exact this.slot.elim λ _ s=>nocell s
          . exact apart_ne iv.apart q hm hne (addrs_owns z) (.head _:b∈(Cell.own b xs).addrs) rfl
    have sub:(ρ'.flatMap (·.2.addrs)).Nodup:=hset.apart iv.apart (addrs_nodup _) (λ _ hb=>addrs_val hb)
    have iv':Inv G Φ env ρ' β (gset g a (lsObj vs n)) s.heap:=by
      refine ⟨iv.ok.learn hg ea nofun,⟨m,hn,λ p hp=>?_⟩,λ b hb=>?_,hset.keys.trans iv.keys,sub⟩
      . rcases hset.of_mem ndk p hp with rfl | ⟨q,_⟩
        . exact ⟨.ref a,hsl,.list (gset_self ..) (la.mono gle)⟩
        . exact (hc p q).grow (Grow.refl _) gle
      . rw [gset_ne (mg b hb).2]; exact iv.off b (mg b hb).1
    refine h A env _ s Q E rm eo iv' λ fl f ρ2 β2 g2 h2 tk2 hk iv2 fr st2 mg2=>kk fl f ρ2 β2 g2 h2 tk2 hk iv2 fr ?_ λ b hb=>(mg2 b hb).imp (λ z=>(mg b z).1) id
    exact (Step.learn (.refl G (Mut env ρ) g s.heap) hg (.inr hmut)).trans st2 λ b hb=>.inl (mg b hb).1
theorem WS_reto {x:Str} {a:Addr} {xs:List V} {p pos K} (hm:(x,.own a xs)∈ρ) (h:K (.reto a xs) ρ β):WS G Φ k (.Return (some (.Name x p)) pos) ρ β K :=
  λ A env g s Q E rm eo iv kk=>wpAny_Return_some (wpAny_Name (load_own eo iv hm (by
    obtain ⟨m,hn,hc⟩:=iv.cell
    obtain ⟨_,vs,n,ea,la⟩:=hc hm
    exact kk (.ret (.ref a)) (.reto a xs) ρ β g s.heap s.toks h iv ⟨rfl,iv.off a (mut_addrs hm (.head _)),mut_addrs hm (.head _),vs,n,ea,la⟩ (.refl ..) λ b hb=>.inl hb)) (eo.dbgk (iv.key hm)))
end
end A8
noncomputable section A9
section
variable {G:Gd} {Φ:Fm} {k:Nat} {ρ ρ':Loc} {β:List V}
noncomputable def IsFn (G:Gd):V->Prop
  | .fn a=>∃ o fd,G.gh.get? a=some o/\o.data=.func fd
  | .clo ..=>True
  | _=>False
theorem IsFn.obj {g:Gh} {h:Heap} (ok:Ok G g h) {v:Value} {f:V} (r:Rep g v f) (hf:IsFn G f):∃ a o fd,v=.ref a/\g a=some o/\o.data=.func fd:=by
  cases r with
  | fn a=>obtain ⟨o,fd,h1,h2⟩:=hf; exact ⟨a,o,fd,rfl,ok.gnd _ _ h1,h2⟩
  | clo h1 _ h3 _ _ _ _ _ _=>exact ⟨_,_,_,rfl,h1,h3⟩
  | _=>exact hf.elim
theorem callWith_any {M:Model} {A:Around} {env:Env} {E:Value->Shared->Prop} {s:Shared} {pos:Pos} {a:Addr} {o:Obj} {fd:FuncData} {first:List Value} {args:List Expr} {Q:Value->Shared->Prop} (hd:o.data=.func fd) (h0:s.heap.get? a=some o) (hns:args.all noStar=true)
    (h:wpAny M A (spliced (backTo pos (starEach args env))) (λ vs s1=>s1.heap.get? a=some o/\wpAny M A (call (.ref a) (first ++ vs)) Q E s1) E s):wpAny M A (callWith pos (.ref a) first (backTo pos (starEach args env)) []) Q E s:=by
  cases args with
  | nil =>
    have h1:wpAny M A (call (.ref a) (first ++ [])) Q E s:=λ Γ p hΓ=>(h Γ p hΓ).2 Γ p hΓ
    exact callWith_function (o:=o) (fd:=fd) (PyProof.Rows.evalArgs_none ⟨⟨h0,hd⟩,h1⟩)
  | cons e r =>
    have he:starEach (e :: r) env=(false,eval e env) :: starEach r env:=starEach_cons (by simp at hns; exact hns.1)
    rw [he] at h ⊢
    exact callWith_function (o:=o) (fd:=fd) (evalArgs_plain (wpAny_mono h (λ vs s1 h1=>⟨⟨h1.1,hd⟩,h1.2⟩) λ _ _ x=>x))
theorem kept_obj {g g':Gh} {h h':Heap} {X:Addr->Prop} (ok:Ok G g h) (st:Step G X g h g' h') {b:Addr} {o:Obj} (e:h.get? b=some o) (nx:¬ X b) (ht:∀ ps,o≠tabObj ps):h'.get? b=some o :=
  st.kept b o nx (λ z0=>z0.elim λ q z0=>z0.elim λ hq z=>by obtain ⟨ps,w,_⟩:=ok.tab q hq; rw [z,e] at w; exact ht ps (Option.some.inj w)) e
theorem cellOk.stepped {env:Env} {g g':Gh} {h h':Heap} {m:Str->Option Value} {x:Str} {X:Addr->Prop} (ok:Ok G g h) (st:Step G X g h g' h'):∀ {c:Cell},(∀ b∈c.addrs,¬ X b)->(∀ b,env.cells.lookup x=some b->¬ X b)->cellOk env g h m β x c->cellOk env g' h' m β x c:=by
  intro c hx hc q
  have sl:∀ {v},slotIs env h m x v->slotIs env h' m x v:=λ s=>s.imp id λ z0=>z0.elim λ a z0=>z0.elim λ b z0=>z0.elim λ e z0=>z0.elim λ o z0=>z0.elim λ ho hd=>⟨a,b,e,o,kept_obj ok st ho (hc b e) (λ ps z=>by rw [z] at hd; cases hd),hd⟩
  have ls:∀ {a vs n},¬ X a->h.get? a=some (lsObj vs n)->h'.get? a=some (lsObj vs n):=λ nx e=>kept_obj ok st e nx nofun
  exact q.map st.gle (λ _=>sl) λ a ha _ _=>ls (hx a ha)
theorem off_step {env:Env} {g g':Gh} {h h':Heap} {X:Addr->Prop} (iv:Inv G Φ env ρ β g h) (st:Step G X g h g' h') (hX:∀ b,X b->g' b=none) (ok':Ok G g' h'):∀ b,Mut env ρ b->g' b=none:=λ b hb=>by
  cases e:g' b with
  | none=>rfl
  | some o => rcases st.fresh b o e with q | q | q | ⟨t, ht, q⟩
              . rw [iv.off b hb] at q; cases q
              . exact absurd q (iv.mut_in hb)
              . rw [hX b q] at e; cases e
              . rw [<- q,ok'.off t ht] at e; cases e
theorem Inv.called {env:Env} {g g':Gh} {h h':Heap} (iv:Inv G Φ env ρ β g h) (ok':Ok G g' h') (st:Step G (λ _=>False) g h g' h'):Inv G Φ env ρ β g' h' where
  ok:=ok'
  ns:=by
    obtain ⟨m,⟨o,es,ep,e,d,r⟩,hc⟩:=iv.ns
    exact ⟨m,⟨o,es,ep,kept_obj iv.ok st e (λ z=>z) (λ ps z=>by rw [z] at d; cases d),d,r⟩,λ p hp=>(hc p hp).stepped iv.ok st (λ _ _ z=>z) (λ _ _ z=>z)⟩
  off:=off_step iv st (λ _ z=>z.elim) ok'
  keys:=iv.keys
  apart:=iv.apart
theorem WE_call {f:Str} {p:Pos} {args:List Expr} {pos K} (h:WE G Φ k (.Name f p) ρ β λ fv β1=>IsFn G fv/\WL G Φ k args ρ β1 λ xs β2=>Spec G k fv xs λ x=>K x β2) (hns:args.all noStar=true):WE G Φ k (.Call (.Name f p) args [] pos) ρ β K :=
  λ A env g s Q E rm eo iv kk=>Call_ (h A env g s _ E rm eo iv λ vf fv β1 g1 h1 tk1 z0 iv1 rf st1=>z0.elim λ hfn hl=>by
    obtain ⟨a,o,fd,rfl,ho,hd⟩:=hfn.obj iv1.ok rf
    exact callWith_any hd (iv1.ok.sub _ _ ho) hns (hl A env g1 _ _ _ E (rm.step st1) eo iv1 λ vs xs β2 g2 h2 tk2 hk iv2 rs st2 =>
      ⟨iv2.ok.sub _ _ (st2.gle _ _ ho),hk A g2 _ _ vs Q E ((rm.step st1).step st2) iv2.ok (rf.mono st2.gle) rs λ v x g3 h3 tk3 hx ok3 rx st3 =>
        kk v x β2 g3 h3 tk3 hx (iv2.called ok3 st3) rx ((st1.trans' st2).trans st3 λ b z=>z.elim)⟩))
theorem WE_callbox {f x:Str} {a:Addr} {p px:Pos} {args:List Expr} {pos K} (hm:(x,.box a)∈ρ) (hone:∀ y b,(y,.box b)∈ρ->y=x) (h:WE G Φ k (.Name f p) ρ β λ fv β1=>IsFn G fv/\WL G Φ k args ρ β1 λ xs β2=>SpecIO G k fv β2 xs λ r β3=>K r β3) (hns:args.all noStar=true) :
    WE G Φ k (.Call (.Name f p) (.Name x px :: args) [] pos) ρ β K :=
  λ A env g s Q E rm eo iv kk=>Call_ (h A env g s _ E rm eo iv λ vf fv β1 g1 h1 tk1 z0 iv1 rf st1=>z0.elim λ hfn hl=>by
    obtain ⟨af,o,fd,rfl,ho,hd⟩:=hfn.obj iv1.ok rf
    refine callWith_any hd (iv1.ok.sub _ _ ho) hns (args_cons (wpAny_Name (load_box (s:=at_ s h1 tk1) eo iv1 hm (hl A env g1 _ _ _ E (rm.step st1) eo iv1 λ vs xs β2 g2 h2 tk2 hk iv2 rs st2=>?_)) (eo.dbgk (iv.key hm))))
    refine ⟨iv2.ok.sub _ _ (st2.gle _ _ ho),?_⟩
    obtain ⟨m,hn,hc⟩:=iv2.ns
    obtain ⟨hsl,ws,n,ea,la⟩:=hc _ hm
    have hmut:Mut env ρ a:=mut_addrs hm (.head _)
    refine hk A g2 _ _ a vs ws n Q E ((rm.step st1).step st2) iv2.ok (rf.mono st2.gle) rs ea la (iv2.off a hmut) λ v x' xs' ws' n' g3 h3 tk3 hx ok3 rx ea' la' hg' st3=>?_
    refine kk v x' xs' g3 h3 tk3 hx ⟨ok3,?_,off_step iv2 st3 (λ b z=>z ▸ hg') ok3,iv.keys,iv.apart⟩ rx ((st1.trans' st2).trans st3 λ b z=>.inl (z ▸ hmut))
    obtain ⟨oL,es,ep,eL,dL,rL⟩:=hn
    have nc:∀ y b,env.cells.lookup y=some b->h2.get? b≠none->b=a->∀ v,¬ h2.IsCell b v:=λ y b _ _ q v z0=>z0.elim λ o' z0=>z0.elim λ ho' hd'=>by rw [q,ea] at ho'; cases ho'; cases hd'
    refine ⟨m,⟨oL,es,ep,kept_obj iv2.ok st3 eL (λ z=>by rw [z,ea] at eL; cases eL; cases dL) (λ ps z=>by rw [z] at dL; cases dL),dL,rL⟩,λ q hq=>?_⟩
    have ndk:(ρ.map (·.1)).Nodup:=by rw [iv.keys]; exact eo.nodup
    have sl:∀ {y v},slotIs env h2 m y v->slotIs env h3 m y v:=λ s=>s.imp id λ z0=>z0.elim λ a' z0=>z0.elim λ b z0=>z0.elim λ e z0=>z0.elim λ o' z0=>z0.elim λ ho' hd'=>⟨a',b,e,o',kept_obj iv2.ok st3 ho' (λ z=>by rw [z,ea] at ho'; cases ho'; cases hd') (λ ps z=>by rw [z] at hd'; cases hd'),hd'⟩
    by_cases hqx:q.1=x
    . obtain ⟨y,c⟩:=q
      simp only at hqx; subst hqx
      have:c=.box a:=by
        have h1:=lookup_of_nodup ndk hq
        have h2:=lookup_of_nodup ndk hm
        rw [h1] at h2; exact Option.some.inj h2
      subst this
      exact ⟨sl hsl,ws',n',ea',la'⟩
    . exact ((hc q hq).map st3.gle (λ _=>sl) λ b hb vs n e=>kept_obj iv2.ok st3 e (apart_ne iv.apart hq hm hqx hb (.head _:a∈(Cell.box a).addrs)) nofun).beta λ b e=>hqx (hone q.1 b (e ▸ hq)))
theorem WR_callo {f:Str} {p:Pos} {args:List Expr} {pos K} (h:WE G Φ k (.Name f p) ρ β λ fv β1=>IsFn G fv/\WL G Φ k args ρ β1 λ xs β2=>SpecO G k fv xs λ ys=>∀ a,K (.own a ys) β2) (hns:args.all noStar=true):WR G Φ k (.Call (.Name f p) args [] pos) ρ β K :=
  λ A env g s Q E rm eo iv kk=>Call_ (h A env g s _ E rm eo iv λ vf fv β1 g1 h1 tk1 z0 iv1 rf st1=>z0.elim λ hfn hl=>by
    obtain ⟨a,o,fd,rfl,ho,hd⟩:=hfn.obj iv1.ok rf
    exact callWith_any hd (iv1.ok.sub _ _ ho) hns (hl A env g1 _ _ _ E (rm.step st1) eo iv1 λ vs xs β2 g2 h2 tk2 hk iv2 rs st2 =>
      ⟨iv2.ok.sub _ _ (st2.gle _ _ ho),hk A g2 _ _ vs Q E ((rm.step st1).step st2) iv2.ok (rf.mono st2.gle) rs λ a ys ws n g3 h3 tk3 hx ok3 ea la hg hfr st3=>by
        have st:=st1.trans' st2
        refine kk _ _ β2 g3 h3 tk3 (hx a) (iv2.called ok3 st3) ⟨rfl,hg,ws,n,ea,la⟩ (λ b hb=>by rw [addrs_own hb]; exact iv.old st iv2.ok hfr) (st.trans st3 λ b z=>z.elim)⟩))
end
end A9
noncomputable section A10
section
variable {G:Gd} {Φ:Fm} {k:Nat} {ρ ρ':Loc} {β:List V}
noncomputable def LoopK (J:Nat->Loc->List V->Prop) (n:Nat) (K:Fl->Loc->List V->Prop):Fl->Loc->List V->Prop
  | .next,ρ',β'=>∃ m,m < n/\J m ρ' β'
  | .cont,ρ',β'=>∃ m,m < n/\J m ρ' β'
  | .brk,ρ',β'=>K .next ρ' β'
  | f,ρ',β'=>K f ρ' β'
theorem WS_while {t:Expr} {body:List Stmt} {pos K} (J:Nat->Loc->List V->Prop) (n0:Nat) (h0:J n0 ρ β)
    (turn:∀ n ρ1 β1,J n ρ1 β1->WT G Φ k t ρ1 β1 (λ β2=>WSs G Φ k body ρ1 β2 (LoopK J n K)) (λ β2=>K .next ρ1 β2)):WS G Φ k (.While t body [] pos) ρ β K :=
  λ A env g s Q E rm eo iv kk=>by
    refine wpAny_While (codeAny_whileLoop (λ n s'=>∃ ρ1 β1 g1 h1 tk1,s'=at_ s h1 tk1/\J n ρ1 β1/\Inv G Φ env ρ1 β1 g1 h1/\Step G (Mut env ρ) g s.heap g1 h1/\(∀ b,Mut env ρ1 b->Mut env ρ b\/s.heap.get? b=none)) ?_ n0
      ⟨ρ,β,g,s.heap,s.toks,rfl,h0,iv,.refl ..,λ b hb=>.inl hb⟩)
    intro n s' zQ2
    refine hid λ _ uQ=>?_
    obtain ⟨ρ1,β1,g1,h1,tk1,rfl,hJ,iv1,st1,mg1⟩:=zQ2
    refine uQ ?_
    refine turn n ρ1 β1 hJ A env g1 _ _ _ (rm.step st1) eo iv1 λ c β2 g2 h2 tk2 ht hf iv2 st2=>?_
    have st12:=st1.trans st2 mg1
    cases c with
    | false =>
      refine wpAny_execs_nil (kk .next .next ρ1 β2 g2 h2 tk2 (hf rfl) iv2 trivial st12 mg1)
    | true =>
      refine ht rfl A env g2 _ _ _ (rm.step st12) eo iv2 λ fl f ρ3 β3 g3 h3 tk3 hk iv3 fr st3 mg3=>?_
      have st13:=st12.trans st3 mg1
      have mg13:∀ b,Mut env ρ3 b->Mut env ρ b\/s.heap.get? b=none:=mut_trans iv st12 iv2.ok mg1 mg3
      cases f with
      | next=>refine FlRep.next_e fr ?_; obtain ⟨m,hm,hJ'⟩:=hk; exact ⟨m,hm,ρ3,β3,g3,h3,tk3,rfl,hJ',iv3,st13,mg13⟩
      | cont=>refine FlRep.cont_e fr ?_; (obtain ⟨m,hm,hJ'⟩:=hk; exact ⟨m,hm,ρ3,β3,g3,h3,tk3,rfl,hJ',iv3,st13,mg13⟩)
      | brk=>refine FlRep.brk_e fr ?_; exact kk .next .next ρ3 β3 g3 h3 tk3 hk iv3 trivial st13 mg13
      | ret x=>refine FlRep.ret_e fr λ v fr=>?_; exact kk _ _ ρ3 β3 g3 h3 tk3 hk iv3 fr st13 mg13
      | reto a xs=>exact FlRep.reto_e fr λ fr=>kk (.ret (.ref a)) (.reto a xs) ρ3 β3 g3 h3 tk3 hk iv3 fr st13 mg13
theorem Inv.side {env:Env} {ρ0:Loc} {β0:List V} {g0 g:Gh} {h0 h h':Heap} {wr:List Addr} (iv0:Inv G Φ env ρ0 β0 g0 h0) (iv:Inv G Φ env ρ β g h) (hw:∀ b∈wr,h0.get? b=none/\¬ Mut env ρ b/\g b=none/\¬ G.isTab b)
    (hk:∀ b o,b ∉ wr->h.get? b=some o->h'.get? b=some o):Inv G Φ env ρ β g h':=by
  have nw:∀ b o,h.get? b=some o->Mut env ρ b->h'.get? b=some o:=λ b o e hb=>hk b o (λ q=>(hw b q).2.1 hb) e
  obtain ⟨m,hn,hc⟩:=iv.ns
  refine ⟨⟨iv.ok.gnd,λ b o e=>hk b o (λ q=>by rw [(hw b q).2.2.1] at e; cases e) (iv.ok.sub b o e),λ q hq=>?_,iv.ok.off⟩,⟨m,?_,λ p hp=>?_⟩,iv.off,iv.keys,iv.apart⟩
  . obtain ⟨ps,e,r⟩:=iv.ok.tab q hq
    exact ⟨ps,hk _ _ (λ z=>(hw _ z).2.2.2 ⟨q,hq,rfl⟩) e,r⟩
  . obtain ⟨o,es,ep,e,r⟩:=hn
    exact ⟨o,es,ep,nw _ _ e (.inl rfl),r⟩
  . have q:=hc p hp
    have old:∀ {c},env.kindOf p.1≠some .local->env.cells.lookup p.1=some c->c ∉ wr:=λ {c} hk hl hc'=>by
      have hkey:p.1∈ρ0.map (·.1):=by rw [iv0.keys,<- iv.keys]; exact List.mem_map_of_mem (f:=(·.1)) hp
      obtain ⟨p0,hp0,e0⟩:=List.mem_map.mp hkey
      obtain ⟨m0,_,hc0⟩:=iv0.ns
      have z:=hc0 p0 hp0
      have go:∀ {v},slotIs env h0 m0 p0.1 v->False:=λ sl=>by
        rw [e0] at sl
        rcases sl with ⟨a,_⟩ | ⟨_,c',h1,o,ho,_⟩
        . exact hk a
        . rw [hl] at h1; cases h1; rw [(hw _ hc').1] at ho; cases ho
      exact z.slot.elim λ _ s=>go s
    have sl:∀ {v},slotIs env h m p.1 v->slotIs env h' m p.1 v:=λ s=>by
      rcases s with a | ⟨a,c,b,o,ho,hd⟩
      . exact .inl a
      . exact .inr ⟨a,c,b,o,hk c o (old a b) ho,hd⟩
    exact q.map (λ _ _ e=>e) (λ _=>sl) λ a ha _ _ e=>nw _ _ e (mut_addrs hp ha)
end
end A10
noncomputable section A11
section
variable {G:Gd} {Φ:Fm} {k:Nat} {ρ ρ':Loc} {β:List V}
theorem Step.side {X:Addr->Prop} {g0 g:Gh} {h0 h h':Heap} {wr:List Addr} (st:Step G X g0 h0 g h) (hw:∀ b∈wr,h0.get? b=none) (hk:∀ b o,b ∉ wr->h.get? b=some o->h'.get? b=some o):Step G X g0 h0 g h' where
  gle:=st.gle
  kept:=λ b o nx nt e=>hk b o (λ q=>by rw [hw b q] at e; cases e) (st.kept b o nx nt e)
  fresh:=st.fresh
  nf:=λ b o e n=>by
    obtain ⟨o',e',n'⟩:=st.nf b o e n
    exact ⟨o',hk b o' (λ q=>by rw [hw b q] at e; cases e) e',n'⟩
structure Own (G:Gd) (env:Env) (ρ:Loc) (g:Gh) (h:Heap) (wr:List Addr):Prop where
  mt:∀ b∈wr,¬ Mut env ρ b
  gh:∀ b∈wr,g b=none
  tab:∀ b∈wr,¬ G.isTab b
  ex:∀ b∈wr,h.get? b≠none
theorem Own.step {env:Env} {g g':Gh} {h h':Heap} {wr:List Addr} (o:Own G env ρ g h wr) (iv:Inv G Φ env ρ β g h) (st:Step G (Mut env ρ) g h g' h') (mg:∀ b,Mut env ρ' b->Mut env ρ b\/h.get? b=none):Own G env ρ' g' h' wr where
  mt:=λ b hb hm=>(mg b hm).elim (o.mt b hb) (o.ex b hb)
  gh:=λ b hb=>by
    cases e:g' b with
    | none=>rfl
    | some ob => rcases st.fresh b ob e with q | q | q | q
                 . rw [o.gh b hb] at q; cases q
                 . exact absurd q (o.ex b hb)
                 . exact absurd q (o.mt b hb)
                 . exact absurd q (o.tab b hb)
  tab:=o.tab
  ex:=λ b hb=>by
    cases e:h.get? b with
    | none=>exact absurd e (o.ex b hb)
    | some ob=>rw [st.kept b ob (o.mt b hb) (o.tab b hb) e]; nofun
noncomputable def ForK (J:Nat->Loc->List V->Prop) (i:Nat) (K:Fl->Loc->List V->Prop):Fl->Loc->List V->Prop
  | .next,ρ',β'=>J (i + 1) ρ' β'
  | .cont,ρ',β'=>J (i + 1) ρ' β'
  | .brk,ρ',β'=>K .next ρ' β'
  | f,ρ',β'=>K f ρ' β'
theorem turn_lt {i n m:Nat} (h:i < n) (hm:m=n + 1 - i):n + 1 - (i + 1) < m:=hm ▸ Nat.sub_lt_sub_left (Nat.lt_succ_of_lt h) (Nat.lt_succ_self i)
structure FB (G:Gd) (Φ:Fm) (env:Env) (ρ0:Loc) (g0:Gh) (h0:Heap) (wr:List Addr) (g:Gh) (ρ1:Loc) (β1:List V) (g1:Gh) (h1:Heap):Prop where
  iv:Inv G Φ env ρ1 β1 g1 h1
  st:Step G (Mut env ρ0) g0 h0 g1 h1
  mg:∀ b,Mut env ρ1 b->Mut env ρ0 b\/h0.get? b=none
  gl:GLe g g1
  mt:∀ b∈wr,¬ Mut env ρ1 b
  gh:∀ b∈wr,g1 b=none
  tab:∀ b∈wr,¬ G.isTab b
section
variable {env:Env} {ρ0 ρ1 ρ2:Loc} {β0 β1 β2:List V} {g0 g g1 g2:Gh} {h0 h1 h2:Heap} {wr fp:List Addr}
theorem FB.own (c:FB G Φ env ρ0 g0 h0 wr g ρ1 β1 g1 h1) (ex:∀ b∈wr,h1.get? b≠none):Own G env ρ1 g1 h1 wr:=⟨c.mt,c.gh,c.tab,ex⟩
theorem FB.side (iv0:Inv G Φ env ρ0 β0 g0 h0) (hwr:∀ b∈wr,h0.get? b=none) (c:FB G Φ env ρ0 g0 h0 wr g ρ1 β1 g1 h1) (hk:∀ b o,b ∉ wr->h1.get? b=some o->h2.get? b=some o):FB G Φ env ρ0 g0 h0 wr g ρ1 β1 g1 h2 :=
  ⟨Inv.side iv0 c.iv (λ b hb=>⟨hwr b hb,c.mt b hb,c.gh b hb,c.tab b hb⟩) hk,c.st.side hwr hk,c.mg,c.gl,c.mt,c.gh,c.tab⟩
theorem FB.next (iv0:Inv G Φ env ρ0 β0 g0 h0) (c:FB G Φ env ρ0 g0 h0 wr g ρ1 β1 g1 h1) (ex:∀ b∈wr,h1.get? b≠none) (iv:Inv G Φ env ρ2 β2 g2 h2) (st:Step G (Mut env ρ1) g1 h1 g2 h2) (mg:∀ b,Mut env ρ2 b->Mut env ρ1 b\/h1.get? b=none) :
    FB G Φ env ρ0 g0 h0 wr g ρ2 β2 g2 h2/\∀ b∈wr,h2.get? b≠none :=
  have o:=(c.own ex).step c.iv st mg
  ⟨⟨iv,c.st.trans st c.mg,mut_trans iv0 c.st c.iv.ok c.mg mg,λ b o e=>st.gle b o (c.gl b o e),o.mt,o.gh,o.tab⟩,o.ex⟩
theorem FB.keep (c:FB G Φ env ρ0 g0 h0 wr g ρ1 β1 g1 h1) (hfp:∀ b∈fp,b∈wr\/∃ o,g b=some o) (st:Step G (Mut env ρ1) g1 h1 g2 h2) (ok:Ok G g2 h2):∀ b∈fp,∀ o,h1.get? b=some o->h2.get? b=some o:=λ b hb o e=>by
  rcases hfp b hb with hb' | ⟨o',e'⟩
  . exact st.kept b o (c.mt b hb') (c.tab b hb') e
  . rw [c.iv.ok.sub b o' (c.gl b o' e')] at e
    exact e ▸ ok.sub b o' (st.gle b o' (c.gl b o' e'))
end
inductive FIv (G:Gd) (Φ:Fm) (env:Env) (ρ0:Loc) (g0:Gh) (s0:Shared) (wr:List Addr) (g:Gh) (J:Nat->Loc->List V->Prop) (St:Nat->Heap->Prop) (n m:Nat) (s:Shared):Prop
  | mk (i:Nat) (ρ1:Loc) (β1:List V) (g1:Gh) (h1:Heap) (tk1:Nat) (es:s=at_ s0 h1 tk1) (hJ:J i ρ1 β1) (c:FB G Φ env ρ0 g0 s0.heap wr g ρ1 β1 g1 h1) (hst:St i h1) (hi:i<=n) (hm:m=n + 1 - i)
theorem for_core {A:Around} {env:Env} {target:Expr} {body:List Stmt} {K:Fl->Loc->List V->Prop} {s0 s:Shared} {g0 g:Gh} {ρ0:Loc} {β0:List V} {Q:Flow->Shared->Prop} {E:Value->Shared->Prop}
    {I:Addr} {fp wr:List Addr} {n:Nat} {P Md:Nat->Value->Heap->Prop} {St:Nat->Heap->Prop}
    (J:Nat->Loc->List V->Prop)
    (rm:Rm G k A s0.heap) (eo:EnvOk Φ env) (iv0:Inv G Φ env ρ0 β0 g0 s0.heap)
    (W:KTurns G.prog G.w A target I fp wr n P Md St) (hst:St 0 s.heap)
    (hwr:∀ b∈wr,s0.heap.get? b=none)
    (hfp:∀ b∈fp,b∈wr\/∃ o,g b=some o)
    (hex:∀ i h,St i h->∀ b∈wr,h.get? b≠none)
    (hs:∃ h tk,s=at_ s0 h tk) (iv:Inv G Φ env ρ0 β g s.heap) (st:Step G (Mut env ρ0) g0 s0.heap g s.heap) (ow:Own G env ρ0 g s.heap wr)
    (h0:J 0 ρ0 β)
    (asg:∀ i v ρ1 β1 g1 (s1:Shared) (Q:Unit->Shared->Prop) (E:Value->Shared->Prop),i < n->P i v s1.heap->J i ρ1 β1->Inv G Φ env ρ1 β1 g1 s1.heap->GLe g g1->Own G env ρ1 g1 s1.heap wr ->
      (∀ ρ2 h2 tk2,WSs G Φ k body ρ2 β1 (ForK J i K)->Inv G Φ env ρ2 β1 g1 h2->Step G (Mut env ρ1) g1 s1.heap g1 h2->(∀ b,Mut env ρ2 b->Mut env ρ1 b\/s1.heap.get? b=none)->Q () (at_ s1 h2 tk2)) ->
      wpAny (model G.prog G.w) A (assign target env v) Q E s1)
    (fin:∀ ρ1 β1,J n ρ1 β1->K .next ρ1 β1)
    (kk:∀ fl f ρ' β' g' h' tk,K f ρ' β'->Inv G Φ env ρ' β' g' h'->FlRep env ρ' g' h' fl f->Step G (Mut env ρ0) g0 s0.heap g' h' ->
      (∀ b,Mut env ρ' b->Mut env ρ0 b\/s0.heap.get? b=none)->Q fl (at_ s0 h' tk)) :
    codeAny (model G.prog G.w) A (.forLoop target (.ref I) body [] env) (λ r s'=>match r with | .ok f=>Q f s' | .error e=>cameBackBy (model G.prog G.w) A env E e s') s:=by
  obtain ⟨hh,htk,e0⟩:=hs
  refine codeAny_forLoop_any (FIv G Φ env ρ0 g0 s0 wr g J St n) ?_ (n + 1) ⟨0,ρ0,β,g,s.heap,s.toks,by rw [e0],h0,⟨iv,st,λ b hb=>.inl hb,λ _ _ e=>e,ow.mt,ow.gh,ow.tab⟩,hst,Nat.zero_le _,rfl⟩
  rintro m _ ⟨i,ρ1,β1,g1,h1,tk1,rfl,hJ,c1,hst1,hi,hm⟩
  rcases Nat.lt_or_ge i n with hlt | hge
  . refine W.item i _ _ _ hlt hst1 λ v h2 tk2 hMd hk2=>W.go i v _ _ _ hMd λ h3 hP hst3 hk3=>?_
    have c3:=c1.side iv0 hwr λ b o hb e=>hk3 b o hb (hk2 b o hb e)
    have ex3:=hex _ _ hst3
    refine asg i v ρ1 β1 g1 _ _ _ hlt hP hJ c3.iv c3.gl (c3.own ex3) λ ρ2 h4 tk4 hT iv4 st4 mg4=>?_
    have c4:=c3.next iv0 ex3 iv4 st4 mg4
    have hst4:=W.frame _ _ _ hst3 (c3.keep hfp st4 iv4.ok)
    refine hT A env g1 _ _ _ (rm.step c4.1.st) eo iv4 λ fl f ρ5 β5 g5 h5 tk5 hK iv5 fr st5 mg5=>?_
    have c5:=(c4.1.next iv0 c4.2 iv5 st5 mg5).1
    have nextJ:J (i + 1) ρ5 β5->∃ m',m' < m/\FIv G Φ env ρ0 g0 s0 wr g J St n m' (at_ s0 h5 tk5):=λ hJ'=>⟨_,turn_lt hlt hm,i + 1,ρ5,β5,g5,h5,tk5,rfl,hJ',c5,W.frame _ _ _ hst4 (c4.1.keep hfp st5 iv5.ok),hlt,rfl⟩
    cases f with
    | next=>refine FlRep.next_e fr ?_; exact nextJ hK
    | cont=>refine FlRep.cont_e fr ?_; exact nextJ hK
    | brk=>refine FlRep.brk_e fr ?_; exact kk .next .next ρ5 β5 g5 h5 tk5 hK iv5 trivial c5.st c5.mg
    | ret x=>refine FlRep.ret_e fr λ v fr=>?_; exact kk _ _ ρ5 β5 g5 h5 tk5 hK iv5 fr c5.st c5.mg
    | reto a xs=>exact FlRep.reto_e fr λ fr=>kk (.ret (.ref a)) (.reto a xs) ρ5 β5 g5 h5 tk5 hK iv5 fr c5.st c5.mg
  . have hin:i=n:=Nat.le_antisymm hi hge
    refine W.done _ _ _ (hin ▸ hst1) λ h2 tk2 hk2=>wpAny_execs_nil ?_
    have c2:=c1.side iv0 hwr hk2
    exact kk .next .next ρ1 β1 g1 h2 tk2 (fin ρ1 β1 (hin ▸ hJ)) c2.iv trivial c2.st c2.mg
noncomputable def WI (G:Gd) (Φ:Fm) (k:Nat) (iter:Expr) (ρ:Loc) (β:List V) (K:List V->List V->Prop):Prop :=
  ∀ (A:Around) (env:Env) (g:Gh) (s:Shared) (Q:Value->Shared->Prop) (E:Value->Shared->Prop),
    Rm G k A s.heap->EnvOk Φ env->Inv G Φ env ρ β g s.heap ->
    (∀ xs β' g' h' tk I fp wr St,K xs β'->Inv G Φ env ρ β' g' h'->Step G (Mut env ρ) g s.heap g' h' ->
      Walks G.prog G.w A I fp wr xs.length (λ i v=>∃ x,xs[i]?=some x/\Rep g' v x) St->St 0 h'->(∀ b∈wr,s.heap.get? b=none)->(∀ b∈fp,b∈wr\/∃ o,g' b=some o)->(∀ i h,St i h->∀ b∈wr,h.get? b≠none) ->
      Own G env ρ g' h' wr->Q (.ref I) (at_ s h' tk)) ->
    wpAny (model G.prog G.w) A (eval iter env) (λ xv s1=>wpAny (model G.prog G.w) A (pyIter xv) Q E s1) E s
theorem go_name {prog:Program} {w:World} {A:Around} {x:Str} {p:Pos} {I:Addr} {v:Value} {s:Shared} {Q:Unit->Shared->Prop} {E:Value->Shared->Prop} (h:Q () s):wpAny (model prog w) A (letOwnedTupleGo (.Name x p) (.ref I) v) Q E s:=wpAny_pure h
theorem WS_for {x:Str} {px:Pos} {iter:Expr} {body:List Stmt} {pos:Pos} {K:Fl->Loc->List V->Prop} (hp:Φ.plain=true)
    (h:WI G Φ k iter ρ β λ xs β1=>∃ J:Nat->Loc->List V->Prop,J 0 ρ β1 /\
      (∀ i y ρ1 β1,xs[i]?=some y->J i ρ1 β1->∃ d ρ2,SetAt x (.val y) ρ1 d ρ2/\d.isRo=false/\WSs G Φ k body ρ2 β1 (ForK J i K))/\∀ ρ1 β1,J xs.length ρ1 β1->K .next ρ1 β1)
    (hs:∀ env v,foldedSetIterable iter env v=pure v:=by intro _ _; rfl):WS G Φ k (.For (.Name x px) iter body [] pos) ρ β K :=
  λ A env g s Q E rm eo iv kk=>wpAny_For (by
    refine wpAny_mono (h A env g s _ E rm eo iv ?_) (λ _ _ q=>q) λ _ _ e=>e
    intro xs β1 g1 h1 tk1 I fp wr St zQ9 iv1 st1 W hst hwr hfp hex ow
    refine hid λ _ uQ=>?_
    obtain ⟨J,h0,turn,fin⟩:=zQ9
    refine uQ ?_
    refine for_core (n:=xs.length) J rm eo iv (KTurns.ofWalks W λ i v s Q E _ hq=>go_name hq) hst hwr hfp hex ⟨_,_,rfl⟩ iv1 st1 ow h0 ?_ fin kk
    intro i v ρ1 β2 g2 s2 Q2 E2 hlt zQ9 hJ iv2 gl ow2 k2
    refine hid λ _ uQ=>?_
    obtain ⟨y,hy,hr⟩:=zQ9
    obtain ⟨d,ρ2,hset,hd,hb⟩:=turn i y ρ1 β2 hy hJ
    refine uQ ?_
    exact PyProof.Rows.assign_Name (store_ok eo iv2 hset hd hp (c:=.val y) (hr.mono gl) (λ _ hb=>addrs_val hb) λ h3 tk3 iv3 st3 mg3 =>
      k2 ρ2 h3 tk3 hb iv3 st3 λ b hb=>(mg3 b hb).imp id λ z=>addrs_val z)) (hs env)
end
end A11
noncomputable section A12
section
variable {G:Gd} {Φ:Fm} {k:Nat} {ρ ρ':Loc} {β:List V}
noncomputable def BltOk (G:Gd) (f:Value) (xs:List V) (y:V):Prop :=
  ∀ (A:Around) (g:Gh) (s:Shared) (vs:List Value) (Q:Value->Shared->Prop) (E:Value->Shared->Prop),
    A.handled=none->A.units + 500 < cLine->Ok G g s.heap->RepL g vs xs ->
    (∀ v g' h' tk,Ext G g s.heap g' h'->Rep g' v y->Q v (at_ s h' tk))->wpAny (model G.prog G.w) A (call f vs) Q E s
noncomputable def isBlt:Value->Bool
  | .builtin _=>true
  | .type _=>true
  | _=>false
theorem starEach_any {args:List Expr} {env:Env}:args.all noStar=true->(starEach args env).any (·.1)=false:=by
  induction args with
  | nil=>intro _; rfl
  | cons e r ih =>
    intro h
    simp only [List.all_cons,Bool.and_eq_true] at h
    rw [starEach_cons h.1,List.any_cons,ih h.2]; rfl
theorem callWith_bltV {M:Model} {A:Around} {env:Env} {E:Value->Shared->Prop} {s:Shared} {pos:Pos} {f:Value} {e:Expr} {r:List Expr} {Q:Value->Shared->Prop} (hb:isBlt f=true) (hns:(e :: r).all noStar=true)
    (h:wpAny M A (spliced (backTo pos (starEach (e :: r) env))) (λ vs s1=>wpAny M A (call f vs) Q E s1) E s):wpAny M A (callWith pos f [] (backTo pos (starEach (e :: r) env)) []) Q E s:=by
  have hst:(backTo pos (starEach r env)).any (·.1)=false:=by
    have:=starEach_any (env:=env) (Bool.and_eq_true_iff.mp hns).2
    rw [<- this]
    unfold backTo
    rw [List.any_map]
    rfl
  cases f with
  | builtin id=>exact PyProof.Rows.callWith_builtin1 h (starEach_cons (Bool.and_eq_true_iff.mp hns).1) hst
  | type T=>exact PyProof.Rows.callWith_type1 h (starEach_cons (Bool.and_eq_true_iff.mp hns).1) hst
  | _=>cases hb
theorem WE_blt {x:Str} {f:Value} {p:Pos} {e:Expr} {r:List Expr} {pos K} (hx:(x,NameKind.globalImplicit)∈Φ.scope.names) (hv:G.mg x=none) (hb:G.mb x=some f) (hf:isBlt f=true) (hns:(e :: r).all noStar=true)
    (h:WL G Φ k (e :: r) ρ β λ xs β1=>∃ y,BltOk G f xs y/\K y β1):WE G Φ k (.Call (.Name x p) (e :: r) [] pos) ρ β K :=
  λ A env g s Q E rm eo iv kk=>Call_ (load_blt eo iv.ok hx ⟨hv,hb⟩ (callWith_bltV hf hns (h A env g _ _ _ E rm eo iv λ vs xs β1 g1 h1 tk1 z0 iv1 rs st1=>z0.elim λ y z0=>z0.elim λ hop hk =>
    hop A g1 _ vs Q E rm.hd (by have:=rm.units; omega) iv1.ok rs λ v g2 h2 tk2 x2 ry=>kk v y β1 g2 h2 tk2 hk (x2.inv iv1) ry (st1.trans' x2.step))))
theorem RepL.one {g:Gh} {vs:List Value} {x:V} (h:RepL g vs [x]):∃ v,vs=[v]/\Rep g v x:=by
  cases h with
  | cons h r=>cases r; exact ⟨_,rfl,h⟩
theorem RepL.two {g:Gh} {vs:List Value} {x y:V} (h:RepL g vs [x,y]):∃ v u,vs=[v,u]/\Rep g v x/\Rep g u y:=by
  cases h with
  | cons h r=>obtain ⟨u,rfl,q⟩:=r.one; exact ⟨_,_,rfl,h,q⟩
theorem RepL.three {g:Gh} {vs:List Value} {x y z:V} (h:RepL g vs [x,y,z]):∃ v u t,vs=[v,u,t]/\Rep g v x/\Rep g u y/\Rep g t z:=by
  cases h with
  | cons h r=>refine hid λ _ uQ=>?_; obtain ⟨u,t,rfl,q⟩:=r.two; refine uQ ?_; exact ⟨_,_,_,rfl,h,q⟩
theorem blt_len (xs:List V) (hl:xs.length<=100000):BltOk G (.builtin "len") [.list xs] (.int xs.length):=λ A g s vs Q E hh hu ok rs k=>by
  obtain ⟨v,rfl,r⟩:=rs.one
  refine Rep.list_e r λ a ws n ha rw_=>?_
  have hL:s.heap.IsList a ws.toArray:=⟨_,ok.sub _ _ ha,rfl,n,rfl⟩
  refine Calls.call_len_list hL (by simp [rw_.length]; omega) ?_
  have e:((ws.toArray.size:Nat):Int)=(xs.length:Int):=by simp [rw_.length]
  rw [e]
  exact k _ g s.heap _ (Ext.same ok) (.int _ _)
theorem blt_abs (i:Int):BltOk G (.builtin "abs") [.int i] (.int i.natAbs):=λ A g s vs Q E hh hu ok rs k=>by
  obtain ⟨v,rfl,r⟩:=rs.one
  refine Rep.int_e r λ t=>?_
  refine call_abs_int λ u tk=>?_
  have e:(if i < 0 then -i else i)=(i.natAbs:Int):=by omega
  rw [e]
  exact k _ g s.heap _ (Ext.same ok) (.int _ _)
theorem blt_int (i:Int):BltOk G (.type "int") [.int i] (.int i):=λ A g s vs Q E hh hu ok rs k=>by
  obtain ⟨v,rfl,r⟩:=rs.one
  refine Rep.int_e r λ t=>?_
  exact call_int_int (k _ g s.heap s.toks (Ext.same ok) (.int _ _))
theorem blt_max (i j:Int):BltOk G (.builtin "max") [.int i,.int j] (.int (max i j)):=λ A g s vs Q E hh hu ok rs k=>by
  obtain ⟨v,u,rfl,r1,r2⟩:=rs.two
  refine Rep.int_e r1 λ t1=>?_
  refine Rep.int_e r2 λ t2=>?_
  refine max_two_ints hh λ h' tk hk=>?_
  have r:Rep g (if j > i then .int j t2 else .int i t1) (.int (max i j)):=by
    split
    . rw [Int.max_eq_right (by omega)]; exact .int _ _
    . rw [Int.max_eq_left (by omega)]; exact .int _ _
  exact k _ g h' tk (Ext.grown ok ⟨hk⟩) r
theorem blt_all (bs:List Bool):BltOk G (.builtin "all") [.list (bs.map .bool)] (.bool (bs.all id)):=λ A g s vs Q E hh hu ok rs k=>by
  obtain ⟨v,rfl,r⟩:=rs.one
  refine Rep.list_e r λ a ws n ha rw_=>?_
  have hl:s.heap.IsList a ws.toArray:=⟨_,ok.sub _ _ ha,rfl,n,rfl⟩
  have hlt:a < s.heap.objs.size:=Heap.lt_size (ok.sub _ _ ha)
  refine call_all_walk (wpAny_pyIter_list hl ?_)
  refine ⟨s.heap.objs.size,[s.heap.objs.size,a],[s.heap.objs.size],ws.toArray.size,_,_,λ i=>(bs[i]?).getD true,rfl,Walks.list (A:=A.in1) hh _ a (Nat.ne_of_lt hlt) ws.toArray,
    ⟨⟨_,Heap.get?_push_size _ rfl,rfl,rfl⟩,hl.push _⟩,λ i v s' Q' E' hP hQ=>?_,λ h' tk hk=>?_⟩
  . obtain ⟨x,hx,rx⟩:=rw_.getV (i:=i) (v:=v) (by simpa using hP)
    rw [List.getElem?_map] at hx
    obtain ⟨b,hb,rfl⟩:=Option.map_eq_some_iff.mp hx
    cases rx
    simp only [hb,Option.getD_some] at hQ
    exact wpAny_truthy_bool hQ
  . have e:((List.range ws.toArray.size).all λ i=>(bs[i]?).getD true)=bs.all id:=by
      rw [List.size_toArray,rw_.length,List.length_map]; exact PyProof.Rows.LSm.range_all bs
    rw [e]
    refine k _ g h' tk (Ext.grown ok ⟨λ b o eo=>hk b o (λ hm=>?_) (Heap.get?_push_of_some _ eo)⟩) (.bool _)
    rw [List.mem_singleton.mp hm] at eo; exact Nat.lt_irrefl _ (Heap.lt_size eo)
theorem Own.fresh {env:Env} {g:Gh} {h h':Heap} (iv:Inv G Φ env ρ β g h) {a:Addr} (ha:h.get? a=none) (ha':h'.get? a≠none):Own G env ρ g h' [a] where
  mt:=λ b hb hm=>by rw [List.mem_singleton.mp hb] at hm; exact iv.mut_in hm ha
  gh:=λ b hb=>by rw [List.mem_singleton.mp hb]; exact iv.ok.new ha
  tab:=λ b hb=>λ z0=>z0.elim λ q z0=>z0.elim λ hq e=>by
    obtain ⟨ps,z,_⟩:=iv.ok.tab q hq
    rw [e,List.mem_singleton.mp hb,ha] at z; cases z
  ex:=λ b hb=>by rw [List.mem_singleton.mp hb]; exact ha'
theorem WI_list {e:Expr} {K} (h:WE G Φ k e ρ β λ v β1=>∃ xs,v=.list xs/\K xs β1):WI G Φ k e ρ β K :=
  λ A env g s Q E rm eo iv kk=>h A env g s _ E rm eo iv λ v x β1 g1 h1 tk1 z0 iv1 r st1=>z0.elim λ xs z0=>z0.elim λ hx hk=>by
    refine Rep.list_q hx r λ a ws n ha rs=>?_
    have ea:=iv1.ok.sub _ _ ha
    have hl:h1.IsList a ws.toArray:=⟨_,ea,rfl,n,rfl⟩
    have hlt:a < h1.objs.size:=Heap.lt_size ea
    have hn:=get?_size h1
    have e2:(h1.push { cls:=.type "list_iterator",data:=.fields #[.ref a,.int 0 0] }).get? h1.objs.size=some { cls:=.type "list_iterator",data:=.fields #[.ref a,.int 0 0] }:=Heap.get?_push_size _ rfl
    have x2:Ext G g1 h1 g1 (h1.push { cls:=.type "list_iterator",data:=.fields #[.ref a,.int 0 0] }):=Ext.grown iv1.ok (Grow.push ..)
    have W:=Walks.list (prog:=G.prog) (w:=G.w) rm.hd h1.objs.size a (Nat.ne_of_lt hlt) ws.toArray
    refine wpAny_pyIter_list (s:=at_ s h1 tk1) hl (kk xs β1 g1 _ tk1 h1.objs.size [h1.objs.size,a] [h1.objs.size] (λ i h=>h.IsListIter h1.objs.size a i/\h.IsList a ws.toArray) hk (x2.inv iv1) (st1.trans' x2.step) ?_
      ⟨⟨_,e2,rfl,rfl⟩,hl.push _⟩ (λ b hb=>by rw [List.mem_singleton.mp hb]; exact iv.old st1 iv1.ok hn) (λ b hb=>?_) (λ i h hst b hb=>?_) (Own.fresh iv1 hn (by rw [e2]; nofun)))
    . have e:ws.toArray.size=xs.length:=by simp [rs.length]
      rw [e] at W
      exact { sub:=W.sub,frame:=W.frame,done:=W.done,self:=W.self,item:=λ i s Q E hi st hQ=>W.item i s Q E hi st λ v h' tk hP=>hQ v h' tk (rs.getV (by simpa using hP)) }
    . rcases List.mem_cons.mp hb with rfl | hb
      . exact .inl (by simp)
      . rw [List.mem_singleton.mp hb]; exact .inr ⟨_,ha⟩
    . rw [List.mem_singleton.mp hb]
      obtain ⟨⟨o,ho,_⟩,_⟩:=hst
      rw [ho]; nofun
noncomputable def rng (a c:Int) (n:Nat):List V:=(List.range n).map λ i:Nat=>.int (a + (i:Int) * c)
theorem rng_length (a c:Int) (n:Nat):(rng a c n).length=n:=by simp [rng]
theorem rng_get {a c:Int} {n i:Nat}:(rng a c n)[i]?=if i < n then some (.int (a + i * c)) else none:=by
  unfold rng
  rw [List.getElem?_map]
  by_cases h:i < n
  . rw [List.getElem?_range h,if_pos h]; rfl
  . rw [List.getElem?_eq_none (by simpa using h),if_neg h]; rfl
theorem range_tail {A:Around} {env:Env} {g g1:Gh} {s:Shared} {h1:Heap} {tk1 tk2:Nat} {a b c:Int} {t u v:Tok} {n:Nat} {β1:List V} {Q:Value->Shared->Prop} {E:Value->Shared->Prop} (rm:Rm G k A s.heap) (iv:Inv G Φ env ρ β g s.heap) (iv1:Inv G Φ env ρ β1 g1 h1) (st1:Step G (Mut env ρ) g s.heap g1 h1)
    (hsm:Builtin.Range.small a b c=true) (hsz:Builtin.Range.rangeSize a b c=(n:Int)) {K:List V->List V->Prop} (hk:K (rng a c n) β1)
    (kk:∀ xs β' g' h' tk I fp wr St,K xs β'->Inv G Φ env ρ β' g' h'->Step G (Mut env ρ) g s.heap g' h' ->
      Walks G.prog G.w A I fp wr xs.length (λ i v=>∃ x,xs[i]?=some x/\Rep g' v x) St->St 0 h'->(∀ b∈wr,s.heap.get? b=none)->(∀ b∈fp,b∈wr\/∃ o,g' b=some o)->(∀ i h,St i h->∀ b∈wr,h.get? b≠none) ->
      Own G env ρ g' h' wr->Q (.ref I) (at_ s h' tk)) :
    wpAny (model G.prog G.w) A (pyIter (.ref h1.objs.size)) Q E (at_ s (h1.push { cls:=.type "range",data:=.fields #[.int a t,.int b u,.int c v] }) tk2):=by
  generalize hh2:h1.push { cls:=.type "range",data:=.fields #[.int a t,.int b u,.int c v] }=h2
  have er:IsRange h2 h1.objs.size a b c t u v:=by rw [<- hh2]; exact IsRange.new ..
  have x2:Ext G g1 h1 g1 h2:=Ext.grown iv1.ok (by rw [<- hh2]; exact Grow.push ..)
  have iv2:=x2.inv iv1
  have st2:=st1.trans' x2.step (X:=Mut env ρ)
  have hn:=get?_size h2
  refine wpAny_pyIter_range (s:=at_ s h2 tk2) er hsm ?_
  rw [hsz]
  have x3:Ext G g1 h2 g1 (h2.push { cls:=.type "range_iterator",data:=.fields #[rawInt a,rawInt n,rawInt c] }):=Ext.grown iv2.ok (Grow.push ..)
  have e3:(h2.push { cls:=.type "range_iterator",data:=.fields #[rawInt a,rawInt n,rawInt c] }).get? h2.objs.size=some { cls:=.type "range_iterator",data:=.fields #[rawInt a,rawInt n,rawInt c] }:=Heap.get?_push_size _ rfl
  have W:=Walks.range (prog:=G.prog) (w:=G.w) rm.hd h2.objs.size a c n
  refine kk (rng a c n) β1 g1 _ tk2 h2.objs.size [h2.objs.size] [h2.objs.size] (λ i h=>IsRangeIter h h2.objs.size (a + (i:Nat) * c) ((n:Int) - (i:Nat)) c/\i<=n) hk (x3.inv iv2) (st2.trans' x3.step) ?_ ⟨?_,Nat.zero_le _⟩
    (λ b hb=>by rw [List.mem_singleton.mp hb]; exact iv.old st2 iv2.ok hn) (λ b hb=>.inl hb) (λ i h hst b hb=>?_) (Own.fresh iv2 hn (by rw [e3]; nofun))
  . rw [rng_length]
    exact { sub := W.sub, frame := fun i h h' st hk => ⟨W.frame i h h' st.1 hk, st.2⟩, done := fun s Q E st hQ => W.done s Q E st.1 hQ, self := fun i s Q E st hQ => W.self i s Q E st.1 hQ,
            item:=λ i s Q E hi st hQ=>W.item i s Q E hi st.1 λ v h' tk z0 st'=>z0.elim λ t e=>hQ v h' tk ⟨.int (a + i * c),by rw [rng_get,if_pos hi],e ▸ .int _ _⟩ ⟨st',hi⟩ }
  . show IsRangeIter _ _ _ _ _
    have z1:a + ((0:Nat):Int) * c=a:=by simp
    have z2:(n:Int) - ((0:Nat):Int)=n:=by simp
    rw [z1,z2]
    exact e3
  . rw [List.mem_singleton.mp hb]
    have:=hst.1
    simp only [IsRangeIter] at this
    rw [this]; nofun
theorem evalArgs_blt1 {x:Str} {f:Value} {p:Pos} {e:Expr} {r:List Expr} {pos} {K:List V->List V->Prop} (hx:(x,NameKind.globalImplicit)∈Φ.scope.names) (hv:G.mg x=none) (hb:G.mb x=some f) (hf:isBlt f=true) (hns:(e :: r).all noStar=true)
    {A:Around} {env:Env} {g:Gh} {s:Shared} {Q:Value->Shared->Prop} {E:Value->Shared->Prop} (rm:Rm G k A s.heap) (eo:EnvOk Φ env) (iv:Inv G Φ env ρ β g s.heap) (h:WL G Φ k (e :: r) ρ β K)
    (kk:∀ vs xs β1 g1 h1 tk1,K xs β1->Inv G Φ env ρ β1 g1 h1->RepL g1 vs xs->Step G (Mut env ρ) g s.heap g1 h1->wpAny (model G.prog G.w) A (call f vs) Q E (at_ s h1 tk1)) :
    wpAny (model G.prog G.w) A (eval (.Call (.Name x p) (e :: r) [] pos) env) Q E s :=
  Call_ (load_blt eo iv.ok hx ⟨hv,hb⟩ (callWith_bltV hf hns (h A env g _ _ _ E rm eo iv λ vs xs β1 g1 h1 tk1 hk iv1 rs st1=>kk vs xs β1 g1 h1 tk1 hk iv1 rs st1)))
inductive RangeOf:List V->Int->Int->Nat->Prop
  | one {n:Nat}:n < 2 ^ 62->RangeOf [.int n] 0 1 n
  | two {i j:Int}:-(2 ^ 62)<=i->i < 2 ^ 62->-(2 ^ 62)<=j->j < 2 ^ 62->RangeOf [.int i,.int j] i 1 (j - i).toNat
  | three {i j l:Int} {n:Nat}:l≠0->l.natAbs < 1073741824->Builtin.Range.small i j l=true->Builtin.Range.rangeSize i j l=n->RangeOf [.int i,.int j,.int l] i l n
theorem WI.mono {iter:Expr} {K K':List V->List V->Prop} (h:WI G Φ k iter ρ β K) (hk:∀ xs b,K xs b->K' xs b):WI G Φ k iter ρ β K' :=
  λ A env g s Q E rm eo iv kk=>h A env g s Q E rm eo iv λ xs β' g' h' tk I fp wr St q=>kk xs β' g' h' tk I fp wr St (hk xs β' q)
section
variable {x:Str} {p:Pos} {pos:Pos} {K:List V->List V->Prop} (hx:(x,NameKind.globalImplicit)∈Φ.scope.names) (hv:G.mg x=none)
include hx hv
theorem WI_rng (hb:G.mb x=some (.type "range")) {e:Expr} {r:List Expr} (hns:(e :: r).all noStar=true) (h:WL G Φ k (e :: r) ρ β λ xs β1=>∃ m c N,RangeOf xs m c N/\K (rng m c N) β1):WI G Φ k (.Call (.Name x p) (e :: r) [] pos) ρ β K :=
  λ A env g s Q E rm eo iv kk=>evalArgs_blt1 hx hv hb rfl hns rm eo iv h λ vs xs β1 g1 h1 tk1 hk iv1 rs st1=>by
    obtain ⟨m,c,N,hr,hk⟩:=hk
    cases hr with
    | one hn =>
      obtain ⟨v,rfl,r⟩:=rs.one
      refine Rep.int_e r λ t=>?_
      exact call_range_1 (range_tail (s:=s) (tk1:=tk1) rm iv iv1 st1 (small_one (by omega) (by omega) (by omega) (by omega)) (by rw [rangeSize_one]; split <;> omega) hk kk)
    | two b1 b2 b3 b4 =>
      obtain ⟨v,u,rfl,r1,r2⟩:=rs.two
      refine Rep.int_e r1 λ t=>?_
      refine Rep.int_e r2 λ t2=>?_
      exact call_range_2 (range_tail (s:=s) (tk1:=tk1) rm iv iv1 st1 (small_one b1 b2 b3 b4) (by rw [rangeSize_one]; split <;> omega) hk kk)
    | three b1 b2 b3 b4 =>
      obtain ⟨v,u,y,rfl,r1,r2,r3⟩:=rs.three
      refine Rep.int_e r1 λ t=>?_
      refine Rep.int_e r2 λ t2=>?_
      refine Rep.int_e r3 λ t3=>?_
      exact call_range_3 b1 (range_tail (s:=s) (tk1:=tk1) rm iv iv1 st1 b3 b4 hk kk) (.inl (PyProof.noPylong_small b2))
theorem WI_reversed (hb:G.mb x=some (.type "reversed")) {e:Expr} (hns:noStar e=true)
    (h:WE G Φ k e ρ β λ v β1=>∃ xs,v=.list xs/\K xs.reverse β1):WI G Φ k (.Call (.Name x p) [e] [] pos) ρ β K :=
  λ A env g s Q E rm eo iv kk=>evalArgs_blt1 hx hv hb rfl (by simp [hns]) rm eo iv (WL_cons (K:=λ xs β1=>∃ ys,xs=[.list ys]/\K ys.reverse β1) (h.mono λ v b z0=>z0.elim λ ys z0=>z0.elim λ hv hk=>WL_nil ⟨ys,by rw [hv],hk⟩) hns)
    λ vs xs β1 g1 h1 tk1 z0 iv1 rs st1=>z0.elim λ ys z0=>z0.elim λ hxs hk=>by
      subst hxs
      obtain ⟨v,rfl,r⟩:=rs.one
      refine Rep.list_e r λ a ws n ha rs=>?_
      have ea:=iv1.ok.sub _ _ ha
      have hl:h1.IsList a ws.toArray:=⟨_,ea,rfl,n,rfl⟩
      have hlt:a < h1.objs.size:=Heap.lt_size ea
      have hn:=get?_size h1
      have e2:(h1.push (revObj a ((ws.toArray.size:Int) - 1))).get? h1.objs.size=some (revObj a ((ws.toArray.size:Int) - 1)):=Heap.get?_push_size _ rfl
      have x2:Ext G g1 h1 g1 (h1.push (revObj a ((ws.toArray.size:Int) - 1))):=Ext.grown iv1.ok (Grow.push ..)
      have W:=Walks.listRev (prog:=G.prog) (w:=G.w) rm.hd h1.objs.size a (Nat.ne_of_lt hlt) ws.toArray
      have hit:(h1.push (revObj a ((ws.toArray.size:Int) - 1))).IsRevIter h1.objs.size a ((ws.toArray.size:Int) - 1):=⟨_,e2,rfl,rfl⟩
      have hlen:ws.toArray.size=ys.length:=by simp [rs.length]
      refine call_reversed_list (s:=at_ s h1 tk1) hl (wpAny_pyIter_revIter hit (kk ys.reverse β1 g1 _ tk1 h1.objs.size [h1.objs.size,a] [h1.objs.size] (λ i h=>i<=ws.toArray.size/\h.IsRevIter h1.objs.size a ((ws.toArray.size:Int) - 1 - (i:Int))/\h.IsList a ws.toArray) hk (x2.inv iv1) (st1.trans' x2.step) ?_
        ⟨Nat.zero_le _,by simpa using hit,hl.push _⟩ (λ b hb=>by rw [List.mem_singleton.mp hb]; exact iv.old st1 iv1.ok hn) (λ b hb=>?_) (λ i h hst b hb=>?_) (Own.fresh iv1 hn (by rw [e2]; nofun))))
      . rw [List.length_reverse,<- hlen]
        exact { sub := W.sub, frame := W.frame, done := W.done, self := W.self, item := fun i s Q E hi st hQ => W.item i s Q E hi st fun v h' tk hP => hQ v h' tk (by
                  obtain ⟨x,hx,rx⟩:=rs.getV (i:=ws.toArray.size - 1 - i) (v:=v) (by simpa using hP)
                  refine ⟨x,?_,rx⟩
                  rw [List.getElem?_reverse (by omega),<- hlen]; exact hx) }
      . rcases List.mem_cons.mp hb with rfl | hb
        . exact .inl (by simp)
        . rw [List.mem_singleton.mp hb]; exact .inr ⟨_,ha⟩
      . rw [List.mem_singleton.mp hb]
        obtain ⟨_,⟨o,ho,_⟩,_⟩:=hst
        rw [ho]; nofun
end
end
end A12
noncomputable section A13
section
variable {G:Gd} {Φ:Fm} {k:Nat} {ρ ρ':Loc} {β:List V}
theorem Own.freshL {env:Env} {g:Gh} {h h':Heap} (iv:Inv G Φ env ρ β g h) {wr:List Addr} (ha:∀ a∈wr,h.get? a=none) (ha':∀ a∈wr,h'.get? a≠none):Own G env ρ g h' wr where
  mt:=λ b hb hm=>iv.mut_in hm (ha b hb)
  gh:=λ b hb=>iv.ok.new (ha b hb)
  tab:=λ b hb=>λ z0=>z0.elim λ q z0=>z0.elim λ hq e=>by
    obtain ⟨ps,z,_⟩:=iv.ok.tab q hq
    rw [e,ha b hb] at z; cases z
  ex:=ha'
theorem get?_over (h:Heap) (b:Nat) (hb:h.objs.size<=b):h.get? b=none:=by
  cases q:h.get? b with
  | none=>rfl
  | some o=>exact absurd (Heap.lt_size q) (Nat.not_lt.mpr hb)
theorem WS_forE {x f:Str} {px:Pos} {e:Expr} {ts:List Expr} {xs2:List Str} {n:Nat} {tp pos pc:Pos} {body:List Stmt} {K:Fl->Loc->List V->Prop} (hp:Φ.plain=true)
    (hx:(f,NameKind.globalImplicit)∈Φ.scope.names) (hv:G.mg f=none) (hb:G.mb f=some (.type "enumerate")) (hns:noStar e=true) (hn:namesAre ts xs2) (h2:xs2.length=2)
    (h:WE G Φ k e ρ β λ v β1=>∃ xs,v=.list xs/\∃ J:Nat->Loc->List V->Prop,J 0 ρ β1 /\
      (∀ i y ρ1 β1,xs[i]?=some y->J i ρ1 β1->∃ ρ2,SetAll xs2 [.val (.int i),.val y] ρ1 ρ2/\WSs G Φ k body ρ2 β1 (ForK J i K))/\∀ ρ1 β1,J xs.length ρ1 β1->K .next ρ1 β1)
    (hs:∀ env v,foldedSetIterable (.Call (.Name f px) [e] [] pc) env v=pure v:=by intro _ _; rfl):WS G Φ k (.For (.Tuple ts n tp) (.Call (.Name f px) [e] [] pc) body [] pos) ρ β K :=
  λ A env g s Q E rm eo iv kk=>wpAny_For (by
    refine evalArgs_blt1 hx hv hb rfl (by simp [hns]) rm eo iv (WL_cons (K:=λ zs β1=>∃ xs,zs=[.list xs]/\∃ J:Nat->Loc->List V->Prop,J 0 ρ β1 /\
      (∀ i y ρ1 β1,xs[i]?=some y->J i ρ1 β1->∃ ρ2,SetAll xs2 [.val (.int i),.val y] ρ1 ρ2/\WSs G Φ k body ρ2 β1 (ForK J i K))/\∀ ρ1 β1,J xs.length ρ1 β1->K .next ρ1 β1) (h.mono λ v b z0=>z0.elim λ ys z0=>z0.elim λ hv hk=>WL_nil ⟨ys,by rw [hv],hk⟩) hns) ?_
    intro vs zs β1 g1 h1 tk1 zQ6 iv1 rs st1
    refine hid λ _ uQ=>?_
    obtain ⟨ys,hxs,J,h0,turn,fin⟩:=zQ6
    subst hxs
    obtain ⟨v,rfl,r⟩:=rs.one
    obtain ⟨a,ws,m,rfl,ha,rs⟩:=r.list_inv
    refine uQ ?_
    have ea:=iv1.ok.sub _ _ ha
    have hl:h1.IsList a ws.toArray:=⟨_,ea,rfl,m,rfl⟩
    have hlt:a < h1.objs.size:=Heap.lt_size ea
    have hlen:ws.toArray.size=ys.length:=by simp [rs.length]
    refine call_enumerate_list (s:=at_ s h1 tk1) hl λ h3 he hit hsz hk3=>wpAny_pyIter_enum he ?_
    have hne1:h1.objs.size + 1≠h1.objs.size:=by omega
    have U:=(WalksT.enumerate (prog:=G.prog) (w:=G.w) rm.hd (h1.objs.size + 1) h1.objs.size a hne1 (Nat.ne_of_lt (Nat.lt_succ_of_lt hlt)) (Nat.ne_of_lt hlt) ws.toArray).toU
    have x3:Ext G g1 h1 g1 h3:=Ext.grown iv1.ok ⟨hk3⟩
    have iv3:=x3.inv iv1
    have st3:=st1.trans' (x3.step (X:=Mut env ρ))
    have fr:∀ b∈[h1.objs.size + 1,h1.objs.size],h1.get? b=none:=λ b hb=>by
      rcases List.mem_cons.mp hb with rfl | hb
      . exact get?_over _ _ (by omega)
      . rw [List.mem_singleton.mp hb]; exact get?_over _ _ (by omega)
    have ex3:∀ (i:Nat) h,(∃ old,IsEnum h (h1.objs.size + 1) h1.objs.size i old)/\h.IsListIter h1.objs.size a i/\h.IsList a ws.toArray->∀ b∈[h1.objs.size + 1,h1.objs.size],h.get? b≠none:=λ i h hst b hb=>by
      refine hid λ _ uQ=>?_
      obtain ⟨⟨old,e1⟩,⟨o,e2,_⟩,_⟩:=hst
      refine uQ ?_
      rcases List.mem_cons.mp hb with rfl | hb
      . simp only [IsEnum] at e1; rw [e1]; nofun
      . rw [List.mem_singleton.mp hb,e2]; nofun
    have hst0:(∃ old,IsEnum h3 (h1.objs.size + 1) h1.objs.size ((0:Nat):Int) old)/\h3.IsListIter h1.objs.size a 0/\h3.IsList a ws.toArray:=⟨⟨_,he⟩,hit,hl.at λ o e=>hk3 _ _ e⟩
    refine for_core (s0:=s) (n:=ws.toArray.size) J rm eo iv (KTurns.ofWalksU U) hst0 (λ b hb=>iv.old st1 iv1.ok (fr b hb)) (λ b hb=>?_) ex3 ⟨_,_,rfl⟩ iv3 st3 (Own.freshL iv1 fr (ex3 _ _ hst0)) h0 ?_ (by rw [hlen]; exact fin) kk
    . rcases List.mem_cons.mp hb with rfl | hb
      . exact .inl (by simp)
      . rcases List.mem_cons.mp hb with rfl | hb
        . exact .inl (by simp)
        . rw [List.mem_singleton.mp hb]; exact .inr ⟨_,ha⟩
    . intro i v ρ1 β2 g2 s2 Q2 E2 hlt2 zQ9 hJ iv2 gl ow2 k2
      refine hid λ _ uQ=>?_
      obtain ⟨T,vals,rfl,⟨t,x,hx2,rfl⟩,hT⟩:=zQ9
      obtain ⟨y,hy,ry⟩:=rs.getV (i:=i) (v:=x) (by simpa using hx2)
      obtain ⟨ρ2,hset,hbody⟩:=turn i y ρ1 β2 hy hJ
      obtain ⟨t1,t2,t3⟩:=TreesOk.names (M:=model G.prog G.w) (A:=A) (env:=env) (E:=E2) hn
      refine uQ ?_
      refine wpAny_assign_Tuple rm.hd hT (by rw [t2,h2]; rfl) t3 λ h4 he4=>?_
      have x4:=Ext.grown iv2.ok (Grow.extBut he4)
      have rv:RvAll env g2 h4 [.int i t,x] [.val (.int i),.val y]:=⟨.int _ _,ry.mono gl,trivial⟩
      have nb:∀ b:Addr,b ∉ addrsAll [Cell.val (.int i),Cell.val y]:=λ b (hb:b∈[])=>nomatch hb
      exact assign_all eo hp _ xs2 _ _ ρ1 g2 _ _ t1 hset (x4.inv iv2) rv (λ b hb=>absurd hb (nb b)) .nil (λ b hb=>absurd hb (nb b)) x4.step (λ b hb=>.inl hb)
        λ h' tk iv5 st5 mg5=>k2 ρ2 h' tk hbody iv5 st5 mg5) (hs env)
end
end A13
noncomputable section A14
noncomputable def kindIs:NameKind->NameKind->Bool
  | .local,.local=>true
  | .cell,.cell=>true
  | .free,.free=>true
  | _,_=>false
theorem kindIs_eq {a b:NameKind} (h:kindIs a b=true):a=b:=by cases a <;> cases b <;> first | rfl | cases h
noncomputable def scIs (k:ScopeKind):Bool:=match k with | .function=>true | _=>false
theorem scIs_eq {a:ScopeKind} (h:scIs a=true):a=.function:=by cases a <;> first | rfl | cases h
noncomputable def parOk (params:Arguments) (ps:List Str):Bool :=
  params.posonlyargs.isEmpty && decide (params.args.map (·.arg)=ps) && params.vararg.isNone && params.kwonlyargs.isEmpty && params.kwarg.isNone && decide ps.Nodup
noncomputable def scoOk (scope:Scope):Bool :=
  scIs scope.kind && !scope.isGenerator && !scope.isCoroutine && decide (scope.names.map (·.1)).Nodup && scope.names.all (λ k=>decide (k.1≠("__debug__" : Str)) && decide (k.1≠("__classdict__" : Str)))
noncomputable def locOk (scope:Scope) (xs:List Str) (kd:NameKind):Bool:=xs.all λ x=>match scope.names.lookup x with | some k=>kindIs k kd | none=>false
noncomputable def noCells (scope:Scope):Bool:=scope.names.all λ k=>!kindIs k.2 .cell
noncomputable def fmOk (params:Arguments) (scope:Scope) (ps ls:List Str):Bool:=parOk params ps && scoOk scope && locOk scope (ps ++ ls) .local && noCells scope && decide (ps ++ ls).Nodup
theorem ite1 {α:Type} {c:Bool} {X Z R:α} (h1:c=false) (e:Z=R):(if c=true then X else Z)=R:=by rw [h1]; exact e
theorem drop_none {n:Nat}:List.drop n ((none:Option (Array Value)).getD #[]).toList=[]:=List.drop_nil
theorem bind_shape (fd:FuncData) (h1:fd.params.posonlyargs=[]) (h3:fd.params.vararg=none) (h4:fd.params.kwonlyargs=[]) (h5:fd.params.kwarg=none) (hd:fd.defaults=.none) (vs:List Value)
   (c1:(decide (vs.length > (fd.params.args.map Arg.arg).length) && true)=false) (c2:(!(((fd.params.args.map Arg.arg).take (fd.params.args.map Arg.arg).length).filter λ n=>(((fd.params.args.map Arg.arg).zip vs).lookup n).isNone).isEmpty)=false) :
   bindArgs fd ⟨vs,[]⟩=pure ((fd.params.args.map Arg.arg ++ []).filterMap λ n=>(((fd.params.args.map Arg.arg).zip vs).lookup n).map (n,·)):=by
  obtain ⟨nm,qn,⟨po,ag,va,kwo,kwd,kwa,df⟩,body,sc,gl,clo,dfl,kwdf⟩:=fd
  dsimp only at h1 h3 h4 h5 hd c1 c2 ⊢
  cases h1
  cases h3
  cases h4
  cases h5
  cases hd
  refine ite1 c1 ?_
  rw [drop_none]
  refine ite1 c2 ?_
  rw [List.zip_nil_right]
  rfl
theorem zip_look {l:List Str} {ws:List Value} {x:Str} (hw:ws.length=l.length) (hm:x∈l):((l.zip ws).lookup x).isNone=false:=by
  induction l generalizing ws with
  | nil=>cases hm
  | cons y l ih=>cases ws with
    | nil=>cases hw
    | cons v ws =>
      rw [List.zip_cons_cons,List.lookup_cons]
      cases e:x == y with
      | true=>rfl
      | false=>exact ih (Nat.succ.inj hw) ((List.mem_cons.mp hm).resolve_left λ q=>by rw [q,beq_self_eq_true] at e; cases e)
theorem zip_pick (l:List Str) (ws:List Value) (pre:List (Str × Value)) (hw:ws.length=l.length) (hn:l.Nodup) (hpre:∀ x∈l,pre.lookup x=none):l.filterMap (λ n=>((pre ++ l.zip ws).lookup n).map (n,·))=l.zip ws:=by
  induction l generalizing ws pre with
  | nil=>rfl
  | cons x l ih=>cases ws with
    | nil=>cases hw
    | cons v ws =>
      rw [List.nodup_cons] at hn
      have e1:(pre ++ (x :: l).zip (v :: ws)).lookup x=some v:=by
        rw [List.lookup_append,hpre x (.head _),List.zip_cons_cons,List.lookup_cons,beq_self_eq_true]; rfl
      have ih:=ih ws (pre ++ [(x,v)]) (Nat.succ.inj hw) hn.2 (λ y hy=>by
        have:(y == x)=false:=beq_eq_false_iff_ne.mpr λ e=>hn.1 (e ▸ hy)
        rw [List.lookup_append,hpre y (.tail _ hy),List.lookup_cons,this]; rfl)
      rw [List.append_assoc] at ih
      rw [List.filterMap_cons,e1]
      exact congrArg ((x,v) :: ·) ih
theorem parOk_bind {fd:FuncData} {ps:List Str} (hp:parOk fd.params ps=true) (hd:fd.defaults=.none) {vs:List Value} (hl:vs.length=ps.length):bindArgs fd ⟨vs,[]⟩=pure (ps.zip vs):=by
  unfold parOk at hp
  simp only [Bool.and_eq_true,List.isEmpty_iff,Option.isNone_iff_eq_none,decide_eq_true_eq] at hp
  refine hid λ _ uQ=>?_
  obtain ⟨⟨⟨⟨⟨h1,h2⟩,h3⟩,h4⟩,h5⟩,h6⟩:=hp
  refine uQ ?_
  have e:=bind_shape fd h1 h3 h4 h5 hd vs
  rw [h2,List.append_nil,List.take_length] at e
  rw [e (by rw [hl]; simp) (by rw [List.filter_eq_nil_iff.mpr λ x hx=>by rw [zip_look hl hx]; exact Bool.false_ne_true]; rfl)]
  exact congrArg pure (zip_pick ps vs [] hl h6 λ _ _=>rfl)
section
variable {G:Gd} {Φ:Fm} {k:Nat} {ρ ρ':Loc} {β:List V}
noncomputable def ArgOk (g:Gh) (h:Heap) (β:List V) (v:Value):Cell->Prop
  | .val X=>Rep g v X
  | .box a=>v=.ref a/\g a=none/\∃ ws n,h.get? a=some (lsObj ws n)/\RepL g ws β
  | _=>False
noncomputable def ArgsOk (g:Gh) (h:Heap) (β:List V):List Value->List Cell->Prop
  | [],[]=>True
  | v :: vs,c :: cs=>ArgOk g h β v c/\ArgsOk g h β vs cs
  | _,_=>False
theorem ArgsOk.length {g:Gh} {h:Heap} {β:List V} {vs:List Value} {cs:List Cell}:ArgsOk g h β vs cs->vs.length=cs.length :=
  lists2 (P:=λ vs cs=>ArgsOk g h β vs cs->vs.length=cs.length) (λ _=>rfl) (λ _ _ r=>r.elim) (λ _ _ r=>r.elim) (λ _ _ _ _ ih r=>congrArg Nat.succ (ih r.2)) _ _
theorem ArgsOk.vals {g:Gh} {h:Heap} {β:List V} {vs:List Value} {xs:List V} (r:RepL g vs xs):ArgsOk g h β vs (xs.map .val):=r.ind (P:=λ vs xs=>ArgsOk g h β vs (xs.map .val)) trivial λ _ _ _ _ a _ ih=>⟨a,ih⟩
theorem ArgsOk.mem {g:Gh} {h:Heap} {β:List V} {ps:List Str} {vs:List Value} {cs:List Cell} (r:ArgsOk g h β vs cs):∀ p∈ps.zip cs,∃ v,(p.1,v)∈ps.zip vs/\ArgOk g h β v p.2 :=
  lists2 (P:=λ vs cs=>∀ ps:List Str,ArgsOk g h β vs cs->∀ p∈ps.zip cs,∃ v,(p.1,v)∈ps.zip vs/\ArgOk g h β v p.2) (λ ps _ p hp=>by rw [List.zip_nil_right] at hp; cases hp) (λ _ _ _ r=>r.elim) (λ _ _ _ r=>r.elim)
    (λ v vs c cs ih ps r p hp=>by
      cases ps with
      | nil=>cases hp
      | cons x ps=>exact (List.mem_cons.mp hp).elim (λ e=>e ▸ ⟨v,.head _,r.1⟩) λ hp=>(ih ps r.2 p hp).imp λ u h=>⟨.tail _ h.1,h.2⟩) vs cs ps r
theorem zip_fst {α β:Type}:∀ (l:List α) (r:List β),l.length=r.length->(l.zip r).map (·.1)=l :=
  lists2 (λ _=>rfl) (λ _ _ h=>nomatch h) (λ _ _ h=>nomatch h) λ x l y r ih h=>congrArg (x :: ·) (ih (Nat.succ.inj h))
theorem RepC.get {g:Gh} {cs:List Addr} {Xs:List V} (r:RepC g cs Xs) (fr:List Str) (p:Str × Cell) (hp:p∈fr.zip (Xs.map Cell.ro)):∃ c o v X,(p.1,c)∈fr.zip cs/\p.2=.ro X/\g c=some o/\o.data=.cell (some v)/\Rep g v X:=by
  refine r.ind (P:=λ cs Xs=>∀ fr:List Str,p∈fr.zip (Xs.map Cell.ro)->∃ c o v X,(p.1,c)∈fr.zip cs/\p.2=.ro X/\g c=some o/\o.data=.cell (some v)/\Rep g v X) (λ fr h=>by cases fr <;> cases h) (λ c o v x cs xs h1 h2 h3 ih fr hp=>?_) fr hp
  cases fr with
  | nil=>cases hp
  | cons y fr =>
    rcases List.mem_cons.mp hp with e | q
    . exact ⟨c,o,v,x,e ▸ .head _,e ▸ rfl,h1,h2,h3⟩
    . refine hid λ _ uQ=>?_
      obtain ⟨c',o',v',X,a,b⟩:=ih fr q
      refine uQ ?_
      exact ⟨c',o',v',X,.tail _ a,b⟩
theorem RepC.length {g:Gh} {cs:List Addr} {Xs:List V} (r:RepC g cs Xs):cs.length=Xs.length:=r.ind (P:=λ cs Xs=>cs.length=Xs.length) rfl λ _ _ _ _ _ _ _ _ _ ih=>congrArg Nat.succ ih
structure FdF (fd:FuncData) (ps ls fr:List Str):Prop where
  par:parOk fd.params ps=true
  sco:scoOk fd.scope=true
  loc:locOk fd.scope (ps ++ ls) .local=true
  fre:locOk fd.scope fr .free=true
  noc:noCells fd.scope=true
  nd:(ps ++ ls ++ fr).Nodup
  glob:fd.globals=mainGlobals
  blt:fd.builtins=builtinsNs
  dfl:fd.defaults=.none
  clo:fd.closure.map (·.1)=fr
structure FdOk (fd:FuncData) (body:List Stmt) (ps ls fr:List Str):Prop where
  body:fd.body=.stmts body
  f:FdF fd ps ls fr
theorem locOk_at {scope:Scope} {xs:List Str} {kd:NameKind} (h:locOk scope xs kd=true) {x:Str} (hx:x∈xs):scope.names.lookup x=some kd:=by
  have:=List.all_eq_true.mp h x hx
  revert this
  cases scope.names.lookup x with
  | none=>intro h; cases h
  | some k=>intro h; rw [kindIs_eq h]
structure Sco (sc:Scope):Prop where
  kind:sc.kind=.function
  gen:sc.isGenerator=false
  co:sc.isCoroutine=false
  names:(sc.names.map (·.1)).Nodup
  dbg:∀ k∈sc.names,k.1≠("__debug__" : Str)/\k.1≠("__classdict__" : Str)
theorem sco_ok {sc:Scope} (h:scoOk sc=true):Sco sc:=by
  unfold scoOk at h
  simp only [Bool.and_eq_true,Bool.not_eq_true',decide_eq_true_eq,List.all_eq_true] at h
  exact ⟨scIs_eq h.1.1.1.1,h.1.1.1.2,h.1.1.2,h.1.2,h.2⟩
theorem noc_ok {sc:Scope} (h:noCells sc=true):∀ x∈sc.names,x.2≠.cell:=λ x hx e=>by
  have:=List.all_eq_true.mp h x hx
  rw [e] at this; cases this
theorem Rm.room {A:Around} {h:Heap} (rm:Rm G (k + 1) A h):A.depth < recursionLimit:=by have:=rm.dp; show A.depth < 1000; omega
theorem Ok.nolim {g:Gh} {h:Heap} (ok:Ok G g h):h.NoLimit:=G.nolim.keeps λ b ob e=>ok.sub b ob (ok.gnd b ob e)
structure Frm (fd:FuncData) (env:Env) (h0:Heap):Prop where
  sc:env.scope=fd.scope
  loc:env.locals=h0.objs.size
  fm:env.frame=some h0.objs.size
  glob:env.globals=fd.globals
  blt:env.builtins=fd.builtins
  kof:∀ x,env.kindOf x=fd.scope.names.lookup x
theorem Frm.rm {A:Around} {g:Gh} {h h1:Heap} {fd:FuncData} {env:Env} {m:Str->Option Value} (f:Frm fd env h) (hk:fd.scope.kind=.function) (rm:Rm G (k + 1) A h) (ok:Ok G g h) (grow:Grow h h1) (hns:h1.Ns env.locals m):Rm G k (A.deeper env) h1:=by
  obtain ⟨l,hl,hf⟩:=(rm.grow grow).fr
  refine ⟨rm.hd,by have:=rm.dp; show A.depth + 1 + 3 * k < 990; omega,by have:=rm.un; show A.units + 3 + 100 * k + 1000 < cLine; omega,env :: l,Around.frames_deeper hl,Heap.FunFrames.cons (L:=h.objs.size) (by rw [f.sc,hk]; nofun) f.fm (f.loc ▸ hns) ?_ hf⟩
  cases e:G.gh.get? h.objs.size with
  | none=>rfl
  | some ob=>have:=ok.sub _ _ (ok.gnd _ _ e); rw [get?_size h] at this; cases this
section
variable {A:Around} {g:Gh} {h h1:Heap} {fd:FuncData} {env:Env} {ps ls fr:List Str} {vs:List Value} {cs:List Cell} {Xs:List V} {cl:List Addr}
theorem rho_mem {p:Str × Cell} {P:Prop} (hp:p∈ps.zip cs ++ ls.map (·,Cell.un) ++ fr.zip (Xs.map .ro)) (h1:p∈ps.zip cs->p.1∈ps->P) (h2:p.1∈ls->p.2=.un->P) (h3:p∈fr.zip (Xs.map .ro)->P):P:=by
  rcases List.mem_append.mp hp with hp | hp
  . rcases List.mem_append.mp hp with hp | hp
    . exact h1 hp (List.of_mem_zip hp).1
    . obtain ⟨x,hx,e⟩:=List.mem_map.mp hp
      exact h2 (e ▸ hx) (e ▸ rfl)
  . exact h3 hp
theorem args_at {p:Str × Cell} (hargs:ArgsOk g h β vs cs) (hp:p∈ps.zip cs) {b:Addr} (hb:b∈p.2.addrs):g b=none/\∃ ob,h.get? b=some ob:=by
  refine hid λ _ uQ=>?_
  obtain ⟨v,_,ha⟩:=hargs.mem p hp
  obtain ⟨x,c⟩:=p
  refine uQ ?_
  cases c with
  | box a'=>rw [List.mem_singleton.mp hb]; exact ⟨ha.2.1,let ⟨_,_,e,_⟩:=ha.2.2; ⟨_,e⟩⟩
  | val X=>cases hb
  | _=>exact ha.elim
theorem cs_at (hargs:ArgsOk g h β vs cs) {b:Addr} (hb:b∈cs.flatMap (·.addrs)):g b=none/\∃ ob,h.get? b=some ob:=by
  refine hid λ _ uQ=>?_
  obtain ⟨c,hc,hb⟩:=List.mem_flatMap.mp hb
  obtain ⟨i,hi,rfl⟩:=List.getElem_of_mem hc
  refine uQ ?_
  refine args_at (p:=("",cs[i])) (ps:=cs.map λ _ => "") hargs ?_ hb
  refine List.mem_of_getElem? (i:=i) ?_
  rw [List.getElem?_zip_eq_some]
  exact ⟨by rw [List.getElem?_map,List.getElem?_eq_getElem hi]; rfl,List.getElem?_eq_getElem hi⟩
theorem rho_keys (hc:cs.length=ps.length) (hx:Xs.length=fr.length):(ps.zip cs ++ ls.map (·,Cell.un) ++ fr.zip (Xs.map Cell.ro)).map (·.1)=ps ++ ls ++ fr:=by
  rw [List.map_append,List.map_append,zip_fst _ _ hc.symm,zip_fst _ _ (by rw [List.length_map,hx]),List.map_map,show ((·.1) ∘ λ x:Str=>(x,Cell.un))=id from rfl,List.map_id]
theorem rho_addrs (hc:cs.length=ps.length):(ps.zip cs ++ ls.map (·,Cell.un) ++ fr.zip (Xs.map Cell.ro)).flatMap (·.2.addrs)=cs.flatMap (·.addrs):=by
  have a1:(ls.map (·,Cell.un)).flatMap (·.2.addrs)=[]:=List.flatMap_eq_nil_iff.mpr λ p hp=>by
    obtain ⟨x,_,rfl⟩:=List.mem_map.mp hp; rfl
  have a2:(fr.zip (Xs.map Cell.ro)).flatMap (·.2.addrs)=[]:=List.flatMap_eq_nil_iff.mpr λ p hp=>by
    obtain ⟨X,_,e⟩:=List.mem_map.mp (List.of_mem_zip hp).2
    rw [<- e]; rfl
  have a3:(ps.zip cs).map (·.2)=cs:=List.map_snd_zip (Nat.le_of_eq hc)
  rw [List.flatMap_append,List.flatMap_append,a1,a2,List.append_nil,List.append_nil]
  conv=>rhs; rw [<- a3,List.flatMap_map]
theorem clo_lookup (fo:FdF fd ps ls fr) {x:Str} {c:Addr} (h:(x,c)∈fr.zip (fd.closure.map (·.2))):fd.closure.lookup x=some c:=by
  refine lookup_of_nodup (by rw [fo.clo]; exact (List.nodup_append.mp fo.nd).2.1) ?_
  have:fd.closure=(fd.closure.map (·.1)).zip (fd.closure.map (·.2)):=by rw [<- List.unzip_fst,<- List.unzip_snd,List.zip_unzip]
  rw [this,fo.clo]; exact h
theorem frame_env (fo:FdF fd ps ls fr) (f:Frm fd env h) (e3:env.cells=fd.closure) (hΦ:Φ=⟨fd.scope,ps ++ ls ++ fr,fr.isEmpty,none⟩):EnvOk Φ env:=by
  have so:=sco_ok fo.sco
  subst hΦ
  exact {
    scope:=f.sc
    fn:=by rw [f.sc]; exact so.kind
    globals:=f.glob.trans fo.glob
    builtins:=f.blt.trans fo.blt
    names:=by rw [f.sc]; exact so.names
    nodbg:=by rw [f.sc]; exact so.dbg
    nodup:=fo.nd
    kinds:=λ x hx=>by
      rcases List.mem_append.mp hx with hx | hx
      . exact .inl ((f.kof x).trans (locOk_at fo.loc hx))
      . refine .inr ⟨.inr ((f.kof x).trans (locOk_at fo.fre hx)),?_⟩
        rw [e3]
        rw [<- fo.clo] at hx
        obtain ⟨p,hp,e⟩:=List.mem_map.mp hx
        cases e':fd.closure.lookup x with
        | some c=>exact ⟨c,rfl⟩
        | none=>exact absurd (lookup_of_nodup (by rw [fo.clo]; exact (List.nodup_append.mp fo.nd).2.1) hp) (by rw [e,e']; nofun)
    nofree:=λ hpl x hx=>by
      have:fr=[]:=List.isEmpty_iff.mp hpl
      rw [this,List.append_nil] at hx
      rw [f.kof,locOk_at fo.loc hx]; nofun
    inj:=λ hpl x y c hx _=>by
      have:fd.closure=[]:=by have:=fo.clo; rw [List.isEmpty_iff.mp hpl] at this; exact List.map_eq_nil_iff.mp this
      rw [e3,this] at hx; cases hx
    code:=λ c q e=>by cases e }
theorem frame_mut (fo:FdF fd ps ls fr) (f:Frm fd env h) (b:Addr) (hb:Mut env (ps.zip cs ++ ls.map (·,.un) ++ fr.zip (Xs.map .ro)) b):b∈cs.flatMap (·.addrs)\/b=h.objs.size:=by
  rcases hb with e | ⟨p,hp,hm⟩
  . exact .inr (e.trans f.loc)
  . refine rho_mem hp (λ hp hx=>?_) (λ hx e=>?_) λ hp=>?_
    . rcases hm with ⟨_,hl,_⟩ | hm
      . exact absurd ((f.kof _).trans (locOk_at fo.loc (List.mem_append_left _ hx))) hl
      . exact .inl (List.mem_flatMap.mpr ⟨p.2,(List.of_mem_zip hp).2,addrs_owns hm⟩)
    . rcases hm with ⟨_,hl,_⟩ | hm
      . exact absurd ((f.kof _).trans (locOk_at fo.loc (List.mem_append_right _ hx))) hl
      . rw [e] at hm; exact hm.elim
    . obtain ⟨X,_,e⟩:=List.mem_map.mp (List.of_mem_zip hp).2
      rw [mutBy,<- e] at hm
      rcases hm with ⟨q,_⟩ | q
      . cases q
      . exact q.elim
theorem frame_cell (fo:FdF fd ps ls fr) (f:Frm fd env h) (e3:env.cells=fd.closure) (ok1:Ok G g h1) (hargs:ArgsOk g h β vs cs) (hlen:vs.length=ps.length) (hC:RepC g (fd.closure.map (·.2)) Xs) (grow:Grow h h1)
    (p:Str × Cell) (hp:p∈ps.zip cs ++ ls.map (·,Cell.un) ++ fr.zip (Xs.map .ro)):cellOk env g h1 (λ x=>(ps.zip vs).reverse.lookup x) β p.1 p.2:=by
  have ndpl:=(List.nodup_append.mp fo.nd).1
  have hfst:(ps.zip vs).map (·.1)=ps:=zip_fst _ _ hlen.symm
  refine rho_mem hp (λ hp hx=>?_) (λ hx e=>?_) λ hp=>?_
  . obtain ⟨v,hv,ha⟩:=hargs.mem p hp
    have sl:slotIs env h1 (λ x=>(ps.zip vs).reverse.lookup x) p.1 (some v):=.inl ⟨(f.kof _).trans (locOk_at fo.loc (List.mem_append_left _ hx)),
      lookup_of_nodup (by rw [List.map_reverse,hfst]; exact (List.reverse_perm ps).nodup_iff.mpr (List.nodup_append.mp ndpl).1) (List.mem_reverse.mpr hv)⟩
    obtain ⟨x,c⟩:=p
    cases c with
    | val X=>exact ⟨v,sl,ha⟩
    | box a'=>obtain ⟨e,_,ws,n,e',r⟩:=ha; exact ⟨e ▸ sl,ws,n,grow.kept _ _ e',r⟩
    | _=>exact ha.elim
  . rw [e]
    refine .inl ⟨(f.kof _).trans (locOk_at fo.loc (List.mem_append_right _ hx)),?_⟩
    cases e:(ps.zip vs).reverse.lookup p.1 with
    | none=>exact e
    | some v =>
      have:=List.mem_map_of_mem (f:=(·.1)) (List.mem_reverse.mp (mem_of_lookup e))
      rw [hfst] at this
      exact absurd rfl ((List.nodup_append.mp ndpl).2.2 _ this _ hx)
  . obtain ⟨c,o',v,X,hc,hX,h1',h2',h3'⟩:=hC.get fr p hp
    have hkf:=(f.kof p.1).trans (locOk_at fo.fre (List.of_mem_zip hp).1)
    rw [hX]
    exact ⟨v,.inr ⟨by rw [hkf]; nofun,c,by rw [e3]; exact clo_lookup fo hc,o',ok1.sub _ _ h1',h2'⟩,h3'⟩
theorem frame_inv (fo:FdF fd ps ls fr) (f:Frm fd env h) (e3:env.cells=fd.closure) (ok:Ok G g h) (hargs:ArgsOk g h β vs cs) (hlen:vs.length=ps.length) (hap:(cs.flatMap (·.addrs)).Nodup) (hC:RepC g (fd.closure.map (·.2)) Xs) (grow:Grow h h1)
    (hns:h1.Ns env.locals λ x=>(ps.zip vs).reverse.lookup x) (hΦ:Φ.keys=ps ++ ls ++ fr):Inv G Φ env (ps.zip cs ++ ls.map (·,.un) ++ fr.zip (Xs.map .ro)) β g h1 :=
  have hcl:cs.length=ps.length:=hargs.length ▸ hlen
  ⟨ok.grow grow,⟨_,hns,frame_cell fo f e3 (ok.grow grow) hargs hlen hC grow⟩,λ b hb=>(frame_mut fo f b hb).elim (λ q=>(cs_at hargs q).1) λ q=>q ▸ ok.new (get?_size h),
    (rho_keys hcl (by rw [<- hC.length,List.length_map]; have:=congrArg List.length fo.clo; rwa [List.length_map] at this)).trans hΦ.symm,by rw [rho_addrs hcl]; exact hap⟩
end
noncomputable def Enter (G:Gd) (Φ:Fm) (k:Nat) (A:Around) (fd:FuncData) (g:Gh) (h:Heap) (ρ:Loc) (β:List V) (cs:List Cell) (P:Env->Heap->Prop):Prop :=
  ∀ env h1,Rm G k (A.deeper env) h1->EnvOk Φ env->Inv G Φ env ρ β g h1->Grow h h1->env.cells=fd.closure->(∀ b,Mut env ρ b->b∈cs.flatMap (·.addrs)\/b=h.objs.size)->P env h1
theorem enter_of {A:Around} {g:Gh} {h h1:Heap} {fd:FuncData} {env:Env} {ps ls fr:List Str} {vs:List Value} {cs:List Cell} {Xs:List V} {P:Env->Heap->Prop} (fo:FdF fd ps ls fr) (f:Frm fd env h) (e3:env.cells=fd.closure) (rm:Rm G (k + 1) A h) (ok:Ok G g h)
    (hargs:ArgsOk g h β vs cs) (hlen:vs.length=ps.length) (hap:(cs.flatMap (·.addrs)).Nodup) (hC:RepC g (fd.closure.map (·.2)) Xs) (grow:Grow h h1) (hns:h1.Ns env.locals λ x=>(ps.zip vs).reverse.lookup x) (hΦ:Φ=⟨fd.scope,ps ++ ls ++ fr,fr.isEmpty,none⟩)
    (hr:Enter G Φ k A fd g h (ps.zip cs ++ ls.map (·,.un) ++ fr.zip (Xs.map .ro)) β cs P):P env h1 :=
  hr env h1 (f.rm (sco_ok fo.sco).kind rm ok grow hns) (frame_env fo f e3 hΦ) (frame_inv fo f e3 ok hargs hlen hap hC grow hns (by rw [hΦ])) grow e3 (frame_mut fo f)
theorem enterR {A:Around} {g:Gh} {s:Shared} {a:Addr} {o:Obj} {fd:FuncData} {body:List Stmt} {ps ls fr:List Str} {vs:List Value} {cs:List Cell} {Xs:List V} {Q:Value->Shared->Prop} {E:Value->Shared->Prop} (PR:Flow->Shared->Prop) (PE:Env->Value->Shared->Prop)
    (rm:Rm G (k + 1) A s.heap) (ok:Ok G g s.heap) (ho:s.heap.get? a=some o) (hd:o.data=.func fd) (fo:FdOk fd body ps ls fr) (hcd:s.heap.CodeRec fd.code fd.qualname)
    (hargs:ArgsOk g s.heap β vs cs) (hlen:vs.length=ps.length) (hap:(cs.flatMap (·.addrs)).Nodup) (hC:RepC g (fd.closure.map (·.2)) Xs)
    (hΦ:Φ=⟨fd.scope,ps ++ ls ++ fr,fr.isEmpty,none⟩)
    (hrun:Enter G Φ k A fd g s.heap (ps.zip cs ++ ls.map (·,.un) ++ fr.zip (Xs.map .ro)) β cs λ env h1=>∀ tk1 (Q':Flow->Shared->Prop) (E':Value->Shared->Prop),(∀ fl s',PR fl s'->Q' fl s')->(∀ e s',PE env e s'->E' e s')->wpAny (model G.prog G.w) (A.deeper env) (execs body env) Q' E' (at_ s h1 tk1))
    (kk:∀ fl s',PR fl s'->Q (match fl with | .ret v=>v | _=>.none) s')
    (kkE:∀ env e s',PE env e s'->wpAny (model G.prog G.w) (A.deeper env) (leaving env e) (λ _ s''=>E e s'') (λ e' s''=>E e' s'') s') :
    wpAny (model G.prog G.w) A (call (.ref a) vs) Q E s:=by
  have so:=sco_ok fo.f.sco
  refine wpAny_call (codeAny_call_function rm.room ho hd so.co so.gen fo.body hcd ?_)
  rw [parOk_bind fo.f.par fo.f.dfl hlen]
  refine wpAny_pure (wpAny_newFunctionEnv (noc_ok fo.f.noc) (λ x hx=>locOk_at fo.f.loc (List.mem_append_left _ (zip_fst ps vs hlen.symm ▸ List.mem_map_of_mem (f:=(·.1)) hx))) (λ h1 hns hsb=>⟨ok.nolim.fresh _ hsb,?_⟩) so.kind)
  have grow:Grow s.heap h1:=⟨λ b ob e=>hsb.extBut b ob (Nat.ne_of_lt (Heap.lt_size e)) (Heap.get?_push_of_some _ e)⟩
  show codeAny _ _ (.func body _) _ _
  exact codeAny_func (enter_of fo.f ⟨rfl,rfl,rfl,rfl,rfl,λ _=>rfl⟩ rfl rm ok hargs hlen hap hC grow hns hΦ hrun _ _ _ (λ fl s' hp=>kk fl s' hp) λ e s' hp=>kkE _ e s' hp)
theorem enter {A:Around} {g:Gh} {s:Shared} {a:Addr} {o:Obj} {fd:FuncData} {body:List Stmt} {ps ls fr:List Str} {vs:List Value} {cs:List Cell} {Xs:List V} {Q:Value->Shared->Prop} {E:Value->Shared->Prop} {KK:Fl->Loc->List V->Prop}
    (rm:Rm G (k + 1) A s.heap) (ok:Ok G g s.heap) (ho:s.heap.get? a=some o) (hd:o.data=.func fd) (fo:FdOk fd body ps ls fr) (hcd:s.heap.CodeRec fd.code fd.qualname)
    (hargs:ArgsOk g s.heap β vs cs) (hlen:vs.length=ps.length) (hap:(cs.flatMap (·.addrs)).Nodup) (hC:RepC g (fd.closure.map (·.2)) Xs)
    (hΦ:Φ=⟨fd.scope,ps ++ ls ++ fr,fr.isEmpty,none⟩)
    (hrun:WSs G Φ k body (ps.zip cs ++ ls.map (·,.un) ++ fr.zip (Xs.map .ro)) β KK)
    (kk:∀ env fl f ρ' β' g' h' tk,KK f ρ' β'->Inv G Φ env ρ' β' g' h'->FlRep env ρ' g' h' fl f->Step G (λ b=>b∈cs.flatMap (·.addrs)) g s.heap g' h' ->
      (∀ b,Mut env ρ' b->b∈cs.flatMap (·.addrs)\/s.heap.get? b=none)->Q (match fl with | .ret v=>v | _=>.none) (at_ s h' tk)) :
    wpAny (model G.prog G.w) A (call (.ref a) vs) Q E s:=by
  refine enterR (λ fl s'=>∃ env f ρ' β' g' h' tk,s'=at_ s h' tk/\KK f ρ' β'/\Inv G Φ env ρ' β' g' h'/\FlRep env ρ' g' h' fl f/\Step G (λ b=>b∈cs.flatMap (·.addrs)) g s.heap g' h'/\(∀ b,Mut env ρ' b->b∈cs.flatMap (·.addrs)\/s.heap.get? b=none)) (λ _ _ _=>False) rm ok ho hd fo hcd hargs hlen hap hC hΦ ?_ ?_ (λ _ _ _ z=>z.elim)
  . intro env h1 rm1 eo iv grow hcl mutE tk1 Q' E' hq _
    have hn:=get?_size s.heap
    refine hrun (A.deeper env) env g _ Q' E' rm1 eo iv λ fl f ρ' β' g' h' tk hK iv' fr' st mg=>hq fl _ ⟨env,f,ρ',β',g',h',tk,rfl,hK,iv',fr',?_,λ b hb=>?_⟩
    . refine ((grow.step (X:=λ b=>b∈cs.flatMap (·.addrs)) (g:=g) (G:=G)).trans st λ b hb=>?_)
      rcases mutE b hb with q | q
      . exact .inl q
      . rw [q]; exact .inr hn
    . rcases mg b hb with q | q
      . rcases mutE b q with q | q
        . exact .inl q
        . rw [q]; exact .inr hn
      . exact .inr (grow.old q)
  . intro fl s' zQ2
    refine hid λ _ uQ=>?_
    obtain ⟨env,f,ρ',β',g',h',tk,rfl,hK,iv',fr',st1,mg⟩:=zQ2
    refine uQ ?_
    exact kk env fl f ρ' β' g' h' tk hK iv' fr' st1 mg
end
end A14
noncomputable section A15
section
variable {G:Gd} {Φ:Fm} {k:Nat} {ρ ρ':Loc} {β:List V}
noncomputable def IsDef (G:Gd) (d:DefRec):Prop:=∃ a o pm cd doc,G.mg d.name=some (.ref a)/\G.gh.get? a=some o/\o.data=.func (Calls.docDef d.name d.params d.body d.scope pm cd doc)/\G.gh.CodeRec cd d.name
noncomputable def fnv (G:Gd) (x:Str):V:=match G.mg x with | some (.ref a)=>.fn a | _=>.none
theorem fmOk_parts {d:DefRec} {ps ls:List Str} {pm cd doc:Value} (h:fmOk d.params d.scope ps ls=true):FdOk (Calls.docDef d.name d.params d.body d.scope pm cd doc) d.body ps ls []:=by
  unfold fmOk at h
  simp only [Bool.and_eq_true,decide_eq_true_eq] at h
  obtain ⟨⟨⟨⟨h1,h2⟩,h3⟩,h4⟩,h5⟩:=h
  exact ⟨rfl,⟨h1,h2,h3,rfl,h4,by simpa using h5,rfl,rfl,rfl,rfl⟩⟩
noncomputable def RetK (P:V->Prop) (f:Fl) (ρ:Loc) (β:List V):Prop :=
  match f with
  | .ret x=>P x
  | .next=>P .none
  | .reto _ xs=>P (.list xs)
  | _=>False
noncomputable def RetO (P:List V->Prop) (f:Fl) (ρ:Loc) (β:List V):Prop :=
  match f with
  | .reto _ xs=>P xs
  | _=>False
noncomputable def RetIO (x:Str) (a:Addr) (P:V->List V->Prop) (f:Fl) (ρ:Loc) (β:List V):Prop :=
  (x,Cell.box a)∈ρ/\match f with
  | .ret y=>P y β
  | .next=>P .none β
  | _=>False
theorem addrsAll_none {vs:List V}:(vs.map Cell.val).flatMap (·.addrs)=[]:=addrsAll_vals vs
theorem Rep.fnv_inv {g:Gh} {f:Value} {d:DefRec} {a:Addr} (e:G.mg d.name=some (.ref a)) (r:Rep g f (fnv G d.name)):f=.ref a:=by
  unfold fnv at r
  rw [e] at r
  cases r; rfl
theorem reto_val {env:Env} {g':Gh} {h h':Heap} {g:Gh} {a:Addr} {vs:List Value} {n:Nat} {xs:List V} (ok':Ok G g' h') (st:Step G (λ _=>False) g h g' h') (hg:g' a=none) (hn:h.get? a=none) (ha:h'.get? a=some (lsObj vs n)) (r:RepL g' vs xs) :
    Ok G (gset g' a (lsObj vs n)) h'/\Step G (λ _=>False) g h (gset g' a (lsObj vs n)) h'/\Rep (gset g' a (lsObj vs n)) (.ref a) (.list xs) :=
  ⟨ok'.learn hg ha (by nofun),st.learn hg (.inl hn),.list (gset_self ..) (r.mono (gset_le (.inl hg)))⟩
theorem spec_def {d:DefRec} {ps ls:List Str} {xs:List V} {P:V->Prop} (hd:IsDef G d) (fm:fmOk d.params d.scope ps ls=true) (hl:xs.length=ps.length)
    (h:WSs G ⟨d.scope,ps ++ ls,true,none⟩ k d.body (ps.zip (xs.map .val) ++ ls.map (·,.un)) [] (RetK P)):Spec G (k + 1) (fnv G d.name) xs P :=
  λ A g s f vs Q E rm ok rf rs kk=>by
    obtain ⟨a,o,pm,cd,doc,e1,e2,e3,e4⟩:=hd
    obtain rfl:=rf.fnv_inv e1
    have old:∀ b o,G.gh.get? b=some o->s.heap.get? b=some o:=λ b o e=>ok.sub b o (ok.gnd b o e)
    refine enter (Φ:=⟨d.scope,ps ++ ls,true,none⟩) (β:=[]) (Xs:=[]) (cs:=xs.map .val) rm ok (old _ _ e2) e3 (fmOk_parts fm) (e4.keeps old) (.vals rs) (by rw [rs.length,hl]) (by rw [addrsAll_none]; exact .nil) .nil (by rw [List.append_nil]; rfl) (by simpa using h) λ env fl fo ρ' β' g' h' tk hK iv fr st mg=>?_
    rw [addrsAll_none] at st mg
    have st':Step G (λ _=>False) g s.heap g' h':=st.weaken λ b hb=>by cases hb
    cases fo with
    | next=>refine FlRep.next_e fr ?_; exact kk _ _ g' h' tk hK iv.ok .none st'
    | ret x=>refine FlRep.ret_e fr λ v fr=>?_; exact kk _ _ g' h' tk hK iv.ok fr st'
    | reto a' ys =>
      refine FlRep.reto_e fr λ fr=>?_
      obtain ⟨_,hg,hm,ws,n,ha,r⟩:=fr
      have hn:s.heap.get? a'=none:=(mg a' hm).elim (λ z=>by cases z) id
      obtain ⟨k1,k2,k3⟩:=reto_val (env:=env) iv.ok st' hg hn ha r
      exact kk _ _ _ h' tk hK k1 k3 k2
    | _=>exact hK.elim
theorem specO_def {d:DefRec} {ps ls:List Str} {xs:List V} {P:List V->Prop} (hd:IsDef G d) (fm:fmOk d.params d.scope ps ls=true) (hl:xs.length=ps.length)
    (h:WSs G ⟨d.scope,ps ++ ls,true,none⟩ k d.body (ps.zip (xs.map .val) ++ ls.map (·,.un)) [] (RetO P)):SpecO G (k + 1) (fnv G d.name) xs P :=
  λ A g s f vs Q E rm ok rf rs kk=>by
    obtain ⟨a,o,pm,cd,doc,e1,e2,e3,e4⟩:=hd
    obtain rfl:=rf.fnv_inv e1
    have old:∀ b o,G.gh.get? b=some o->s.heap.get? b=some o:=λ b o e=>ok.sub b o (ok.gnd b o e)
    refine enter (Φ:=⟨d.scope,ps ++ ls,true,none⟩) (β:=[]) (Xs:=[]) (cs:=xs.map .val) rm ok (old _ _ e2) e3 (fmOk_parts fm) (e4.keeps old) (.vals rs) (by rw [rs.length,hl]) (by rw [addrsAll_none]; exact .nil) .nil (by rw [List.append_nil]; rfl) (by simpa using h) λ env fl fo ρ' β' g' h' tk hK iv fr st mg=>?_
    rw [addrsAll_none] at st mg
    have st':Step G (λ _=>False) g s.heap g' h':=st.weaken λ b hb=>by cases hb
    cases fo with
    | reto a' ys =>
      refine FlRep.reto_e fr λ fr=>?_
      obtain ⟨_,hg,hm,ws,n,ha,r⟩:=fr
      have hn:s.heap.get? a'=none:=(mg a' hm).elim (λ z=>by cases z) id
      exact kk a' ys ws n g' h' tk hK iv.ok ha r hg hn st'
    | _=>exact hK.elim
theorem specIO_def {d:DefRec} {x:Str} {ps ls:List Str} {xs ys:List V} {P:V->List V->Prop} (hd:IsDef G d) (fm:fmOk d.params d.scope (x :: ps) ls=true) (hl:ys.length=ps.length)
    (h:∀ a,WSs G ⟨d.scope,x :: (ps ++ ls),true,none⟩ k d.body ((x,.box a) :: (ps.zip (ys.map .val) ++ ls.map (·,.un))) xs (RetIO x a P)):SpecIO G (k + 1) (fnv G d.name) xs ys P :=
  λ A g s f b vs ws n Q E rm ok rf rs hb rb hgb kk=>by
    obtain ⟨a,o,pm,cd,doc,e1,e2,e3,e4⟩:=hd
    obtain rfl:=rf.fnv_inv e1
    have old:∀ b o,G.gh.get? b=some o->s.heap.get? b=some o:=λ b o e=>ok.sub b o (ok.gnd b o e)
    have ha:(Cell.box b :: ys.map .val).flatMap (·.addrs)=[b]:=by rw [List.flatMap_cons,addrsAll_none]; rfl
    refine enter (Φ:=⟨d.scope,x :: (ps ++ ls),true,none⟩) (β:=xs) (Xs:=[]) (cs:=.box b :: ys.map .val) rm ok (old _ _ e2) e3 (fmOk_parts fm) (e4.keeps old) ⟨⟨rfl,hgb,ws,n,hb,rb⟩,.vals rs⟩ (by simp [rs.length,hl]) (by rw [ha]; simp) .nil (by rw [List.append_nil]; rfl) (by simpa using h b) λ env fl fo ρ' β' g' h' tk hK iv fr st mg=>?_
    rw [ha] at st mg
    have st':Step G (λ c=>c=b) g s.heap g' h':=st.weaken λ c hc=>.inl (List.mem_singleton.mp hc)
    obtain ⟨hbox,hK⟩:=hK
    obtain ⟨m,_,hc⟩:=iv.ns
    obtain ⟨_,ws',n',eb,rb'⟩:=hc _ hbox
    have hgb':g' b=none:=iv.off b (mut_addrs hbox (.head _))
    cases fo with
    | next=>refine FlRep.next_e fr ?_; exact kk _ _ β' ws' n' g' h' tk hK iv.ok .none eb rb' hgb' st'
    | ret x=>refine FlRep.ret_e fr λ v fr=>?_; exact kk _ _ β' ws' n' g' h' tk hK iv.ok fr eb rb' hgb' st'
    | _=>exact hK.elim
end
end A15
noncomputable section A16
section
variable {G:Gd} {Φ:Fm} {k:Nat} {ρ ρ':Loc} {β:List V}
theorem WS_callown {f x:Str} {a:Addr} {xs:List V} {p px:Pos} {args:List Expr} {pos pos2:Pos} {K:Fl->Loc->List V->Prop} (hm:(x,.own a xs)∈ρ)
    (h:WE G Φ k (.Name f p) ρ β λ fv β1=>IsFn G fv/\WL G Φ k args ρ β1 λ ys β2=>SpecIO G k fv xs ys λ r xs'=>r=.none/\∃ ρ',SetAt x (.own a xs') ρ (.own a xs) ρ'/\K .next ρ' β2) (hns:args.all noStar=true) :
    WS G Φ k (.Expr (.Call (.Name f p) (.Name x px :: args) [] pos) pos2) ρ β K :=
  λ A env g s Q E rm eo iv kk=>wpAny_Expr (Call_ (h A env g s _ E rm eo iv λ vf fv β1 g1 h1 tk1 z0 iv1 rf st1=>z0.elim λ hfn hl=>by
    refine hid λ _ uQ=>?_
    obtain ⟨af,o,fd,rfl,ho,hd⟩:=hfn.obj iv1.ok rf
    refine uQ ?_
    refine callWith_any hd (iv1.ok.sub _ _ ho) hns (args_cons (wpAny_Name (load_own (s:=at_ s h1 tk1) eo iv1 hm (hl A env g1 _ _ _ E (rm.step st1) eo iv1 λ vs ys β2 g2 h2 tk2 hk iv2 rs st2=>?_)) (eo.dbgk (iv.key hm))))
    refine ⟨iv2.ok.sub _ _ (st2.gle _ _ ho),?_⟩
    refine hid λ _ uQ=>?_
    obtain ⟨m,hn,hc⟩:=iv2.ns
    obtain ⟨hsl,ws,n,ea,la⟩:=hc _ hm
    refine uQ ?_
    have hmut:Mut env ρ a:=mut_addrs hm (.head _)
    refine hk A g2 _ _ a vs ws n _ E ((rm.step st1).step st2) iv2.ok (rf.mono st2.gle) rs ea la (iv2.off a hmut) λ v x' xs' ws' n' g3 h3 tk3 z0 ok3 rx ea' la' hg' st3=>hid λ _ uQ=>z0.elim λ hx' z0=>z0.elim λ ρ' z0=>z0.elim λ hset hk3=>uQ <| ?_
    subst hx'
    cases rx.none_inv
    have ndk:(ρ.map (·.1)).Nodup:=by rw [iv.keys]; exact eo.nodup
    have offs:=off_step iv2 st3 (λ b z=>z ▸ hg') ok3
    have mg:∀ b,Mut env ρ' b->Mut env ρ b:=λ b hb=>by
      rcases hb with rfl | ⟨q,hq,hqm⟩
      . exact .inl rfl
      . rcases hset.of_mem ndk q hq with rfl | ⟨z,_⟩
        . exact .inr ⟨_,hset.mem_old,hqm⟩
        . exact .inr ⟨q,z,hqm⟩
    have st123:=(st1.trans' st2).trans st3 λ b z=>.inl (z ▸ hmut)
    refine kk .next .next ρ' β2 g3 h3 tk3 hk3 ⟨ok3,?_,λ b hb=>offs b (mg b hb),by rw [hset.keys]; exact iv.keys,by rw [hset.addrs_same rfl]; exact iv.apart⟩ trivial st123 λ b hb=>.inl (mg b hb)
    refine hid λ _ uQ=>?_
    obtain ⟨oL,es,ep,eL,dL,rL⟩:=hn
    refine uQ ?_
    refine ⟨m,⟨oL,es,ep,kept_obj iv2.ok st3 eL (λ z=>by rw [z,ea] at eL; cases eL; cases dL) (λ ps z=>by rw [z] at dL; cases dL),dL,rL⟩,λ q hq=>?_⟩
    have sl:∀ {y v},slotIs env h2 m y v->slotIs env h3 m y v:=λ s=>s.imp id λ z0=>hid λ _ uQ=>z0.elim λ a' z0=>z0.elim λ b z0=>z0.elim λ e z0=>z0.elim λ o' z0=>z0.elim λ ho' hd'=>uQ <| ⟨a',b,e,o',kept_obj iv2.ok st3 ho' (λ z=>by rw [z,ea] at ho'; cases ho'; cases hd') (λ ps z=>by rw [z] at hd'; cases hd'),hd'⟩
    rcases hset.of_mem ndk q hq with rfl | ⟨hq',hqx⟩
    . exact ⟨sl hsl,ws',n',ea',la'⟩
    . exact (hc q hq').map st3.gle (λ _=>sl) λ b hb vs n e=>kept_obj iv2.ok st3 e (apart_ne iv.apart hq' hm hqx hb (.head _:a∈(Cell.own a xs).addrs)) nofun)) (by unfold interactive; rw [eo.fn]; rfl) (swaps_no rfl ..)
end
end A16
noncomputable section A17
noncomputable def lcOk (scope:Scope) (xs:List Str):Bool:=xs.all λ x=>match scope.names.lookup x with | some k=>kindIs k .local || kindIs k .cell | none=>false
theorem lcOk_at {scope:Scope} {xs:List Str} (h:lcOk scope xs=true) {x:Str} (hx:x∈xs):scope.names.lookup x=some .local\/scope.names.lookup x=some .cell:=by
  have:=List.all_eq_true.mp h x hx
  revert this
  cases scope.names.lookup x with
  | none=>intro h; cases h
  | some k =>
    intro h
    simp only [Bool.or_eq_true] at h
    rcases h with h | h
    . exact .inl (by rw [kindIs_eq h])
    . exact .inr (by rw [kindIs_eq h])
noncomputable def fmOkC (params:Arguments) (scope:Scope) (ps ls:List Str):Bool:=parOk params ps && scoOk scope && lcOk scope (ps ++ ls) && decide (ps ++ ls).Nodup
theorem cellsFrom_acc:∀ (names:List (Str × NameKind)) (n:Nat) (acc:List (Str × Addr)) (p:Str × Addr),p∈acc->p∈cellsFrom n names acc
  | [],_,_,_,h=>h
  | (x,kd) :: r,n,acc,p,h=>by
    unfold cellsFrom
    split
    . exact cellsFrom_acc r _ _ p (.tail _ h)
    . exact cellsFrom_acc r _ _ p h
theorem cellsFrom_mem (names:List (Str × NameKind)) (n:Nat) (acc:List (Str × Addr)) (x:Str) (h:(x,NameKind.cell)∈names):∃ c,(x,c)∈cellsFrom n names acc:=by
  induction names generalizing n acc with
  | nil=>cases h
  | cons p r ih =>
    unfold cellsFrom
    rcases List.mem_cons.mp h with e | h
    . rw [<- e]
      exact ⟨n,cellsFrom_acc r (n + 1) _ _ (.head _)⟩
    . split
      . exact ih _ _ h
      . exact ih _ _ h
theorem lookup_isSome {α:Type} {l:List (Str × α)} {x:Str} {c:α} (h:(x,c)∈l):∃ d,l.lookup x=some d:=by
  induction l with
  | nil=>cases h
  | cons p r ih =>
    rw [List.lookup_cons]
    cases e:x == p.1 with
    | true=>exact ⟨p.2,rfl⟩
    | false=>exact (List.mem_cons.mp h).elim (λ q=>by rw [<- q,beq_self_eq_true] at e; cases e) ih
theorem bindL_out {kd:Str->Option NameKind} {b:List (Str × Value)} {m:Str->Option Value} {x:Str} (h:x ∉ b.map (·.1)):bindL kd b m x=m x:=by
  induction b generalizing m with
  | nil=>rfl
  | cons p r ih =>
    obtain ⟨n,v⟩:=p
    simp only [List.map_cons,List.mem_cons,not_or] at h
    unfold bindL
    rw [ih h.2]
    split
    . simp [h.1]
    . rfl
theorem bindL_in {kd:Str->Option NameKind} {b:List (Str × Value)} {m:Str->Option Value} {x:Str} {v:Value} (hn:(b.map (·.1)).Nodup) (h:(x,v)∈b) (hk:kd x=some .local):bindL kd b m x=some v:=by
  induction b generalizing m with
  | nil=>cases h
  | cons p r ih =>
    obtain ⟨n,u⟩:=p
    rw [List.map_cons,List.nodup_cons] at hn
    unfold bindL
    rcases List.mem_cons.mp h with e | h
    . cases e
      rw [bindL_out hn.1,if_pos hk]; simp
    . exact ih hn.2 h
theorem bindC_out {kd:Str->Option NameKind} {b:List (Str × Value)} {m:Str->Option Value} {x:Str} (h:x ∉ b.map (·.1)):bindC kd b m x=m x:=by
  induction b generalizing m with
  | nil=>rfl
  | cons p r ih =>
    obtain ⟨n,v⟩:=p
    simp only [List.map_cons,List.mem_cons,not_or] at h
    unfold bindC
    rw [ih h.2]
    split
    . rfl
    . simp [h.1]
theorem bindC_in {kd:Str->Option NameKind} {b:List (Str × Value)} {m:Str->Option Value} {x:Str} {v:Value} (hn:(b.map (·.1)).Nodup) (h:(x,v)∈b) (hk:kd x≠some .local):bindC kd b m x=some v:=by
  induction b generalizing m with
  | nil=>cases h
  | cons p r ih =>
    obtain ⟨n,u⟩:=p
    rw [List.map_cons,List.nodup_cons] at hn
    unfold bindC
    rcases List.mem_cons.mp h with e | h
    . cases e
      rw [bindC_out hn.1,if_neg hk]; simp
    . exact ih hn.2 h
structure FdOkC (fd:FuncData) (body:List Stmt) (ps ls:List Str):Prop where
  body:fd.body=.stmts body
  par:parOk fd.params ps=true
  sco:scoOk fd.scope=true
  loc:lcOk fd.scope (ps ++ ls)=true
  nd:(ps ++ ls).Nodup
  glob:fd.globals=mainGlobals
  blt:fd.builtins=builtinsNs
  dfl:fd.defaults=.none
  clo:fd.closure=[]
section
variable {G:Gd} {Φ:Fm} {k:Nat} {ρ ρ':Loc} {β:List V}
theorem enterCR {A:Around} {g:Gh} {s:Shared} {a:Addr} {o:Obj} {fd:FuncData} {body:List Stmt} {ps ls:List Str} {vs:List Value} {cs:List Cell} {Q:Value->Shared->Prop} {E:Value->Shared->Prop} (PR:Flow->Shared->Prop)
    (rm:Rm G (k + 1) A s.heap) (ok:Ok G g s.heap) (ho:s.heap.get? a=some o) (hd:o.data=.func fd) (fo:FdOkC fd body ps ls) (hcd:s.heap.CodeRec fd.code fd.qualname)
    (hargs:ArgsOk g s.heap β vs cs) (hlen:vs.length=ps.length) (hap:(cs.flatMap (·.addrs)).Nodup) (hΦ:Φ=⟨fd.scope,ps ++ ls,true,some (fd.code,fd.qualname ++ ".<locals>.")⟩)
    (hrun:∀ env h1,Rm G k (A.deeper env) h1->EnvOk Φ env->Inv G Φ env (ps.zip cs ++ ls.map (·,.un)) β g h1->Grow s.heap h1->(∀ b,Mut env (ps.zip cs ++ ls.map (·,.un)) b->b∈cs.flatMap (·.addrs)\/s.heap.get? b=none) ->
      ∀ tk1 (Q':Flow->Shared->Prop) (E':Value->Shared->Prop),(∀ fl s',PR fl s'->Q' fl s')->wpAny (model G.prog G.w) (A.deeper env) (execs body env) Q' E' (at_ s h1 tk1))
    (kk:∀ fl s',PR fl s'->Q (match fl with | .ret v=>v | _=>.none) s') :
    wpAny (model G.prog G.w) A (call (.ref a) vs) Q E s:=by
  have so:=sco_ok fo.sco
  have ndp:=(List.nodup_append.mp fo.nd).1
  have hfst:(ps.zip vs).map (·.1)=ps:=zip_fst _ _ hlen.symm
  have hcl:cs.length=ps.length:=hargs.length ▸ hlen
  have cellAt:∀ x,fd.scope.names.lookup x=some .cell->∃ c,(cellsFrom (s.heap.objs.size + 1) fd.scope.names []).lookup x=some c:=λ x hx=>by
    obtain ⟨c,hc⟩:=cellsFrom_mem fd.scope.names (s.heap.objs.size + 1) [] x (mem_of_lookup hx)
    exact lookup_isSome hc
  refine wpAny_call (codeAny_call_function rm.room ho hd so.co so.gen fo.body hcd ?_)
  rw [parOk_bind fo.par fo.dfl hlen,fo.clo]
  refine wpAny_pure (wpAny_newFunctionEnv_cells so.kind (λ x hx=>?_) λ env henv s' x=>?_)
  . have hx1:x.1∈(ps.zip vs).map (·.1):=List.mem_map_of_mem (f:=(·.1)) hx
    rw [hfst] at hx1
    rcases lcOk_at fo.loc (List.mem_append_left _ hx1) with q | q
    . exact .inl q
    . obtain ⟨c,hc⟩:=cellAt _ q
      exact .inr ⟨q,by rw [hc]; rfl⟩
  obtain ⟨h1,tk1,rfl⟩:=x.toInCall.same
  have grow:Grow s.heap h1:=⟨λ b o e=>x.toInCall.keep b o e⟩
  refine ⟨ok.nolim.keeps grow.kept,?_⟩
  show codeAny _ _ (.func body env) _ _
  have f:Frm fd env s.heap:=by rw [henv]; exact ⟨rfl,rfl,rfl,rfl,rfl,λ _=>rfl⟩
  have e3:env.cells=cellsFrom (s.heap.objs.size + 1) fd.scope.names []:=by rw [henv]; rfl
  have hns:h1.Ns env.locals _:=x.toInCall.ns
  have keysOk:∀ y∈ps ++ ls,env.kindOf y=some .local\/(env.kindOf y=some .cell/\∃ c,env.cells.lookup y=some c):=λ y hy=>by
    rcases lcOk_at fo.loc hy with q | q
    . exact .inl ((f.kof y).trans q)
    . exact .inr ⟨(f.kof y).trans q,e3 ▸ cellAt _ q⟩
  have eo:EnvOk Φ env:=by
    subst hΦ
    exact ⟨f.sc,by rw [f.sc]; exact so.kind,f.glob.trans fo.glob,f.blt.trans fo.blt,by rw [f.sc]; exact so.names,by rw [f.sc]; exact so.dbg,fo.nd,λ y hy=>(keysOk y hy).imp id λ q=>⟨.inl q.1,q.2⟩,
      λ _ y hy=>by rcases keysOk y hy with q | q <;> (first | rw [q] | rw [q.1]) <;> nofun,λ _ y z c hy hz=>name_of_addr x.apart (mem_of_lookup hy) (mem_of_lookup hz),
      λ c q e=>by cases e; exact ⟨by rw [henv]; rfl,by rw [henv]; rfl⟩⟩
  have mutE:∀ b,Mut env (ps.zip cs ++ ls.map (·,.un)) b->b∈cs.flatMap (·.addrs)\/s.heap.get? b=none:=λ b hb=>by
    rcases hb with e | ⟨p,hp,z | z⟩
    . exact .inr (e ▸ f.loc ▸ get?_size s.heap)
    . refine .inr (get?_over _ _ ?_)
      have:=x.above _ _ (mem_of_lookup z.2.2)
      rw [f.loc] at this; exact Nat.le_of_lt this
    . refine rho_mem (fr:=[]) (Xs:=[]) (List.mem_append_left _ hp) (λ hp _=>.inl (List.mem_flatMap.mpr ⟨p.2,(List.of_mem_zip hp).2,addrs_owns z⟩)) (λ _ e=>?_) λ q=>nomatch q
      rw [e] at z; exact z.elim
  have k1:=rho_keys (ls:=ls) (Xs:=[]) (fr:=[]) hcl rfl
  have k2:=rho_addrs (ls:=ls) (Xs:=[]) (fr:=[]) hcl
  rw [show ([]:List Str).zip (([]:List V).map Cell.ro)=[] from rfl,List.append_nil,List.append_nil] at k1
  rw [show ([]:List Str).zip (([]:List V).map Cell.ro)=[] from rfl,List.append_nil] at k2
  refine codeAny_func (hrun env h1 (f.rm so.kind rm ok grow hns) eo ⟨ok.grow grow,⟨_,hns,λ p hp=>?_⟩,λ b hb=>(mutE b hb).elim (λ q=>(cs_at hargs q).1) ok.new,k1.trans (by rw [hΦ]),by rw [k2]; exact hap⟩ grow mutE _ _ _ λ fl s' hp=>kk fl s' hp)
  have slot:∀ y∈ps ++ ls,∀ v,(∀ hk:env.kindOf y=some .local,bindL env.kindOf (ps.zip vs) (λ _=>none) y=v)->(∀ hk:env.kindOf y≠some .local,bindC env.kindOf (ps.zip vs) (λ _=>none) y=v) ->
      slotIs env h1 (bindL env.kindOf (ps.zip vs) λ _=>none) y v:=λ y hy v h1' h2'=>by
    rcases keysOk y hy with q | ⟨q,c,hc⟩
    . exact .inl ⟨q,h1' q⟩
    . have hne:env.kindOf y≠some .local:=by rw [q]; nofun
      have:=x.cell y c hc
      rw [h2' hne] at this
      exact .inr ⟨hne,c,hc,this⟩
  refine rho_mem (fr:=[]) (Xs:=[]) (List.mem_append_left _ hp) (λ hp hx=>?_) (λ hx e=>?_) λ q=>nomatch q
  . obtain ⟨v,hv,ha⟩:=hargs.mem p hp
    have sl:=slot p.1 (List.mem_append_left _ hx) (some v) (λ hk=>bindL_in (by rw [hfst]; exact ndp) hv hk) (λ hk=>bindC_in (by rw [hfst]; exact ndp) hv hk)
    obtain ⟨y,c⟩:=p
    cases c with
    | val X=>exact ⟨v,sl,ha⟩
    | box a'=>obtain ⟨e,_,ws,n,e',r⟩:=ha; exact ⟨e ▸ sl,ws,n,grow.kept _ _ e',r⟩
    | _=>exact ha.elim
  . have hnot:p.1 ∉ (ps.zip vs).map (·.1):=by rw [hfst]; exact λ z=>(List.nodup_append.mp fo.nd).2.2 _ z _ hx rfl
    rw [e]
    exact slot p.1 (List.mem_append_right _ hx) _ (λ hk=>bindL_out hnot) (λ hk=>bindC_out hnot)
theorem enterC {A:Around} {g:Gh} {s:Shared} {a:Addr} {o:Obj} {fd:FuncData} {body:List Stmt} {ps ls:List Str} {vs:List Value} {xs:List V} {Q:Value->Shared->Prop} {E:Value->Shared->Prop} {KK:Fl->Loc->List V->Prop}
    (rm:Rm G (k + 1) A s.heap) (ok:Ok G g s.heap) (ho:s.heap.get? a=some o) (hd:o.data=.func fd) (fo:FdOkC fd body ps ls) (hcd:s.heap.CodeRec fd.code fd.qualname)
    (rs:RepL g vs xs) (hlen:vs.length=ps.length) (hΦ:Φ=⟨fd.scope,ps ++ ls,true,some (fd.code,fd.qualname ++ ".<locals>.")⟩)
    (hrun:WSs G Φ k body (ps.zip (xs.map .val) ++ ls.map (·,.un)) [] KK)
    (kk:∀ env fl f ρ' β' g' h' tk,KK f ρ' β'->Inv G Φ env ρ' β' g' h'->FlRep env ρ' g' h' fl f->Step G (λ _=>False) g s.heap g' h' ->
      (∀ b,Mut env ρ' b->s.heap.get? b=none)->Q (match fl with | .ret v=>v | _=>.none) (at_ s h' tk)) :
    wpAny (model G.prog G.w) A (call (.ref a) vs) Q E s:=by
  have no:∀ {b},b∈(xs.map Cell.val).flatMap (·.addrs)->False:=λ h=>by rw [addrsAll_none] at h; cases h
  refine enterCR (λ fl s'=>Q (match fl with | .ret v=>v | _=>.none) s') rm ok ho hd fo hcd (β:=[]) (.vals rs) hlen (by rw [addrsAll_none]; exact .nil) hΦ (λ env h1 rm1 eo iv grow mutE tk1 Q' E' hq=>?_) λ _ _ h=>h
  refine hrun (A.deeper env) env g _ _ _ rm1 eo iv λ fl f ρ' β' g' h' tk hK iv' fr' st mg=>hq fl _ ?_
  have new:∀ b,Mut env (ps.zip (xs.map .val) ++ ls.map (·,.un)) b->s.heap.get? b=none:=λ b hb=>(mutE b hb).resolve_left no
  exact kk env fl f ρ' β' g' h' tk hK iv' fr' ((grow.step (X:=λ _=>False) (g:=g) (G:=G)).trans st λ b hb=>.inr (new b hb)) λ b hb=>(mg b hb).elim (new b) λ q=>grow.old q
theorem fmOkC_parts {d:DefRec} {ps ls:List Str} {pm cd doc:Value} (h:fmOkC d.params d.scope ps ls=true):FdOkC (Calls.docDef d.name d.params d.body d.scope pm cd doc) d.body ps ls:=by
  unfold fmOkC at h
  simp only [Bool.and_eq_true,decide_eq_true_eq] at h
  refine hid λ _ uQ=>?_
  obtain ⟨⟨⟨h1,h2⟩,h3⟩,h4⟩:=h
  refine uQ ?_
  exact ⟨rfl,h1,h2,h3,h4,rfl,rfl,rfl,rfl⟩
theorem specC_def {d:DefRec} {ps ls:List Str} {xs:List V} {P:V->Prop} (hd:IsDef G d) (fm:fmOkC d.params d.scope ps ls=true) (hl:xs.length=ps.length)
    (h:∀ cd,WSs G ⟨d.scope,ps ++ ls,true,some (cd,d.name ++ ".<locals>.")⟩ k d.body (ps.zip (xs.map .val) ++ ls.map (·,.un)) [] (RetK P)):Spec G (k + 1) (fnv G d.name) xs P :=
  λ A g s f vs Q E rm ok rf rs kk=>by
    refine hid λ _ uQ=>?_
    obtain ⟨a,o,pm,cd,doc,e1,e2,e3,e4⟩:=hd
    refine uQ ?_
    obtain rfl:=rf.fnv_inv e1
    have old:∀ b o,G.gh.get? b=some o->s.heap.get? b=some o:=λ b o e=>ok.sub b o (ok.gnd b o e)
    refine enterC (Φ:=⟨d.scope,ps ++ ls,true,some (cd,d.name ++ ".<locals>.")⟩) rm ok (old _ _ e2) e3 (fmOkC_parts fm) (e4.keeps old) rs (by rw [rs.length,hl]) rfl (h cd) λ env fl fo ρ' β' g' h' tk hK iv fr st mg=>?_
    cases fo with
    | next=>refine FlRep.next_e fr ?_; exact kk _ _ g' h' tk hK iv.ok .none st
    | ret x=>refine FlRep.ret_e fr λ v fr=>?_; exact kk _ _ g' h' tk hK iv.ok fr st
    | reto a' ys =>
      refine FlRep.reto_e fr λ fr=>?_
      refine hid λ _ uQ=>?_
      obtain ⟨_,hg,hm,ws,n,ha,r⟩:=fr
      obtain ⟨k1,k2,k3⟩:=reto_val (env:=env) iv.ok st hg (mg a' hm) ha r
      refine uQ ?_
      exact kk _ _ _ h' tk hK k1 k3 k2
    | _=>exact hK.elim
noncomputable def IsDefT (G:Gd) (d:DefRec) (q:TabI):Prop:=q∈G.tabs/\∃ a o pm doc,G.mg d.name=some (.ref a)/\G.gh.get? a=some o/\o.data=.func (Calls.docDef d.name d.params d.body d.scope pm (.ref q.c) doc)/\G.gh.CodeRec (.ref q.c) d.name
theorem specT_def {d:DefRec} {q:TabI} {ps ls:List Str} {xs:List V} {P:V->Prop} (hd:IsDefT G d q) (fm:fmOkC d.params d.scope ps ls=true) (hl:xs.length=ps.length)
    (h:WSs G ⟨d.scope,ps ++ ls,true,some (.ref q.c,d.name ++ ".<locals>.")⟩ k d.body (ps.zip (xs.map .val) ++ ls.map (·,.un)) [] (RetK P)):Spec G (k + 1) (fnv G d.name) xs P :=
  λ A g s f vs Q E rm ok rf rs kk=>by
    refine hid λ _ uQ=>?_
    obtain ⟨_,a,o,pm,doc,e1,e2,e3,e4⟩:=hd
    refine uQ ?_
    obtain rfl:=rf.fnv_inv e1
    have old:∀ b o,G.gh.get? b=some o->s.heap.get? b=some o:=λ b o e=>ok.sub b o (ok.gnd b o e)
    refine enterC (Φ:=⟨d.scope,ps ++ ls,true,some (.ref q.c,d.name ++ ".<locals>.")⟩) rm ok (old _ _ e2) e3 (fmOkC_parts fm) (e4.keeps old) rs (by rw [rs.length,hl]) rfl h λ env fl fo ρ' β' g' h' tk hK iv fr st mg=>?_
    cases fo with
    | next=>refine FlRep.next_e fr ?_; exact kk _ _ g' h' tk hK iv.ok .none st
    | ret x=>refine FlRep.ret_e fr λ v fr=>?_; exact kk _ _ g' h' tk hK iv.ok fr st
    | reto a' ys =>
      refine FlRep.reto_e fr λ fr=>?_
      refine hid λ _ uQ=>?_
      obtain ⟨_,hg,hm,ws,n,ha,r⟩:=fr
      obtain ⟨k1,k2,k3⟩:=reto_val (env:=env) iv.ok st hg (mg a' hm) ha r
      refine uQ ?_
      exact kk _ _ _ h' tk hK k1 k3 k2
    | _=>exact hK.elim
end
end A17
noncomputable section A18
section
variable {prog:Program} {w:World} {A:Around} {E:Value->Shared->Prop} {R:Result->Shared->Prop} {s:Shared}
theorem comp_turns {elt target iter:Expr} {ifs:List Expr} {scope:Scope} {pos:Pos} {it acc:Value} {env:Env} (I:Nat->Shared->Prop)
    (turn:∀ n s,I n s->∀ EE:Value->Shared->Prop,wpAny (model prog w) A (pyNext it) (λ r s₁=>match r with
      | none=>R (.ok .next) s₁
      | some v=>wpAny (model prog w) A (letOwnedTupleGo target it v) (λ _ s₂=>wpAny (model prog w) A (assign target env v) (λ _ s₃ =>
          wpAny (model prog w) A (forIn ifs true λ c r=>if r=true then do let ok <- isTrue c env (eval c env); pure (ForInStep.yield ok) else pure (ForInStep.yield r)) (λ ok s₄ =>
            if ok=true then wpAny (model prog w) A (eval elt env) (λ x s₅=>wpAny (model prog w) A (call (.builtin "list.append") [acc,x]) (λ _ s₆=>∃ m,m < n/\I m s₆) EE s₅) EE s₄
            else ∃ m,m < n/\I m s₄) EE s₃) EE s₂) EE s₁) EE s)
    (n:Nat) (h:I n s):codeAny (model prog w) A (.compLoop (.ListComp elt [⟨target,iter,ifs,0⟩] scope pos) 0 it acc env) R s:=by
  refine codeAny_loop rfl I (λ n s hI=>?_) n h
  show wpAny _ A ((compTurn (.ListComp elt [⟨target,iter,ifs,0⟩] scope pos) 0 it acc env).onRaise (λ x=>do noteFrame x env; theTreesLotGoes x)) _ _ s
  refine wpAny_noted ?_
  rw [compTurn_list]
  refine wpAny_bind (wpAny_standAt (wpAny_bind (wpAny_mono (turn n s hI _) (λ r s₁ h₁=>?_) λ _ _ h'=>h')))
  cases r with
  | none=>exact wpAny_pure h₁
  | some v =>
    refine wpAny_bind (wpAny_mono h₁ (λ _ s₂ h₂=>wpAny_bind (wpAny_mono h₂ (λ _ s₃ h₃=>wpAny_bind (wpAny_mono h₃ (λ ok s₄ h₄=>?_) λ _ _ h'=>h')) λ _ _ h'=>h')) λ _ _ h'=>h')
    cases ok with
    | false=>exact wpAny_pure ⟨rfl,h₄⟩
    | true=>exact wpAny_bind (wpAny_bind (wpAny_mono h₄ (λ x s₅ h₅=>wpAny_bind (wpAny_mono h₅ (λ _ s₆ h₆=>wpAny_pure (wpAny_pure ⟨rfl,h₆⟩)) λ _ _ h'=>h')) λ _ _ h'=>h'))
end
section
variable {G:Gd} {Φ Φo:Fm} {k:Nat} {ρ ρ':Loc} {β:List V}
theorem Inv.beside {env:Env} {β0:List V} {g0 g g':Gh} {h0 h h':Heap} {X:Addr->Prop} (iv0:Inv G Φ env ρ β0 g0 h0) (iv:Inv G Φ env ρ β g h) (ok':Ok G g' h') (st:Step G X g h g' h') (hX:∀ b,X b->h0.get? b=none) (hoff:∀ b,X b->g' b=none):Inv G Φ env ρ β g' h':=by
  have nx:∀ b,Mut env ρ b->¬ X b:=λ b hb hx=>iv0.mut_in hb (hX b hx)
  obtain ⟨m,hn,hc⟩:=iv.ns
  obtain ⟨m0,hn0,hc0⟩:=iv0.ns
  refine ⟨ok',⟨m,?_,λ p hp=>?_⟩,off_step iv st hoff ok',iv.keys,iv.apart⟩
  . obtain ⟨o,es,ep,e,d,r⟩:=hn
    exact ⟨o,es,ep,kept_obj iv.ok st e (nx _ (.inl rfl)) (λ ps z=>by rw [z] at d; cases d),d,r⟩
  . have cellOld:∀ b,env.kindOf p.1≠some .local->env.cells.lookup p.1=some b->¬ X b:=λ b hk hl hx=>by
      have z:=hc0 p hp
      have go:∀ {v},¬ slotIs env h0 m0 p.1 v:=λ sl=>by
        rcases sl with ⟨a,_⟩ | ⟨_,c,e,o,ho,_⟩
        . exact hk a
        . rw [hl] at e; cases e; rw [hX b hx] at ho; cases ho
      exact z.slot.elim λ _ s=>go s
    have q:=hc p hp
    have sl:∀ {v},slotIs env h m p.1 v->slotIs env h' m p.1 v:=λ s=>by
      rcases s with a | ⟨a,c,b,o,ho,hd⟩
      . exact .inl a
      . exact .inr ⟨a,c,b,o,kept_obj iv.ok st ho (cellOld c a b) (λ ps z=>by rw [z] at hd; cases hd),hd⟩
    have ls:∀ {a vs n},a∈p.2.addrs->h.get? a=some (lsObj vs n)->h'.get? a=some (lsObj vs n):=λ ha e=>kept_obj iv.ok st e (nx _ (mut_addrs hp ha)) nofun
    exact q.map st.gle (λ _=>sl) λ a ha _ _=>ls ha
theorem Inv.side2 {env:Env} {g:Gh} {h h':Heap} {wr:List Addr} (iv:Inv G Φ env ρ β g h) (hw:∀ b∈wr,¬ Mut env ρ b/\g b=none/\¬ G.isTab b) (hcw:∀ x c,env.cells.lookup x=some c->c ∉ wr)
    (hk:∀ b o,b ∉ wr->h.get? b=some o->h'.get? b=some o):Inv G Φ env ρ β g h':=by
  have nw:∀ b o,h.get? b=some o->Mut env ρ b->h'.get? b=some o:=λ b o e hb=>hk b o (λ q=>(hw b q).1 hb) e
  obtain ⟨m,hn,hc⟩:=iv.ns
  refine ⟨⟨iv.ok.gnd,λ b o e=>hk b o (λ q=>by rw [(hw b q).2.1] at e; cases e) (iv.ok.sub b o e),λ q hq=>?_,iv.ok.off⟩,⟨m,?_,λ p hp=>?_⟩,iv.off,iv.keys,iv.apart⟩
  . obtain ⟨ps,e,r⟩:=iv.ok.tab q hq
    exact ⟨ps,hk _ _ (λ z=>(hw _ z).2.2 ⟨q,hq,rfl⟩) e,r⟩
  . obtain ⟨o,es,ep,e,r⟩:=hn
    exact ⟨o,es,ep,nw _ _ e (.inl rfl),r⟩
  . have q:=hc p hp
    have sl:∀ {v},slotIs env h m p.1 v->slotIs env h' m p.1 v:=λ s=>by
      rcases s with a | ⟨a,c,b,o,ho,hd⟩
      . exact .inl a
      . exact .inr ⟨a,c,b,o,hk c o (hcw _ _ b) ho,hd⟩
    exact q.map (λ _ _ e=>e) (λ _=>sl) λ a ha _ _ e=>nw _ _ e (mut_addrs hp ha)
noncomputable def CTst (G:Gd) (Φ:Fm) (k:Nat) (ifs:List Expr) (ρ:Loc) (Kt Kf:Prop):Prop :=
  match ifs with
  | []=>Kt
  | [c]=>WT G Φ k c ρ [] (λ b=>b=[]/\Kt) (λ b=>b=[]/\Kf)
  | _=>False
noncomputable def CBody (G:Gd) (Φ:Fm) (k:Nat) (ifs:List Expr) (elt:Expr) (J:Nat->Loc->List V->Prop) (i:Nat) (ρ:Loc) (ys:List V):Prop :=
  CTst G Φ k ifs ρ (WE G Φ k elt ρ [] λ v b=>b=[]/\J (i + 1) ρ (ys ++ [v])) (J (i + 1) ρ ys)
theorem ite_t {A B:Prop} (h:A):if true=true then A else B:=h
theorem ite_f {A B:Prop} (h:B):if false=true then A else B:=h
theorem tests_ok {A:Around} {cenv:Env} {ifs:List Expr} {ρ2:Loc} {g1:Gh} {s:Shared} {Kt Kf:Prop} {Q:Bool->Shared->Prop} {EE:Value->Shared->Prop} (h:CTst G Φ k ifs ρ2 Kt Kf) (rm:Rm G k A s.heap) (eo:EnvOk Φ cenv) (iv:Inv G Φ cenv ρ2 [] g1 s.heap)
    (kk:∀ (b:Bool) h5 tk5 g5,(b=true->Kt)->(b=false->Kf)->Inv G Φ cenv ρ2 [] g5 h5->Step G (Mut cenv ρ2) g1 s.heap g5 h5->Q b (at_ s h5 tk5)) :
    wpAny (model G.prog G.w) A (forIn ifs true λ c r=>if r=true then do let ok <- isTrue c cenv (eval c cenv); pure (ForInStep.yield ok) else pure (ForInStep.yield r)) Q EE s:=by
  unfold CTst at h
  cases ifs with
  | nil=>exact wpAny_tests_nil (kk true s.heap s.toks g1 (λ _=>h) (λ z=>by cases z) iv (.refl ..))
  | cons c r =>
    cases r with
    | cons=>exact h.elim
    | nil=>exact wpAny_tests_one (h A cenv g1 _ _ EE rm eo iv λ b β5 g5 h5 tk5 ht hf ic5 st5=>by
      have e:β5=[]:=by
        cases b with
        | true=>exact (ht rfl).1
        | false=>exact (hf rfl).1
      exact kk b h5 tk5 g5 (λ q=>(ht q).2) (λ q=>(hf q).2) (e ▸ ic5) st5)
structure CB (G:Gd) (Φ Φo:Fm) (env cenv:Env) (ρ:Loc) (β:List V) (g0:Gh) (h0:Heap) (D:Addr) (wr:List Addr) (g:Gh) (ρ1:Loc) (ys:List V) (ws:List Value) (nn:Nat) (g1:Gh) (h1:Heap):Prop where
  iv:Inv G Φo env ρ β g1 h1
  ic:Inv G Φ cenv ρ1 [] g1 h1
  st:Step G (Mut env ρ) g0 h0 g1 h1
  mc:∀ b,Mut cenv ρ1 b->h0.get? b=none
  hd:h1.get? D=some (lsObj ws nn)
  rl:RepL g1 ws ys
  gl:GLe g g1
  mt:∀ b∈D :: wr,¬ Mut cenv ρ1 b
  gh:∀ b∈D :: wr,g1 b=none
  tab:∀ b∈D :: wr,¬ G.isTab b
structure CC (G:Gd) (Φ Φo:Fm) (env cenv:Env) (ρ:Loc) (β:List V) (g0:Gh) (h0:Heap) (D:Addr) (wr:List Addr) (g:Gh) (ρ1:Loc) (ys:List V) (ws:List Value) (nn:Nat) (g1:Gh) (h1:Heap):Prop where
  b:CB G Φ Φo env cenv ρ β g0 h0 D wr g ρ1 ys ws nn g1 h1
  ex:∀ b∈wr,h1.get? b≠none
section
variable {env cenv:Env} {β0:List V} {g0 g g1 g5:Gh} {h0 h1 h2 h5:Heap} {D:Addr} {wr fp:List Addr} {ρ1 ρ2:Loc} {ys ys2:List V} {ws ws2:List Value} {nn nn2:Nat}
theorem CC.ow (c:CC G Φ Φo env cenv ρ β g0 h0 D wr g ρ1 ys ws nn g1 h1):Own G cenv ρ1 g1 h1 (D :: wr) :=
  ⟨c.b.mt,c.b.gh,c.b.tab,λ b hb=>by
    rcases List.mem_cons.mp hb with e | hb
    . rw [e,c.b.hd]; nofun
    . exact c.ex b hb⟩
theorem CB.side (iv0:Inv G Φo env ρ β0 g0 h0) (hwr:∀ b∈D :: wr,h0.get? b=none) (hcw:∀ x c,cenv.cells.lookup x=some c->c ∉ D :: wr) (c:CB G Φ Φo env cenv ρ β g0 h0 D wr g ρ1 ys ws nn g1 h1) (V:List Addr) (hV:∀ b∈V,b∈D :: wr)
    (hk:∀ b o,b ∉ V->h1.get? b=some o->h2.get? b=some o) (hd:h2.get? D=some (lsObj ws2 nn2)) (rl:RepL g1 ws2 ys2):CB G Φ Φo env cenv ρ β g0 h0 D wr g ρ1 ys2 ws2 nn2 g1 h2 :=
  ⟨Inv.side iv0 c.iv (λ b hb=>⟨hwr b (hV b hb),λ hm=>iv0.mut_in hm (hwr b (hV b hb)),c.gh b (hV b hb),c.tab b (hV b hb)⟩) hk,
    c.ic.side2 (λ b hb=>⟨c.mt b (hV b hb),c.gh b (hV b hb),c.tab b (hV b hb)⟩) (λ x b hc z=>hcw x b hc (hV b z)) hk,c.st.side (λ b hb=>hwr b (hV b hb)) hk,c.mc,hd,rl,c.gl,c.mt,c.gh,c.tab⟩
theorem CC.beside (iv0:Inv G Φo env ρ β0 g0 h0) (cc:CC G Φ Φo env cenv ρ β g0 h0 D wr g ρ1 ys ws nn g1 h1) (ic:Inv G Φ cenv ρ2 [] g5 h5) (st:Step G (Mut cenv ρ1) g1 h1 g5 h5) (mg:∀ b,Mut cenv ρ2 b->Mut cenv ρ1 b\/h1.get? b=none)
    (off:∀ b,Mut cenv ρ1 b->g5 b=none):CC G Φ Φo env cenv ρ β g0 h0 D wr g ρ2 ys ws nn g5 h5:=by
  have c:=cc.b
  have o:=cc.ow.step c.ic st mg
  exact ⟨⟨Inv.beside iv0 c.iv ic.ok st c.mc off,ic,c.st.trans st λ b hb=>.inr (c.mc b hb),λ b hb=>(mg b hb).elim (c.mc b) λ e=>iv0.old c.st c.iv.ok e,
    st.kept D _ (c.mt D (.head _)) (c.tab D (.head _)) c.hd,c.rl.mono st.gle,λ b o e=>st.gle b o (c.gl b o e),o.mt,o.gh,o.tab⟩,λ b hb=>o.ex b (.tail _ hb)⟩
theorem CC.keep (cc:CC G Φ Φo env cenv ρ β g0 h0 D wr g ρ1 ys ws nn g1 h1) (hfp:∀ b∈fp,b∈wr\/∃ o,g b=some o) (st:Step G (Mut cenv ρ1) g1 h1 g5 h5) (ok:Ok G g5 h5):∀ b∈fp,∀ o,h1.get? b=some o->h5.get? b=some o:=λ b hb o e=>by
  have c:=cc.b
  rcases hfp b hb with hb' | ⟨o',e'⟩
  . exact st.kept b o (c.mt b (.tail _ hb')) (c.tab b (.tail _ hb')) e
  . rw [c.iv.ok.sub b o' (c.gl b o' e')] at e
    exact e ▸ ok.sub b o' (st.gle b o' (c.gl b o' e'))
end
inductive CIv (G:Gd) (Φ Φo:Fm) (env cenv:Env) (ρ:Loc) (β:List V) (g0:Gh) (s0:Shared) (D:Addr) (wr:List Addr) (g:Gh) (J:Nat->Loc->List V->Prop) (St:Nat->Heap->Prop) (n m:Nat) (s:Shared):Prop
  | mk (i:Nat) (ρ1:Loc) (ys:List V) (ws:List Value) (nn:Nat) (g1:Gh) (h1:Heap) (tk1:Nat) (es:s=at_ s0 h1 tk1) (hJ:J i ρ1 ys) (c:CC G Φ Φo env cenv ρ β g0 s0.heap D wr g ρ1 ys ws nn g1 h1) (hst:St i h1) (yl:ys.length<=i) (hi:i<=n) (hm:m=n + 1 - i)
theorem comp_core {A:Around} {env cenv:Env} {target elt iter:Expr} {ifs:List Expr} {scope:Scope} {pos:Pos} {s0 s:Shared} {g0 g:Gh} {ρc:Loc} {β0:List V} {R:Result->Shared->Prop} {I D:Addr} {fp wr:List Addr} {n:Nat} {P Md:Nat->Value->Heap->Prop} {St:Nat->Heap->Prop}
    (J:Nat->Loc->List V->Prop)
    (rm:Rm G k A s0.heap) (eo:EnvOk Φ cenv) (iv0:Inv G Φo env ρ β0 g0 s0.heap)
    (W:KTurns G.prog G.w A target I fp wr n P Md St) (hst:St 0 s.heap) (hn:n<=10000)
    (hwr:∀ b∈D :: wr,s0.heap.get? b=none) (hDw:D ∉ wr) (hDf:D ∉ fp)
    (hfp:∀ b∈fp,b∈wr\/∃ o,g b=some o) (hex:∀ i h,St i h->∀ b∈wr,h.get? b≠none)
    (hcw:∀ x c,cenv.cells.lookup x=some c->c ∉ D :: wr)
    (hs:∃ h tk,s=at_ s0 h tk) (iv:Inv G Φo env ρ β g s.heap) (ivc:Inv G Φ cenv ρc [] g s.heap) (st:Step G (Mut env ρ) g0 s0.heap g s.heap) (ow:Own G cenv ρc g s.heap (D :: wr))
    (hmc:∀ b,Mut cenv ρc b->s0.heap.get? b=none) (hd:s.heap.get? D=some (lsObj [] 0)) (h0:J 0 ρc [])
    (asg:∀ i v ρ1 ys g1 (s1:Shared) (Q:Unit->Shared->Prop) (E:Value->Shared->Prop),i < n->P i v s1.heap->J i ρ1 ys->Inv G Φ cenv ρ1 [] g1 s1.heap->GLe g g1->Own G cenv ρ1 g1 s1.heap (D :: wr) ->
      (∀ ρ2 h2 tk2,CBody G Φ k ifs elt J i ρ2 ys->Inv G Φ cenv ρ2 [] g1 h2->Step G (Mut cenv ρ1) g1 s1.heap g1 h2->(∀ b,Mut cenv ρ2 b->Mut cenv ρ1 b\/s1.heap.get? b=none)->Q () (at_ s1 h2 tk2)) ->
      wpAny (model G.prog G.w) A (assign target cenv v) Q E s1)
    (fin:∀ ρ1 ys g1 h1 tk1 ws nn,J n ρ1 ys->CB G Φ Φo env cenv ρ β g0 s0.heap D wr g ρ1 ys ws nn g1 h1->R (.ok .next) (at_ s0 h1 tk1)) :
    codeAny (model G.prog G.w) A (.compLoop (.ListComp elt [⟨target,iter,ifs,0⟩] scope pos) 0 (.ref I) (.ref D) cenv) R s:=by
  have wrs:∀ b∈wr,b∈D :: wr:=λ b hb=>.tail _ hb
  have dD:∀ b∈[D],b∈D :: wr:=λ b hb=>List.mem_singleton.mp hb ▸ .head _
  obtain ⟨hh,htk,e0⟩:=hs
  refine comp_turns (CIv G Φ Φo env cenv ρ β g0 s0 D wr g J St n) ?_ (n + 1) ⟨0,ρc,[],[],0,g,s.heap,s.toks,by rw [e0],h0,⟨⟨iv,ivc,st,hmc,hd,.nil,λ _ _ e=>e,ow.mt,ow.gh,ow.tab⟩,λ b hb=>ow.ex b (.tail _ hb)⟩,hst,Nat.le_refl _,Nat.zero_le _,rfl⟩
  rintro m _ ⟨i,ρ1,ys,ws,nn,g1,h1,tk1,rfl,hJ,c1,hst1,yl,hi,hm⟩ EE
  rcases Nat.lt_or_ge i n with hlt | hge
  . refine W.item i _ _ _ hlt hst1 λ v h2 tk2 hMd hk2=>W.go i v _ _ _ hMd λ h3 hP hst3 hk3=>?_
    have hk:∀ b o,b ∉ wr->h1.get? b=some o->h3.get? b=some o:=λ b o hb e=>hk3 b o hb (hk2 b o hb e)
    have c3:CC G Φ Φo env cenv ρ β g0 s0.heap D wr g ρ1 ys ws nn g1 h3:=⟨c1.b.side iv0 hwr hcw wr wrs hk (hk D _ hDw c1.b.hd) c1.b.rl,hex _ _ hst3⟩
    refine asg i v ρ1 ys g1 _ _ _ hlt hP hJ c3.b.ic c3.b.gl c3.ow λ ρ2 h4 tk4 hB ic4 st4 mg4=>?_
    have c4:=c3.beside iv0 ic4 st4 mg4 c3.b.ic.off
    have hst4:=W.frame _ _ _ hst3 (c3.keep hfp st4 ic4.ok)
    refine tests_ok hB (rm.step c4.b.st) eo ic4 λ b h5 tk5 g5 ht hf ic5 st5=>?_
    have c5:=c4.beside iv0 ic5 st5 (λ b hb=>.inl hb) ic5.off
    have hst5:=W.frame _ _ _ hst4 (c4.keep hfp st5 ic5.ok)
    cases b with
    | false=>exact ite_f ⟨_,turn_lt hlt hm,i + 1,ρ2,ys,ws,nn,g5,h5,tk5,rfl,hf rfl,c5,hst5,Nat.le_succ_of_le yl,hlt,rfl⟩
    | true =>
      refine ite_t (ht rfl A cenv g5 _ _ EE (rm.step c5.b.st) eo ic5 λ u x β6 g6 h6 tk6 hk6 ic6 rx st6=>?_)
      have ic6:Inv G Φ cenv ρ2 [] g6 h6:=hk6.1 ▸ ic6
      have c6:=c5.beside iv0 ic6 st6 (λ b hb=>.inl hb) ic6.off
      have hst6:=W.frame _ _ _ hst5 (c5.keep hfp st6 ic6.ok)
      refine append_ls (s:=at_ s0 h6 tk6) c6.b.hd (by rw [c6.b.rl.length]; exact Nat.le_trans (Nat.le_trans yl hi) hn) λ h7 hd7 hs7=>?_
      have hk67:∀ b o,b ∉ [D]->h6.get? b=some o->h7.get? b=some o:=λ b o hb e=>(hs7.2 b λ z=>hb (z ▸ .head _)).trans e
      have hst7:=W.frame _ _ _ hst6 λ b hb o e=>hk67 b o (λ z=>hDf (List.mem_singleton.mp z ▸ hb)) e
      exact ⟨_,turn_lt hlt hm,i + 1,ρ2,ys ++ [x],ws ++ [u],nn + 1,g6,h7,tk6,rfl,hk6.2,⟨c6.b.side iv0 hwr hcw [D] dD hk67 hd7 (c6.b.rl.append (.cons rx .nil)),hex _ _ hst7⟩,hst7,by rw [List.length_append]; exact Nat.succ_le_succ yl,hlt,rfl⟩
  . have hin:i=n:=Nat.le_antisymm hi hge
    refine W.done _ _ _ (hin ▸ hst1) λ h2 tk2 hk2=>?_
    exact fin ρ1 ys g1 h2 tk2 ws nn (hin ▸ hJ) (c1.b.side iv0 hwr hcw wr wrs hk2 (hk2 D _ hDw c1.b.hd) c1.b.rl)
theorem relabel_scope {env:Env} {sc osc:Scope} (h:env.scope=osc):relabel sc env=relabel sc (scEnv osc):=by
  subst h; rfl
noncomputable def cpOk (sc osc:Scope) (xs fr:List Str):Bool :=
  scIs sc.kind && decide (sc.names.map (·.1)).Nodup && noCells sc && locOk sc xs .local && scoOk (relabel sc (scEnv osc)) && locOk (relabel sc (scEnv osc)) xs .local && locOk (relabel sc (scEnv osc)) fr .cell && (sc.names.all λ p=>!kindIs p.2 .free || fr.contains p.1) && locOk sc fr .free && locOk osc fr .cell && decide (xs ++ fr).Nodup
theorem closure_ok {env:Env}:∀ (names:List (Str × NameKind)) (acc:List (Str × Addr)),(∀ x,(x,NameKind.free)∈names->∃ c,env.cells.lookup x=some c) ->
    ∃ cl,(forIn names acc λ x cs=>(do if x.2 == .free then pure (.yield ((x.1,<- cellOf env x.1) :: cs)) else pure (.yield cs):Sem (ForInStep (List (Str × Addr)))))=pure cl/\(∀ p∈cl,p∈acc\/(env.cells.lookup p.1=some p.2/\(p.1,NameKind.free)∈names))/\(∀ p∈acc,p∈cl)/\∀ x,(x,NameKind.free)∈names->∃ c,(x,c)∈cl
  | [],acc,_=>⟨acc,rfl,λ p hp=>.inl hp,λ p hp=>hp,λ x hx=>by cases hx⟩
  | (y,kd) :: r,acc,h=>by
    by_cases hk:kd=.free
    . subst hk
      refine hid λ _ uQ=>?_
      obtain ⟨c,hc⟩:=h y (.head _)
      obtain ⟨cl,e,h1,h2,h3⟩:=closure_ok r ((y,c) :: acc) λ x hx=>h x (.tail _ hx)
      refine uQ ?_
      refine ⟨cl,?_,λ p hp=>?_,λ p hp=>h2 p (.tail _ hp),λ x hx=>?_⟩
      . rw [List.forIn_cons,<- e]
        have:cellOf env y=pure c:=by unfold cellOf; rw [hc]
        simp only [beq_self_eq_true,if_true,this,pure_bind]
      . rcases h1 p hp with q | q
        . rcases List.mem_cons.mp q with q | q
          . subst q; exact .inr ⟨hc,.head _⟩
          . exact .inl q
        . exact .inr ⟨q.1,.tail _ q.2⟩
      . rcases List.mem_cons.mp hx with q | q
        . cases q; exact ⟨c,h2 _ (.head _)⟩
        . exact h3 x q
    . refine hid λ _ uQ=>?_
      obtain ⟨cl,e,h1,h2,h3⟩:=closure_ok r acc λ x hx=>h x (.tail _ hx)
      refine uQ ?_
      have hb:(kd == NameKind.free)=false:=by simpa using hk
      refine ⟨cl,?_,λ p hp=>(h1 p hp).imp id λ q=>⟨q.1,.tail _ q.2⟩,h2,λ x hx=>?_⟩
      . rw [List.forIn_cons,<- e]
        simp only [hb,Bool.false_eq_true,if_false,pure_bind]
      . rcases List.mem_cons.mp hx with q | q
        . cases q; exact absurd rfl hk
        . exact h3 x q
theorem closureFor_ok {env:Env} {scope:Scope} (h:∀ x,(x,NameKind.free)∈scope.names->∃ c,env.cells.lookup x=some c) :
    ∃ cl,closureFor scope env=pure cl/\(∀ p∈cl,env.cells.lookup p.1=some p.2/\(p.1,NameKind.free)∈scope.names)/\∀ x,(x,NameKind.free)∈scope.names->∃ c,(x,c)∈cl:=by
  refine hid λ _ uQ=>?_
  obtain ⟨cl,e,h1,_,h3⟩:=closure_ok scope.names [] h
  refine uQ ?_
  refine ⟨cl,?_,λ p hp=>(h1 p hp).resolve_left (by simp),h3⟩
  rw [<- e]
  unfold closureFor
  simp only [bind_pure]
end
end A18
noncomputable section A19
section
variable {G:Gd} {Φ:Fm} {k:Nat} {ρ ρ':Loc} {β:List V}
noncomputable def FrOk (ρ:Loc):List Str->List V->Prop
  | [],[]=>True
  | x :: fr,X :: Xs=>(x,Cell.val X)∈ρ/\FrOk ρ fr Xs
  | _,_=>False
theorem FrOk.mem {fr:List Str} {Xs:List V} (h:FrOk ρ fr Xs) {x:Str} (hx:x∈fr):∃ X,(x,Cell.val X)∈ρ :=
  lists2 (P:=λ fr Xs=>FrOk ρ fr Xs->x∈fr->∃ X,(x,Cell.val X)∈ρ) (λ _ hx=>nomatch hx) (λ _ _ r=>r.elim) (λ _ _ r=>r.elim)
    (λ y fr X Xs ih h hx=>(List.mem_cons.mp hx).elim (λ e=>⟨X,e ▸ h.1⟩) λ hx=>ih h.2 hx) fr Xs h hx
theorem FrOk.ro {fr:List Str} {Xs:List V} (h:FrOk ρ fr Xs) {p:Str × Cell} (hp:p∈fr.zip (Xs.map Cell.ro)):∃ X,p.2=.ro X/\(p.1,Cell.val X)∈ρ/\p.1∈fr :=
  lists2 (P:=λ fr Xs=>FrOk ρ fr Xs->p∈fr.zip (Xs.map Cell.ro)->∃ X,p.2=.ro X/\(p.1,Cell.val X)∈ρ/\p.1∈fr) (λ _ hp=>nomatch hp) (λ _ _ r=>r.elim) (λ _ _ r=>r.elim)
    (λ y fr X Xs ih h hp=>(List.mem_cons.mp hp).elim (λ e=>e ▸ ⟨X,rfl,h.1,.head _⟩) λ hp=>(ih h.2 hp).imp λ Y z=>⟨z.1,z.2.1,.tail _ z.2.2⟩) fr Xs h hp
theorem FrOk.length {fr:List Str} {Xs:List V}:FrOk ρ fr Xs->fr.length=Xs.length :=
  lists2 (P:=λ fr Xs=>FrOk ρ fr Xs->fr.length=Xs.length) (λ _=>rfl) (λ _ _ r=>r.elim) (λ _ _ r=>r.elim) (λ _ _ _ _ ih r=>congrArg Nat.succ (ih r.2)) _ _
structure CpOk (sc osc:Scope) (xs fr:List Str):Prop where
  kind:sc.kind=.function
  nd:(sc.names.map (·.1)).Nodup
  noc:∀ x∈sc.names,x.2≠.cell
  loc:locOk sc xs .local=true
  sco:scoOk (relabel sc (scEnv osc))=true
  rloc:locOk (relabel sc (scEnv osc)) xs .local=true
  rfre:locOk (relabel sc (scEnv osc)) fr .cell=true
  all:∀ x,(x,NameKind.free)∈sc.names->x∈fr
  fre:locOk sc fr .free=true
  oc:locOk osc fr .cell=true
  ndk:(xs ++ fr).Nodup
theorem cpOk_parts {sc osc:Scope} {xs fr:List Str} (h:cpOk sc osc xs fr=true):CpOk sc osc xs fr:=by
  unfold cpOk at h
  simp only [Bool.and_eq_true,decide_eq_true_eq] at h
  refine hid λ _ uQ=>?_
  obtain ⟨⟨⟨⟨⟨⟨⟨⟨⟨⟨h1,h2⟩,h3⟩,h4⟩,h5⟩,h6⟩,h7⟩,h8⟩,h9⟩,h10⟩,h11⟩:=h
  refine uQ ?_
  refine ⟨scIs_eq h1,h2,λ x hx e=>?_,h4,h5,h6,h7,λ x hx=>?_,h9,h10,h11⟩
  . have:=List.all_eq_true.mp h3 x hx
    rw [e] at this; cases this
  . have:=List.all_eq_true.mp h8 _ hx
    exact List.contains_iff_mem.mp (show fr.contains x=true from this)
theorem cells_old {env:Env} {g:Gh} {h:Heap} (iv:Inv G Φ env ρ β g h) {x:Str} {X:V} {c:Addr} (hm:(x,Cell.val X)∈ρ) (hk:env.kindOf x≠some .local) (hc:env.cells.lookup x=some c):∃ v,h.IsCell c (some v)/\Rep g v X:=by
  refine hid λ _ uQ=>?_
  obtain ⟨m,hn,hcs⟩:=iv.ns
  obtain ⟨v,sl,r⟩:=hcs _ hm
  refine uQ ?_
  rcases sl with ⟨a,_⟩ | ⟨_,c',e,hv⟩
  . exact absurd a hk
  . rw [hc] at e; cases e; exact ⟨v,hv,r⟩
theorem comp_clos {env:Env} {g:Gh} {h:Heap} {scope:Scope} {xs fr:List Str} {Xs:List V} (eo:EnvOk Φ env) (iv:Inv G Φ env ρ β g h) (hp:CpOk scope Φ.scope xs fr) (hf:FrOk ρ fr Xs) :
    ∃ cl,closureFor scope env=pure cl/\(∀ x c,cl.lookup x=some c->env.cells.lookup x=some c/\x∈fr)/\∀ x∈fr,∃ c,cl.lookup x=some c:=by
  have ck:∀ x∈fr,env.kindOf x=some .cell:=λ x hx=>by
    have:=locOk_at hp.oc hx
    unfold Env.kindOf; rw [eo.scope]; exact this
  have cc:∀ x∈fr,∃ c,env.cells.lookup x=some c:=λ x hx=>by
    obtain ⟨X,hX⟩:=hf.mem hx
    rcases eo.kinds x (iv.key hX) with q | ⟨_,q⟩
    . rw [ck x hx] at q; cases q
    . exact q
  obtain ⟨cl,e,h1,h2⟩:=closureFor_ok (env:=env) (scope:=scope) λ x hx=>cc x (hp.all x hx)
  refine ⟨cl,e,λ x c hx=>?_,λ x hx=>?_⟩
  . have:=h1 _ (mem_of_lookup hx)
    exact ⟨this.1,hp.all _ this.2⟩
  . have:(x,NameKind.free)∈scope.names:=mem_of_lookup (locOk_at hp.fre hx)
    obtain ⟨c,hc⟩:=h2 x this
    exact lookup_isSome hc
noncomputable abbrev cpFm (Φ:Fm) (scope:Scope) (xs fr:List Str):Fm:=⟨relabel scope (scEnv Φ.scope),xs ++ fr,true,none⟩
theorem comp_env {env:Env} {scope:Scope} {xs fr:List Str} {cl:List (Str × Addr)} (C:Addr) (eo:EnvOk Φ env) (hpl:Φ.plain=true) (hp:CpOk scope Φ.scope xs fr) (h1:∀ x c,cl.lookup x=some c->env.cells.lookup x=some c/\x∈fr) (h2:∀ x∈fr,∃ c,cl.lookup x=some c) :
    EnvOk (cpFm Φ scope xs fr) (compEnvC scope cl C env):=by
  have hr:relabel scope env=relabel scope (scEnv Φ.scope):=relabel_scope eo.scope
  have hsco:=hp.sco
  unfold scoOk at hsco
  simp only [Bool.and_eq_true,Bool.not_eq_true',decide_eq_true_eq,List.all_eq_true] at hsco
  refine hid λ _ uQ=>?_
  obtain ⟨⟨⟨⟨hk,hgen⟩,hco⟩,hnames⟩,hdbg⟩:=hsco
  refine uQ ?_
  have kof:∀ x,(compEnvC scope cl C env).kindOf x=(relabel scope (scEnv Φ.scope)).names.lookup x:=λ x=>by
    show (relabel scope env).names.lookup x=_
    rw [hr]
  have kx:∀ x∈xs ++ fr,(compEnvC scope cl C env).kindOf x=some .local\/((compEnvC scope cl C env).kindOf x=some .cell/\∃ c,cl.lookup x=some c):=λ x hx=>by
    rcases List.mem_append.mp hx with q | q
    . exact .inl ((kof x).trans (locOk_at hp.rloc q))
    . exact .inr ⟨(kof x).trans (locOk_at hp.rfre q),h2 x q⟩
  exact {
    scope:=hr
    fn:=by show (relabel scope env).kind=_; rw [hr]; exact scIs_eq hk
    globals:=eo.globals
    builtins:=eo.builtins
    names:=by show ((relabel scope env).names.map (·.1)).Nodup; rw [hr]; exact hnames
    nodbg:=by show ∀ k∈(relabel scope env).names,_; rw [hr]; exact λ k hk=>hdbg k hk
    nodup:=hp.ndk
    kinds:=λ x hx=>by
      rcases kx x hx with q | ⟨q,z⟩
      . exact .inl q
      . exact .inr ⟨.inl q,z⟩
    nofree:=λ _ x hx=>by rcases kx x hx with q | ⟨q,z⟩ <;> (rw [q]; decide)
    inj:=λ _ x y c hx hy=>eo.inj hpl x y c (h1 x c hx).1 (h1 y c hy).1
    code:=λ _ _ h=>nsE h }
theorem comp_block {A:Around} {env:Env} {target elt iter:Expr} {ifs:List Expr} {scope:Scope} {pos:Pos} {s0 s:Shared} {g0 g:Gh} {β0:List V} {xs fr:List Str} {Xs:List V} {RR:Value->Addr->Result->Shared->Prop} {I:Addr} {fp wr:List Addr} {n:Nat} {P Md:Nat->Value->Heap->Prop} {St:Nat->Heap->Prop}
    {E:Value->Shared->Prop} {cl:List (Str × Addr)} (J:Nat->Loc->List V->Prop)
    (rm:Rm G k A s0.heap) (eo:EnvOk Φ env) (iv0:Inv G Φ env ρ β0 g0 s0.heap) (hpl:Φ.plain=true) (hp:CpOk scope Φ.scope xs fr) (hf:FrOk ρ fr Xs)
    (hcl1:∀ x c,cl.lookup x=some c->env.cells.lookup x=some c/\x∈fr) (hcl2:∀ x∈fr,∃ c,cl.lookup x=some c)
    (W:KTurns G.prog G.w A target I fp wr n P Md St) (self:∀ (s:Shared) (Q:Value->Shared->Prop) (E:Value->Shared->Prop),St 0 s.heap->Q (.ref I) s->wpAny (model G.prog G.w) A (pyIter (.ref I)) Q E s)
    (hst:St 0 s.heap) (hn:n<=10000) (hwr:∀ b∈wr,s0.heap.get? b=none) (hfp:∀ b∈fp,b∈wr\/∃ o,g b=some o) (hex:∀ i h,St i h->∀ b∈wr,h.get? b≠none)
    (hs:∃ h tk,s=at_ s0 h tk) (iv:Inv G Φ env ρ β g s.heap) (st:Step G (Mut env ρ) g0 s0.heap g s.heap) (ow:Own G env ρ g s.heap wr)
    (h0:J 0 (xs.map (·,.un) ++ fr.zip (Xs.map .ro)) [])
    (asg:∀ C,EnvOk (cpFm Φ scope xs fr) (compEnvC scope cl C env)->∀ D i v ρ1 ys g1 (s1:Shared) (Q:Unit->Shared->Prop) (E:Value->Shared->Prop),i < n->P i v s1.heap->J i ρ1 ys->Inv G (cpFm Φ scope xs fr) (compEnvC scope cl C env) ρ1 [] g1 s1.heap->GLe g g1->Own G (compEnvC scope cl C env) ρ1 g1 s1.heap (D :: wr) ->
      (∀ ρ2 h2 tk2,CBody G (cpFm Φ scope xs fr) k ifs elt J i ρ2 ys->Inv G (cpFm Φ scope xs fr) (compEnvC scope cl C env) ρ2 [] g1 h2->Step G (Mut (compEnvC scope cl C env) ρ1) g1 s1.heap g1 h2->(∀ b,Mut (compEnvC scope cl C env) ρ2 b->Mut (compEnvC scope cl C env) ρ1 b\/s1.heap.get? b=none)->Q () (at_ s1 h2 tk2)) ->
      wpAny (model G.prog G.w) A (assign target (compEnvC scope cl C env) v) Q E s1)
    (hRR:∀ D C ρ1 ys g' h' tk ws nn,J n ρ1 ys->Inv G Φ env ρ β g' h'->Step G (Mut env ρ) g0 s0.heap g' h'->h'.get? D=some (lsObj ws nn)->RepL g' ws ys->g' D=none->¬ G.isTab D->s0.heap.get? D=none->(∃ m,h'.Ns C m)->g' C=none->¬ G.isTab C->s0.heap.get? C=none->C≠D->RR (.ref D) C (.ok .next) (at_ s0 h' tk)) :
    wpAny (model G.prog G.w) A (newList []) (λ acc s₃=>wpAny (model G.prog G.w) A (newFunctionEnv scope env.globals cl [] env.qual none .none (some env)) (λ cenv s₄ =>
      codeAny (model G.prog G.w) A (.compStart (.ListComp elt [⟨target,iter,ifs,0⟩] scope pos) 0 (.ref I) acc { cenv with scope:=relabel scope env }) (RR acc cenv.locals) s₄) E s₃) E s:=by
  obtain ⟨hh,htk,rfl⟩:=hs
  refine wpAny_newObj_type (wpAny_newFunctionEnv hp.noc (by intro y hy; simp at hy) (λ h₁ hns₁ hsb₁=>?_) hp.kind)
  dsimp only at hns₁ hsb₁ ⊢
  generalize hH2:hh.push { cls:=.type "list",dict:=none,data:=.seq ([]:List Value).toArray }=H2 at hns₁ hsb₁ ⊢
  have gr1:Grow hh H2:=by rw [<- hH2]; exact Grow.push ..
  have hC:H2.objs.size=hh.objs.size + 1:=by rw [<- hH2,Heap.size_push]
  have hDC:hh.objs.size≠H2.objs.size:=by rw [hC]; exact Nat.ne_of_lt (Nat.lt_succ_self _)
  have hCn:H2.get? H2.objs.size=none:=get?_size H2
  have hDn:hh.get? hh.objs.size=none:=get?_size hh
  have gr2:Grow H2 h₁:=Grow.extBut (λ b o hb e=>hsb₁.extBut b o hb (Heap.get?_push_of_some _ e))
  have hCn0:hh.get? H2.objs.size=none:=gr1.old hCn
  have gr:Grow hh h₁:=gr1.trans gr2
  have hD1:h₁.get? hh.objs.size=some (lsObj [] 0):=gr2.kept _ _ (by rw [<- hH2]; exact Heap.get?_push_size _ rfl)
  have x1:Ext G g hh g h₁:=Ext.grown iv.ok gr
  have iv1:=x1.inv iv
  have st1:Step G (Mut env ρ) g0 s0.heap g h₁:=st.trans' x1.step
  have hD0:s0.heap.get? hh.objs.size=none:=iv0.old st iv.ok hDn
  have hC0:s0.heap.get? H2.objs.size=none:=iv0.old st iv.ok hCn0
  have notab:∀ b,hh.get? b=none->¬ G.isTab b:=λ b hb z0=>z0.elim λ q z0=>z0.elim λ hq e=>by
    obtain ⟨ps,z,_⟩:=iv.ok.tab q hq
    rw [e,hb] at z; cases z
  have eoc:=comp_env H2.objs.size eo hpl hp hcl1 hcl2
  have hr:relabel scope env=relabel scope (scEnv Φ.scope):=relabel_scope eo.scope
  have kof:∀ x,(compEnvC scope cl H2.objs.size env).kindOf x=(relabel scope (scEnv Φ.scope)).names.lookup x:=λ x=>by
    show (relabel scope env).names.lookup x=_
    rw [hr]
  have ck:∀ x∈fr,env.kindOf x≠some .local:=λ x hx=>by
    have:=locOk_at hp.oc hx
    unfold Env.kindOf; rw [eo.scope,this]; nofun
  have cellsAt:∀ x c,cl.lookup x=some c->∃ X,(x,Cell.val X)∈ρ/\env.cells.lookup x=some c/\env.kindOf x≠some .local:=λ x c hc=>by
    obtain ⟨h1,h2⟩:=hcl1 x c hc
    obtain ⟨X,hX⟩:=hf.mem h2
    exact ⟨X,hX,h1,ck x h2⟩
  have mutc:∀ b,Mut (compEnvC scope cl H2.objs.size env) (xs.map (·,Cell.un) ++ fr.zip (Xs.map .ro)) b->b=H2.objs.size:=λ b hb=>by
    rcases hb with q | ⟨p,hp',z⟩
    . exact q
    . rcases List.mem_append.mp hp' with hp' | hp'
      . obtain ⟨y,hy,rfl⟩:=List.mem_map.mp hp'
        rcases z with ⟨_,z,_⟩ | z
        . exact absurd ((kof y).trans (locOk_at hp.rloc hy)) z
        . exact z.elim
      . obtain ⟨X,e,_⟩:=hf.ro hp'
        rcases z with ⟨z,_⟩ | z
        . rw [e] at z; cases z
        . rw [e] at z; exact z.elim
  have ivc:Inv G (cpFm Φ scope xs fr) (compEnvC scope cl H2.objs.size env) (xs.map (·,Cell.un) ++ fr.zip (Xs.map .ro)) [] g h₁:={
    ok:=iv1.ok
    ns:=⟨_,hns₁,λ p hp'=>by
      rcases List.mem_append.mp hp' with hp' | hp'
      . obtain ⟨y,hy,rfl⟩:=List.mem_map.mp hp'
        exact .inl ⟨(kof y).trans (locOk_at hp.rloc hy),rfl⟩
      . obtain ⟨X,e,hX,hx⟩:=hf.ro hp'
        obtain ⟨y,c⟩:=p
        simp only at e; subst e
        obtain ⟨c,hc⟩:=hcl2 y hx
        obtain ⟨v,hv,r⟩:=cells_old iv1 hX (ck y hx) (hcl1 y c hc).1
        exact ⟨v,.inr ⟨by rw [kof,locOk_at hp.rfre hx]; nofun,c,hc,hv⟩,r⟩⟩
    off:=λ b hb=>by rw [mutc b hb]; exact iv.ok.new hCn0
    keys:=by
      have l2:(fr.zip (Xs.map Cell.ro)).map (·.1)=fr:=zip_fst _ _ (by rw [List.length_map]; exact hf.length)
      rw [List.map_append,l2,List.map_map,show ((·.1) ∘ λ x:Str=>(x,Cell.un))=id from rfl,List.map_id]
    apart:=by
      have:(xs.map (·,Cell.un) ++ fr.zip (Xs.map Cell.ro)).flatMap (·.2.addrs)=[]:=List.flatMap_eq_nil_iff.mpr λ p hp'=>by
        rcases List.mem_append.mp hp' with hp' | hp'
        . obtain ⟨y,hy,rfl⟩:=List.mem_map.mp hp'; rfl
        . obtain ⟨X,e,_⟩:=hf.ro hp'
          rw [e]; rfl
      rw [this]; exact .nil }
  have wne:∀ b∈wr,b≠hh.objs.size/\b≠H2.objs.size:=λ b hb=>⟨λ e=>ow.ex b hb (e ▸ hDn),λ e=>ow.ex b hb (e ▸ hCn0)⟩
  have owc:Own G (compEnvC scope cl H2.objs.size env) (xs.map (·,Cell.un) ++ fr.zip (Xs.map .ro)) g h₁ (hh.objs.size :: wr):={
    mt:=λ b hb hm=>by
      have e:=mutc b hm
      rcases List.mem_cons.mp hb with rfl | hb
      . exact hDC e
      . exact (wne b hb).2 e
    gh:=λ b hb=>by
      rcases List.mem_cons.mp hb with rfl | hb
      . exact iv.ok.new hDn
      . exact ow.gh b hb
    tab:=λ b hb=>by
      rcases List.mem_cons.mp hb with rfl | hb
      . exact notab _ hDn
      . exact ow.tab b hb
    ex:=λ b hb=>by
      rcases List.mem_cons.mp hb with rfl | hb
      . rw [hD1]; nofun
      . cases e:hh.get? b with
        | none=>exact absurd e (ow.ex b hb)
        | some o=>rw [gr.kept _ _ e]; nofun }
  have hst1:St 0 h₁:=W.frame _ _ _ hst λ b _ o e=>gr.kept b o e
  have hDf:hh.objs.size ∉ fp:=λ z=>by
    rcases hfp _ z with q | ⟨o,q⟩
    . exact (wne _ q).1 rfl
    . have:=iv.ok.sub _ _ q; rw [hDn] at this; cases this
  have loop:∀ s₃:Shared,s₃={ at_ s0 hh htk with heap:=h₁,toks:=htk + ([]:List (Str × Value)).length } ->
      codeAny (model G.prog G.w) A (.compLoop (.ListComp elt [⟨target,iter,ifs,0⟩] scope pos) 0 (.ref I) (.ref hh.objs.size) (compEnvC scope cl H2.objs.size env)) (RR (.ref hh.objs.size) H2.objs.size) s₃:=by
    rintro s₃ rfl
    refine comp_core (s0:=s0) (D:=hh.objs.size) J rm eoc iv0 W hst1 hn (λ b hb=>?_) (λ z=>(wne _ z).1 rfl) hDf hfp hex (λ x c hc z=>?_) ⟨_,_,rfl⟩ iv1 ivc st1 owc (λ b hb=>by rw [mutc b hb]; exact hC0) hD1 h0
      (λ i v ρ1 ys g1 s1 Q E=>asg H2.objs.size eoc hh.objs.size i v ρ1 ys g1 s1 Q E) λ ρ1 ys g1 h1 tk1 ws nn hJ c=>?_
    . rcases List.mem_cons.mp hb with rfl | hb
      . exact hD0
      . exact hwr b hb
    . obtain ⟨X,hX,e,hk⟩:=cellsAt x c hc
      obtain ⟨v,⟨o,ho,_⟩,_⟩:=cells_old iv0 hX hk e
      rcases List.mem_cons.mp z with rfl | z
      . rw [hD0] at ho; cases ho
      . rw [hwr c z] at ho; cases ho
    . obtain ⟨m,hn2,_⟩:=c.ic.ns
      exact hRR _ _ ρ1 ys g1 h1 tk1 ws nn hJ c.iv c.st c.hd c.rl (c.gh _ (.head _)) (c.tab _ (.head _)) hD0 ⟨m,hn2⟩ (c.ic.off _ (.inl rfl)) (notab _ hCn0) hC0 (Ne.symm hDC)
  exact codeAny_compStart_list (loop _ rfl) (self _ _ _ hst1 (loop _ rfl))
end
end A19
noncomputable section A20
section
variable {G:Gd} {Φ:Fm} {k:Nat} {ρ ρ':Loc} {β:List V}
theorem Inv.gmono {env:Env} {g g':Gh} {h:Heap} (iv:Inv G Φ env ρ β g h) (ok':Ok G g' h) (gl:GLe g g') (hoff:∀ b,Mut env ρ b->g' b=none):Inv G Φ env ρ β g' h:=by
  obtain ⟨m,hn,hc⟩:=iv.ns
  refine ⟨ok',⟨m,hn,λ p hp=>?_⟩,hoff,iv.keys,iv.apart⟩
  exact (hc p hp).map gl (λ _ s=>s) λ _ _ _ _ e=>e
theorem comp_learn {env:Env} {g0 g:Gh} {h0 h:Heap} {β0:List V} {D:Addr} {ws:List Value} {nn:Nat} {ys:List V} (iv0:Inv G Φ env ρ β0 g0 h0) (iv:Inv G Φ env ρ β g h) (st:Step G (Mut env ρ) g0 h0 g h) (hD:h.get? D=some (lsObj ws nn)) (rl:RepL g ws ys) (hg:g D=none) (h0D:h0.get? D=none) :
    Inv G Φ env ρ β (gset g D (lsObj ws nn)) h/\Step G (Mut env ρ) g0 h0 (gset g D (lsObj ws nn)) h/\Rep (gset g D (lsObj ws nn)) (.ref D) (.list ys) :=
  ⟨iv.gmono (iv.ok.learn hg hD (by nofun)) (gset_le (.inl hg)) λ b hb=>by
    have hne:b≠D:=λ e=>by subst e; exact iv0.mut_in hb h0D
    rw [gset_ne hne]; exact iv.off b hb,
   st.learn hg (.inl h0D),.list (gset_self ..) (rl.mono (gset_le (.inl hg)))⟩
theorem comp_side {env:Env} {g0 g:Gh} {h0 h h':Heap} {β0:List V} {C:Addr} {ρ0:Loc} (iv0:Inv G Φ env ρ0 β0 g0 h0) (iv:Inv G Φ env ρ β g h) (st:Step G (Mut env ρ0) g0 h0 g h) (hm:¬ Mut env ρ C) (hg:g C=none) (ht:¬ G.isTab C) (h0C:h0.get? C=none) (sb:Heap.SameBut C h h') :
    Inv G Φ env ρ β g h'/\Step G (Mut env ρ0) g0 h0 g h' :=
  have hk:∀ b o,b ∉ [C]->h.get? b=some o->h'.get? b=some o:=λ b o hb e=>(sb.2 b (by simpa using hb)).trans e
  ⟨Inv.side iv0 iv (wr:=[C]) (λ b hb=>by rw [List.mem_singleton.mp hb]; exact ⟨h0C,hm,hg,ht⟩) hk,st.side (wr:=[C]) (λ b hb=>by rw [List.mem_singleton.mp hb]; exact h0C) hk⟩
theorem cpNames {sc osc:Scope} {xs fr:List Str} (h:CpOk sc osc xs fr):∀ x∈sc.names,x.2=.local->sc.names.lookup x.1=some .local:=λ x hx e=>by
  have:=lookup_of_nodup h.nd hx
  rw [this,e]
noncomputable def CpN (G:Gd) (Φ:Fm) (k:Nat) (x:Str) (fr:List Str) (Xs:List V) (scope:Scope) (ifs:List Expr) (elt:Expr) (ys:List V) (K:List V->Prop):Prop :=
  ys.length<=10000/\∃ J:Nat->Loc->List V->Prop,J 0 ((x,.un) :: fr.zip (Xs.map .ro)) [] /\
    (∀ i y ρ1 zs,ys[i]?=some y->J i ρ1 zs->∃ d ρ2,SetAt x (.val y) ρ1 d ρ2/\d.isRo=false/\CBody G (cpFm Φ scope [x] fr) k ifs elt J i ρ2 zs)/\∀ ρ1 zs,J ys.length ρ1 zs->K zs
theorem comp_name {A:Around} {env:Env} {x:Str} {px:Pos} {elt iter:Expr} {ifs:List Expr} {scope:Scope} {pos:Pos} {s:Shared} {g:Gh} {fr:List Str} {Xs:List V} {use:Option (Value->Sem Unit)}
    {Q:Value->Shared->Prop} {E:Value->Shared->Prop} {K:List V->List V->Prop} {p:Pos}
    (rm:Rm G k A s.heap) (eo:EnvOk Φ env) (iv:Inv G Φ env ρ β g s.heap) (hpl:Φ.plain=true) (hp:cpOk scope Φ.scope [x] fr=true) (hf:FrOk ρ fr Xs)
    (h:WI G Φ k iter ρ β λ ys β1=>CpN G Φ k x fr Xs scope ifs elt ys λ zs=>K zs β1)
    (hs:∀ v,foldedSetIterable iter env v=pure v)
    (kk:∀ D C zs β1 g' h' tk,K zs β1->Inv G Φ env ρ β1 g' h'->Step G (Mut env ρ) g s.heap g' h'->Rep g' (.ref D) (.list zs)->(∃ m,h'.Ns C m)->g' C=none->¬ G.isTab C->s.heap.get? C=none ->
      compPost (model G.prog G.w) A E use Q (.ref D) C (.ok .next) (at_ s h' tk)) :
    wpAny (model G.prog G.w) A (comprehension (.ListComp elt [⟨.Name x px,iter,ifs,0⟩] scope pos) scope env p (newList []) false (eval iter env) use) Q E s:=by
  have cp:=cpOk_parts hp
  refine hid λ _ uQ=>?_
  obtain ⟨cl,hclos,hcl1,hcl2⟩:=comp_clos eo iv cp hf
  refine uQ ?_
  refine wpAny_comprehension_free rfl hs hclos cp.kind (cpNames cp) (wpAny_mono (h A env g s _ E rm eo iv ?_) (λ _ _ q=>q) λ _ _ e=>e)
  intro ys β1 g1 h1 tk1 I fp wr St zQ9 iv1 st1 W hst hwr hfp hex ow
  refine hid λ _ uQ=>?_
  obtain ⟨hn,J,h0,turn,fin⟩:=zQ9
  refine uQ ?_
  refine comp_block (n:=ys.length) (RR:=compPost (model G.prog G.w) A E use Q) J rm eo iv hpl cp hf hcl1 hcl2 (KTurns.ofWalks W λ i v s Q E _ hq=>go_name hq) (λ s Q E hst hq=>W.self 0 s Q E hst hq) hst hn hwr hfp hex ⟨_,_,rfl⟩ iv1 st1 ow h0 ?_ ?_
  . intro C eoc D i v ρ1 zs g2 s2 Q2 E2 hlt zQ12 hJ iv2 gl ow2 k2
    refine hid λ _ uQ=>?_
    obtain ⟨y,hy,hr⟩:=zQ12
    obtain ⟨d,ρ2,hset,hd,hb⟩:=turn i y ρ1 zs hy hJ
    refine uQ ?_
    exact PyProof.Rows.assign_Name (store_ok eoc iv2 hset hd rfl (c:=.val y) (hr.mono gl) (λ _ hb=>addrs_val hb) λ h3 tk3 iv3 st3 mg3 =>
      k2 ρ2 h3 tk3 hb iv3 st3 λ b hb=>(mg3 b hb).imp id λ z=>addrs_val z)
  . intro D C ρ1 zs g' h' tk ws nn hJ iv2 st2 hD rl hgD htD hD0 hns hgC htC hC0 hne
    obtain ⟨iv3,st3,r⟩:=comp_learn iv iv2 st2 hD rl hgD hD0
    exact kk D C zs β1 _ h' tk (fin _ _ hJ) iv3 st3 r hns (by rw [gset_ne hne]; exact hgC) htC hC0
theorem WE_comp {x:Str} {px:Pos} {elt iter:Expr} {ifs:List Expr} {scope:Scope} {pos:Pos} {K} (fr:List Str) (Xs:List V) (hpl:Φ.plain=true) (hp:cpOk scope Φ.scope [x] fr=true) (hf:FrOk ρ fr Xs)
    (h:WI G Φ k iter ρ β λ ys β1=>CpN G Φ k x fr Xs scope ifs elt ys λ zs=>K (.list zs) β1)
    (hs:∀ env v,foldedSetIterable iter env v=pure v:=by intro _ _; rfl):WE G Φ k (.ListComp elt [⟨.Name x px,iter,ifs,0⟩] scope pos) ρ β K :=
  λ A env g s Q E rm eo iv kk=>by
    rw [eval_ListComp]
    refine comp_name (K:=λ zs β1=>K (.list zs) β1) (use:=none) rm eo iv hpl hp hf h (hs env) ?_
    rintro D C zs β1 g' h' tk hK iv1 st1 r ⟨m,hns⟩ hgC htC hC0
    refine ⟨m,hns,λ h2 sb=>?_⟩
    obtain ⟨iv2,st2⟩:=comp_side iv iv1 st1 (λ hm=>iv.mut_in hm hC0) hgC htC hC0 sb
    exact kk (.ref D) (.list zs) β1 g' h2 tk hK iv2 r st2
noncomputable def swapOk (Φ:Fm) (y:Str) (py:Pos) (scope:Scope) (pos:Pos):Bool :=
  kindIs ((Φ.scope.names.lookup y).getD .free) .local && py.line == pos.line && !(scope.names.any λ (n,k)=>n == y && (k == .local || k == .cell))
theorem WS_comp {y:Str} {py spos:Pos} {x:Str} {px:Pos} {elt iter:Expr} {ifs:List Expr} {scope:Scope} {pos:Pos} {K} (fr:List Str) (Xs:List V) (hpl:Φ.plain=true) (hp:cpOk scope Φ.scope [x] fr=true) (hf:FrOk ρ fr Xs)
    (hsw:∀ env:Env,EnvOk Φ env->swapsWith (.ListComp elt [⟨.Name x px,iter,ifs,0⟩] scope pos) (some (.Name y py)) spos.line env=pure true)
    (h:WI G Φ k iter ρ β λ ys β1=>CpN G Φ k x fr Xs scope ifs elt ys λ zs=>∃ d ρ',SetAt y (.val (.list zs)) ρ d ρ'/\d.isRo=false/\K .next ρ' β1)
    (hs:∀ env v,foldedSetIterable iter env v=pure v:=by intro _ _; rfl):WS G Φ k (.Assign [.Name y py] (.ListComp elt [⟨.Name x px,iter,ifs,0⟩] scope pos) spos) ρ β K :=
  λ A env g s Q E rm eo iv kk=>by
    rw [exec_Assign_Name_used _ _ _ _ (hsw env eo)]
    refine wpAny_bind (wpAny_standAt (wpAny_bind ?_))
    show wpAny _ A (do let _ <- comprehension (.ListComp elt [⟨.Name x px,iter,ifs,0⟩] scope pos) scope env _ (newList []) false (eval iter env) (some (assign (.Name y py) env))) _ _ s
    refine wpAny_bind (wpAny_mono (comp_name (use:=some (assign (.Name y py) env)) (Q:=λ _ s'=>Q .next s') (K:=λ zs β1=>∃ d ρ',SetAt y (.val (.list zs)) ρ d ρ'/\d.isRo=false/\K .next ρ' β1) rm eo iv hpl hp hf h (hs env) ?_) (λ _ s' hq=>wpAny_pure (wpAny_pure hq)) λ _ _ e=>e)
    intro D C zs β1 g' h' tk zQ7 iv1 st1 r zQ11 hgC htC hC0
    refine hid λ _ uQ=>?_
    obtain ⟨d,ρ',hset,hd,hK⟩:=zQ7
    obtain ⟨m,hns⟩:=zQ11
    refine uQ ?_
    show wpAny _ A (assign (.Name y py) env (.ref D)) _ _ _
    refine PyProof.Rows.assign_Name (store_ok eo iv1 hset hd hpl (c:=.val (.list zs)) r (λ _ hb=>addrs_val hb) λ h2 tk2 iv2 st2 mg2=>?_)
    have nm:¬ Mut env ρ C:=λ hm=>iv.mut_in hm hC0
    have nm2:¬ Mut env ρ' C:=λ hm=>(mg2 C hm).elim nm λ z=>addrs_val z
    have st02:=st1.trans' st2
    refine hid λ _ uQ=>?_
    obtain ⟨o,es,ep,e,dd,rr⟩:=hns
    refine uQ ?_
    refine ⟨m,⟨o,es,ep,kept_obj iv1.ok st2 e nm (λ ps z=>by rw [z] at dd; cases dd),dd,rr⟩,λ h3 sb=>?_⟩
    obtain ⟨iv3,st3⟩:=comp_side iv iv2 st02 nm2 hgC htC hC0 sb
    exact kk .next .next ρ' β1 g' h3 tk2 hK iv3 trivial st3 λ b hb=>(mg2 b hb).elim (λ z=>.inl z) λ z=>addrs_val z
theorem WS_assignC {x:Str} {p:Pos} {value:Expr} {pos:Pos} {K} (h:WE G Φ k value ρ β λ v β1=>∃ d ρ',SetAt x (.val v) ρ d ρ'/\d.isRo=false/\K .next ρ' β1) (hc:∀ env:Env,EnvOk Φ env->swapsWith value (some (.Name x p)) pos.line env=pure false) (hp:Φ.plain=true):WS G Φ k (.Assign [.Name x p] value pos) ρ β K :=
  λ A env g s Q E rm eo iv kk=>wpAny_Assign_Name (h A env g s _ E rm eo iv λ v c β1 g1 h1 tk1 z0 iv1 rv st1=>z0.elim λ d z0=>z0.elim λ ρ' z0=>z0.elim λ hset z0=>z0.elim λ hd hk =>
    store_ok (c:=.val c) eo iv1 hset hd hp rv (λ _ hb=>addrs_val hb)
      λ h2 tk2 iv2 st2 mg2=>kk .next .next ρ' β1 g1 h2 tk2 hk iv2 trivial (st1.trans' st2) λ b hb=>(mg2 b hb).imp id λ z=>addrs_val z) (hc env eo)
theorem swaps_local {e:Expr} {gs:List Comprehension} {scope:Scope} {pos py:Pos} {y:Str} {l:Nat} {env:Env} (eo:EnvOk Φ env) (h:swapOk Φ y py scope pos=true):swapsWith (.ListComp e gs scope pos) (some (.Name y py)) l env=pure true:=by
  unfold swapOk at h
  simp only [Bool.and_eq_true] at h
  obtain ⟨⟨h1,h2⟩,h3⟩:=h
  have hk:env.kindOf y=some .local:=by
    unfold Env.kindOf; rw [eo.scope]
    cases e:Φ.scope.names.lookup y with
    | none=>rw [e] at h1; cases h1
    | some q=>rw [e] at h1; cases q <;> first | rfl | cases h1
  have hb:env.blockKind=.function:=by unfold Env.blockKind; have:=eo.fn; simp [this]
  show (pure (env.blockKind == .function && env.kindOf y == some .local && py.line == (Expr.ListComp e gs scope pos).pos.line && !(scope.names.any λ (n,k)=>n == y && (k == .local || k == .cell))):Sem Bool)=pure true
  rw [hk,hb,h3]
  have:(py.line == (Expr.ListComp e gs scope pos).pos.line)=true:=h2
  rw [this]; rfl
theorem swaps_cell {e:Expr} {gs:List Comprehension} {scope:Scope} {pos py:Pos} {y:Str} {l:Nat} {env:Env} (eo:EnvOk Φ env) (h:Φ.scope.names.lookup y=some .cell):swapsWith (.ListComp e gs scope pos) (some (.Name y py)) l env=pure false:=by
  have hk:env.kindOf y=some .cell:=by unfold Env.kindOf; rw [eo.scope]; exact h
  show (pure (env.blockKind == .function && env.kindOf y == some .local && py.line == (Expr.ListComp e gs scope pos).pos.line && !(scope.names.any λ (n,k)=>n == y && (k == .local || k == .cell))):Sem Bool)=pure false
  rw [hk]
  have:((some NameKind.cell:Option NameKind) == some .local)=false:=by decide
  rw [this]; simp
end
end A20
noncomputable section A21
section
variable {G:Gd} {Φ:Fm} {k:Nat} {ρ ρ':Loc} {β:List V}
theorem WE_compE {f:Str} {pf pc:Pos} {e:Expr} {ts:List Expr} {xs2:List Str} {n:Nat} {tp:Pos} {elt:Expr} {ifs:List Expr} {scope:Scope} {pos:Pos} {K} (fr:List Str) (Xs:List V) (hpl:Φ.plain=true) (hp:cpOk scope Φ.scope xs2 fr=true) (hf:FrOk ρ fr Xs)
    (hx:(f,NameKind.globalImplicit)∈Φ.scope.names) (hv:G.mg f=none) (hb:G.mb f=some (.type "enumerate")) (hns:noStar e=true) (hn:namesAre ts xs2) (h2:xs2.length=2)
    (h:WE G Φ k e ρ β λ v β1=>∃ ys,v=.list ys/\ys.length<=10000/\∃ J:Nat->Loc->List V->Prop,J 0 (xs2.map (·,.un) ++ fr.zip (Xs.map .ro)) [] /\
      (∀ i y ρ1 zs,ys[i]?=some y->J i ρ1 zs->∃ ρ2,SetAll xs2 [.val (.int i),.val y] ρ1 ρ2/\CBody G (cpFm Φ scope xs2 fr) k ifs elt J i ρ2 zs)/\∀ ρ1 zs,J ys.length ρ1 zs->K (.list zs) β1)
    (hs:∀ env v,foldedSetIterable (.Call (.Name f pf) [e] [] pc) env v=pure v:=by intro _ _; rfl):WE G Φ k (.ListComp elt [⟨.Tuple ts n tp,.Call (.Name f pf) [e] [] pc,ifs,0⟩] scope pos) ρ β K :=
  λ A env g s Q E rm eo iv kk=>by
    rw [eval_ListComp]
    have cp:=cpOk_parts hp
    refine hid λ _ uQ=>?_
    obtain ⟨cl,hclos,hcl1,hcl2⟩:=comp_clos eo iv cp hf
    refine uQ ?_
    refine wpAny_comprehension_free (use:=none) rfl (hs env) hclos cp.kind (cpNames cp) ?_
    refine evalArgs_blt1 hx hv hb rfl (by simp [hns]) rm eo iv (WL_cons (K:=λ zs β1=>∃ ys,zs=[.list ys]/\ys.length<=10000/\∃ J:Nat->Loc->List V->Prop,J 0 (xs2.map (·,.un) ++ fr.zip (Xs.map .ro)) [] /\
      (∀ i y ρ1 zs,ys[i]?=some y->J i ρ1 zs->∃ ρ2,SetAll xs2 [.val (.int i),.val y] ρ1 ρ2/\CBody G (cpFm Φ scope xs2 fr) k ifs elt J i ρ2 zs)/\∀ ρ1 zs,J ys.length ρ1 zs->K (.list zs) β1) (h.mono λ v b z0=>z0.elim λ ys z0=>z0.elim λ hv hk=>WL_nil ⟨ys,by rw [hv],hk⟩) hns) ?_
    intro vs zs β1 g1 h1 tk1 zQ6 iv1 rs st1
    refine hid λ _ uQ=>?_
    obtain ⟨ys,hxs,hlen0,J,h0,turn,fin⟩:=zQ6
    subst hxs
    obtain ⟨v,rfl,r⟩:=rs.one
    obtain ⟨a,ws,m,rfl,ha,rs⟩:=r.list_inv
    refine uQ ?_
    have ea:=iv1.ok.sub _ _ ha
    have hl:h1.IsList a ws.toArray:=⟨_,ea,rfl,m,rfl⟩
    have hlt:a < h1.objs.size:=Heap.lt_size ea
    have hlen:ws.toArray.size=ys.length:=by simp [rs.length]
    refine call_enumerate_list (s:=at_ s h1 tk1) hl λ h3 he hit hsz hk3=>wpAny_pyIter_enum he ?_
    have hne1:h1.objs.size + 1≠h1.objs.size:=by omega
    have U0:=WalksT.enumerate (prog:=G.prog) (w:=G.w) rm.hd (h1.objs.size + 1) h1.objs.size a hne1 (Nat.ne_of_lt (Nat.lt_succ_of_lt hlt)) (Nat.ne_of_lt hlt) ws.toArray
    have U:=U0.toU
    have x3:Ext G g1 h1 g1 h3:=Ext.grown iv1.ok ⟨hk3⟩
    have iv3:=x3.inv iv1
    have st3:=st1.trans' (x3.step (X:=Mut env ρ))
    have fr':∀ b∈[h1.objs.size + 1,h1.objs.size],h1.get? b=none:=λ b hb=>by
      rcases List.mem_cons.mp hb with rfl | hb
      . exact get?_over _ _ (by omega)
      . rw [List.mem_singleton.mp hb]; exact get?_over _ _ (by omega)
    have ex3:∀ (i:Nat) h,(∃ old,IsEnum h (h1.objs.size + 1) h1.objs.size i old)/\h.IsListIter h1.objs.size a i/\h.IsList a ws.toArray->∀ b∈[h1.objs.size + 1,h1.objs.size],h.get? b≠none:=λ i h hst b hb=>by
      refine hid λ _ uQ=>?_
      obtain ⟨⟨old,e1⟩,⟨o,e2,_⟩,_⟩:=hst
      refine uQ ?_
      rcases List.mem_cons.mp hb with rfl | hb
      . simp only [IsEnum] at e1; rw [e1]; nofun
      . rw [List.mem_singleton.mp hb,e2]; nofun
    have hst0:(∃ old,IsEnum h3 (h1.objs.size + 1) h1.objs.size ((0:Nat):Int) old)/\h3.IsListIter h1.objs.size a 0/\h3.IsList a ws.toArray:=⟨⟨_,he⟩,hit,hl.at λ o e=>hk3 _ _ e⟩
    refine comp_block (n:=ws.toArray.size) (RR:=compPost (model G.prog G.w) A E none Q) J rm eo iv hpl cp hf hcl1 hcl2 (KTurns.ofWalksU U) (λ s Q E hst hq=>U0.self 0 s Q E hst hq) hst0 (by omega) (λ b hb=>iv.old st1 iv1.ok (fr' b hb)) (λ b hb=>?_) ex3 ⟨_,_,rfl⟩ iv3 st3 (Own.freshL iv1 fr' (ex3 _ _ hst0)) h0 ?_ ?_
    . rcases List.mem_cons.mp hb with rfl | hb
      . exact .inl (by simp)
      . rcases List.mem_cons.mp hb with rfl | hb
        . exact .inl (by simp)
        . rw [List.mem_singleton.mp hb]; exact .inr ⟨_,ha⟩
    . intro C eoc D i v ρ1 zs g2 s2 Q2 E2 hlt2 zQ12 hJ iv2 gl ow2 k2
      refine hid λ _ uQ=>?_
      obtain ⟨T,vals,rfl,⟨t,x,hx2,rfl⟩,hT⟩:=zQ12
      obtain ⟨y,hy,ry⟩:=rs.getV (i:=i) (v:=x) (by simpa using hx2)
      obtain ⟨ρ2,hset,hbody⟩:=turn i y ρ1 zs hy hJ
      obtain ⟨t1,t2,t3⟩:=TreesOk.names (M:=model G.prog G.w) (A:=A) (env:=compEnvC scope cl C env) (E:=E2) hn
      refine uQ ?_
      refine wpAny_assign_Tuple rm.hd hT (by rw [t2,h2]; rfl) t3 λ h4 he4=>?_
      have x4:=Ext.grown iv2.ok (Grow.extBut he4)
      have rv:RvAll (compEnvC scope cl C env) g2 h4 [.int i t,x] [.val (.int i),.val y]:=⟨.int _ _,ry.mono gl,trivial⟩
      have nb:∀ b:Addr,b ∉ addrsAll [Cell.val (.int i),Cell.val y]:=λ b (hb:b∈[])=>nomatch hb
      exact assign_all eoc rfl _ xs2 _ _ ρ1 g2 _ _ t1 hset (x4.inv iv2) rv (λ b hb=>absurd hb (nb b)) .nil (λ b hb=>absurd hb (nb b)) x4.step (λ b hb=>.inl hb)
        λ h' tk iv5 st5 mg5=>k2 ρ2 h' tk hbody iv5 st5 mg5
    . intro D C ρ1 zs g' h' tk ws' nn hJ iv2 st2 hD rl hgD htD hD0 zQ17 hgC htC hC0 hne
      refine hid λ _ uQ=>?_
      obtain ⟨m',hns⟩:=zQ17
      obtain ⟨iv4,st4,r4⟩:=comp_learn iv iv2 st2 hD rl hgD hD0
      refine uQ ?_
      refine ⟨m',hns,λ h5 sb=>?_⟩
      obtain ⟨iv6,st6⟩:=comp_side iv iv4 st4 (λ hm=>iv.mut_in hm hC0) (by rw [gset_ne hne]; exact hgC) htC hC0 sb
      exact kk (.ref D) (.list zs) β1 _ h5 tk (fin _ _ (by rw [<- hlen]; exact hJ)) iv6 r4 st6
end
end A21
noncomputable section A22
section
variable {G:Gd} {Φ:Fm} {k:Nat} {ρ ρ':Loc} {β:List V}
noncomputable def IsCls (G:Gd) (c:ClsRec) (C:Addr):Prop:=G.mg c.name=some (.ref C)/\∃ N mN,PlainAt G.gh c C N mN
noncomputable def IsMeth (G:Gd) (c:ClsRec) (C:Addr) (mM:MethRec) (f:Addr):Prop:=∃ o pm cdv doc,o.cls=.type "function" /\ MethAt G.gh c mM f o pm cdv doc
noncomputable def SpecM (G:Gd) (k:Nat) (c:ClsRec) (C:Addr) (mM:MethRec) (xs:List V) (P:V->Prop):Prop:=∀ f,IsMeth G c C mM f->Spec G k (.fn f) xs P
theorem Rep.inst_at {g:Gh} {h:Heap} {v:Value} {C:Addr} {fs:List (Str × V)} (ok:Ok G g h) (r:Rep g v (.inst C fs)) :
    ∃ a vs,v=.ref a/\h.Inst a C (λ y=>((fs.map (·.1)).zip vs).lookup y)/\RepL g vs (fs.map (·.2)):=by
  cases r with
  | inst h1 h2 h3 h4 h5 h6 h7 r =>
    refine hid λ _ uQ=>?_
    obtain ⟨es,ep,d1,d2,d3,d4⟩:=h7
    refine uQ ?_
    exact ⟨_,_,rfl,⟨_,ok.sub _ _ h1,h2,h3,.inr ⟨_,h4,h5,_,es,ep,ok.sub _ _ h6,d1,d2,d3,d4⟩⟩,r⟩
theorem field_some {g:Gh} {attr:Str} {X:V} {fs:List (Str × V)} {vs:List Value} (r:RepL g vs (fs.map (·.2))) (h:fs.lookup attr=some X):∃ v,((fs.map (·.1)).zip vs).lookup attr=some v/\Rep g v X:=by
  induction fs generalizing vs with
  | nil=>cases h
  | cons p fs ih=>cases r with
    | cons a r =>
      rw [List.map_cons,List.zip_cons_cons,List.lookup_cons]
      rw [List.lookup_cons] at h
      cases e:attr == p.1 with
      | true=>rw [e] at h; exact ⟨_,rfl,Option.some.inj h ▸ a⟩
      | false=>rw [e] at h; exact ih r h
theorem field_none {attr:Str} {fs:List (Str × V)} {vs:List Value} (h:fs.lookup attr=none):((fs.map (·.1)).zip vs).lookup attr=none:=by
  induction fs generalizing vs with
  | nil=>rfl
  | cons p fs ih=>cases vs with
    | nil=>rfl
    | cons v vs =>
      rw [List.map_cons,List.zip_cons_cons,List.lookup_cons]
      rw [List.lookup_cons] at h
      cases e:attr == p.1 with
      | true=>rw [e] at h; cases h
      | false=>rw [e] at h; exact ih h
theorem Rep.handed {g:Gh} {v:Value} {X:V} (r:Rep g v X):handedOut v=pure v:=by cases r <;> rfl
theorem plainAt_gnd {c:ClsRec} {C N:Addr} {mN:Str->Option Value} {g:Gh} {h:Heap} (P:PlainAt G.gh c C N mN) (ok:Ok G g h):PlainAt h c C N mN:=P.keeps λ b o e=>ok.sub b o (ok.gnd b o e)
theorem WE_attr {c:ClsRec} {C:Addr} {x attr:Str} {px pos:Pos} {K} (hc:IsCls G c C) (hst:c.statics.contains attr=true) (hB:typeLookup (.type "object") attr=pure none)
    (h:WE G Φ k (.Name x px) ρ β λ v β1=>∃ fs X,v=.inst C fs/\fs.lookup attr=some X/\K X β1):WE G Φ k (.Attribute (.Name x px) attr pos) ρ β K :=
  λ A env g s Q E rm eo iv kk=>Attribute_Name_ (h A env g s _ E rm eo iv λ v x β1 g1 h1 tk1 z0 iv1 r st1=>hid λ _ uQ=>z0.elim λ fs z0=>z0.elim λ X z0=>z0.elim λ hx z0=>z0.elim λ hl hk=>uQ <| by
    subst hx
    refine hid λ _ uQ=>?_
    obtain ⟨a,vs,rfl,I,rs⟩:=r.inst_at iv1.ok
    obtain ⟨v,hv,rv⟩:=field_some rs hl
    obtain ⟨_,N,mN,P0⟩:=hc
    have P:=plainAt_gnd P0 iv1.ok
    obtain ⟨nm,q,bs,sn,sub,col,dd,k0,k1,k2,k3,k5,hC⟩:=P.cls.obj
    refine uQ ?_
    exact load_attr (g:=s.gens) (d:=s.drawn) (os:=s.os) hC P.cls.ns (P.quiet _ (List.mem_append_left _ (.tail _ (.head _)))) (P.quiet _ (List.mem_append_right _ (List.contains_iff_mem.mp hst))) hB I hv rv.handed
      (kk v X β1 g1 h1 (tk1 + 1) hk iv1 rv st1))
section
variable {prog:Program} {w:World} {A:Around} {E:Value->Shared->Prop} {h:Heap} {g:Array GenState} {d:Drawn} {t:Nat} {os:OsState}
variable {nm q:Str} {C N x:Addr} {bs:List Value} {sn:List Str} {sub:List Value} {ab:Bool} {col:Option Bool} {dd:Option Addr} {k0 k1 k2 k3 k5:Option Value} {newId:String}
  {mN mA:Str->Option Value} {name:Str} {v:Value}
theorem field_of {pl:Sem Bool} {Q:Value × List Value->Shared->Prop}
    (hC:h.get? C=some (excClassObj nm q C N bs [.type "object"] true sn sub ab col dd k0 k1 k2 k3 k5 newId)) (hn:h.Ns N mN) (hng:mN "__getattribute__" = none) (hnh:mN "__getattr__" = none)
    (hf:mN name=none) (hB:typeLookup (.type "object") name=pure none)
    (I:h.Inst x C mA) (hv:mA name=some v) (hh:handedOut v=pure v) (hq:Q (v,[]) ⟨h,g,d,t + 1,os⟩) :
    wpAny (model prog w) A (getMethod (.ref x) name pl) Q E ⟨h,g,d,t,os⟩:=by
  have I':=I
  refine hid λ _ uQ=>?_
  obtain ⟨o,hx,hc,hnc,hd⟩:=I
  refine uQ ?_
  have hcan:=F.canon_object_ga
  unfold getMethod specialOf
  repeat (first | (with_reducible refine wpAny_loadPart_at hx ?_; rw [hc]) | (with_reducible refine wpAny_typeLookup_exc hC hn F.mro_object F.lk_object_ga ?_; rw [hng]) | (with_reducible refine wpAny_typeLookup_exc hC hn F.mro_object F.lk_object_getattr ?_; rw [hnh]) | (with_reducible refine wpAny_typeLookup_exc hC hn F.mro_object hB ?_; rw [hf]) | simp only [hcan,Bool.false_eq_true,if_false] | (with_reducible refine load_attr hC hn hng hf hB I' hv hh ?_) | wp_step)
  exact hq
end
theorem WE_fcall {c:ClsRec} {C:Addr} {x attr:Str} {px ap pos:Pos} {args:List Expr} {K} (hc:IsCls G c C) (hst:c.statics.contains attr=true) (hB:typeLookup (.type "object") attr=pure none)
    (h:WE G Φ k (.Name x px) ρ β λ v β1=>∃ fs X,v=.inst C fs/\fs.lookup attr=some X/\IsFn G X/\WL G Φ k args ρ β1 λ xs β2=>Spec G k X xs λ y=>K y β2) (hns:args.all noStar=true)
    (he:∀ env,eval (.Call (.Attribute (.Name x px) attr ap) args [] pos) env=(do
      let ov <- eval (.Name x px) env
      standAt ap.atName
      let (f,first) <- holding [ov] (getMethod ov attr (do return (<- importBound (.Name x px) env).getD true))
      callWith pos f first (backTo pos (starEach args env)) []):=by intro _; rfl):WE G Φ k (.Call (.Attribute (.Name x px) attr ap) args [] pos) ρ β K :=
  λ A env g s Q E rm eo iv kk=>MethodCall_ (he:=he env) (h A env g s _ E rm eo iv λ v x β1 g1 h1 tk1 z0 iv1 r st1=>hid λ _ uQ=>z0.elim λ fs z0=>z0.elim λ X z0=>z0.elim λ hx z0=>z0.elim λ hl z0=>z0.elim λ hfn hw=>uQ <| by
    subst hx
    refine hid λ _ uQ=>?_
    obtain ⟨a,vs,rfl,I,rs⟩:=r.inst_at iv1.ok
    obtain ⟨v,hv,rv⟩:=field_some rs hl
    obtain ⟨_,N,mN,P0⟩:=hc
    have P:=plainAt_gnd P0 iv1.ok
    obtain ⟨nm,q,bs,sn,sub,col,dd,k0,k1,k2,k3,k5,hC⟩:=P.cls.obj
    refine uQ ?_
    refine field_of (g:=s.gens) (d:=s.drawn) (os:=s.os) hC P.cls.ns (P.quiet _ (List.mem_append_left _ (.tail _ (.head _)))) (P.quiet _ (List.mem_append_left _ (.tail _ (.tail _ (.head _))))) (P.quiet _ (List.mem_append_right _ (List.contains_iff_mem.mp hst))) hB I hv rv.handed ?_
    refine hid λ _ uQ=>?_
    obtain ⟨af,o,fd,rfl,ho,hd⟩:=hfn.obj iv1.ok rv
    refine uQ ?_
    exact callWith_any (first:=[]) hd (iv1.ok.sub _ _ ho) hns (hw A env g1 (at_ s h1 (tk1 + 1)) _ _ E (rm.step st1) eo iv1 λ vs xs β2 g2 h2 tk2 hk iv2 rs st2 =>
      ⟨iv2.ok.sub _ _ (st2.gle _ _ ho),hk A g2 _ _ vs Q E ((rm.step st1).step st2) iv2.ok (rv.mono st2.gle) rs λ v x g3 h3 tk3 hx ok3 rx st3 =>
        kk v x β2 g3 h3 tk3 hx (iv2.called ok3 st3) rx ((st1.trans' st2).trans st3 λ b z=>z.elim)⟩))
theorem WE_meth {c:ClsRec} {C:Addr} {mM:MethRec} {x name:Str} {px ap pos:Pos} {args:List Expr} {y:Option Value} {K} (hc:IsCls G c C) (hm:c.meths.find? (λ r=>r.name == name)=some mM) (hB:typeLookup (.type "object") name=pure y)
    (h:WE G Φ k (.Name x px) ρ β λ v β1=>∃ fs,v=.inst C fs/\fs.lookup name=none/\WL G Φ k args ρ β1 λ xs β2=>SpecM G k c C mM (.inst C fs :: xs) λ y=>K y β2) (hns:args.all noStar=true)
    (he:∀ env,eval (.Call (.Attribute (.Name x px) name ap) args [] pos) env=(do
      let ov <- eval (.Name x px) env
      standAt ap.atName
      let (f,first) <- holding [ov] (getMethod ov name (do return (<- importBound (.Name x px) env).getD true))
      callWith pos f first (backTo pos (starEach args env)) []):=by intro _; rfl):WE G Φ k (.Call (.Attribute (.Name x px) name ap) args [] pos) ρ β K :=
  λ A env g s Q E rm eo iv kk=>MethodCall_ (he:=he env) (h A env g s _ E rm eo iv λ v x β1 g1 h1 tk1 z0 iv1 r st1=>hid λ _ uQ=>z0.elim λ fs z0=>z0.elim λ hx z0=>z0.elim λ hl hw=>uQ <| by
    subst hx
    refine hid λ _ uQ=>?_
    obtain ⟨a,vs,rfl,I,rs⟩:=r.inst_at iv1.ok
    obtain ⟨_,N,mN,P0⟩:=hc
    have P:=plainAt_gnd P0 iv1.ok
    obtain ⟨nm,q,bs,sn,sub,col,dd,k0,k1,k2,k3,k5,hC⟩:=P.cls.obj
    have hn:mM.name=name:=beq_iff_eq.mp (List.find?_some (p:=λ r:MethRec=>r.name == name) hm)
    obtain ⟨f,o,pm,cd,doc,e1,e2,e3,e4,e5⟩:=P0.meths mM (List.mem_of_find?_eq_some hm)
    refine uQ ?_
    have eo2:=iv1.ok.sub _ _ (iv1.ok.gnd _ _ e2)
    refine method_of (g:=s.gens) (d:=s.drawn) (os:=s.os) hC P.cls.ns (P.quiet _ (List.mem_append_left _ (.tail _ (.head _)))) (P.quiet _ (List.mem_append_left _ (.tail _ (.tail _ (.head _))))) (hn ▸ e1) eo2 e3 hB I (field_none hl) ?_
    exact callWith_any (first:=[.ref a]) e4 eo2 hns (hw A env g1 (at_ s h1 tk1) _ _ E (rm.step st1) eo iv1 λ vs xs β2 g2 h2 tk2 hk iv2 rs st2 =>
      ⟨iv2.ok.sub _ _ (iv2.ok.gnd _ _ e2),hk f ⟨o,pm,cd,doc,e3,e2,e4,e5⟩ A g2 _ _ (.ref a :: vs) Q E ((rm.step st1).step st2) iv2.ok (.fn f) (.cons (r.mono st2.gle) rs) λ v x g3 h3 tk3 hx ok3 rx st3 =>
        kk v x β2 g3 h3 tk3 hx (iv2.called ok3 st3) rx ((st1.trans' st2).trans st3 λ b z=>z.elim)⟩))
theorem fmOk_methParts {c:ClsRec} {mM:MethRec} {ps ls:List Str} {pm cd doc:Value} (h:fmOk mM.params mM.scope ps ls=true):FdOk (methDef mM.name (c.name ++ "." ++ mM.name) mM.params mM.body mM.scope pm cd doc) mM.body ps ls []:=by
  unfold fmOk at h
  simp only [Bool.and_eq_true,decide_eq_true_eq] at h
  refine hid λ _ uQ=>?_
  obtain ⟨⟨⟨⟨h1,h2⟩,h3⟩,h4⟩,h5⟩:=h
  refine uQ ?_
  exact ⟨rfl,⟨h1,h2,h3,rfl,h4,by simpa using h5,rfl,rfl,rfl,rfl⟩⟩
theorem specM_def {c:ClsRec} {C:Addr} {mM:MethRec} {ps ls:List Str} {xs:List V} {P:V->Prop} (fm:fmOk mM.params mM.scope ps ls=true) (hl:xs.length=ps.length)
    (h:WSs G ⟨mM.scope,ps ++ ls,true,none⟩ k mM.body (ps.zip (xs.map .val) ++ ls.map (·,.un)) [] (RetK P)):SpecM G (k + 1) c C mM xs P :=
  λ a z0 A g s f vs Q E rm ok rf rs kk=>by
    obtain ⟨o,pm,cd,doc,e3,e2,e4,e5⟩:=z0
    cases rf
    have old:∀ b o,G.gh.get? b=some o->s.heap.get? b=some o:=λ b o e=>ok.sub b o (ok.gnd b o e)
    refine enter (Φ:=⟨mM.scope,ps ++ ls,true,none⟩) (β:=[]) (Xs:=[]) (cs:=xs.map .val) rm ok (old _ _ e2) e4 (fmOk_methParts fm) (e5.keeps old) (.vals rs) (by rw [rs.length,hl]) (by rw [addrsAll_none]; exact .nil) .nil (by rw [List.append_nil]; rfl) (by simpa using h) λ env fl fo ρ' β' g' h' tk hK iv fr st mg=>?_
    rw [addrsAll_none] at st mg
    have st':Step G (λ _=>False) g s.heap g' h':=st.weaken λ b hb=>by cases hb
    cases fo with
    | next=>refine FlRep.next_e fr ?_; exact kk _ _ g' h' tk hK iv.ok .none st'
    | ret x=>refine FlRep.ret_e fr λ v fr=>?_; exact kk _ _ g' h' tk hK iv.ok fr st'
    | reto a' ys =>
      refine FlRep.reto_e fr λ fr=>?_
      obtain ⟨_,hg,hm,ws,n,ha,r⟩:=fr
      have hn:s.heap.get? a'=none:=(mg a' hm).elim (λ z=>by cases z) id
      obtain ⟨k1,k2,k3⟩:=reto_val (env:=env) iv.ok st' hg hn ha r
      exact kk _ _ _ h' tk hK k1 k3 k2
    | _=>exact hK.elim
end
end A22
noncomputable section A23
section
variable {G:Gd} {Φ:Fm} {k:Nat} {ρ ρ':Loc} {β:List V}
structure IQ where
  s:Str
  f:Str
  y:Str
  p1:Pos
  p2:Pos
  p3:Pos
  pos:Pos
noncomputable def IQ.st (q:IQ):Stmt:=.Assign [.Attribute (.Name q.s q.p1) q.f q.p2] (.Name q.y q.p3) q.pos
noncomputable def ei (e:Expr):List Expr × Nat:=by
  refine PySem.Expr.casesOn (motive_1:=λ _=>List Expr × Nat) (e) (BinOp:=λ l _ r _=>([l,r],0)) (UnaryOp:=λ _ a _=>([a],0)) (BoolOp:=λ _ es _=>(es,0)) (IfExp:=λ t a b _=>([t,a,b],0)) (Compare:=λ l _ rs _=>(l :: rs,0)) (Call:=λ f as _ _=>(f :: as,0)) (Constant:=λ _ k _=>([],k)) (Attribute:=λ b _ _=>([b],0)) (Subscript:=λ b s _=>([b,s],0)) (List:=λ es _=>(es,0)) (Tuple:=λ es k _=>(es,k)) (Slice:=λ l u _ _=>(l.toList ++ u.toList,0)) ?_ ?_ ?_ ?_ ?_ ?_ ?_ ?_ ?_ ?_ ?_ ?_ ?_ ?_ ?_
  all_goals (intros; exact ([],0))
noncomputable def kid (e:Expr):List Expr:=(ei e).1
noncomputable def num (e:Expr):Nat:=(ei e).2
noncomputable def kd (n:Nat) (e:Expr):Expr:=(kid e).getD n e
noncomputable def kt (e:Expr):List Expr:=(kid e).tail
noncomputable def si (e:Stmt):List Expr × List Stmt × List Stmt:=by
  refine PySem.Stmt.casesOn (motive_2:=λ _=>List Expr × List Stmt × List Stmt) (e) (Return:=λ e _=>(e.toList,[],[])) (Assign:=λ ts v _=>(ts ++ [v],[],[])) (AugAssign:=λ t _ v _=>([t,v],[],[])) (For:=λ t it b _ _=>([t,it],b,[])) (While:=λ t b _ _=>([t],b,[])) (If:=λ t a b _=>([t],a,b)) (Expr:=λ v _=>([v],[],[])) ?_ ?_ ?_ ?_ ?_ ?_ ?_ ?_ ?_ ?_ ?_ ?_ ?_ ?_ ?_ ?_ ?_ ?_ ?_ ?_ ?_
  all_goals (intros; exact ([],[],[]))
noncomputable def se (t:Stmt):List Expr:=(si t).1
noncomputable def sb (t:Stmt):List Stmt:=(si t).2.1
noncomputable def so (t:Stmt):List Stmt:=(si t).2.2
noncomputable def sk (n:Nat) (t:Stmt):Expr:=(se t).getD n default
noncomputable def toIQ (sf:Str) (p:Str × Str) (t:Stmt):IQ:=⟨sf,p.1,p.2,(kd 0 (sk 0 t)).pos,(sk 0 t).pos,(sk 1 t).pos,t.pos⟩
noncomputable abbrev iqs (sf:Str) (l:List (Str × Str)) (body:List Stmt):List IQ:=l.zipWith (toIQ sf) body
structure InitB (sf:Str) (body:List Stmt) (l:List (Str × Str)):Prop where
  e:body=(iqs sf l body).map IQ.st
  n:(iqs sf l body).map (λ q=>(q.s,q.f,q.y))=l.map λ p=>(sf,p.1,p.2)
noncomputable def InitArgs (ρ:Loc):List IQ->List V->Prop
  | [],[]=>True
  | q :: l,X :: Xs=>(q.y,Cell.val X)∈ρ/\InitArgs ρ l Xs
  | _,_=>False
structure Made (h:Heap) (x dx C:Addr) (L:List (Str × Value)):Prop where
  inst:h.Inst x C λ y=>L.lookup y
  dict:∀ o,h.get? x=some o->o.dict=some dx
theorem lookup_snoc {f y:Str} {v:Value}:∀ {L:List (Str × Value)},f ∉ L.map (·.1)->(if y=f then some v else L.lookup y)=(L ++ [(f,v)]).lookup y
  | [],_=>by
    rw [List.nil_append,List.lookup_cons]
    by_cases e:y=f
    . subst e; simp
    . have:(y == f)=false:=by simpa using e
      rw [if_neg e,this]
  | (z,w) :: L,hn=>by
    simp only [List.map_cons,List.mem_cons,not_or] at hn
    have ih:=lookup_snoc (y:=y) (v:=v) hn.2
    rw [List.cons_append,List.lookup_cons,List.lookup_cons]
    by_cases e:y=f
    . subst e
      have:(y == z)=false:=by simpa using hn.1
      rw [this,if_pos rfl] at *; exact ih
    . rw [if_neg e] at ih ⊢
      rw [ih]
theorem within_of {L:List (Str × Value)}:Within (λ y=>L.lookup y) (L.map (·.1)):=λ y hy=>by
  cases e:L.lookup y with
  | none=>exact absurd e hy
  | some v=>exact List.mem_map_of_mem (f:=(·.1)) (mem_of_lookup e)
theorem made_at {x dx C:Addr} {h1 h2:Heap} {L L':List (Str × Value)} (md:Made h1 x dx C L) (I2:h2.Inst x C λ y=>L'.lookup y)
    (hx2:∀ o₀,h1.get? x=some o₀->∃ o₁,h2.get? x=some o₁/\o₁.cls=o₀.cls/\o₁.data=o₀.data/\o₁.slots=o₀.slots/\∀ dx,o₀.dict=some dx->o₁.dict=some dx):Made h2 x dx C L' :=
  ⟨I2,λ o e=>by
    obtain ⟨o1,eo1,_⟩:=md.inst
    obtain ⟨o2,z1,_,_,_,z5⟩:=hx2 o1 eo1
    have:=z5 _ (md.dict _ eo1)
    rw [z1] at e; exact Option.some.inj e ▸ this⟩
theorem Made.dat {x dx C:Addr} {h:Heap} {L:List (Str × Value)} (md:Made h x dx C L):∃ od,h.get? dx=some od/\∃ es ep,od.data=.dict es ep:=by
  refine hid λ _ uQ=>?_
  obtain ⟨o,eo,_,_,hd⟩:=md.inst
  refine uQ ?_
  have zz:=md.dict _ eo
  rcases hd with ⟨z,_⟩ | ⟨d,hd1,hd2,od,es,ep,hd3,hd4,_⟩
  . rw [zz] at z; cases z
  . rw [zz] at hd1; cases hd1
    exact ⟨od,hd3,es,ep,hd4⟩
theorem made_step {g:Gh} {x dx C:Addr} {h1 h2:Heap} {L L':List (Str × Value)} (md:Made h1 x dx C L) (I2:h2.Inst x C λ y=>L'.lookup y)
    (hk2:∀ b o,b≠x->(∀ o₀ dx,h1.get? x=some o₀->o₀.dict=some dx->b≠dx)->h1.get? b=some o->h2.get? b=some o)
    (hx2:∀ o₀,h1.get? x=some o₀->∃ o₁,h2.get? x=some o₁/\o₁.cls=o₀.cls/\o₁.data=o₀.data/\o₁.slots=o₀.slots/\∀ dx,o₀.dict=some dx->o₁.dict=some dx) :
    (∀ b o,b ∉ [x,dx]->h1.get? b=some o->h2.get? b=some o)/\Step G (λ b=>b=x\/b=dx) g h1 g h2:=by
  have ne:∀ {b},b ∉ [x,dx]->b≠x/\b≠dx:=λ h=>⟨λ e=>h (e ▸ .head _),λ e=>h (e ▸ .tail _ (.head _))⟩
  have hk:∀ b o,b ∉ [x,dx]->h1.get? b=some o->h2.get? b=some o:=λ b o hb e=>hk2 b o (ne hb).1 (λ o0 d0 e0 e1=>Option.some.inj ((md.dict _ e0).symm.trans e1) ▸ (ne hb).2) e
  have nin:∀ {b},¬ (b=x\/b=dx)->b ∉ [x,dx]:=λ h z=>by
    rcases List.mem_cons.mp z with z | z
    . exact h (.inl z)
    . exact h (.inr (List.mem_singleton.mp z))
  refine ⟨hk,λ _ _ e=>e,λ b o hb _ e=>hk b o (nin hb) e,λ b o e=>.inl e,λ b o e hf=>?_⟩
  by_cases hbx:b=x
  . rw [hbx] at e ⊢
    refine hid λ _ uQ=>?_
    obtain ⟨o1,e1,_,e3,_⟩:=hx2 o e
    refine uQ ?_
    exact ⟨o1,e1,e3 ▸ hf⟩
  . by_cases hbd:b=dx
    . rw [hbd]
      refine hid λ _ uQ=>?_
      obtain ⟨od,h3,es,ep,h4⟩:=(made_at md I2 hx2).dat
      refine uQ ?_
      exact ⟨od,h3,λ vs z=>by rw [h4] at z; cases z⟩
    . exact ⟨o,hk b o (nin λ z=>z.elim hbx hbd) e,hf⟩
theorem lookup_fun {f:Str} {v:Value} {L:List (Str × Value)} {h:Heap} {x C:Addr} (hn:f ∉ L.map (·.1)) (I:h.Inst x C λ y=>if y=f then some v else L.lookup y):h.Inst x C λ y=>(L ++ [(f,v)]).lookup y :=
  (funext λ y=>lookup_snoc hn:(λ y=>if y=f then some v else L.lookup y)=λ y=>(L ++ [(f,v)]).lookup y) ▸ I
structure InitI (G:Gd) (Φ:Fm) (k:Nat) (A:Around) (env:Env) (ρ:Loc) (x dx C:Addr) (mN:Str->Option Value) (sf:Str) (g:Gh) (h0:Heap) (qs:List IQ) (Xs:List V) (L:List (Str × Value)) (h1:Heap):Prop where
  args:InitArgs ρ qs Xs
  rm:Rm G k A h1
  iv:Inv G Φ env ρ [] g h1
  st:Step G (λ b=>b=x\/b=dx) g h0 g h1
  md:Made h1 x dx C L
  nd:(L.map (·.1) ++ qs.map (·.f)).Nodup
  ln:L.length + qs.length<=100
  qt:∀ q∈qs,q.s=sf/\mN q.f=none/\typeLookup (.type "object") q.f=pure none
theorem InitI.next {A:Around} {env:Env} {g:Gh} {x dx C:Addr} {mN:Str->Option Value} {sf:Str} {h0 h1 h2:Heap} {q:IQ} {qs:List IQ} {X:V} {Xs:List V} {L:List (Str × Value)} {v:Value}
    (hnil:env.cells=[]) (hx:∀ b,b=x\/b=dx->¬ Mut env ρ b/\g b=none/\¬ G.isTab b) (I:InitI G Φ k A env ρ x dx C mN sf g h0 (q :: qs) (X :: Xs) L h1)
    (I2:h2.Inst x C λ y=>if y=q.f then some v else L.lookup y)
    (hk2:∀ b o,b≠x->(∀ o₀ dx,h1.get? x=some o₀->o₀.dict=some dx->b≠dx)->h1.get? b=some o->h2.get? b=some o)
    (hx2:∀ o₀,h1.get? x=some o₀->∃ o₁,h2.get? x=some o₁/\o₁.cls=o₀.cls/\o₁.data=o₀.data/\o₁.slots=o₀.slots/\∀ dx,o₀.dict=some dx->o₁.dict=some dx)
    (nd1:q.f ∉ L.map (·.1)):InitI G Φ k A env ρ x dx C mN sf g h0 qs Xs (L ++ [(q.f,v)]) h2:=by
  have I3:=lookup_fun nd1 I2
  have st:=made_step (G:=G) (g:=g) I.md I3 hk2 hx2
  exact ⟨I.args.2,I.rm.step st.2,I.iv.side2 (wr:=[x,dx]) (λ b hb=>hx b (by simpa using hb)) (λ z c hc=>by rw [hnil] at hc; cases hc) st.1,I.st.trans' st.2,made_at I.md I3 hx2,
    by simpa using I.nd,by simpa [Nat.add_assoc,Nat.add_comm 1] using I.ln,λ z hz=>I.qt z (.tail _ hz)⟩
theorem init_run {A:Around} {env:Env} {g:Gh} {s:Shared} {x dx C N:Addr} {mN:Str->Option Value} {sf:Str} {h0:Heap} {Q:Flow->Shared->Prop} {E:Value->Shared->Prop}
    (eo:EnvOk Φ env) (hC0:ClsAt G.gh C N mN) (hns:mN "__setattr__" = none) (hself:(sf,Cell.val (.fn x))∈ρ) (hnil:env.cells=[])
    (hx:∀ b,b=x\/b=dx->¬ Mut env ρ b/\g b=none/\¬ G.isTab b) :
    ∀ (qs:List IQ) (Xs:List V) (L:List (Str × Value)) (h1:Heap) (tk1:Nat),InitI G Φ k A env ρ x dx C mN sf g h0 qs Xs L h1 ->
      (∀ h2 tk2 vs,RepL g vs Xs->Ok G g h2->Step G (λ b=>b=x\/b=dx) g h0 g h2->Made h2 x dx C (L ++ (qs.map (·.f)).zip vs)->Q .next (at_ s h2 tk2)) ->
      wpAny (model G.prog G.w) A (execs (qs.map IQ.st) env) Q E (at_ s h1 tk1):=by
  intro qs
  induction qs with
  | nil =>
    intro Xs L h1 tk1 I kk
    cases Xs with
    | cons=>exact I.args.elim
    | nil=>exact wpAny_execs_nil (kk h1 tk1 [] .nil I.iv.ok I.st (by simpa using I.md))
  | cons q qs ih =>
    intro Xs L h1 tk1 I kk
    cases Xs with
    | nil=>exact I.args.elim
    | cons X Xs =>
      have hq:=I.qt q (.head _)
      have hself:=hq.1.symm ▸ hself
      have iv:=I.iv
      refine wpAny_execs_cons (plainObj_wpAny_Assign_Attribute (wpAny_Name (load_val eo iv (.inl I.args.1) λ v rv=>wpAny_Name (load_val eo iv (.inl hself) λ vx rx=>?_) (eo.dbgk (iv.key hself))) (eo.dbgk (iv.key I.args.1))) (swaps_no rfl ..))
      cases rx
      have hC:=hC0.keeps λ b o e=>iv.ok.sub b o (iv.ok.gnd b o e)
      refine hid λ _ uQ=>?_
      obtain ⟨nm,q',bs,sn,sub,col,dd,k0,k1,k2,k3,k5,eC⟩:=hC.obj
      refine uQ ?_
      have hxC:x≠C:=λ e=>by
        refine hid λ _ uQ=>?_
        obtain ⟨o,eo',_,hnc,_⟩:=I.md.inst
        refine uQ ?_
        rw [e,eC] at eo'; cases eo'; exact hnc _ rfl
      have nd1:q.f ∉ L.map (·.1):=λ hm=>(List.nodup_append.mp I.nd).2.2 q.f hm q.f (.head _) rfl
      have ln:(L.map (·.1)).length<=sizeLine:=by rw [List.length_map,sizeLine_eq]; exact Nat.le_trans (Nat.le_trans (Nat.le_add_right ..) I.ln) (by decide)
      exact store_attr (g:=s.gens) (d:=s.drawn) (os:=s.os) F.store_object eC hC.ns hns hq.2.1 hq.2.2 hxC I.md.inst (λ h2 tk2 I2 hk2 hx2=>ih Xs _ h2 tk2 (I.next hnil hx I2 hk2 hx2 nd1) λ h3 tk3 vs rs ok3 st3 md3=>kk h3 tk3 (v :: vs) (.cons rv rs) ok3 st3 (by simpa using md3)) (ns:=L.map (·.1)) within_of ln
theorem Rm.make {A:Around} {h:Heap} {C:Addr} {vs:List Value} (rm:Rm G (k + 1) A h):Rm G k (A.under (.builtin "type.__call__" ⟨.ref C :: vs,[]⟩)) h :=
  ⟨rm.hd,by have:=rm.dp; show A.depth + 1 + 3 * k < 990; omega,by have:=rm.un; show A.units + 1 + 100 * k + 1000 < cLine; omega,rm.fr⟩
theorem initArgs_of (qs:List IQ) (xs:List V) (ρ0:Loc) (h:qs.length=xs.length):InitArgs (ρ0 ++ (qs.map (·.y)).zip (xs.map .val)) qs xs :=
  lists2 (P:=λ qs xs=>∀ ρ0:Loc,qs.length=xs.length->InitArgs (ρ0 ++ (qs.map (·.y)).zip (xs.map .val)) qs xs) (λ _ _=>trivial) (λ _ _ _ h=>nomatch h) (λ _ _ _ h=>nomatch h)
    (λ q qs X xs ih ρ0 h=>⟨by simp,by simpa using ih (ρ0 ++ [(q.y,Cell.val X)]) (Nat.succ.inj h)⟩) qs xs ρ0 h
theorem made_lt {h:Heap} {x dx C:Addr} {L:List (Str × Value)} (md:Made h x dx C L) (b:Addr) (hb:b=x\/b=dx):b < h.objs.size:=by
  refine hid λ _ uQ=>?_
  obtain ⟨o,eo,_⟩:=md.inst
  obtain ⟨od,ed,_⟩:=md.dat
  refine uQ ?_
  exact hb.elim (λ e=>e ▸ Heap.lt_size eo) λ e=>e ▸ Heap.lt_size ed
theorem made_grow {h h':Heap} {x dx C:Addr} {L:List (Str × Value)} (md:Made h x dx C L) (gr:Grow h h'):Made h' x dx C L:=by
  obtain ⟨o,eo,c1,c2,hd⟩:=md.inst
  have eo1:=gr.kept _ _ eo
  refine ⟨⟨o,eo1,c1,c2,?_⟩,λ o' e'=>by rw [eo1] at e'; exact Option.some.inj e' ▸ md.dict _ eo⟩
  rcases hd with z | ⟨d,hd1,hd2,hd3⟩
  . exact .inl z
  . exact .inr ⟨d,hd1,hd2,hd3.at λ o e=>gr.kept _ _ e⟩
theorem made_rep {g:Gh} {h0 h2:Heap} {x dx C:Addr} {fs:List Str} {vs:List Value} {xs:List V} (md:Made h2 x dx C (fs.zip vs)) (gx:g x=none) (gd:g dx=none) (nx:h0.get? x=none) (nd:h0.get? dx=none)
    (r:RepL g vs xs) (hl:fs.length=xs.length) (ok:Ok G g h2) (st:Step G (λ _=>False) g h0 g h2):∃ g',Rep g' (.ref x) (.inst C (fs.zip xs))/\Ok G g' h2/\Step G (λ _=>False) g h0 g' h2:=by
  refine hid λ _ uQ=>?_
  obtain ⟨o,eo,c1,c2,hd⟩:=md.inst
  refine uQ ?_
  have hdx:=md.dict _ eo
  rcases hd with ⟨z,_⟩ | ⟨d,hd1,hd2,od,es,ep,hd3,hd4⟩
  . rw [hdx] at z; cases z
  . cases hdx.symm.trans hd1
    have gd3:gset g x o dx=none:=by rw [gset_ne hd2]; exact gd
    have z1:(fs.zip xs).map (·.1)=fs:=List.map_fst_zip (Nat.le_of_eq hl)
    have z2:(fs.zip xs).map (·.2)=xs:=List.map_snd_zip (Nat.le_of_eq hl.symm)
    refine ⟨gset (gset g x o) dx od,.inst (oa:=o) (od:=od) (d:=dx) (vs:=vs) (by rw [gset_ne (Ne.symm hd2)]; exact gset_self ..) c1 c2 hdx hd2 (gset_self ..) ⟨es,ep,hd4.1,hd4.2.1,hd4.2.2.1,z1.symm ▸ hd4.2.2.2⟩
      (z2.symm ▸ r.mono λ b ob e=>gset_le (.inl gd3) b ob (gset_le (.inl gx) b ob e)),?_,?_⟩
    . exact (ok.learn gx eo λ ps z=>by rw [z] at c1; cases c1).learn gd3 hd3 λ ps z=>by rw [z] at hd4; cases hd4.1
    . exact (st.learn (o:=o) gx (.inl nx)).learn (o:=od) gd3 (.inl nd)
theorem init_call {A:Around} {mI:MethRec} {sf:Str} {ps:List Str} {l:List (Str × Str)} {xs:List V} {C x dx fI N:Addr} {oI:Obj} {fd:FuncData} {mN:Str->Option Value} {g:Gh} {s:Shared} {h':Heap} {vs:List Value} {Q:Value->Shared->Prop} {E:Value->Shared->Prop}
    (rm:Rm G (k + 1) A h') (ok:Ok G g h') (e2:h'.get? fI=some oI) (e4:oI.data=.func fd) (fo:FdOk fd mI.body (sf :: ps) [] []) (hcl0:fd.closure=[]) (e5:h'.CodeRec fd.code fd.qualname)
    (rs:RepL g vs xs) (hl:xs.length=ps.length) (hb:InitB sf mI.body l) (hps:l.map (·.2)=ps) (hnd:(l.map (·.1)).Nodup) (hlen:l.length<=100) (hC0:ClsAt G.gh C N mN) (hns:mN "__setattr__" = none)
    (hst:∀ f∈l,mN f.1=none/\typeLookup (.type "object") f.1=pure none) (md:Made h' x dx C []) (hx:∀ b,b=x\/b=dx->g b=none/\¬ G.isTab b)
    (kk:∀ h2 tk2 vs2,RepL g vs2 xs->Ok G g h2->Step G (λ b=>b=x\/b=dx) g h' g h2->Made h2 x dx C ((l.map (·.1)).zip vs2)->Q .none (at_ s h2 tk2)) :
    wpAny (model G.prog G.w) A (call (.ref fI) (.ref x :: vs)) Q E (at_ s h' s.toks):=by
  have no1:((Cell.val (.fn x) :: xs.map Cell.val).flatMap (·.addrs))=[]:=addrsAll_none (vs:=.fn x :: xs)
  refine enterR (s:=at_ s h' s.toks) (Φ:=⟨fd.scope,sf :: ps,true,none⟩) (β:=[]) (Xs:=[]) (cs:=.val (.fn x) :: xs.map .val) (ls:=[]) (fr:=[]) (ps:=sf :: ps)
    (λ fl s'=>fl=.next/\Q .none s') (λ _ _ _=>False) rm ok e2 e4 fo e5 ⟨.fn x,.vals rs⟩ (by simp [rs.length,hl]) (by rw [no1]; exact .nil) (by rw [hcl0]; exact .nil) (by simp) ?_ (λ fl s' z=>by rw [z.1]; exact z.2) (λ _ _ _ z=>z.elim)
  intro env h1 rm1 eo iv grow hcl mutE tk1 Q' E' hq _
  have hρ:(sf :: ps).zip (Cell.val (.fn x) :: xs.map Cell.val) ++ ([]:List Str).map (·,Cell.un) ++ ([]:List Str).zip (([]:List V).map Cell.ro)=(sf,Cell.val (.fn x)) :: ps.zip (xs.map .val):=by simp
  rw [hρ] at iv mutE
  rw [no1] at mutE
  have hqs:(iqs sf l mI.body).map (·.f)=l.map (·.1):=by
    have:=congrArg (List.map (·.2.1)) hb.n
    rw [List.map_map (l:=iqs sf l mI.body),List.map_map (l:=l)] at this; exact this
  have hys:(iqs sf l mI.body).map (·.y)=ps:=by
    have:=congrArg (List.map (·.2.2)) hb.n
    rw [List.map_map (l:=iqs sf l mI.body),List.map_map (l:=l)] at this; exact this.trans hps
  have hln:(iqs sf l mI.body).length=l.length:=by rw [<- List.length_map (f:=IQ.f),hqs,List.length_map]
  have hxs:(iqs sf l mI.body).length=xs.length:=by rw [hl,<- hys]; exact (List.length_map _).symm
  have a1:=initArgs_of (iqs sf l mI.body) xs [(sf,Cell.val (.fn x))] hxs
  rw [hys] at a1
  have r:=init_run (k:=k) (h0:=h') eo hC0 hns (.head _) (hcl.trans hcl0) (λ b hb=>⟨λ hmut=>(mutE b hmut).elim (λ z=>nomatch z) λ z=>Nat.lt_irrefl _ (z ▸ made_lt md b hb),hx b hb⟩) (iqs sf l mI.body) xs [] h1 tk1
    ⟨a1,rm1,iv,grow.step,made_grow md grow,by rw [hqs]; exact hnd,by rw [hln]; simpa using hlen,λ q hq=>by
      have:(q.s,q.f,q.y)∈l.map λ p=>(sf,p.1,p.2):=hb.n ▸ List.mem_map_of_mem (f:=λ q:IQ=>(q.s,q.f,q.y)) hq
      obtain ⟨p,hp,e⟩:=List.mem_map.mp this
      have e1:=congrArg (·.1) e
      have e2:p.1=q.f:=congrArg (·.2.1) e
      exact ⟨e1.symm,by rw [<- e2]; exact hst p hp⟩⟩ (Q:=Q') (E:=E') (s:=s) λ h2 tk2 vs2 r2 ok2 st2 md2=>hq .next _ ⟨rfl,kk h2 tk2 vs2 r2 ok2 st2 (by rw [List.nil_append,hqs] at md2; exact md2)⟩
  rw [<- hb.e] at r
  exact r
theorem spec_make {c:ClsRec} {C:Addr} {mI:MethRec} {sf:Str} {ps:List Str} {l:List (Str × Str)} {xs:List V} (hc:IsCls G c C) (hm:c.meths.find? (λ r=>r.name == ("__init__" : Str))=some mI)
    (fm:fmOk mI.params mI.scope (sf :: ps) []=true) (hl:xs.length=ps.length) (hb:InitB sf mI.body l) (hps:l.map (·.2)=ps)
    (hnd:(l.map (·.1)).Nodup) (hlen:l.length<=100) (hst:∀ f∈l,c.statics.contains f.1=true/\typeLookup (.type "object") f.1=pure none):Spec G (k + 2) (.fn C) xs (λ y=>y=.inst C ((l.map (·.1)).zip xs)) :=
  λ A g s f vs Q E rm ok rf rs kk=>by
    cases rf
    refine hid λ _ uQ=>?_
    obtain ⟨_,N,mN,P0⟩:=hc
    have P:=plainAt_gnd P0 ok
    have hn:mI.name = "__init__" := beq_iff_eq.mp (List.find?_some (p:=λ r:MethRec=>r.name == ("__init__" : Str)) hm)
    obtain ⟨fI,oI,pm,cd,doc,e1,e2,e3,e4,e5⟩:=P.meths mI (List.mem_of_find?_eq_some hm)
    obtain ⟨nm,q,bs,sn,sub,col,dd,k0,k1,k2,k3,k5,hC⟩:=P.cls.obj
    refine uQ ?_
    unfold fmOk at fm
    simp only [Bool.and_eq_true,decide_eq_true_eq] at fm
    have fo:FdOk (methDef mI.name (c.name ++ "." ++ mI.name) mI.params mI.body mI.scope pm cd doc) mI.body (sf :: ps) [] []:=⟨rfl,⟨fm.1.1.1.1,fm.1.1.1.2,fm.1.1.2,rfl,fm.1.2,by simpa using fm.2,rfl,rfl,rfl,rfl⟩⟩
    refine wpAny_call_obj_init (g:=s.gens) (d:=s.drawn) (os:=s.os) F.objNew hC P.cls.ns (hn ▸ e1) e2 e3 λ h' x dx hm=>?_
    have gr:Grow s.heap h':=⟨hm.keeps⟩
    have new:∀ b,b=x\/b=dx->s.heap.get? b=none:=λ b hb=>hb.elim (λ e=>e ▸ hm.newX) λ e=>e ▸ hm.newD
    refine init_call (l:=l) (s:=s) ((rm.make (C:=C) (vs:=vs)).grow gr) (ok.grow gr) (gr.kept _ _ e2) e4 fo rfl (e5.keeps gr.kept) rs hl hb hps hnd hlen P0.cls (P0.quiet _ (List.mem_append_left _ (.head _)))
      (λ f hf=>⟨P0.quiet _ (List.mem_append_right _ (List.contains_iff_mem.mp (hst f hf).1)),(hst f hf).2⟩) ⟨hm.inst,hm.dict⟩ (λ b hb=>⟨ok.new (new b hb),λ z0=>z0.elim λ q z0=>z0.elim λ hq e=>?_⟩) λ h2 tk2 vs2 r2 ok2 st2 md2=>?_
    . obtain ⟨ps,z,_⟩:=ok.tab q hq
      rw [e,new b hb] at z; cases z
    . refine hid λ _ uQ=>?_
      obtain ⟨g',rp,ok',st'⟩:=made_rep md2 (ok.new hm.newX) (ok.new hm.newD) hm.newX hm.newD r2 (by rw [List.length_map,hl,<- hps,List.length_map]) ok2 ((gr.step (X:=λ _=>False) (g:=g) (G:=G)).trans st2 λ b hb=>.inr (new b hb))
      refine uQ ?_
      exact ⟨rfl,kk (.ref x) _ g' h2 tk2 rfl ok' rp st'⟩
end
end A23
noncomputable section A24
section
variable {G:Gd} {Φ:Fm} {k:Nat} {ρ ρ':Loc} {β:List V}
theorem cell_freeze {env:Env} {g:Gh} {h:Heap} {x:Str} {X:V} (eo:EnvOk Φ env) (hpl:Φ.plain=true) (iv:Inv G Φ env ρ β g h) (hset:SetAt x (.ro X) ρ (.val X) ρ') (hk:env.kindOf x≠some .local) :
    ∃ c o v,env.cells.lookup x=some c/\o.data=.cell (some v)/\Rep g v X/\g c=none/\Mut env ρ c/\Inv G Φ env ρ' β (gset g c o) h/\(∀ b,Mut env ρ' b->Mut env ρ b):=by
  have hm:=hset.mem_old
  refine hid λ _ uQ=>?_
  obtain ⟨m,hn,hc⟩:=iv.ns
  obtain ⟨v,hsl,rv⟩:=hc _ hm
  refine uQ ?_
  have ndk:(ρ.map (·.1)).Nodup:=by rw [iv.keys]; exact eo.nodup
  rcases hsl with ⟨q,_⟩ | ⟨_,c,hcl,o,ho,hd⟩
  . exact absurd q hk
  have hmut:Mut env ρ c:=.inr ⟨_,hm,.inl ⟨rfl,hk,hcl⟩⟩
  have hg:=iv.off c hmut
  have gle:=gset_le (o:=o) (.inl hg)
  have mg:∀ b,Mut env ρ' b->Mut env ρ b/\b≠c:=λ b hb=>by
    rcases hb with rfl | ⟨p,hp,z⟩
    . exact ⟨.inl rfl,λ q=>by refine hid λ _ uQ=>?_; obtain ⟨oL,_,_,eL,dL,_⟩:=hn; refine uQ ?_; rw [q,ho] at eL; cases eL; rw [hd] at dL; cases dL⟩
    . rcases hset.of_mem ndk p hp with rfl | ⟨q,hne⟩
      . rcases z with ⟨z,_⟩ | z
        . cases z
        . exact z.elim
      . refine ⟨.inr ⟨p,q,z⟩,λ w=>?_⟩
        subst w
        rcases z with z | z
        . exact hne (eo.inj hpl _ _ _ z.2.2 hcl)
        . have:=hc p q
          obtain ⟨y,d⟩:=p
          cases d with
          | own a xs=>refine hid λ _ uQ=>?_; obtain ⟨_,vs,n,e,_⟩:=this; refine uQ ?_; cases z; rw [e] at ho; cases ho; cases hd
          | box a=>refine hid λ _ uQ=>?_; obtain ⟨_,vs,n,e,_⟩:=this; refine uQ ?_; cases z; rw [e] at ho; cases ho; cases hd
          | _=>exact z.elim
  have sub:(ρ'.flatMap (·.2.addrs)).Nodup:=hset.apart iv.apart (addrs_nodup _) (λ _ hb=>nomatch hb)
  refine ⟨c,o,v,hcl,hd,rv,hg,hmut,⟨iv.ok.learn hg ho (λ ps z=>by rw [z] at hd; cases hd),⟨m,hn,λ p hp=>?_⟩,λ b hb=>?_,hset.keys.trans iv.keys,sub⟩,λ b hb=>(mg b hb).1⟩
  . rcases hset.of_mem ndk p hp with rfl | ⟨q,_⟩
    . exact ⟨v,.inr ⟨hk,c,hcl,o,ho,hd⟩,rv.mono gle⟩
    . exact (hc p q).grow (Grow.refl _) gle
  . rw [gset_ne (mg b hb).2]; exact iv.off b (mg b hb).1
inductive FreezeAll:List Str->List V->Loc->Loc->Prop
  | nil {r:Loc}:FreezeAll [] [] r r
  | cons {x:Str} {fr:List Str} {X:V} {Xs:List V} {r r1 r2:Loc}:SetAt x (.ro X) r (.val X) r1->FreezeAll fr Xs r1 r2->FreezeAll (x :: fr) (X :: Xs) r r2
theorem freeze_all {env:Env} {h:Heap} (eo:EnvOk Φ env) (hpl:Φ.plain=true) {fr:List Str} {Xs:List V} {ρ ρ':Loc} {g:Gh} (hf:FreezeAll fr Xs ρ ρ') (iv:Inv G Φ env ρ β g h) (hk:∀ x∈fr,env.kindOf x≠some .local) :
    ∃ g',Inv G Φ env ρ' β g' h/\Step G (Mut env ρ) g h g' h/\(∀ b,Mut env ρ' b->Mut env ρ b)/\∀ cl:List (Str × Addr),cl.map (·.1)=fr->(∀ p∈cl,env.cells.lookup p.1=some p.2)->RepC g' (cl.map (·.2)) Xs:=by
  induction hf generalizing g with
  | nil=>exact ⟨g,iv,.refl ..,λ b hb=>hb,λ cl e _=>by rw [List.map_eq_nil_iff.mp e]; exact .nil⟩
  | @cons x fr X Xs r r1 r2 hset hf ih =>
    refine hid λ _ uQ=>?_
    obtain ⟨c,o,v,hcl,hd,rv,hg,hmut,iv1,mg1⟩:=cell_freeze eo hpl iv hset (hk x (.head _))
    obtain ⟨g',iv2,st2,mg2,hcs⟩:=ih iv1 λ y hy=>hk y (.tail _ hy)
    refine uQ ?_
    refine ⟨g',iv2,(Step.learn (.refl G (Mut env r) g h) hg (.inr hmut)).trans st2 λ b hb=>.inl (mg1 b hb),λ b hb=>mg1 b (mg2 b hb),λ cl e he=>?_⟩
    cases cl with
    | nil=>cases e
    | cons p cl =>
      have e:=List.cons.inj e
      have e1:p.1=x:=e.1
      have e2:(λ x:Str × Addr=>x.2) p=c:=(Option.some.inj (hcl.symm.trans (e1 ▸ he p (.head _)))).symm
      exact .cons (by rw [e2]; exact st2.gle _ _ (gset_self ..)) hd (rv.mono λ b ob eb=>st2.gle b ob (gset_le (.inl hg) b ob eb)) (hcs cl e.2 λ q hq=>he q (.tail _ hq))
theorem fn_new {env:Env} {g:Gh} {h h':Heap} {q:TabI} {c':Addr} {fo:Obj} {fd:FuncData} {fi:FI} {Xs:List V} (iv:Inv G Φ env ρ β g h) (hq:q∈G.tabs) (hps:h.get? q.P=some (tabObj #[]))
    (hx:Heap.ExtBut q.P h h') (hge:h.objs.size<=c') (hsz:h.objs.size<=h'.objs.size) (hrec:h'.CodeRec (.ref c') q.qual) (hP:h'.get? q.P=some (tabObj #[rawInt q.pos.line,rawInt q.pos.col,.ref c']))
    (hcls:fo.cls=.type "function") (hd:fo.data=.func fd) (hfd:CloFd fi fd) (hcode:fd.code=.ref c') (hqual:fi.qual=q.qual) (hfr:fd.closure.map (·.1)=fi.frees) (hC:RepC g (fd.closure.map (·.2)) Xs) :
    ∃ g',Inv G Φ env ρ β g' (h'.push fo)/\Step G (Mut env ρ) g h g' (h'.push fo)/\Rep g' (.ref h'.objs.size) (.clo fi Xs):=by
  obtain ⟨c0,oc,vs,t,e0,hoc,hvs,hv1⟩:=hrec
  cases e0
  have hc0:h.get? c'=none:=get?_over _ _ hge
  have ha0:h.get? h'.objs.size=none:=get?_over _ _ hsz
  have hac:c'≠h'.objs.size:=Nat.ne_of_lt (Heap.lt_size hoc)
  have gc:g c'=none:=iv.ok.new hc0
  have g1a:gset g c' oc h'.objs.size=none:=by rw [gset_ne (Ne.symm hac)]; exact iv.ok.new ha0
  have gl:GLe g (gset (gset g c' oc) h'.objs.size fo):=λ b ob e=>gset_le (.inl g1a) b ob (gset_le (.inl gc) b ob e)
  have tabIn:∀ q'∈G.tabs,∃ ob,h.get? q'.P=some ob:=λ q' hq'=>let ⟨ps,e,_⟩:=iv.ok.tab q' hq'; ⟨_,e⟩
  have hnf:fo.isFreed=false:=by obtain ⟨fo1,fo2,fo3,fo4⟩:=fo; dsimp only at hd; subst hd; rfl
  have kept:∀ b o,b≠q.P->h.get? b=some o->(h'.push fo).get? b=some o:=λ b o hb e=>Heap.get?_push_of_some _ (hx b o hb e)
  have hPc:q.P≠c':=λ e=>by rw [e,hc0] at hps; cases hps
  have ok2:Ok G (gset (gset g c' oc) h'.objs.size fo) (h'.push fo):={
    gnd:=λ b ob e=>gl b ob (iv.ok.gnd b ob e)
    sub:=λ b ob e=>by
      by_cases z:b=h'.objs.size
      . subst z; rw [gset_self] at e; cases e; exact Heap.get?_push_size _ hnf
      . rw [gset_ne z] at e
        by_cases z2:b=c'
        . subst z2; rw [gset_self] at e; cases e; exact Heap.get?_push_of_some _ hoc
        . rw [gset_ne z2] at e
          exact kept b ob (λ w=>by rw [w,iv.ok.off q hq] at e; cases e) (iv.ok.sub b ob e)
    tab:=λ q' hq'=>by
      by_cases z:q'.P=q.P
      . have:=G.tabInj q' hq' q hq z
        subst this
        exact ⟨_,Heap.get?_push_of_some _ hP,.inr ⟨c',oc,vs,t,rfl,by rw [gset_ne hac]; exact gset_self ..,hvs,hv1⟩⟩
      . obtain ⟨ps,e,r⟩:=iv.ok.tab q' hq'
        exact TabOk.gmono gl ⟨ps,kept _ _ z e,r⟩
    off:=λ q' hq'=>by
      obtain ⟨ob,e⟩:=tabIn q' hq'
      rw [gset_ne (λ z=>by rw [z,ha0] at e; cases e),gset_ne (λ z=>by rw [z,hc0] at e; cases e)]
      exact iv.ok.off q' hq' }
  have st2:Step G (λ _=>False) g h (gset (gset g c' oc) h'.objs.size fo) (h'.push fo):={
    gle:=gl
    kept:=λ b o _ nt e=>kept b o (λ z=>nt ⟨q,hq,z.symm⟩) e
    fresh:=λ b o e=>by
      by_cases z:b=h'.objs.size
      . subst z; exact .inr (.inl ha0)
      . rw [gset_ne z] at e
        by_cases z2:b=c'
        . subst z2; exact .inr (.inl hc0)
        . rw [gset_ne z2] at e; exact .inl e
    nf:=λ b o e hn=>by
      by_cases z:b=q.P
      . subst z; rw [hps] at e; cases e; exact absurd rfl (hn #[])
      . exact ⟨o,kept b o z e,hn⟩ }
  refine ⟨_,iv.called ok2 st2,st2.weaken λ b hb=>hb.elim,.clo (gset_self ..) hcls hd hfd hcode (by rw [gset_ne hac]; exact gset_self ..) hvs (hqual ▸ hv1) hfr (RepC.mono gl hC)⟩
theorem fn_hit {env:Env} {g:Gh} {h h':Heap} {qual:Str} {c':Addr} {oc:Obj} {vs:Array Value} {t:Tok} {fo:Obj} {fd:FuncData} {fi:FI} {Xs:List V} (iv:Inv G Φ env ρ β g h)
    (hx:∀ b o,h.get? b=some o->h'.get? b=some o) (hsz:h.objs.size<=h'.objs.size) (hoc:g c'=some oc) (hvs:oc.data=.fields vs) (hv1:vs[1]?=some (.str qual t))
    (hcls:fo.cls=.type "function") (hd:fo.data=.func fd) (hfd:CloFd fi fd) (hcode:fd.code=.ref c') (hqual:fi.qual=qual) (hfr:fd.closure.map (·.1)=fi.frees) (hC:RepC g (fd.closure.map (·.2)) Xs) :
    ∃ g',Inv G Φ env ρ β g' (h'.push fo)/\Step G (Mut env ρ) g h g' (h'.push fo)/\Rep g' (.ref h'.objs.size) (.clo fi Xs):=by
  have x1:Ext G g h g h':=Ext.grown iv.ok ⟨hx⟩
  have hnf:fo.isFreed=false:=by obtain ⟨fo1,fo2,fo3,fo4⟩:=fo; dsimp only at hd; subst hd; rfl
  have x2:Ext G g h' (gset g h'.objs.size fo) (h'.push fo):=Ext.alloc x1.ok fo hnf (λ ps z=>by rw [z] at hcls; cases hcls)
  have x:=x1.trans x2
  have ga:g h'.objs.size=none:=iv.ok.new (get?_over _ _ hsz)
  have gl:GLe g (gset g h'.objs.size fo):=gset_le (.inl ga)
  exact ⟨_,x.inv iv,x.step,.clo (gset_self ..) hcls hd hfd hcode (gl _ _ hoc) hvs (hqual ▸ hv1) hfr (RepC.mono gl hC)⟩
theorem builtinsAt {g:Gh} {h:Heap} {q:TabI} (ok:Ok G g h) (hq:q∈G.tabs):h.BuiltinsAt G.mg q.P:=by
  obtain ⟨bm,ob,e1,e2,e3,e4,e5,e6⟩:=G.bmain
  refine ⟨bm,ob,e1,e2,λ z=>?_,λ z=>?_,ok.sub _ _ (ok.gnd _ _ e3),e4,e5,e6⟩
  . obtain ⟨o,es,ep,e,d,_⟩:=G.ng
    rw [<- z,e3] at e; cases e; rw [e6] at d; cases d
  . rw [z,G.tabOff q hq] at e3; cases e3
theorem mk_fun {A:Around} {env:Env} {g:Gh} {s:Shared} {q:TabI} {name:Str} {params:Arguments} {body:FuncBody} {scope:Scope} {pos:Pos} {fl:Nat} {cl:List (Str × Addr)} {fr:List Str} {Xs:List V} {Q:Value->Shared->Prop} {E:Value->Shared->Prop}
    (eo:EnvOk Φ env) (iv:Inv G Φ env ρ β g s.heap) (hc:env.code=.ref q.c) (hq:q∈G.tabs) (hpos:q.pos=pos) (hcl:closureFor scope env=pure cl) (hfr:cl.map (·.1)=fr) (hC:RepC g (cl.map (·.2)) Xs)
    (kk:∀ a g' h' tk,Inv G Φ env ρ β g' h'->Step G (Mut env ρ) g s.heap g' h'->Rep g' (.ref a) (.clo ⟨q.qual,params,body,scope,fr⟩ Xs)->Q (.ref a) (at_ s h' tk)) :
    wpAny (model G.prog G.w) A (makeFunction name q.qual params body scope env [] [] [] pos fl) Q E s:=by
  subst hpos
  obtain ⟨ps,hP,hps⟩:=iv.ok.tab q hq
  have C:CodeHd s.heap q.c q.P:=(G.codes q hq).keeps λ b o e=>iv.ok.sub b o (iv.ok.gnd b o e)
  have hgP:mainGlobals≠q.P:=λ z=>by
    obtain ⟨o,es,ep,e,d,_⟩:=G.ng
    rw [z,G.tabOff q hq] at e; cases e
  have hb:=builtinsAt iv.ok hq
  cases body with
  | stmts body =>
    rcases hps with rfl | ⟨c',oc,vs,t,rfl,hoc,hvs,hv1⟩
    . refine makeFunction_K hcl eo.globals iv.ok.ns hc C hP trivial rfl hgP hb λ c' ctv doc h' tk hx hge hlt hrec hP'=>?_
      obtain ⟨g',iv',st',r⟩:=fn_new (fi:=⟨q.qual,params,.stmts body,scope,fr⟩) (fo:=fnMade name q.qual params body scope cl doc ((G.mg "__name__").getD .none) c' ctv) iv hq hP hx hge (Nat.le_of_lt (Nat.lt_of_le_of_lt hge hlt)) hrec hP' rfl rfl ⟨rfl,rfl,rfl,rfl,rfl,rfl,rfl,rfl⟩ rfl rfl hfr hC
      exact kk _ g' _ tk iv' st' r
    . refine makeFunction_hit (cv:=.ref c') hcl eo.globals iv.ok.ns hc C hP (by simp [TriplesOk,rawInt]) (by simp [codeAmong,rawInt]) hb λ ctv doc h' tk hx hsz=>?_
      obtain ⟨g',iv',st',r⟩:=fn_hit (fi:=⟨q.qual,params,.stmts body,scope,fr⟩) (fo:={ cls:=.type "function",data:=.func (fnX name q.qual params body scope cl .none .none doc ((G.mg "__name__").getD .none) none (.ref c') ctv) }) iv hx hsz hoc hvs hv1 rfl rfl ⟨rfl,rfl,rfl,rfl,rfl,rfl,rfl,rfl⟩ rfl rfl hfr hC
      exact kk _ g' _ tk iv' st' r
  | expr body =>
    rcases hps with rfl | ⟨c',oc,vs,t,rfl,hoc,hvs,hv1⟩
    . refine kla_makeFunction hcl eo.globals iv.ok.ns hc C hP trivial rfl hgP hb λ c' ctv h' tk hx hge hlt hrec hP'=>?_
      obtain ⟨g',iv',st',r⟩:=fn_new (fi:=⟨q.qual,params,.expr body,scope,fr⟩) (fo:=kla_obj name q.qual params body scope cl ((G.mg "__name__").getD .none) c' ctv) iv hq hP hx hge (Nat.le_of_lt (Nat.lt_of_le_of_lt hge hlt)) hrec hP' rfl rfl ⟨rfl,rfl,rfl,rfl,rfl,rfl,rfl,rfl⟩ rfl rfl hfr hC
      exact kk _ g' _ tk iv' st' r
    . refine kla_makeFunctionHit (cv:=.ref c') hcl eo.globals iv.ok.ns hc C hP (by simp [TriplesOk,rawInt]) (by simp [codeAmong,rawInt]) hb λ ctv h' tk hx hsz=>?_
      obtain ⟨g',iv',st',r⟩:=fn_hit (fi:=⟨q.qual,params,.expr body,scope,fr⟩) (fo:={ cls:=.type "function",data:=.func (kla_fn name q.qual params body scope cl ((G.mg "__name__").getD .none) (.ref c') ctv) }) iv hx hsz hoc hvs hv1 rfl rfl ⟨rfl,rfl,rfl,rfl,rfl,rfl,rfl,rfl⟩ rfl rfl hfr hC
      exact kk _ g' _ tk iv' st' r
end
end A24
noncomputable section A25
noncomputable def freesOf (sc:Scope):List Str:=((sc.names.filter λ p=>kindIs p.2 .free).map (·.1)).reverse
section
variable {G:Gd} {Φ:Fm} {k:Nat} {ρ ρ':Loc} {β:List V}
theorem closure_fr0 {env:Env}:∀ (names:List (Str × NameKind)) (acc:List (Str × Addr)),(∀ x,(x,NameKind.free)∈names->∃ c,env.cells.lookup x=some c) ->
    ∃ cl,(forIn names acc λ x cs=>(do if x.2 == .free then pure (.yield ((x.1,<- cellOf env x.1) :: cs)) else pure (.yield cs):Sem (ForInStep (List (Str × Addr)))))=pure (cl ++ acc)/\cl.map (·.1)=((names.filter λ p=>kindIs p.2 .free).map (·.1)).reverse/\∀ p∈cl,env.cells.lookup p.1=some p.2
  | [],acc,_=>⟨[],rfl,rfl,λ p hp=>by cases hp⟩
  | (y,kd) :: r,acc,h=>by
    by_cases hk:kd=.free
    . subst hk
      obtain ⟨c,hc⟩:=h y (.head _)
      obtain ⟨cl,e,h1,h2⟩:=closure_fr0 r ((y,c) :: acc) λ x hx=>h x (.tail _ hx)
      refine ⟨cl ++ [(y,c)],?_,?_,λ p hp=>?_⟩
      . rw [List.forIn_cons,List.append_assoc]
        have:cellOf env y=pure c:=by unfold cellOf; rw [hc]
        simp only [beq_self_eq_true,if_true,this,pure_bind]
        exact e
      . rw [List.map_append,h1,List.filter_cons_of_pos (by rfl)]; simp
      . rcases List.mem_append.mp hp with q | q
        . exact h2 p q
        . rw [List.mem_singleton.mp q]; exact hc
    . obtain ⟨cl,e,h1,h2⟩:=closure_fr0 r acc λ x hx=>h x (.tail _ hx)
      have hb:(kd == NameKind.free)=false:=by simpa using hk
      refine ⟨cl,?_,?_,h2⟩
      . rw [List.forIn_cons,<- e]
        simp only [hb,Bool.false_eq_true,if_false,pure_bind]
      . rw [h1,List.filter_cons_of_neg (by cases kd <;> first | exact absurd rfl hk | exact Bool.false_ne_true)]
theorem closure_fr {env:Env} {scope:Scope} (h:∀ x,(x,NameKind.free)∈scope.names->∃ c,env.cells.lookup x=some c):∃ cl,closureFor scope env=pure cl/\cl.map (·.1)=freesOf scope/\∀ p∈cl,env.cells.lookup p.1=some p.2:=by
  refine hid λ _ uQ=>?_
  obtain ⟨cl,e,h1,h2⟩:=closure_fr0 scope.names [] h
  refine uQ ?_
  refine ⟨cl,?_,h1,h2⟩
  rw [List.append_nil] at e
  rw [<- e]
  unfold closureFor
  simp only [bind_pure]
theorem mem_frees {sc:Scope} {x:Str} (h:(x,NameKind.free)∈sc.names):x∈freesOf sc:=by
  unfold freesOf
  rw [List.mem_reverse]
  exact List.mem_map.mpr ⟨(x,.free),List.mem_filter.mpr ⟨h,by rfl⟩,rfl⟩
theorem FreezeAll.mem {fr:List Str} {Xs:List V} {r r':Loc} (h:FreezeAll fr Xs r r'):∀ x∈fr,x∈r.map (·.1):=by
  induction h with
  | nil=>exact λ x hx=>nomatch hx
  | cons hset hf ih =>
    intro x hx
    rcases List.mem_cons.mp hx with e | hx
    . exact e ▸ List.mem_map_of_mem (f:=(·.1)) hset.mem_old
    . have:=ih x hx
      rwa [hset.keys] at this
theorem mk_nest {A:Around} {env:Env} {g:Gh} {s:Shared} {q:TabI} {qn:Str} {name:Str} {params:Arguments} {body:FuncBody} {scope:Scope} {pos:Pos} {fl:Nat} {Xs:List V} {Q:Value->Shared->Prop} {E:Value->Shared->Prop}
    (eo:EnvOk Φ env) (iv:Inv G Φ env ρ β g s.heap) (hpl:Φ.plain=true) (hc:Φ.code=some (.ref q.c,qn)) (hq:q∈G.tabs) (hpos:q.pos=pos) (hfz:FreezeAll (freesOf scope) Xs ρ ρ') (hck:locOk Φ.scope (freesOf scope) .cell=true)
    (kk:∀ a g' h' tk,Inv G Φ env ρ' β g' h'->Step G (Mut env ρ) g s.heap g' h'->(∀ b,Mut env ρ' b->Mut env ρ b)->Rep g' (.ref a) (.clo ⟨q.qual,params,body,scope,freesOf scope⟩ Xs)->Q (.ref a) (at_ s h' tk)) :
    wpAny (model G.prog G.w) A (makeFunction name q.qual params body scope env [] [] [] pos fl) Q E s:=by
  have hkd:∀ x∈freesOf scope,env.kindOf x=some .cell:=λ x hx=>by
    unfold Env.kindOf; rw [eo.scope]; exact locOk_at hck hx
  obtain ⟨g1,iv1,st1,mg1,hcs⟩:=freeze_all eo hpl hfz iv λ x hx=>by rw [hkd x hx]; nofun
  obtain ⟨cl,e,h1,h2⟩:=closure_fr (env:=env) (scope:=scope) λ x hx=>by
    have hx':=mem_frees hx
    rcases eo.kinds x (by rw [<- iv.keys]; exact hfz.mem x hx') with z | ⟨_,z⟩
    . rw [hkd x hx'] at z; cases z
    . exact z
  exact mk_fun (s:=s) eo iv1 (eo.code _ _ hc).1 hq hpos e h1 (hcs cl h1 h2) λ a g' h' tk iv2 st2 r=>kk a g' h' tk iv2 (st1.trans st2 λ b hb=>.inl (mg1 b hb)) mg1 r
theorem WS_def {name qn:Str} {params:Arguments} {body:List Stmt} {scope:Scope} {pos:Pos} {q:TabI} {Xs:List V} {ρ1:Loc} {K} (hpl:Φ.plain=true) (hc:Φ.code=some (.ref q.c,qn)) (hq:q∈G.tabs) (hpos:q.pos=pos) (hqual:qn ++ name=q.qual)
    (hnk:Φ.scope.names.lookup name=some .local) (hfz:FreezeAll (freesOf scope) Xs ρ ρ1) (hck:locOk Φ.scope (freesOf scope) .cell=true)
    (hd0:params.defaults=[]) (hk0:params.kw_defaults=[]) (ha:∀ env,annTrees params none env=[])
    (h:∃ d ρ2,SetAt name (.val (.clo ⟨q.qual,params,.stmts body,scope,freesOf scope⟩ Xs)) ρ1 d ρ2/\d.isRo=false/\K .next ρ2 β):WS G Φ k (.FunctionDef name params body [] none [] scope none name pos) ρ β K :=
  λ A env g s Q E rm eo iv kk=>by
    refine nestDef_K hd0 hk0 (ha env) ?_
    have e:qualnameIn env name name=q.qual:=by
      unfold qualnameIn
      have:env.kindOf name=some .local:=by unfold Env.kindOf; rw [eo.scope]; exact hnk
      rw [this,(eo.code _ _ hc).2]
      exact (if_neg (by decide)).trans hqual
    rw [e]
    refine hid λ _ uQ=>?_
    obtain ⟨d,ρ2,hset,hd,hk⟩:=h
    refine uQ ?_
    refine mk_nest eo iv hpl hc hq hpos hfz hck λ a g1 h1 tk1 iv1 st1 mg1 r=>?_
    refine store_ok (s:=at_ s h1 tk1) (c:=.val (.clo ⟨q.qual,params,.stmts body,scope,freesOf scope⟩ Xs)) eo iv1 hset hd hpl r (λ _ hb=>addrs_val hb) λ h2 tk2 iv2 st2 mg2=>?_
    exact kk .next .next ρ2 β g1 h2 tk2 hk iv2 trivial (st1.trans st2 λ b hb=>.inl (mg1 b hb)) λ b hb=>(mg2 b hb).elim (λ z=>.inl (mg1 b z)) λ z=>addrs_val z
theorem spec_clo {fi:FI} {body:List Stmt} {ps ls:List Str} {Xs xs:List V} {P:V->Prop} (hb:fi.body=.stmts body) (h1:parOk fi.params ps=true) (h2:scoOk fi.scope=true) (h3:locOk fi.scope (ps ++ ls) .local=true) (h4:locOk fi.scope fi.frees .free=true) (h5:noCells fi.scope=true)
    (h6:(ps ++ ls ++ fi.frees).Nodup) (hl:xs.length=ps.length) (h:WSs G ⟨fi.scope,ps ++ ls ++ fi.frees,fi.frees.isEmpty,none⟩ k body (ps.zip (xs.map .val) ++ ls.map (·,.un) ++ fi.frees.zip (Xs.map .ro)) [] (RetK P)):Spec G (k + 1) (.clo fi Xs) xs P :=
  λ A g s f vs Q E rm ok rf rs kk=>by
    cases rf with
    | @clo a o fd _ _ c oc ws t e1 e2 e3 e4 e5 e6 e7 e8 e9 r =>
      have eo:=ok.sub _ _ e1
      have hcd:s.heap.CodeRec fd.code fd.qualname:=⟨c,oc,ws,t,e5,ok.sub _ _ e6,e7,by rw [e4.qual]; exact e8⟩
      refine enter (Φ:=⟨fi.scope,ps ++ ls ++ fi.frees,fi.frees.isEmpty,none⟩) (β:=[]) (Xs:=Xs) (cs:=xs.map .val) (fr:=fi.frees) rm ok eo e3
        ⟨by rw [e4.body,hb],by rw [e4.params]; exact h1,by rw [e4.scope]; exact h2,by rw [e4.scope]; exact h3,by rw [e4.scope]; exact h4,by rw [e4.scope]; exact h5,h6,e4.globals,e4.builtins,e4.defaults,e9⟩ hcd (.vals rs) (by rw [rs.length,hl]) (by rw [addrsAll_none]; exact .nil) r (by rw [e4.scope]) h λ env fl fo ρ' β' g' h' tk hK iv fr st mg=>?_
      rw [addrsAll_none] at st mg
      have st':Step G (λ _=>False) g s.heap g' h':=st.weaken λ b hb=>by cases hb
      cases fo with
      | next=>refine FlRep.next_e fr ?_; exact kk _ _ g' h' tk hK iv.ok .none st'
      | ret x=>refine FlRep.ret_e fr λ v fr=>?_; exact kk _ _ g' h' tk hK iv.ok fr st'
      | reto a' ys =>
        refine FlRep.reto_e fr λ fr=>?_
        refine hid λ _ uQ=>?_
        obtain ⟨_,hg,hm,ws,n,ha,r⟩:=fr
        have hn:s.heap.get? a'=none:=(mg a' hm).elim (λ z=>by cases z) id
        obtain ⟨k1,k2,k3⟩:=reto_val (env:=env) iv.ok st' hg hn ha r
        refine uQ ?_
        exact kk _ _ _ h' tk hK k1 k3 k2
      | _=>exact hK.elim
end
end A25
noncomputable section A26
end A26
noncomputable section A27
noncomputable abbrev bmE:List Value:=[.type "Exception",.type "BaseException",.type "object"]
noncomputable abbrev IsExc (G:Gd) (x:Str) (C:Addr):Prop:=OwnClsQ x C bmE "Exception.__new__" G.mg G.gh
structure Tl (G:Gd) (h:Heap):Prop where
  gnd:∀ b o,G.gh.get? b=some o->h.get? b=some o
  tab:∀ q∈G.tabs,∃ ps,h.get? q.P=some (tabObj ps)
theorem Ok.tl {G:Gd} {g:Gh} {h:Heap} (ok:Ok G g h):Tl G h:=⟨λ b o e=>ok.sub b o (ok.gnd b o e),λ q hq=>let ⟨ps,e,_⟩:=ok.tab q hq; ⟨ps,e⟩⟩
theorem Tl.up {G:Gd} {base h:Heap} (t:Tl G base) (k:base.StaysIn h):Tl G h:=⟨λ b o e=>k b o (t.gnd b o e),λ q hq=>let ⟨ps,e⟩:=t.tab q hq; ⟨ps,k _ _ e⟩⟩
noncomputable def Fly (G:Gd) (C:Addr) (l:List Env) (e:Addr) (h:Heap):Prop:=∃ base a0,Tl G base/\Heap.FlyingW base l e (.ref C) a0 h
noncomputable def XP (G:Gd) (C:Addr) (l:List Env) (e:Addr) (h':Heap):Prop:=Fly G C l e h'\/∃ h g vs,Ok G g h/\h.FunFrames G.gh l/\Heap.MadeExcOf h h' e (.ref C) vs
open Classical in
theorem base_of {G:Gd} {g:Gh} {h:Heap} {l:List Env} (ok:Ok G g h) (hl:h.FunFrames G.gh l):∃ base:Heap,base.StaysIn h/\Tl G base/\h.FunFrames base l:=by
  let L:=(List.range h.objs.size).filter λ b=>decide (¬ (∃ o,G.gh.get? b=some o)/\¬ G.isTab b)
  have notL:∀ b,((∃ o,G.gh.get? b=some o)\/G.isTab b)->b ∉ L:=λ b hb hm=>by
    have:=(List.mem_filter.mp hm).2
    simp only [decide_eq_true_eq] at this
    exact hb.elim this.1 this.2
  refine ⟨hideAll h L,λ b o e=>of_hideAll _ e,⟨λ b o e=>hideAll_get _ (ok.sub b o (ok.gnd b o e)) (notL b (.inl ⟨o,e⟩)),λ q hq=>?_⟩,?_⟩
  . obtain ⟨ps,e,_⟩:=ok.tab q hq
    exact ⟨ps,hideAll_get _ e (notL _ (.inr ⟨q,hq,rfl⟩))⟩
  . induction l with
    | nil=>trivial
    | cons env l ih =>
      refine hid λ _ uQ=>?_
      obtain ⟨hk,⟨A,o,hf,hn,ho,hd⟩,hr⟩:=hl
      refine uQ ?_
      refine ⟨hk,⟨A,o,hf,hideAll_none _ (List.mem_filter.mpr ⟨List.mem_range.mpr (Heap.lt_size ho),?_⟩),ho,hd⟩,ih hr⟩
      simp only [decide_eq_true_eq]
      refine ⟨λ z0=>z0.elim λ o' e=>(by rw [hn] at e; cases e),λ z0=>z0.elim λ q z0=>z0.elim λ hq e=>?_⟩
      obtain ⟨ps,e2,_⟩:=ok.tab q hq
      rw [e,ho] at e2; cases e2; exact hd ps rfl
theorem leave_x {G:Gd} {M:Model} {A:Around} {s:Shared} {C e:Addr} {env:Env} {outer:List Env} {Q:Unit->Shared->Prop} {E:Value->Shared->Prop} (hfr:A.frames=some (env :: outer)) (hx:XP G C (env :: outer) e s.heap)
    (hQ:∀ h',Fly G C outer e h'->Q () { s with heap:=h' }):wpAny M A (leaving env (.ref e)) Q E s:=by
  rcases hx with ⟨base,a0,tl,hf⟩ | ⟨h,g,vs,ok,hl,hm⟩
  . refine hid λ _ uQ=>?_
    obtain ⟨_,⟨L,_,hL,_⟩,_⟩:=hf.2.2.1
    refine uQ ?_
    exact wpAny_leaves_onW hfr hL hf λ h' hf' _=>hQ h' ⟨base,a0,tl,hf'⟩
  . refine hid λ _ uQ=>?_
    obtain ⟨base,k,tl,hl⟩:=base_of ok hl
    obtain ⟨t,he,_,_⟩:=hm.there
    refine uQ ?_
    have hen:base.get? e=none:=by
      cases hq:base.get? e with
      | none=>rfl
      | some o'=>have:=k e o' hq; rw [hm.new] at this; cases this
    have hl':=hl
    refine hid λ _ uQ=>?_
    obtain ⟨_,⟨L,_,hL,_⟩,_⟩:=hl'
    refine uQ ?_
    refine wpAny_leaving_firstW hfr (hl.of_keeps λ b o hb _=>⟨o,hm.keeps b o hb,rfl⟩) hL he (λ b o hb=>hm.keeps b o (k b o hb)) hen rfl rfl rfl λ h' hLW=>?_
    refine hid λ _ uQ=>?_
    obtain ⟨k1,⟨_,_,k2⟩,k3,_⟩:=hLW
    refine uQ ?_
    exact hQ h' ⟨base,_,tl,k1,hen,k2,k3⟩
section
variable {G:Gd} {Φ:Fm} {k:Nat} {ρ ρ':Loc} {β:List V} {C:Addr}
noncomputable def SpecX (G:Gd) (k:Nat) (fv:V) (xs:List V) (C:Addr):Prop :=
  ∀ (A:Around) (g:Gh) (s:Shared) (f:Value) (vs:List Value) (Q:Value->Shared->Prop) (E:Value->Shared->Prop),Rm G k A s.heap->Ok G g s.heap->Rep g f fv->RepL g vs xs ->
    (∀ e h' tk l,A.frames=some l->Fly G C l e h'->E (.ref e) (at_ s h' tk))->wpAny (model G.prog G.w) A (call f vs) Q E s
noncomputable def SpecTl (G:Gd) (k:Nat) (fv:V) (xs:List V):Prop :=
  ∀ (A:Around) (g:Gh) (s:Shared) (f:Value) (vs:List Value) (Q:Value->Shared->Prop) (E:Value->Shared->Prop),Rm G k A s.heap->Ok G g s.heap->Rep g f fv->RepL g vs xs ->
    (∀ h' tk,Tl G h'->Q (.bool true) (at_ s h' tk))->wpAny (model G.prog G.w) A (call f vs) Q E s
noncomputable def WEX (G:Gd) (Φ:Fm) (k:Nat) (ex:Expr) (ρ:Loc) (β:List V) (C:Addr):Prop :=
  ∀ (A:Around) (env:Env) (g:Gh) (s:Shared) (Q:Value->Shared->Prop) (E:Value->Shared->Prop),Rm G k A s.heap->EnvOk Φ env->Inv G Φ env ρ β g s.heap ->
    (∀ e h' tk l,A.frames=some l->Fly G C l e h'->E (.ref e) (at_ s h' tk))->wpAny (model G.prog G.w) A (eval ex env) Q E s
noncomputable def WSX (G:Gd) (Φ:Fm) (k:Nat) (st:Stmt) (ρ:Loc) (β:List V) (C:Addr):Prop :=
  ∀ (A:Around) (env:Env) (g:Gh) (s:Shared) (Q:Flow->Shared->Prop) (E:Value->Shared->Prop),Rm G k A s.heap->EnvOk Φ env->Inv G Φ env ρ β g s.heap ->
    (∀ e h' tk l,A.frames=some l->XP G C l e h'->E (.ref e) (at_ s h' tk))->wpAny (model G.prog G.w) A (exec st env) Q E s
noncomputable def WSsX (G:Gd) (Φ:Fm) (k:Nat) (st:List Stmt) (ρ:Loc) (β:List V) (C:Addr):Prop :=
  ∀ (A:Around) (env:Env) (g:Gh) (s:Shared) (Q:Flow->Shared->Prop) (E:Value->Shared->Prop),Rm G k A s.heap->EnvOk Φ env->Inv G Φ env ρ β g s.heap ->
    (∀ e h' tk l,A.frames=some l->XP G C l e h'->E (.ref e) (at_ s h' tk))->wpAny (model G.prog G.w) A (execs st env) Q E s
theorem WSsX_here {st:Stmt} {rest:List Stmt} (h:WSX G Φ k st ρ β C):WSsX G Φ k (st :: rest) ρ β C :=
  λ A env g s Q E rm eo iv kk=>wpAny_execs_cons (h A env g s _ E rm eo iv kk)
theorem WSX_if {t:Expr} {a b:List Stmt} {pos} (h:WT G Φ k t ρ β (λ β1=>WSsX G Φ k a ρ β1 C) (λ β1=>WSsX G Φ k b ρ β1 C)):WSX G Φ k (.If t a b pos) ρ β C :=
  λ A env g s Q E rm eo iv kk=>wpAny_If (h A env g s _ E rm eo iv λ c β1 g1 h1 tk1 ht hf iv1 st1=>by
    cases c with
    | true=>exact ht rfl A env g1 _ Q E (rm.step st1) eo iv1 λ e h' tk l hl hx=>kk e h' tk l hl hx
    | false=>exact hf rfl A env g1 _ Q E (rm.step st1) eo iv1 λ e h' tk l hl hx=>kk e h' tk l hl hx)
theorem WEX_call {f:Str} {p:Pos} {args:List Expr} {pos} (h:WE G Φ k (.Name f p) ρ β λ fv β1=>IsFn G fv/\WL G Φ k args ρ β1 λ xs β2=>SpecX G k fv xs C) (hns:args.all noStar=true):WEX G Φ k (.Call (.Name f p) args [] pos) ρ β C :=
  λ A env g s Q E rm eo iv kk=>Call_ (h A env g s _ E rm eo iv λ vf fv β1 g1 h1 tk1 z0 iv1 rf st1=>z0.elim λ hfn hl=>by
    refine hid λ _ uQ=>?_
    obtain ⟨a,o,fd,rfl,ho,hd⟩:=hfn.obj iv1.ok rf
    refine uQ ?_
    exact callWith_any hd (iv1.ok.sub _ _ ho) hns (hl A env g1 _ _ _ E (rm.step st1) eo iv1 λ vs xs β2 g2 h2 tk2 hk iv2 rs st2 =>
      ⟨iv2.ok.sub _ _ (st2.gle _ _ ho),hk A g2 _ _ vs Q E ((rm.step st1).step st2) iv2.ok (rf.mono st2.gle) rs λ e h' tk l hl hx=>kk e h' tk l hl hx⟩))
theorem WSX_expr {f:Expr} {args:List Expr} {kw:List Keyword} {p pos:Pos} (h:WEX G Φ k (.Call f args kw p) ρ β C):WSX G Φ k (.Expr (.Call f args kw p) pos) ρ β C :=
  λ A env g s Q E rm eo iv kk=>wpAny_Expr (h A env g s _ E rm eo iv λ e h' tk l hl hx=>kk e h' tk l hl (.inl hx)) (by unfold interactive; rw [eo.fn]; rfl) (swaps_no rfl ..)
theorem leave_E {A:Around} {s:Shared} {E:Value->Shared->Prop} (kk:∀ e h' tk l,A.frames=some l->Fly G C l e h'->E (.ref e) (at_ s h' tk)) {env:Env} {e:Addr} {h':Heap} {tk:Nat} {l:List Env} (hl:(A.deeper env).frames=some l) (hx:XP G C l e h') :
    wpAny (model G.prog G.w) (A.deeper env) (leaving env (.ref e)) (λ _ s''=>E (.ref e) s'') (λ e' s''=>E e' s'') (at_ s h' tk):=by
  have e1:(A.deeper env).frames=A.frames.map (env :: ·):=rfl
  rw [e1] at hl
  obtain ⟨outer,ho,rfl⟩:=Option.map_eq_some_iff.mp hl
  exact leave_x (Around.frames_deeper ho) hx λ h2 hf=>kk e h2 tk outer ho hf
theorem specX_def {d:DefRec} {ps ls:List Str} {xs:List V} (hd:IsDef G d) (fm:fmOk d.params d.scope ps ls=true) (hl:xs.length=ps.length)
    (h:WSsX G ⟨d.scope,ps ++ ls,true,none⟩ k d.body (ps.zip (xs.map .val) ++ ls.map (·,.un)) [] C):SpecX G (k + 1) (fnv G d.name) xs C :=
  λ A g s f vs Q E rm ok rf rs kk=>by
    refine hid λ _ uQ=>?_
    obtain ⟨a,o,pm,cd,doc,e1,e2,e3,e4⟩:=hd
    refine uQ ?_
    obtain rfl:=rf.fnv_inv e1
    have old:∀ b o,G.gh.get? b=some o->s.heap.get? b=some o:=λ b o e=>ok.sub b o (ok.gnd b o e)
    refine enterR (Φ:=⟨d.scope,ps ++ ls,true,none⟩) (β:=[]) (Xs:=[]) (cs:=xs.map .val) (λ _ _=>False) (λ env v s'=>∃ e h' tk l,v=.ref e/\s'=at_ s h' tk/\(A.deeper env).frames=some l/\XP G C l e h') rm ok (old _ _ e2) e3 (fmOk_parts fm) (e4.keeps old) (.vals rs) (by rw [rs.length,hl]) (by rw [addrsAll_none]; exact .nil) .nil (by rw [List.append_nil]; rfl) ?_ (λ _ _ z=>z.elim) ?_
    . intro env h1 rm1 eo iv grow hcl mutE tk1 Q' E' _ hE
      exact h (A.deeper env) env g _ Q' E' rm1 eo (by simpa using iv) λ e h' tk l hl hx=>hE _ _ ⟨e,h',tk,l,rfl,rfl,hl,hx⟩
    . intro env v s' zQ3
      refine hid λ _ uQ=>?_
      obtain ⟨e,h',tk,l,rfl,rfl,hl,hx⟩:=zQ3
      refine uQ ?_
      exact leave_E kk hl hx
end
end A27
noncomputable section A28
structure FdOkE (fd:FuncData) (body:Expr) (ps ls fr:List Str):Prop where
  body:fd.body=.expr body
  f:FdF fd ps ls fr
section
variable {G:Gd} {Φ:Fm} {k:Nat} {ρ ρ':Loc} {β:List V} {C:Addr}
theorem enterE {A:Around} {g:Gh} {s:Shared} {a:Addr} {o:Obj} {fd:FuncData} {body:Expr} {ps ls fr:List Str} {vs:List Value} {cs:List Cell} {Xs:List V} {Q:Value->Shared->Prop} {E:Value->Shared->Prop} (PR:Value->Shared->Prop) (PE:Env->Value->Shared->Prop)
    (rm:Rm G (k + 1) A s.heap) (ok:Ok G g s.heap) (ho:s.heap.get? a=some o) (hd:o.data=.func fd) (fo:FdOkE fd body ps ls fr) (hcd:s.heap.CodeRec fd.code fd.qualname)
    (hargs:ArgsOk g s.heap β vs cs) (hlen:vs.length=ps.length) (hap:(cs.flatMap (·.addrs)).Nodup) (hC:RepC g (fd.closure.map (·.2)) Xs)
    (hΦ:Φ=⟨fd.scope,ps ++ ls ++ fr,fr.isEmpty,none⟩)
    (hrun:Enter G Φ k A fd g s.heap (ps.zip cs ++ ls.map (·,.un) ++ fr.zip (Xs.map .ro)) β cs λ env h1=>∀ tk1 (Q':Value->Shared->Prop) (E':Value->Shared->Prop),(∀ fl s',PR fl s'->Q' fl s')->(∀ e s',PE env e s'->E' e s')->wpAny (model G.prog G.w) (A.deeper env) (eval body env) Q' E' (at_ s h1 tk1))
    (kk:∀ fl s',PR fl s'->Q fl s')
    (kkE:∀ env e s',PE env e s'->wpAny (model G.prog G.w) (A.deeper env) (leaving env e) (λ _ s''=>E e s'') (λ e' s''=>E e' s'') s') :
    wpAny (model G.prog G.w) A (call (.ref a) vs) Q E s:=by
  have so:=sco_ok fo.f.sco
  refine wpAny_call (kla_callFunE rm.room ho hd so.co so.gen fo.body hcd ?_)
  rw [parOk_bind fo.f.par fo.f.dfl hlen]
  refine wpAny_pure (wpAny_newFunctionEnv (noc_ok fo.f.noc) (λ x hx=>locOk_at fo.f.loc (List.mem_append_left _ (zip_fst ps vs hlen.symm ▸ List.mem_map_of_mem (f:=(·.1)) hx))) (λ h1 hns hsb=>⟨ok.nolim.fresh _ hsb,?_⟩) so.kind)
  have grow:Grow s.heap h1:=⟨λ b ob e=>hsb.extBut b ob (Nat.ne_of_lt (Heap.lt_size e)) (Heap.get?_push_of_some _ e)⟩
  show codeAny _ _ (.expr body _) _ _
  exact kla_codeExpr (enter_of fo.f ⟨rfl,rfl,rfl,rfl,rfl,λ _=>rfl⟩ rfl rm ok hargs hlen hap hC grow hns hΦ hrun _ _ _ (λ fl s' hp=>kk fl s' hp) λ e s' hp=>kkE _ e s' hp)
theorem specX_lam {fi:FI} {ex:Expr} {Xs:List V} (hb:fi.body=.expr ex) (h1:parOk fi.params []=true) (h2:scoOk fi.scope=true) (h4:locOk fi.scope fi.frees .free=true) (h5:noCells fi.scope=true) (h6:fi.frees.Nodup)
    (h:WEX G ⟨fi.scope,fi.frees,fi.frees.isEmpty,none⟩ k ex (fi.frees.zip (Xs.map .ro)) [] C):SpecX G (k + 1) (.clo fi Xs) [] C :=
  λ A g s f vs Q E rm ok rf rs kk=>by
    cases rs
    cases rf with
    | @clo a o fd _ _ c oc ws t e1 e2 e3 e4 e5 e6 e7 e8 e9 r =>
      have eo:=ok.sub _ _ e1
      have hcd:s.heap.CodeRec fd.code fd.qualname:=⟨c,oc,ws,t,e5,ok.sub _ _ e6,e7,by rw [e4.qual]; exact e8⟩
      refine enterE (Φ:=⟨fi.scope,[] ++ [] ++ fi.frees,fi.frees.isEmpty,none⟩) (β:=[]) (Xs:=Xs) (cs:=[]) (ps:=[]) (ls:=[]) (fr:=fi.frees) (λ _ _=>False) (λ env v s'=>∃ e h' tk l,v=.ref e/\s'=at_ s h' tk/\(A.deeper env).frames=some l/\XP G C l e h') rm ok eo e3
        ⟨by rw [e4.body,hb],⟨by rw [e4.params]; exact h1,by rw [e4.scope]; exact h2,rfl,by rw [e4.scope]; exact h4,by rw [e4.scope]; exact h5,by simpa using h6,e4.globals,e4.builtins,e4.defaults,e9⟩⟩ hcd trivial rfl .nil r (by rw [e4.scope]) ?_ (λ _ _ z=>z.elim) ?_
      . intro env h1 rm1 eo iv grow hcl mutE tk1 Q' E' _ hE
        exact h (A.deeper env) env g _ Q' E' rm1 (by simpa using eo) (by simpa using iv) λ e h' tk l hl hx=>hE _ _ ⟨e,h',tk,l,rfl,rfl,hl,.inl hx⟩
      . intro env v s' zQ3
        refine hid λ _ uQ=>?_
        obtain ⟨e,h',tk,l,rfl,rfl,hl,hx⟩:=zQ3
        refine uQ ?_
        exact leave_E kk hl hx
theorem specTl_try {d:DefRec} {ps:List Str} {fv:V} {f x:Str} {p1 p2 p3 p4 p5 p6 p7 np:Pos} {kd} {rest:List Stmt} (hd:IsDef G d) (fm:fmOk d.params d.scope [f] []=true) (hfn:IsFn G fv) (hx:SpecX G k fv [] C) (hC:IsExc G x C) (hxg:(x,NameKind.globalImplicit)∈d.scope.names)
    (hb:d.body=.Try [.Expr (.Call (.Name f p1) [] [] p2) p3] [.ExceptHandler (some (.Name x np)) none [.Return (some (.Constant (.bool true) kd p4)) p5] p6] [] [] p7 :: rest):SpecTl G (k + 1) (fnv G d.name) [fv] :=
  λ A g s fu vs Q E rm ok rf rs kk=>by
    refine hid λ _ uQ=>?_
    obtain ⟨a,o,pm,cd,doc,e1,e2,e3,e4⟩:=hd
    refine uQ ?_
    obtain rfl:=rf.fnv_inv e1
    have old:∀ b o,G.gh.get? b=some o->s.heap.get? b=some o:=λ b o e=>ok.sub b o (ok.gnd b o e)
    refine enterR (Φ:=⟨d.scope,[f] ++ [],true,none⟩) (β:=[]) (Xs:=[]) (cs:=[fv].map .val) (λ fl s'=>fl=.ret (.bool true)/\∃ h' tk,s'=at_ s h' tk/\Tl G h') (λ _ _ _=>False) rm ok (old _ _ e2) e3 (fmOk_parts fm) (e4.keeps old) (.vals rs) (by rw [rs.length]; rfl) (by rw [addrsAll_none]; exact .nil) .nil (by rw [List.append_nil]; rfl) ?_ ?_ (λ _ _ _ z=>z.elim)
    . intro env h1 rm1 eo iv grow hcl mutE tk1 Q' E' hq _
      rw [hb]
      have iv':Inv G ⟨d.scope,[f] ++ [],true,none⟩ env [(f,.val fv)] [] g h1:=by simpa using iv
      refine wpAny_execs_cons (wpAny_Try_except (wpAny_execs_cons (wpAny_Expr ?_ (by unfold interactive; rw [eo.fn]; rfl) (swaps_no rfl ..))))
      refine WEX_call (WE_name (.head _) ⟨hfn,WL_nil hx⟩) rfl (A.deeper env) env g _ _ _ rm1 eo iv' λ e h' tk l hl z0=>hid λ _ uQ=>z0.elim λ base z0=>z0.elim λ a0 z0=>z0.elim λ tl hfl=>uQ <| ?_
      have e1:(A.deeper env).frames=A.frames.map (env :: ·):=rfl
      rw [e1] at hl
      refine hid λ _ uQ=>?_
      obtain ⟨outer,ho,rfl⟩:=Option.map_eq_some_iff.mp hl
      have hfr:=Around.frames_deeper (env:=env) ho
      obtain ⟨_,⟨L,_,hL,_⟩,_⟩:=hfl.2.2.1
      refine uQ ?_
      refine wpAny_looks_onW hfr hL hfl λ h4 hheld4 hsm4=>?_
      refine wpAny_landsW hheld4 λ h5 hheld hsm5=>?_
      have tl5:=tl.up hheld.1
      have ns5:h5.Ns mainGlobals G.mg:=G.ng.keeps λ b o e=>tl5.gnd b o e
      refine handleBy_own (x:=x) (bmB:=bmE) (newId := "Exception.__new__") (mg:=G.mg) (by decide) (Name_function_global eo.fn (eo.glob hxg) (loadGlobal_global (by rw [eo.globals]; exact ns5) hC.bound ⟨rfl,hC.keeps tl5.gnd,hheld.there,?_⟩) (eo.dbg (eo.glob hxg)).1)
      refine lands_againW hheld λ h6 hfl6 hsm6=>?_
      refine wpAny_execs_cons (wpAny_Return_some (Constant_bool ?_))
      exact hq (.ret (.bool true)) _ ⟨rfl,h6,tk,rfl,tl.up hfl6.1⟩
    . intro fl s' zQ2
      refine hid λ _ uQ=>?_
      obtain ⟨rfl,h',tk,rfl,t⟩:=zQ2
      refine uQ ?_
      exact kk h' tk t
noncomputable def WSsT (G:Gd) (Φ:Fm) (k:Nat) (st:List Stmt) (ρ:Loc) (β:List V):Prop :=
  ∀ (A:Around) (env:Env) (g:Gh) (s:Shared) (Q:Flow->Shared->Prop) (E:Value->Shared->Prop),Rm G k A s.heap->EnvOk Φ env->Inv G Φ env ρ β g s.heap ->
    (∀ h' tk,Tl G h'->Q (.ret (.bool true)) (at_ s h' tk))->wpAny (model G.prog G.w) A (execs st env) Q E s
noncomputable def TlK (G:Gd) (Φ:Fm) (k:Nat) (rest:List Stmt):Fl->Loc->List V->Prop
  | .next,ρ',β'=>WSsT G Φ k rest ρ' β'
  | .ret v,_,_=>v=.bool true
  | _,_,_=>False
theorem WSsT_cons {st:Stmt} {rest:List Stmt} (h:WS G Φ k st ρ β (TlK G Φ k rest)):WSsT G Φ k (st :: rest) ρ β :=
  λ A env g s Q E rm eo iv kk=>wpAny_execs_cons (h A env g s _ E rm eo iv λ fl f ρ1 β1 g1 h1 tk1 hk iv1 fr st1 mg1=>by
    cases f with
    | next =>
      refine FlRep.next_e fr ?_
      exact hk A env g1 _ Q E (rm.step st1) eo iv1 λ h' tk t=>kk h' tk t
    | ret x =>
      have hx:x=.bool true:=hk
      subst hx
      cases fl with
      | ret v =>
        have:v=.bool true:=by cases (show Rep _ v _ from fr); rfl
        subst this
        exact kk h1 tk1 iv1.ok.tl
      | _=>exact fr.elim
    | _=>exact hk.elim)
noncomputable def SpecTlB (G:Gd) (k:Nat) (fv:V) (xs ys:List V):Prop :=
  ∀ (A:Around) (g:Gh) (s:Shared) (f:Value) (a:Addr) (vs ws:List Value) (n:Nat) (Q:Value->Shared->Prop) (E:Value->Shared->Prop),Rm G k A s.heap->Ok G g s.heap->Rep g f fv->RepL g vs ys->s.heap.get? a=some (lsObj ws n)->RepL g ws xs->g a=none ->
    (∀ h' tk,Tl G h'->Q (.bool true) (at_ s h' tk))->wpAny (model G.prog G.w) A (call f (.ref a :: vs)) Q E s
theorem WSsT_retbox {f x:Str} {a:Addr} {p px:Pos} {args:List Expr} {pos pos2:Pos} {rest:List Stmt} (hm:(x,.box a)∈ρ) (h:WE G Φ k (.Name f p) ρ β λ fv β1=>IsFn G fv/\WL G Φ k args ρ β1 λ ys β2=>SpecTlB G k fv β2 ys) (hns:args.all noStar=true) :
    WSsT G Φ k (.Return (some (.Call (.Name f p) (.Name x px :: args) [] pos)) pos2 :: rest) ρ β :=
  λ A env g s Q E rm eo iv kk=>wpAny_execs_cons (wpAny_Return_some (Call_ (h A env g s _ E rm eo iv λ vf fv β1 g1 h1 tk1 z0 iv1 rf st1=>z0.elim λ hfn hl=>by
    refine hid λ _ uQ=>?_
    obtain ⟨af,o,fd,rfl,ho,hd⟩:=hfn.obj iv1.ok rf
    refine uQ ?_
    refine callWith_any hd (iv1.ok.sub _ _ ho) hns (args_cons (wpAny_Name (load_box (s:=at_ s h1 tk1) eo iv1 hm (hl A env g1 _ _ _ E (rm.step st1) eo iv1 λ vs ys β2 g2 h2 tk2 hk iv2 rs st2=>?_)) (eo.dbgk (iv.key hm))))
    refine ⟨iv2.ok.sub _ _ (st2.gle _ _ ho),?_⟩
    refine hid λ _ uQ=>?_
    obtain ⟨m,hn,hc⟩:=iv2.ns
    obtain ⟨_,ws,n,ea,la⟩:=hc _ hm
    refine uQ ?_
    have hmut:Mut env ρ a:=mut_addrs hm (.head _)
    exact hk A g2 _ _ a vs ws n _ E ((rm.step st1).step st2) iv2.ok (rf.mono st2.gle) rs ea la (iv2.off a hmut) λ h' tk t=>kk h' tk t)))
theorem WSsT_retlam {f:Str} {fa:Addr} {p pl pos pos2:Pos} {params:Arguments} {body:Expr} {scope:Scope} {rest:List Stmt} {q:TabI} {qn:Str} {Xs:List V} (hpl:Φ.plain=true) (hc:Φ.code=some (.ref q.c,qn)) (hq:q∈G.tabs) (hpos:q.pos=pl) (hqual:qn ++ "<lambda>" = q.qual)
    (hfz:FreezeAll (freesOf scope) Xs ρ ρ') (hck:locOk Φ.scope (freesOf scope) .cell=true) (hdef:∀ env,defaultsOf params env=([],[])) (hf:G.mg f=some (.ref fa)) (hfg:(f,NameKind.globalImplicit)∈Φ.scope.names) (hfn:IsFn G (.fn fa))
    (h:SpecTl G k (.fn fa) [.clo ⟨q.qual,params,.expr body,scope,freesOf scope⟩ Xs]):WSsT G Φ k (.Return (some (.Call (.Name f p) [.Lambda params body scope pl] [] pos)) pos2 :: rest) ρ β :=
  λ A env g s Q E rm eo iv kk=>by
    refine hid λ _ uQ=>?_
    obtain ⟨o,fd,ho,hd⟩:=hfn
    refine uQ ?_
    refine wpAny_execs_cons (wpAny_Return_some (Call_ (load_glob eo iv.ok hfg hf ?_)))
    refine callWith_any (first:=[]) hd (iv.ok.sub _ _ (iv.ok.gnd _ _ ho)) rfl (args_cons ?_)
    refine kla_eval (hdef env) ?_
    have eq:env.qual ++ "<lambda>" = q.qual:=by rw [(eo.code _ _ hc).2]; exact hqual
    rw [eq]
    refine mk_nest eo iv hpl hc hq hpos hfz hck λ a g1 h1 tk1 iv1 st1 mg1 r=>?_
    refine WL_nil (K:=λ xs b=>xs=[]) rfl A env g1 (at_ s h1 tk1) pos _ E (rm.step st1) eo iv1 λ vs xs β2 g2 h2 tk2 hx iv2 rs st2=>?_
    subst hx
    cases rs
    exact ⟨iv2.ok.sub _ _ (iv2.ok.gnd _ _ ho),h A g2 _ _ [.ref a] _ E ((rm.step st1).step (st2.weaken λ b hb=>.inl hb)) iv2.ok (.fn fa) (.cons (r.mono st2.gle) .nil) λ h' tk t=>kk h' tk t⟩
end
end A28
noncomputable section B1
noncomputable abbrev prg:Program:=PySem.Challenge.pw_nn0044_01
noncomputable def nth:List Stmt->Nat->Stmt
  | [],_=>.Pass default
  | s :: _,0=>s
  | _ :: r,n + 1=>nth r n
noncomputable def recOf (s:Stmt):DefRec:=by
  refine PySem.Stmt.casesOn (motive_2:=λ _=>DefRec) (s) (FunctionDef:=λ name params body _ _ _ scope _ _ pos=>⟨name,params,body,scope,pos⟩) ?_ ?_ ?_ ?_ ?_ ?_ ?_ ?_ ?_ ?_ ?_ ?_ ?_ ?_ ?_ ?_ ?_ ?_ ?_ ?_ ?_ ?_ ?_ ?_ ?_ ?_ ?_
  all_goals (intros; exact ⟨"",⟨[],[],none,[],[],none,[]⟩,[],{ kind:=.function,names:=[],isGenerator:=false,isCoroutine:=false,more:=[] },default⟩)
noncomputable def dN (i:Nat):DefRec:=recOf (nth prg.main.body i)
noncomputable def keep:List Nat:=[1,2,3,4,5,6,7,8,9,10,11,12,13,14,15,16,17,19,21,22,23,24,25,26,27,28,29,31,32,33,34,35,37,38,39,40,41,42,43,44,45,46,47,48,49,50,51,52,53,54,55,56,57,59,60,61,62,63,64,65,66,67,68,69,70,71,72,73]
noncomputable def vw:Program:=view prg keep
noncomputable def fIdx:List Nat:=[4,5,6,7,8,9,10,11,12,13,14,15,16,17,19,22,23,24,25,26,27,28,29,31,32,33,34,35,38,39,40,41,42,43,44,45,46,47,48,49,50,51,53,54,55,56,57,59,60,61,62,63,64,65,66,67,68,69,70,71,72,73]
theorem recs_vw:recsOf vw=fIdx.map dN:=by kernel_rfl
end B1
end KO
section KN
local macro_rules | `(tactic| omega)=>`(tactic| ((fail_if_success (fail_if_success omega +splitDisjunctions)); first | lia -abstractProof | omega +splitDisjunctions))
noncomputable section H1
section
variable (tb:String->Option Builtin) (p:Program) (w:World) (n₀:Nat) (ann:Option Value)
noncomputable def topRunT:Nat->SharedT->Thread->Option SharedT
  | 0,_,_=>none
  | n + 1,s,t=>match through t with
    | true=>some s
    | false=>match stepOk n₀ ann t with
      | false=>none
      | true=>match stepT (denote tb) p w s t with
        | some (s',t')=>topRunT n s' t'
        | none=>none
end
theorem topRunT_s {tb:String->Option Builtin} {p:Program} {w:World} {n₀:Nat} {ann:Option Value} {n:Nat} {s:SharedT} {t:Thread}:topRunT tb p w n₀ ann (n + 1) s t=match through t with
    | true=>some s
    | false=>match stepOk n₀ ann t with
      | false=>none
      | true=>match stepT (denote tb) p w s t with
        | some (s',t')=>topRunT tb p w n₀ ann n s' t'
        | none=>none:=rfl
theorem topRunT_spec {tb:String->Option Builtin} {p:Program} {w:World} {n₀:Nat} {ann:Option Value}:∀ (n:Nat) (s:SharedT) (t:Thread) (s':SharedT),
    topRunT tb p w n₀ ann n s t=some s'->topRun tb p w n₀ ann n s.abs t=some s'.abs
  | 0,_,_,_,h=>nomatch h
  | n + 1,s,t,s',h=>by
    rw [topRunT_s] at h
    unfold topRun
    cases ht:through t with
    | true=>rw [ht] at h; simp only at h ⊢; rw [Option.some.inj h]
    | false =>
      rw [ht] at h
      simp only at h ⊢
      cases hk:stepOk n₀ ann t with
      | false=>rw [hk] at h; simp at h
      | true =>
        rw [hk] at h
        simp only at h ⊢
        cases hs:stepT (denote tb) p w s t with
        | none=>rw [hs] at h; simp at h
        | some r =>
          obtain ⟨s₂,t₂⟩:=r
          rw [hs] at h
          simp only at h
          rw [stepT_spec hs]
          exact topRunT_spec n s₂ t₂ s' h
theorem left_of {p q:Program} {loose:List Str} {Xt:Shared->Bool} {α:Type} {Yf:Shared->α} {Ya:World->α} {N:Nat} {g0:Bool}
    {H₀:Params->Heap} {T₀:Params->BT} {n₁:Nat} {life:Life} {gs₀:Array GenState} {d₀:Drawn} {k₀:Nat} {m₀:Nat} {ann:Option Value} {M:Nat}
    (open_:∀ w:World,(fencedOpening treeTable p w N).map (λ s=>(s.heap,s.gens,s.drawn,s.toks))=some (H₀ w.params,gs₀,d₀,k₀))
    (tree:∀ P:Params,absHeap (T₀ P) n₁ life=H₀ P)
    (size:∀ w:World,((H₀ w.params).isNs mainGlobals && gs₀.size == 0,(H₀ w.params).objs.size,(H₀ w.params).nsMap mainGlobals "__annotations__")=(true,m₀,ann))
    (le:Nat.ble M N=true)
    (run:∀ w:World,(λ os=>(topRunT treeTable p w m₀ ann M ⟨T₀ w.params,n₁,life,gs₀,d₀,k₀,os⟩ (topStub p)).map (λ s =>
        (staticsOk (importedModules p.main.body) (H₀ w.params) s.abs.heap && namesBound p s.abs.heap && gensDone s.abs && laidKept (H₀ w.params) s.abs.heap,
          openSeen q loose (importedModules p.main.body) Xt g0 s.abs,Yf s.abs)))=λ _=>some (true,openGood q loose,Ya w)) :
    LeftO p q loose Xt Yf Ya N g0:=λ w=>by
  obtain ⟨⟨h,gs,d,k,os⟩,e,e'⟩:=Option.map_eq_some_iff.mp (open_ w)
  obtain ⟨rfl,rfl,rfl,rfl⟩:h=H₀ w.params/\gs=gs₀/\d=d₀/\k=k₀:=by simpa using e'
  obtain ⟨z1,z2,z3⟩:_/\_/\_:=by simpa only [Prod.mk.injEq] using size w
  obtain ⟨s,hs,hv⟩:=Option.map_eq_some_iff.mp (congrFun (run w) os)
  obtain ⟨l1,l2,l3⟩:_/\_/\_:=by simpa only [Prod.mk.injEq] using hv
  have r:=topRun_mono (N - M) _ _ _ _ (topRunT_spec _ _ _ _ hs)
  rw [show M + (N - M)=N by have:=Nat.le_of_ble_eq_true le; omega] at r
  have r':topRun treeTable p w m₀ ann N ⟨H₀ w.params,gs,d,k,os⟩ (topStub p)=some s.abs:=by
    rw [<- tree w.params]; exact r
  have t:topFrom treeTable p w N ⟨H₀ w.params,gs,d,k,os⟩=some s.abs:=by
    unfold topFrom
    dsimp only
    rw [z1,z2,z3,r']
    show (match staticsOk (importedModules p.main.body) (H₀ w.params) s.abs.heap && namesBound p s.abs.heap && gensDone s.abs && laidKept (H₀ w.params) s.abs.heap with | true=>_ | false=>_)=_
    rw [l1]
  unfold openEnds
  rw [e]
  show (topFrom treeTable p w N _).map _=_
  rw [t]
  exact congrArg some (Prod.ext l2 l3)
end H1
noncomputable section H3
theorem said:(PySem.Challenge.rw_nn0044_01).wellSaid=true:=by kernel_rfl
theorem law_of (h:(OpenLaw.row PySem.Challenge.rw_nn0044_01).wellSaid=true->(OpenLaw.row PySem.Challenge.rw_nn0044_01).Holds):PySem.Challenge.rw_nn0044_01.Holds:=holds_law said h
noncomputable def T₀ (P:Params):BT:=(boot_heap P).objs.toList.foldl (λ (x:BT × Nat) o=>(x.1.ins x.2 o,x.2 + 1)) (.nil,0) |>.1
theorem T₀_ok (P:Params):absHeap (T₀ P) 11 (boot_heap P).life=boot_heap P:=by kernel_rfl
noncomputable def runQ (p:Program) (w:World) (n₀:Nat) (ann:Option Value) (n:Nat):SharedT->Thread->Option SharedT :=
  @Nat.rec (λ _=>SharedT->Thread->Option SharedT) (λ _ _=>none) (λ _ ih s t=>match PySem.W.through t with
    | true=>some s
    | false=>match PySem.W.Fast.tw6613529449190102663 n₀ ann t with
      | false=>none
      | true=>match PySem.W.Fast.tw10156331382660048174 (PySem.W.Fast.tw11892475500146522536 PySem.W.Fast.tw14364793385576792824) p w s t with
        | some (s',t')=>ih s' t'
        | none=>none) n
theorem runQ_eq (p:Program) (w:World) (n₀:Nat) (ann:Option Value):∀ (n:Nat) (s:SharedT) (t:Thread),topRunT treeTable p w n₀ ann n s t=runQ p w n₀ ann n s t
  | 0,_,_=>rfl
  | n + 1,s,t=>by
    rw [topRunT_s]
    show _=(match PySem.W.through t with
    | true=>some s
    | false=>match PySem.W.Fast.tw6613529449190102663 n₀ ann t with
      | false=>none
      | true=>match PySem.W.Fast.tw10156331382660048174 (PySem.W.Fast.tw11892475500146522536 PySem.W.Fast.tw14364793385576792824) p w s t with
        | some (s',t')=>runQ p w n₀ ann n s' t'
        | none=>none)
    rw [<- PySem.W.Fast.te6613529449190102663,<- PySem.W.Fast.te10156331382660048174,<- PySem.W.Fast.te11892475500146522536,<- PySem.W.Fast.te14364793385576792824]
    cases PySem.W.through t with
    | true=>rfl
    | false=>cases stepOk n₀ ann t with
      | false=>rfl
      | true=>cases stepT (denote treeTable) p w s t with
        | none=>rfl
        | some r=>exact runQ_eq p w n₀ ann n r.1 r.2
end H3
noncomputable section H4
noncomputable abbrev lawRow:OpenRow:=OpenLaw.row PySem.Challenge.rw_nn0044_01
noncomputable def tabP (h:Heap) (x:Str):Option Addr:=match h.fnAt mainGlobals x with
  | some q=>(match q.2.2.code with
    | .ref c=>h.tab0At c
    | _=>none)
  | none=>none
noncomputable def apartB (h:Heap):Bool:=match tabP h "mont_times",tabP h "_law_tests_right" with
  | some P,some P'=>!(P == P')
  | _,_=>false
noncomputable def TabFn (mg:Str->Option Value) (h:Heap) (x:Str) (c P:Addr):Prop:=∃ a o fd,mg x=some (.ref a)/\h.get? a=some o/\o.data=.func fd/\fd.code=.ref c/\h.IsCode c P #[]/\h.TableAt c P #[]
theorem TabFn.keeps {mg:Str->Option Value} {h h':Heap} {x:Str} {c P:Addr} (t:TabFn mg h x c P) (k:∀ b o,h.get? b=some o->h'.get? b=some o):TabFn mg h' x c P :=
  t.imp λ a=>Exists.imp λ o=>Exists.imp λ fd h=>⟨h.1,k _ _ h.2.1,h.2.2.1,h.2.2.2.1,h.2.2.2.2.1.keeps k,h.2.2.2.2.2.keeps k⟩
theorem tabP_of {h:Heap} {x:Str} {P:Addr} (e:tabP h x=some P):∃ c,TabFn (h.nsMap mainGlobals) h x c P:=by
  unfold tabP at e
  cases hf:h.fnAt mainGlobals x with
  | none=>rw [hf] at e; cases e
  | some q =>
    rw [hf] at e
    obtain ⟨a,o,fd⟩:=q
    obtain ⟨h1,h2,h3⟩:=Heap.fnAt_spec hf
    cases hc:fd.code with
    | ref c=>simp only [hc] at e; exact ⟨c,a,o,fd,h1,h2,h3,hc,Heap.tab0At_spec e⟩
    | _=>simp only [hc] at e; cases e
structure TabsApart (mg:Str->Option Value) (h:Heap):Prop where
  two:∃ c P c' P',TabFn mg h "mont_times" c P/\TabFn mg h "_law_tests_right" c' P'/\P≠P'
theorem apart_of {h:Heap} (e:apartB h=true):TabsApart (h.nsMap mainGlobals) h:=by
  unfold apartB at e
  cases h1:tabP h "mont_times" with
  | none=>rw [h1] at e; cases e
  | some P=>cases h2:tabP h "_law_tests_right" with
    | none=>rw [h1,h2] at e; cases e
    | some P' =>
      rw [h1,h2] at e
      obtain ⟨c,t⟩:=tabP_of h1
      obtain ⟨c',t'⟩:=tabP_of h2
      exact ⟨c,P,c',P',t,t',λ q=>by subst q; simp at e⟩
noncomputable def XH (mg:Str->Option Value) (h:Heap):Prop:=XL vw [] mg h/\TabsApart mg h
theorem XH.keeps (mg:Str->Option Value) (h h':Heap) (x:XH mg h) (k:∀ b o,h.get? b=some o->h'.get? b=some o):XH mg h' :=
  ⟨XL.keeps mg h h' x.1 k,⟨x.2.two.imp λ c=>Exists.imp λ P=>Exists.imp λ c'=>Exists.imp λ P' h=>⟨h.1.keeps k,h.2.1.keeps k,h.2.2⟩⟩⟩
noncomputable def X1 (s:Shared):Bool:=(xlAt vw [] s && apartB s.heap) && recOk (RowW.records (OpenRow.toRowW lawRow)) s
theorem xh_of (s:Shared) (x:(xlAt vw [] s && apartB s.heap)=true):XH (s.heap.nsMap mainGlobals) s.heap :=
  ⟨xl_of s (Bool.and_eq_true_iff.mp x).1,apart_of (Bool.and_eq_true_iff.mp x).2⟩
theorem ran : ∀ w : World, (fun os => (runQ prg w 11 (some (Value.ref 6)) 3400 ⟨T₀ w.params, 11, {}, Array.mk [], boot_drawn, boot_toks, os⟩ (topStub prg)).map (fun s =>
        (staticsOk (PySem.W.Fast.tw5923862056798008813 prg.main.body) (boot_heap w.params) s.abs.heap && namesBound prg s.abs.heap && gensDone s.abs && laidKept (boot_heap w.params) s.abs.heap,
          PySem.W.Fast.tw4187177175401517315 vw [] (PySem.W.Fast.tw5923862056798008813 prg.main.body) X1 true s.abs,())))=λ _=>some (true,openGood vw [],()):=λ w=>by kernel_rfl
theorem opens:∀ w:World,(fencedOpening treeTable prg w 6720).map (λ s=>(s.heap,s.gens,s.drawn,s.toks))=some (boot_heap w.params,Array.mk [],boot_drawn,boot_toks) :=
  boot_open (by kernel_rfl) (by decide) (λ s=>by kernel_rfl)
theorem sz:∀ w:World,((boot_heap w.params).isNs mainGlobals && (Array.mk []:Array GenState).size == 0,(boot_heap w.params).objs.size,(boot_heap w.params).nsMap mainGlobals "__annotations__")=(true,11,some (Value.ref 6)):=λ w=>by kernel_rfl
theorem left:LeftO prg vw [] X1 (λ _=>()) (λ _=>()) 6720 :=
  left_of (H₀:=λ P=>boot_heap P) (T₀:=T₀) (life:={}) opens (λ P=>T₀_ok P) sz (M:=3400) (by decide) (λ w=>by
    have h:=ran w
    rw [<- PySem.W.Fast.te5923862056798008813,<- PySem.W.Fast.te4187177175401517315] at h
    simp only [runQ_eq]
    exact h)
theorem head (hw:lawRow.toRowW.promised)
    (call:∀ d kwd,defOf vw lawRow.name=some (d,kwd)->WalkO vw [] XH (λ _ _=>True) lawRow.toRowW d kwd (λ f vs=>PySem.call f vs)):PySem.Challenge.rw_nn0044_01.Holds:=by
  refine law_of λ k1=>?_
  have e1:(defOf vw lawRow.name).isSome=true:=by kernel_rfl
  obtain ⟨⟨d,kwd⟩,hd⟩:=Option.isSome_iff_exists.mp e1
  have e2:(defOf vw lawRow.name).map (λ x=>(x.1.params,x.1.body,x.1.scope))=lawRow.prog.theDef lawRow.name:=by kernel_rfl
  have e3:(defOf vw lawRow.name).map (λ x=>kwWritten? x.1.params.kwonlyargs x.1.params.kw_defaults)=(defOf vw lawRow.name).map (λ x=>some x.2):=by kernel_rfl
  rw [hd] at e2 e3
  refine W.holds_open (r:=lawRow) (q:=vw) (loose:=[]) (Xt:=X1) (XP:=XH) (Yf:=λ _=>()) (Ya:=λ _=>()) (YP:=λ _ _=>True) (N:=6720) (d:=d) (kwd:=kwd) left
    (λ _ _ _=>trivial) (λ _ _ _ _ _=>trivial) (λ s e=>xh_of s (Bool.and_eq_true_iff.mp e).1) XH.keeps hd e2.symm (Option.some.inj e3)
    (λ s e=>recFacts_of (Bool.and_eq_true_iff.mp e).2) (by kernel_rfl) k1 ?_ ⟨rfl,rfl,rfl,rfl,rfl,by decide +kernel⟩ hw (call d kwd hd)
  kernel_rfl
theorem hwit:lawRow.toRowW.promised:=⟨[.list []],by kernel_rfl,by kernel_rfl⟩
end H4
end KN
section KO
local macro_rules | `(tactic| omega)=>`(tactic| ((fail_if_success (fail_if_success omega +splitDisjunctions)); first | lia -abstractProof | omega +splitDisjunctions))
noncomputable section B2
structure PG (G:Gd):Prop where
  defs:∀ d∈recsOf vw,IsDef G d
  free:∀ x∈(["len","range","abs","max","int","all","enumerate","reversed"]:List Str),G.mg x=none
  small:∃ t,G.mg "MOST_SMALL" = some (.int 60 t)
theorem PG.d {G:Gd} (pg:PG G) {i:Nat} (h:i∈fIdx):IsDef G (dN i):=pg.defs _ (by rw [recs_vw]; exact List.mem_map_of_mem h)
noncomputable def isGl (sc:Scope) (x:Str):Bool:=sc.names.any λ p=>decide (p.1=x) && (match p.2 with | .globalImplicit=>true | _=>false)
theorem isGl_mem {sc:Scope} {x:Str} (h:isGl sc x=true):(x,NameKind.globalImplicit)∈sc.names:=by
  unfold isGl at h
  rw [List.any_eq_true] at h
  obtain ⟨⟨y,kd⟩,hm,h⟩:=h
  obtain ⟨h1,h2⟩:=Bool.and_eq_true_iff.mp h
  obtain rfl:=of_decide_eq_true h1
  cases kd <;> first | exact hm | cases h2
section
variable {G:Gd} {Φ:Fm} {k:Nat} {ρ ρ':Loc} {β:List V}
theorem Spec.le {k':Nat} {f:V} {xs:List V} {P:V->Prop} (h:Spec G k f xs P) (l:k<=k':=by omega):Spec G k' f xs P :=
  λ A g s fv vs Q E rm ok rf rs kk=>h A g s fv vs Q E (rm.le l) ok rf rs kk
theorem Spec.mono {f:V} {xs:List V} {P P':V->Prop} (h:Spec G k f xs P) (hP:∀ x,P x->P' x):Spec G k f xs P' :=
  λ A g s fv vs Q E rm ok rf rs kk=>h A g s fv vs Q E rm ok rf rs λ v x g' h' tk hx=>kk v x g' h' tk (hP x hx)
theorem SpecO.mono {f:V} {xs:List V} {P P':List V->Prop} (h:SpecO G k f xs P) (hP:∀ x,P x->P' x):SpecO G k f xs P' :=
  λ A g s fv vs Q E rm ok rf rs kk=>h A g s fv vs Q E rm ok rf rs λ a ys ws n g' h' tk hx=>kk a ys ws n g' h' tk (hP ys hx)
theorem SpecIO.le {k':Nat} {f:V} {xs ys:List V} {P:V->List V->Prop} (h:SpecIO G k f xs ys P) (l:k<=k':=by omega):SpecIO G k' f xs ys P :=
  λ A g s fv a vs ws n Q E rm=>h A g s fv a vs ws n Q E (rm.le l)
theorem SpecIO.mono {f:V} {xs ys:List V} {P P':V->List V->Prop} (h:SpecIO G k f xs ys P) (hP:∀ x l,P x l->P' x l):SpecIO G k f xs ys P' :=
  λ A g s fv a vs ws n Q E rm ok rf rs hb rb hg kk=>h A g s fv a vs ws n Q E rm ok rf rs hb rb hg λ v x xs' ws' n' g' h' tk hx=>kk v x xs' ws' n' g' h' tk (hP x xs' hx)
theorem IsDef.isFn {d:DefRec} (h:IsDef G d):IsFn G (fnv G d.name)/\∃ a,G.mg d.name=some (.ref a)/\fnv G d.name=.fn a:=by
  refine hid λ _ uQ=>?_
  obtain ⟨a,o,pm,cd,doc,e1,e2,e3,_⟩:=h
  refine uQ ?_
  have:fnv G d.name=.fn a:=by unfold fnv; rw [e1]
  exact ⟨by rw [this]; exact ⟨o,_,e2,e3⟩,a,e1,this⟩
theorem WE_fnv {d:DefRec} {x:Str} {p K} (hd:IsDef G d) (hn:d.name=x) (hx:isGl Φ.scope x=true) (h:K (fnv G x) β):WE G Φ k (.Name x p) ρ β K:=by
  subst hn
  obtain ⟨_,a,e,e2⟩:=hd.isFn
  exact WE_globfn e (isGl_mem hx) (e2 ▸ h)
theorem WE_fn {d:DefRec} {x:Str} {p:Pos} {args:List Expr} {pos K} (hd:IsDef G d) (hn:d.name=x) (hx:isGl Φ.scope x=true) (hns:args.all noStar=true)
    (h:WL G Φ k args ρ β λ xs β2=>Spec G k (fnv G x) xs λ y=>K y β2):WE G Φ k (.Call (.Name x p) args [] pos) ρ β K :=
  WE_call (WE_fnv hd hn hx ⟨hn ▸ hd.isFn.1,h⟩) hns
theorem WE_fnbox {d:DefRec} {f x:Str} {a:Addr} {p px:Pos} {args:List Expr} {pos K} (hd:IsDef G d) (hn:d.name=f) (hx:isGl Φ.scope f=true) (hm:(x,.box a)∈ρ) (hone:∀ y b,(y,.box b)∈ρ->y=x) (hns:args.all noStar=true)
    (h:WL G Φ k args ρ β λ xs β2=>SpecIO G k (fnv G f) β2 xs λ y β3=>K y β3):WE G Φ k (.Call (.Name f p) (.Name x px :: args) [] pos) ρ β K :=
  WE_callbox hm hone (WE_fnv hd hn hx ⟨hn ▸ hd.isFn.1,h⟩) hns
theorem WR_fno {d:DefRec} {x:Str} {p:Pos} {args:List Expr} {pos K} (hd:IsDef G d) (hn:d.name=x) (hx:isGl Φ.scope x=true) (hns:args.all noStar=true)
    (h:WL G Φ k args ρ β λ xs β2=>SpecO G k (fnv G x) xs λ ys=>∀ a,K (.own a ys) β2):WR G Φ k (.Call (.Name x p) args [] pos) ρ β K :=
  WR_callo (WE_fnv hd hn hx ⟨hn ▸ hd.isFn.1,h⟩) hns
section
variable (pg:PG G) {p pos:Pos} {e f:Expr}
include pg
theorem WE_len {K} (hx:isGl Φ.scope "len" = true) (hns:noStar e=true) (h:WE G Φ k e ρ β λ v β1=>∃ xs,v=.list xs/\xs.length<=100000/\K (.int xs.length) β1):WE G Φ k (.Call (.Name "len" p) [e] [] pos) ρ β K :=
  WE_blt (isGl_mem hx) (pg.free _ (by simp)) ((G.blt _ (by decide)).trans (by decide +kernel:bootBuiltins "len" = some (.builtin "len"))) rfl (by simp [hns])
    (WL_cons (h.mono λ v b z0=>z0.elim λ xs z0=>z0.elim λ hv z0=>z0.elim λ hl hk=>WL_nil ⟨_,by rw [hv]; exact blt_len xs hl,hk⟩) hns)
theorem WE_abs {K} (hx:isGl Φ.scope "abs" = true) (hns:noStar e=true) (h:WE G Φ k e ρ β λ v β1=>∃ i,v=.int i/\K (.int i.natAbs) β1):WE G Φ k (.Call (.Name "abs" p) [e] [] pos) ρ β K :=
  WE_blt (isGl_mem hx) (pg.free _ (by simp)) ((G.blt _ (by decide)).trans (by decide +kernel:bootBuiltins "abs" = some (.builtin "abs"))) rfl (by simp [hns])
    (WL_cons (h.mono λ v b z0=>z0.elim λ i z0=>z0.elim λ hv hk=>WL_nil ⟨_,by rw [hv]; exact blt_abs i,hk⟩) hns)
theorem WE_toint {K} (hx:isGl Φ.scope "int" = true) (hns:noStar e=true) (h:WE G Φ k e ρ β λ v β1=>∃ i,v=.int i/\K (.int i) β1):WE G Φ k (.Call (.Name "int" p) [e] [] pos) ρ β K :=
  WE_blt (isGl_mem hx) (pg.free _ (by simp)) ((G.blt _ (by decide)).trans (by decide +kernel:bootBuiltins "int" = some (.type "int"))) rfl (by simp [hns])
    (WL_cons (h.mono λ v b z0=>z0.elim λ i z0=>z0.elim λ hv hk=>WL_nil ⟨_,by rw [hv]; exact blt_int i,hk⟩) hns)
theorem WE_max {K} (hx:isGl Φ.scope "max" = true) (hns:noStar e=true) (hnf:noStar f=true) (h:WE G Φ k e ρ β λ v β1=>WE G Φ k f ρ β1 λ u β2=>∃ i j,v=.int i/\u=.int j/\K (.int (max i j)) β2):WE G Φ k (.Call (.Name "max" p) [e,f] [] pos) ρ β K :=
  WE_blt (isGl_mem hx) (pg.free _ (by simp)) ((G.blt _ (by decide)).trans (by decide +kernel:bootBuiltins "max" = some (.builtin "max"))) rfl (by simp [hns,hnf])
    (WL_cons (h.mono λ v b hf=>WL_cons (hf.mono λ u b' z0=>hid λ _ uQ=>z0.elim λ i z0=>z0.elim λ j z0=>z0.elim λ hv z0=>z0.elim λ hu hk=>uQ <| WL_nil ⟨_,by rw [hv,hu]; exact blt_max i j,hk⟩) hnf) hns)
theorem WE_all {K} (hx:isGl Φ.scope "all" = true) (hns:noStar e=true) (h:WE G Φ k e ρ β λ v β1=>∃ bs:List Bool,v=.list (bs.map .bool)/\K (.bool (bs.all id)) β1):WE G Φ k (.Call (.Name "all" p) [e] [] pos) ρ β K :=
  WE_blt (isGl_mem hx) (pg.free _ (by simp)) ((G.blt _ (by decide)).trans (by decide +kernel:bootBuiltins "all" = some (.builtin "all"))) rfl (by simp [hns])
    (WL_cons (h.mono λ v b z0=>z0.elim λ bs z0=>z0.elim λ hv hk=>WL_nil ⟨_,by rw [hv]; exact blt_all bs,hk⟩) hns)
theorem pg_range:G.mg "range" = none/\G.mb "range" = some (.type "range"):=⟨pg.free _ (by simp),(G.blt _ (by decide)).trans (by decide +kernel:bootBuiltins "range" = some (.type "range"))⟩
theorem pg_enum:G.mg "enumerate" = none/\G.mb "enumerate" = some (.type "enumerate"):=⟨pg.free _ (by simp),(G.blt _ (by decide)).trans (by decide +kernel:bootBuiltins "enumerate" = some (.type "enumerate"))⟩
theorem pg_rev:G.mg "reversed" = none/\G.mb "reversed" = some (.type "reversed"):=⟨pg.free _ (by simp),(G.blt _ (by decide)).trans (by decide +kernel:bootBuiltins "reversed" = some (.type "reversed"))⟩
end
theorem seq_next {rest:List Stmt} {K} (h:WSs G Φ k rest ρ β K):Seq G Φ k rest K .next ρ β:=h
end
end B2
noncomputable section P1
noncomputable def val (B:Int):List Int->Int
  | []=>0
  | d :: r=>d + B * val B r
noncomputable def Dg (B:Int) (l:List Int):Prop:=∀ d∈l,0<=d/\d < B
noncomputable def Nrm (l:List Int):Prop:=l.getLast?≠some 0
noncomputable def rowF (B:Int):Nat->Int->List Int
  | 0,_=>[]
  | k + 1,n=>if 0 < n then n % B :: rowF B k (n / B) else []
@[irreducible] noncomputable def row (B:Int) (n:Int):List Int:=rowF B n.toNat n
theorem ediv_lt {B n:Int} (h:0 < n) (hB:2<=B):n / B < n:=Int.ediv_lt_of_lt_mul (by omega) (by
    have:n * 1 < n * B:=Int.mul_lt_mul_of_pos_left (by omega) h
    omega)
theorem ediv_nat {B n:Int} {k:Nat} (h:0 < n) (hB:2<=B) (hk:n.toNat<=k + 1):(n / B).toNat<=k:=by
  have:=ediv_lt h hB
  omega
theorem rowF_eq {B:Int} (hB:2<=B):∀ (k l:Nat) (n:Int),n.toNat<=k->n.toNat<=l->rowF B k n=rowF B l n
  | 0,0,_,_,_=>rfl
  | 0,l + 1,n,h,_=>(if_neg (by omega)).symm
  | k + 1,0,n,_,h=>if_neg (by omega)
  | k + 1,l + 1,n,h,h'=>by
    show (if 0 < n then n % B :: rowF B k (n / B) else [])=if 0 < n then n % B :: rowF B l (n / B) else []
    split
    . rename_i h0
      rw [rowF_eq hB k l (n / B) (ediv_nat h0 hB h) (ediv_nat h0 hB h')]
    . rfl
theorem row_pos {B n:Int} (h:0 < n) (hB:2<=B):row B n=n % B :: row B (n / B):=by
  unfold row
  obtain ⟨m,hm⟩:∃ m,n.toNat=m + 1:=⟨n.toNat - 1,by omega⟩
  rw [hm,<- rowF_eq hB m _ (n / B) (ediv_nat h hB (Nat.le_of_eq hm)) (Nat.le_refl _)]
  exact if_pos h
theorem row_nil {B n:Int} (h:n<=0):row B n=[]:=by
  unfold row
  rw [Int.toNat_of_nonpos h]; rfl
theorem row_zero {B:Int}:row B 0=[]:=row_nil (by omega)
theorem row_ind {B:Int} (hB:2<=B) {P:Int->Prop} (h0:∀ n,n<=0->P n) (h1:∀ n,0 < n->P (n / B)->P n):∀ n,P n:=by
  have:∀ (k:Nat) (n:Int),n.toNat<=k->P n:=by
    intro k
    induction k with
    | zero=>intro n hn; exact h0 n (by omega)
    | succ k ih =>
      intro n hn
      by_cases h:0 < n
      . have:=ediv_lt h hB
        have h2:0<=n / B:=Int.ediv_nonneg (by omega) (by omega)
        exact h1 n h (ih _ (by omega))
      . exact h0 n (by omega)
  exact λ n=>this n.toNat n (Nat.le_refl _)
theorem val_row {B:Int} (hB:2<=B):∀ n,0<=n->val B (row B n)=n:=by
  refine row_ind hB (λ n h h0=>?_) λ n h ih _=>?_
  . rw [row_nil h]; show (0:Int)=n; omega
  . rw [row_pos h hB]
    show n % B + B * val B (row B (n / B))=n
    rw [ih (Int.ediv_nonneg (by omega) (by omega))]
    exact Int.emod_add_mul_ediv n B
theorem dg_row {B:Int} (hB:2<=B):∀ n,Dg B (row B n):=by
  refine row_ind hB (λ n h=>?_) λ n h ih=>?_
  . rw [row_nil h]; intro d hd; cases hd
  . rw [row_pos h hB]
    intro d hd
    rcases List.mem_cons.mp hd with rfl | hd
    . exact ⟨Int.emod_nonneg _ (by omega),Int.emod_lt_of_pos _ (by omega)⟩
    . exact ih d hd
theorem nrm_row {B:Int} (hB:2<=B):∀ n,Nrm (row B n):=by
  refine row_ind hB (λ n h=>?_) λ n h ih=>?_
  . rw [row_nil h]; unfold Nrm; simp
  . rw [row_pos h hB]
    unfold Nrm at ih ⊢
    by_cases hq:0 < n / B
    . rw [row_pos hq hB] at ih ⊢
      simpa [List.getLast?_cons] using ih
    . have h0:n / B=0:=by
        have:=Int.ediv_nonneg (a:=n) (b:=B) (by omega) (by omega); omega
      rw [h0,row_zero]
      have:n % B=n:=by
        have:=Int.emod_add_mul_ediv n B; rw [h0] at this; omega
      simp [this]; omega
theorem Dg.cons {B d:Int} {l:List Int}:Dg B (d :: l) ↔ (0<=d/\d < B)/\Dg B l:=by simp [Dg]
theorem Dg.nil {B:Int}:Dg B []:=λ d h=>by cases h
theorem Dg.append {B:Int} {l r:List Int}:Dg B (l ++ r) ↔ Dg B l/\Dg B r:=by
  unfold Dg; constructor
  . intro h; exact ⟨λ d hd=>h d (by simp [hd]),λ d hd=>h d (by simp [hd])⟩
  . intro h d hd; exact (List.mem_append.mp hd).elim (h.1 d) (h.2 d)
theorem Nrm.tail {d:Int} {l:List Int} (h:Nrm (d :: l)):Nrm l:=by
  unfold Nrm at h ⊢
  cases l with
  | nil=>simp
  | cons e r=>simpa [List.getLast?_cons] using h
theorem val_nonneg {B:Int} (hB:2<=B):∀ {l:List Int},Dg B l->0<=val B l
  | [],_=>Int.le_refl _
  | d :: r,h=>by
    have h:=Dg.cons.mp h
    have:=Int.mul_nonneg (a:=B) (by omega) (val_nonneg hB h.2)
    show 0<=d + B * val B r
    omega
theorem val_pos {B:Int} (hB:2<=B):∀ {l:List Int},Dg B l->Nrm l->l≠[]->0 < val B l
  | [],_,_,h=>absurd rfl h
  | [d],h,hn,_=>by
    have h:=(Dg.cons.mp h).1
    have:d≠0:=λ q=>hn (by simp [q])
    show 0 < d + B * 0
    omega
  | d :: e :: r,h,hn,_=>by
    have h:=Dg.cons.mp h
    have:=Int.mul_pos (a:=B) (by omega) (val_pos hB h.2 hn.tail (by simp))
    show 0 < d + B * val B (e :: r)
    omega
theorem row_val {B:Int} (hB:2<=B):∀ {l:List Int},Dg B l->Nrm l->row B (val B l)=l
  | [],_,_=>row_zero
  | d :: r,h,hn=>by
    rw [row_pos (val_pos hB h hn (by simp)) hB]
    have h:=Dg.cons.mp h
    have e1:val B (d :: r) % B=d:=by
      show (d + B * val B r) % B=d
      rw [Int.add_mul_emod_self_left]; exact Int.emod_eq_of_lt h.1.1 h.1.2
    have e2:val B (d :: r) / B=val B r:=by
      show (d + B * val B r) / B=val B r
      rw [Int.add_mul_ediv_left _ _ (by omega),Int.ediv_eq_zero_of_lt h.1.1 h.1.2]; omega
    rw [e1,e2,row_val hB h.2 hn.tail]
theorem row_eq {B:Int} (hB:2<=B) {l:List Int} {n:Int} (h:Dg B l) (hn:Nrm l) (e:val B l=n):l=row B n:=by rw [<- e,row_val hB h hn]
theorem val_append {B:Int}:∀ (l r:List Int),val B (l ++ r)=val B l + B ^ l.length * val B r
  | [],r=>by show val B r=0 + B ^ 0 * val B r; rw [Int.pow_zero]; omega
  | d :: l,r=>by
    show d + B * val B (l ++ r)=d + B * val B l + B ^ (l.length + 1) * val B r
    rw [val_append l r,Int.pow_succ,Int.mul_add,<- Int.mul_assoc,Int.mul_comm (B ^ l.length) B]; omega
theorem val_one {B d:Int}:val B [d]=d:=by show d + B * 0=d; omega
theorem pow_pos' {B:Int} (hB:2<=B) (n:Nat):0 < B ^ n:=Int.pow_pos (by omega)
theorem val_lt {B:Int} (hB:2<=B):∀ {l:List Int},Dg B l->val B l < B ^ l.length
  | [],_=>by show (0:Int) < B ^ 0; rw [Int.pow_zero]; omega
  | d :: r,h=>by
    have h:=Dg.cons.mp h
    have ih:=val_lt hB h.2
    show d + B * val B r < B ^ (r.length + 1)
    rw [Int.pow_succ,Int.mul_comm (B ^ r.length) B]
    have:B * (val B r + 1)<=B * B ^ r.length:=Int.mul_le_mul_of_nonneg_left (by omega) (by omega)
    rw [Int.mul_add] at this
    omega
theorem val_ge {B:Int} (hB:2<=B):∀ {l:List Int},Dg B l->Nrm l->l≠[]->B ^ (l.length - 1)<=val B l
  | [],_,_,h=>absurd rfl h
  | [d],h,hn,_=>by
    have h:=val_pos hB h hn (by simp)
    show B ^ 0<=_
    rw [Int.pow_zero]; omega
  | d :: e :: r,h,hn,_=>by
    have h:=Dg.cons.mp h
    have ih:=val_ge hB h.2 hn.tail (by simp)
    show B ^ (r.length + 1)<=d + B * val B (e :: r)
    have:B * B ^ r.length<=B * val B (e :: r):=Int.mul_le_mul_of_nonneg_left ih (by omega)
    rw [Int.pow_succ,Int.mul_comm (B ^ r.length) B]
    omega
theorem pow_mono {B:Int} (hB:2<=B) {i j:Nat} (h:i<=j):B ^ i<=B ^ j:=by
  obtain ⟨k,rfl⟩:=Nat.exists_eq_add_of_le h
  rw [Int.pow_add]
  have:=Int.mul_le_mul_of_nonneg_left (show (1:Int)<=B ^ k by have:=pow_pos' hB k; omega) (Int.le_of_lt (pow_pos' hB i))
  omega
theorem len_lt {B:Int} (hB:2<=B) {a b:List Int} (ha:Dg B a) (hb:Dg B b) (hn:Nrm b) (h:a.length < b.length):val B a < val B b:=by
  have h1:=val_lt hB ha
  have h2:=val_ge hB hb hn (λ q=>by simp [q] at h)
  have h3:=pow_mono hB (show a.length<=b.length - 1 by omega)
  omega
theorem val_split {B:Int} (l:List Int) (i:Nat) (hi:i < l.length):val B l=val B (l.take i) + B ^ i * (l[i] + B * val B (l.drop (i + 1))):=by
  have e:l=l.take i ++ (l[i] :: l.drop (i + 1)):=by rw [<- List.drop_eq_getElem_cons hi,List.take_append_drop]
  conv=>lhs; rw [e]
  rw [val_append,List.length_take,Nat.min_eq_left (by omega)]; rfl
theorem Dg.take {B:Int} {l:List Int} (h:Dg B l) (i:Nat):Dg B (l.take i):=λ d hd=>h d (List.mem_of_mem_take hd)
theorem Dg.drop {B:Int} {l:List Int} (h:Dg B l) (i:Nat):Dg B (l.drop i):=λ d hd=>h d (List.mem_of_mem_drop hd)
theorem dig_lt {B:Int} (hB:2<=B) {a b:List Int} (ha:Dg B a) (hb:Dg B b) {i:Nat} (h1:i < a.length) (h2:i < b.length) (hd:a.drop (i + 1)=b.drop (i + 1)) (h:a[i] < b[i]):val B a < val B b:=by
  rw [val_split a i h1,val_split b i h2,hd]
  have l1:=val_lt hB (ha.take i)
  rw [List.length_take,Nat.min_eq_left (by omega)] at l1
  have l2:=val_nonneg hB (hb.take i)
  have:B ^ i * (a[i] + B * val B (b.drop (i + 1)) + 1)<=B ^ i * (b[i] + B * val B (b.drop (i + 1))):=Int.mul_le_mul_of_nonneg_left (by omega) (Int.le_of_lt (pow_pos' hB i))
  rw [Int.mul_add,Int.mul_one] at this
  omega
theorem len_row {B:Int} (hB:2<=B) {n:Int} (h0:0<=n) {k:Nat} (h:n < B ^ k):(row B n).length<=k:=by
  rcases Nat.lt_or_ge k (row B n).length with q | q
  . have:=val_ge hB (dg_row hB n) (nrm_row hB n) (λ z=>by simp [z] at q)
    rw [val_row hB n h0] at this
    have:=pow_mono hB (show k<=(row B n).length - 1 by omega)
    omega
  . exact q
theorem row_inj {B:Int} (hB:2<=B) {x y:Int} (hx:0<=x) (hy:0<=y) (h:row B x=row B y):x=y:=by rw [<- val_row hB x hx,h,val_row hB y hy]
theorem row_lt_len {B:Int} (hB:2<=B) {x y:Int} (hx:0<=x) (hy:0<=y) (h:x<=y):(row B x).length<=(row B y).length:=by
  rcases Nat.lt_or_ge (row B y).length (row B x).length with q | q
  . have:=len_lt hB (dg_row hB y) (dg_row hB x) (nrm_row hB x) q
    rw [val_row hB x hx,val_row hB y hy] at this; omega
  . exact q
end P1
noncomputable section P2
theorem pw2 (w:Nat):(2:Int) ^ w=((2 ^ w:Nat):Int):=by rw [Int.natCast_pow]; rfl
theorem pw2_pos (w:Nat):(0:Int) < 2 ^ w:=Int.pow_pos (by omega)
theorem two_le {w:Nat} (h:1<=w):(2:Int)<=2 ^ w:=by
  obtain ⟨k,rfl⟩:=Nat.exists_eq_add_of_le h
  rw [Int.pow_add]
  have:=pw2_pos k
  omega
theorem band_mask (x:Int) (w:Nat):Builtin.bitAnd x (2 ^ w - 1)=x % 2 ^ w:=by
  have hp:=Nat.two_pow_pos w
  have hm:(2:Int) ^ w - 1=((2 ^ w - 1:Nat):Int):=by rw [pw2]; omega
  unfold Builtin.bitAnd
  rw [hm]
  have h0:(0:Int)<=((2 ^ w - 1:Nat):Int):=Int.natCast_nonneg _
  simp only [h0,decide_true]
  by_cases hx:0<=x
  . simp only [hx,decide_true]
    rw [Int.toNat_natCast,Nat.and_two_pow_sub_one_eq_mod,Int.natCast_emod,Int.toNat_of_nonneg hx,pw2]
  . simp only [hx,decide_false]
    rw [Int.toNat_natCast,Nat.and_comm,Nat.and_two_pow_sub_one_eq_mod,Int.natCast_emod]
    unfold Builtin.bitNot
    rw [Int.toNat_of_nonneg (by omega),pw2]
    have e:=Int.emod_add_mul_ediv (-x - 1) ((2 ^ w:Nat):Int)
    have l1:=Int.emod_lt_of_pos (-x - 1) (show (0:Int) < ((2 ^ w:Nat):Int) by omega)
    have l2:=Int.emod_nonneg (-x - 1) (show ((2 ^ w:Nat):Int)≠0 by omega)
    generalize hr:(-x - 1) % ((2 ^ w:Nat):Int)=r at *
    generalize hq:(-x - 1) / ((2 ^ w:Nat):Int)=q at *
    have:x=(((2 ^ w:Nat):Int) - 1 - r) + ((2 ^ w:Nat):Int) * (-q - 1):=by rw [Int.mul_sub,Int.mul_neg]; omega
    rw [this,Int.add_mul_emod_self_left,Int.emod_eq_of_lt (by omega) (by omega)]
    omega
theorem bor_add {x y:Int} {k:Nat} (h0:0<=x) (h1:x < 2 ^ k) (hy:0<=y):Builtin.bitOr x (y * 2 ^ k)=x + y * 2 ^ k:=by
  have hyk:0<=y * 2 ^ k:=Int.mul_nonneg hy (Int.le_of_lt (pw2_pos k))
  unfold Builtin.bitOr Builtin.bitAnd
  have n1:¬ (0:Int)<=Builtin.bitNot x:=by unfold Builtin.bitNot; omega
  have n2:¬ (0:Int)<=Builtin.bitNot (y * 2 ^ k):=by unfold Builtin.bitNot; omega
  simp only [n1,n2,decide_false]
  have e:∀ z:Int,Builtin.bitNot (Builtin.bitNot z)=z:=λ z=>by unfold Builtin.bitNot; omega
  rw [e,e,e]
  obtain ⟨a,rfl⟩:=Int.eq_ofNat_of_zero_le h0
  obtain ⟨b,rfl⟩:=Int.eq_ofNat_of_zero_le hy
  rw [pw2] at h1 ⊢
  have h1':a < 2 ^ k:=by exact_mod_cast h1
  rw [<- Int.natCast_mul,Int.toNat_natCast,Int.toNat_natCast]
  have e2:a ||| b * 2 ^ k=a + b * 2 ^ k:=by
    have:=Nat.two_pow_add_eq_or_of_lt (i:=k) h1' b
    rw [Nat.or_comm,Nat.mul_comm b,<- this,Nat.add_comm]
  rw [e2]; push_cast; rfl
theorem bor_comm (x y:Int):Builtin.bitOr x y=Builtin.bitOr y x:=by unfold Builtin.bitOr; rw [PyProof.Rows.bitAnd_comm]
end P2
noncomputable section B3
section
variable {G:Gd} {Φ:Fm} {k:Nat} {ρ ρ':Loc} {β:List V}
noncomputable def Int2 (a b:V) (P:Int->Int->Prop):Prop:=∃ i j,a=.int i/\b=.int j/\P i j
theorem int2_ok {i j:Int} {P:Int->Int->Prop} (h:P i j):Int2 (.int i) (.int j) P:=⟨i,j,rfl,rfl,h⟩
noncomputable def Int1 (a:V) (P:Int->Prop):Prop:=∃ i,a=.int i/\P i
theorem int1_ok {i:Int} {P:Int->Prop} (h:P i):Int1 (.int i) P:=⟨i,rfl,h⟩
noncomputable def Int2c (R:Int->Int->Prop) (a b:V) (Kt Kf:Prop):Prop:=∃ i j,a=.int i/\b=.int j/\(R i j->Kt)/\(¬ R i j->Kf)
theorem int2_cmp {R:Int->Int->Prop} {i j:Int} {Kt Kf:Prop} (h1:R i j->Kt) (h2:¬ R i j->Kf):Int2c R (.int i) (.int j) Kt Kf:=⟨i,j,rfl,rfl,h1,h2⟩
variable {l r:Expr} {pos:Pos}
theorem WE_add {K} (h:WE G Φ k l ρ β λ a β1=>WE G Φ k r ρ β1 λ b β2=>Int2 a b λ i j=>K (.int (i + j)) β2):WE G Φ k (.BinOp l .Add r pos) ρ β K :=
  WE_bin (h.mono λ a b1 h=>h.mono λ b b2 z0=>hid λ _ uQ=>z0.elim λ i z0=>z0.elim λ j z0=>z0.elim λ ha z0=>z0.elim λ hb hk=>uQ <| ⟨_,by rw [ha,hb]; exact op_add G i j,hk⟩)
noncomputable def Sm (i:Int):Prop:=i.natAbs < 2 ^ 1000
theorem Sm.of {i:Int} (h:-(2 ^ 200)<=i) (h':i<=2 ^ 200):Sm i:=by
  unfold Sm
  have h0:i.natAbs < 2 ^ 201:=by omega
  exact Nat.lt_of_lt_of_le h0 (Nat.pow_le_pow_right (by omega) (by omega))
theorem WE_mul {K} (h:WE G Φ k l ρ β λ a β1=>WE G Φ k r ρ β1 λ b β2=>Int2 a b λ i j=>Sm i/\Sm j/\K (.int (i * j)) β2):WE G Φ k (.BinOp l .Mult r pos) ρ β K :=
  WE_bin (h.mono λ a b1 h=>h.mono λ b b2 z0=>hid λ _ uQ=>z0.elim λ i z0=>z0.elim λ j z0=>z0.elim λ ha z0=>z0.elim λ hb z0=>z0.elim λ h1 z0=>z0.elim λ h2 hk=>uQ <| ⟨_,by rw [ha,hb]; exact op_mul G i j h1 h2,hk⟩)
theorem WE_mod {K} (h:WE G Φ k l ρ β λ a β1=>WE G Φ k r ρ β1 λ b β2=>Int2 a b λ i j=>0 < j/\K (.int (i % j)) β2):WE G Φ k (.BinOp l .Mod r pos) ρ β K :=
  WE_bin (h.mono λ a b1 h=>h.mono λ b b2 z0=>hid λ _ uQ=>z0.elim λ i z0=>z0.elim λ j z0=>z0.elim λ ha z0=>z0.elim λ hb z0=>z0.elim λ h1 hk=>uQ <| ⟨_,by rw [ha,hb]; exact op_mod G i j h1,hk⟩)
theorem WE_pow {K} (h:WE G Φ k l ρ β λ a β1=>WE G Φ k r ρ β1 λ b β2=>Int2 a b λ i j=>0<=j/\j<=100000/\i.natAbs < 2 ^ 64/\K (.int (i ^ j.toNat)) β2):WE G Φ k (.BinOp l .Pow r pos) ρ β K :=
  WE_bin (h.mono λ a b1 h=>h.mono λ b b2 z0=>hid λ _ uQ=>z0.elim λ i z0=>z0.elim λ j z0=>z0.elim λ ha z0=>z0.elim λ hb z0=>z0.elim λ h1 z0=>z0.elim λ h2 z0=>z0.elim λ h3 hk=>uQ <| ⟨_,by rw [ha,hb]; exact op_pow G i j h1 h2 h3,hk⟩)
theorem WE_usub {K} (h:WE G Φ k l ρ β λ a β1=>Int1 a λ i=>K (.int (-i)) β1):WE G Φ k (.UnaryOp .USub l pos) ρ β K:=WE_neg h
section
variable {Kt Kf:List V->Prop} (hs:noSet r=true)
include hs
theorem WT_gt (h:WE G Φ k l ρ β λ a β1=>WE G Φ k r ρ β1 λ b β2=>Int2c (λ i j=>j < i) a b (Kt β2) (Kf β2)):WT G Φ k (.Compare l [.Gt] [r] pos) ρ β Kt Kf :=
  WT_cmp (h.mono λ a b1 h=>h.mono λ b b2 z0=>hid λ _ uQ=>z0.elim λ i z0=>z0.elim λ j z0=>z0.elim λ ha z0=>z0.elim λ hb z0=>z0.elim λ h1 h2=>uQ <| ⟨_,by rw [ha,hb]; exact cmp_gt G i j,λ q=>h1 (of_decide_eq_true q),λ q=>h2 (of_decide_eq_false q)⟩) hs
theorem WT_eq (h:WE G Φ k l ρ β λ a β1=>WE G Φ k r ρ β1 λ b β2=>Int2c (λ i j=>i=j) a b (Kt β2) (Kf β2)):WT G Φ k (.Compare l [.Eq] [r] pos) ρ β Kt Kf :=
  WT_cmp (h.mono λ a b1 h=>h.mono λ b b2 z0=>hid λ _ uQ=>z0.elim λ i z0=>z0.elim λ j z0=>z0.elim λ ha z0=>z0.elim λ hb z0=>z0.elim λ h1 h2=>uQ <| ⟨_,by rw [ha,hb]; exact cmp_eq G i j,λ q=>h1 (of_decide_eq_true q),λ q=>h2 (of_decide_eq_false q)⟩) hs
end
noncomputable def ig (l:List Int) (i:Int):Int:=l.getD i.toNat 0
noncomputable def SubI (o j:V) (P:Int->Prop):Prop:=∃ (l:List Int) (i y:Int),o=IL l/\j=.int i/\idx (l.map .int) i=some (.int y)/\P y
theorem ig_some {l:List Int} {i:Int} (h0:0<=i) (h1:i < l.length):l[i.toNat]?=some (ig l i):=by
  unfold ig
  rw [List.getD_eq_getElem?_getD]
  have:i.toNat < l.length:=by omega
  rw [List.getElem?_eq_getElem this]; rfl
theorem subi_ok {l:List Int} {i:Int} {P:Int->Prop} (h0:0<=i) (h1:i < l.length) (hl:l.length<=100000) (h:P (ig l i)):SubI (IL l) (.int i) P :=
  ⟨l,i,_,rfl,rfl,idx_pos h0 (by rw [List.getElem?_map,ig_some h0 h1]; rfl) (by simpa using hl),h⟩
theorem WE_subi {K} (h:WE G Φ k l ρ β λ o β1=>WE G Φ k r ρ β1 λ j β2=>SubI o j λ x=>K (.int x) β2) (hs:noSlice r=true):WE G Φ k (.Subscript l r pos) ρ β K :=
  WE_sub (h.mono λ o b1 h=>h.mono λ j b2 z0=>hid λ _ uQ=>z0.elim λ l z0=>z0.elim λ i z0=>z0.elim λ y z0=>z0.elim λ ho z0=>z0.elim λ hj z0=>z0.elim λ hi hk=>uQ <| ⟨l.map .int,i,_,.inl ho,hj,hi,hk⟩) hs
noncomputable def SubO (xs:List V) (j:V) (P:V->Prop):Prop:=∃ i X,j=.int i/\idx xs i=some X/\P X
theorem WE_subo {x:Str} {a:Addr} {xs:List V} {p K} (hm:(x,.own a xs)∈ρ) (hs:noSlice r=true) (h:WE G Φ k r ρ β λ j β2=>SubO xs j λ X=>K X β2):WE G Φ k (.Subscript (.Name x p) r pos) ρ β K :=
  WE_subown hm h hs
noncomputable def Aug (G:Gd) (op:Operator) (i:Int) (v:V) (P:Int->Prop):Prop:=∃ j r,v=.int j/\InOk G op i j r/\P r
theorem aug_add {i j:Int} {P:Int->Prop} (h:P (i + j)):Aug G .Add i (.int j) P:=⟨j,_,rfl,in_add G i j,h⟩
theorem aug_sub {i j:Int} {P:Int->Prop} (h:P (i - j)):Aug G .Sub i (.int j) P:=⟨j,_,rfl,in_sub G i j,h⟩
theorem aug_shr {i j:Int} {P:Int->Prop} (hj:0<=j) (h:P (i / 2 ^ j.toNat)):Aug G .RShift i (.int j) P:=⟨j,_,rfl,in_shr G i j hj,h⟩
theorem aug_mod {i j:Int} {P:Int->Prop} (hj:0 < j) (h:P (i % j)):Aug G .Mod i (.int j) P:=⟨j,_,rfl,in_mod G i j hj,h⟩
theorem aug_or {i j:Int} {P:Int->Prop} (h:P (Builtin.bitOr i j)):Aug G .BitOr i (.int j) P:=⟨j,_,rfl,in_or G i j,h⟩
theorem setAt_ex {x:Str} {c c':Cell} {ρ:Loc} (h:(x,c)∈ρ):∃ ρ',SetAt x c' ρ c ρ':=by
  induction ρ with
  | nil=>cases h
  | cons p ρ ih=>exact (List.mem_cons.mp h).elim (λ e=>e ▸ ⟨_,.here⟩) λ h=>(ih h).elim λ ρ' q=>⟨_,.there q⟩
noncomputable def Put (x:Str) (r i:Int) (ρ:Loc) (P:Loc->Prop):Prop:=∃ ρ',SetAt x (.val (.int r)) ρ (.val (.int i)) ρ'/\P ρ'
theorem WS_aug1 {x:Str} {p:Pos} {op:Operator} {value:Expr} {pos:Pos} {K} {i:Int} (hp:Φ.plain=true) (hm:(x,.val (.int i))∈ρ) (h:WE G Φ k value ρ β λ v β1=>Aug G op i v λ r=>Put x r i ρ λ ρ'=>K .next ρ' β1):WS G Φ k (.AugAssign (.Name x p) op value pos) ρ β K :=
  WS_aug (X:=.none) (λ r=>let ⟨ρ',q⟩:=setAt_ex hm; ⟨ρ',q,rfl⟩) (h.mono λ v b z0=>hid λ _ uQ=>z0.elim λ j z0=>z0.elim λ r z0=>z0.elim λ hv z0=>z0.elim λ hop z0=>z0.elim λ ρ' z0=>z0.elim λ hs hk=>uQ <| ⟨j,r,ρ',hv,hop,hs,hk⟩) hm hp
theorem WS_app {x:Str} {a:Addr} {xs:List V} {p ap cp pos:Pos} {e:Expr} {K} (hm:(x,.own a xs)∈ρ) (hs:noStar e=true) (hl:(ap.endLine == cp.line)=true) (h:WE G Φ k e ρ β λ y β1=>xs.length<=1000/\∃ d ρ',SetAt x (.own a (xs ++ [y])) ρ d ρ'/\d.isRo=false/\K .next ρ' β1)
    : WS G Φ k (.Expr (.Call (.Attribute (.Name x p) "append" ap) [e] [] cp) pos) ρ β K :=
  λ A env g s Q E rm eo iv kk=>have hnd:(ρ.map (·.1)).Nodup:=by rw [iv.keys]; exact eo.nodup
  WS_append hm (h.mono λ y b z0=>hid λ _ uQ=>z0.elim λ h1 z0=>z0.elim λ d z0=>z0.elim λ ρ' z0=>z0.elim λ hset z0=>z0.elim λ _ hk=>uQ <| ⟨h1,ρ',by
    have e1:=lookup_of_nodup hnd hm
    have e2:=lookup_of_nodup hnd hset.mem_old
    rw [e1] at e2
    obtain rfl:=Option.some.inj e2
    exact hset,hk⟩) hs hl A env g s Q E rm eo iv kk
noncomputable abbrev LoopI (G:Gd) (Φ:Fm) (k:Nat) (x:Str) (body:List Stmt) (K:Fl->Loc->List V->Prop) (ρ:Loc) (β:List V) (N:Nat) (f:Nat->Int):Prop :=
  ∃ J:Nat->Loc->List V->Prop,J 0 ρ β/\(∀ (i:Nat) ρ1 β1,i < N->J i ρ1 β1->∃ d ρ2,SetAt x (.val (.int (f i))) ρ1 d ρ2/\d.isRo=false/\WSs G Φ k body ρ2 β1 (ForK J i K))/\∀ ρ1 β1,J N ρ1 β1->K .next ρ1 β1
noncomputable def IsInts (xs:List V) (N:Nat) (f:Nat->Int):Prop:=xs.length=N/\∀ i y,xs[i]?=some y->i < N/\y=.int (f i)
theorem WS_forZ {x:Str} {px pos:Pos} {iter:Expr} {body:List Stmt} {K:Fl->Loc->List V->Prop} (hp:Φ.plain=true) (h:WI G Φ k iter ρ β λ xs β1=>∃ N f,IsInts xs N f/\LoopI G Φ k x body K ρ β1 N f)
    (hs:∀ env v,foldedSetIterable iter env v=pure v:=by intro _ _; rfl):WS G Φ k (.For (.Name x px) iter body [] pos) ρ β K :=
  WS_for hp (h.mono λ xs β1 h=>by
    refine hid λ _ uQ=>?_
    obtain ⟨N,f,hz,J,h0,turn,fin⟩:=h
    refine uQ ?_
    exact ⟨J,h0,λ i y ρ1 β1 hy hj=>(hz.2 i y hy).2 ▸ turn i ρ1 β1 (hz.2 i y hy).1 hj,hz.1 ▸ fin⟩) hs
theorem ints_rng (m c:Int) (N:Nat):IsInts (rng m c N) N λ i=>m + i * c:=⟨rng_length ..,λ i y h=>by
  rw [rng_get] at h
  by_cases hi:i < N
  . rw [if_pos hi] at h; exact ⟨hi,(Option.some.inj h).symm⟩
  . rw [if_neg hi] at h; cases h⟩
theorem IsInts.eq {xs:List V} {N:Nat} {f g:Nat->Int} (h:IsInts xs N f) (e:∀ i,f i=g i):IsInts xs N g:=funext e ▸ h
theorem ig_at {l:List Int} {j:Nat} (h:j < l.length):ig l (j:Int)=l[j]:=by
  unfold ig
  rw [Int.toNat_natCast,List.getD_eq_getElem?_getD,List.getElem?_eq_getElem h]; rfl
theorem ig_drop {l:List Int} {j:Nat} (h:j < l.length):l.drop j=ig l (j:Int) :: l.drop (j + 1):=by
  rw [ig_at h]; exact List.drop_eq_getElem_cons h
theorem ig_take {l:List Int} {j:Nat} (h:j < l.length):l.take (j + 1)=l.take j ++ [ig l (j:Int)]:=by
  rw [ig_at h,List.take_succ_eq_append_getElem h]
theorem ig_lt {B:Int} (hB:2<=B) {a b:List Int} (ha:Dg B a) (hb:Dg B b) {i:Nat} (h1:i < a.length) (h2:i < b.length) (hd:a.drop (i + 1)=b.drop (i + 1)) (h:ig a i < ig b i):val B a < val B b:=by
  rw [ig_at h1,ig_at h2] at h
  exact dig_lt hB ha hb h1 h2 hd h
theorem ig_dg {B:Int} {l:List Int} (h:Dg B l) {j:Nat} (hj:j < l.length):0<=ig l (j:Int)/\ig l (j:Int) < B:=by
  rw [ig_at hj]; exact h _ (List.getElem_mem hj)
end
end B3
noncomputable section B4
section
variable {G:Gd} {Φ:Fm} {k:Nat} {ρ ρ':Loc} {β:List V} {l r:Expr} {pos:Pos}
theorem WR.mono {e:Expr} {K K':Cell->List V->Prop} (h:WR G Φ k e ρ β K) (hK:∀ c b,K c b->K' c b):WR G Φ k e ρ β K' :=
  λ A env g s Q E rm eo iv kk=>h A env g s Q E rm eo iv λ v c β' g' h' tk hk=>kk v c β' g' h' tk (hK c β' hk)
noncomputable def Up (o j:V) (P:V->Prop):Prop:=∃ (l:List Int) (i:Int),o=IL l/\j=.int i/\0<=i/\l.length<=10000/\P (IL (l.take i.toNat))
theorem up_ok {l:List Int} {i:Int} {P:V->Prop} (h0:0<=i) (hl:l.length<=10000) (h:P (IL (l.take i.toNat))):Up (IL l) (.int i) P:=⟨l,i,rfl,rfl,h0,hl,h⟩
theorem WE_uptoI {sp K} (h:WE G Φ k l ρ β λ o β1=>WE G Φ k r ρ β1 λ j β2=>Up o j λ v=>K v β2):WE G Φ k (.Subscript l (.Slice none (some r) none sp) pos) ρ β K :=
  WE_upto (h.mono λ o b1 h=>h.mono λ j b2 z0=>hid λ _ uQ=>z0.elim λ l z0=>z0.elim λ i z0=>z0.elim λ ho z0=>z0.elim λ hj z0=>z0.elim λ h0 z0=>z0.elim λ hl hk=>uQ <| ⟨l.map .int,i,ho,hj,h0,by simpa using hl,by rw [<- List.map_take]; exact hk⟩)
theorem Spec.eq {k':Nat} {f:V} {xs:List V} {v:V} {P:V->Prop} (h:Spec G k' f xs (·=v)) (l:k'<=k) (hk:P v):Spec G k f xs P:=(h.le l).mono λ y e=>e ▸ hk
section
variable {K:V->List V->Prop} (hs:noSet r=true)
include hs
end
noncomputable def Bl (v:V) (P:Bool->Prop):Prop:=∃ c,v=.bool c/\P c
theorem WT_bl {e:Expr} {Kt Kf} (hp:plainTest e=true) (h:WE G Φ k e ρ β λ v β1=>Bl v λ c=>(c=true->Kt β1)/\(c=false->Kf β1)):WT G Φ k e ρ β Kt Kf :=
  WT_val (h.mono λ v b z0=>z0.elim λ c z0=>z0.elim λ hv hk=>⟨c,hv,hk⟩) hp
theorem ig_eq {l:List Int} {i:Nat} {z:Int} (h:l[i]?=some z):i < l.length/\z=ig l (i:Int):=by
  have hi:=(List.getElem?_eq_some_iff.mp h).1
  have:=ig_some (l:=l) (i:=(i:Int)) (by omega) (by omega)
  rw [Int.toNat_natCast,h] at this
  exact ⟨hi,Option.some.inj this⟩
theorem ints_map (l:List Int):IsInts (l.map .int) l.length λ i=>ig l i:=⟨List.length_map ..,λ i y h=>by
  rw [List.getElem?_map] at h
  obtain ⟨z,hz,e⟩:=Option.map_eq_some_iff.mp h
  exact ⟨(ig_eq hz).1,by rw [<- e,(ig_eq hz).2]⟩⟩
theorem ints_rev (l:List Int):IsInts (l.map .int).reverse l.length λ i=>ig l ((l.length - 1 - i:Nat):Int):=⟨by rw [List.length_reverse,List.length_map],λ i y h=>by
  have hi:=(List.getElem?_eq_some_iff.mp h).1
  rw [List.length_reverse,List.length_map] at hi
  rw [List.getElem?_reverse (by rw [List.length_map]; exact hi),List.length_map] at h
  exact ⟨hi,((ints_map l).2 _ y h).2⟩⟩
theorem WS_forL {x:Str} {px pos:Pos} {body:List Stmt} {K:Fl->Loc->List V->Prop} (hp:Φ.plain=true) (h:WE G Φ k l ρ β λ v β1=>∃ xs:List Int,v=IL xs/\LoopI G Φ k x body K ρ β1 xs.length λ i=>ig xs i)
    (hs:∀ env v,foldedSetIterable l env v=pure v:=by intro _ _; rfl):WS G Φ k (.For (.Name x px) l body [] pos) ρ β K :=
  WS_forZ hp (WI_list (h.mono λ v b h=>by
    obtain ⟨xs,hv,h⟩:=h
    exact ⟨xs.map .int,hv,_,_,ints_map xs,h⟩)) hs
end
end B4
noncomputable section B6
section
variable {G:Gd} {Φ:Fm} {k:Nat} {ρ ρ':Loc} {β:List V} {l r:Expr} {pos:Pos}
theorem WE_bitlen {ap cp:Pos} {K} (hl:(ap.endLine == cp.line)=true) (h:WE G Φ k l ρ β λ v β1=>Int1 v λ i=>K (.int (Builtin.Int.intBits i)) β1)
    (hb:∀ env,attributeBase l "bit_length" env (eval l env)=eval l env:=by intro _; rfl):WE G Φ k (.Call (.Attribute l "bit_length" ap) [] [] cp) ρ β K :=
  λ A env g s Q E rm eo iv kk=>by
    refine wpAny_Call_method (T := "int") (hb env) rfl hl PySem.F.plainAttrs_int PyProof.Rows.slot_int_bit_length (by first | exact PyProof.Rows.type_int_bit_length | kernel_rfl) (h A env g s _ E rm eo iv λ v x β1 g1 h1 tk1 z0 iv1 rv st1=>z0.elim λ i z0=>z0.elim λ hi hk=>?_)
    refine Rep.int_q hi rv λ t=>?_
    refine ⟨typeIs_int _ _ _,(by intro a e; cases e),Calls.callWith_builtin rfl (PyProof.Rows.evalArgs_none ?_)⟩
    exact call_int_bit_length (kk _ _ β1 g1 h1 (tk1 + 1) hk iv1 (.int _ _) st1)
theorem WS_forEI {pn pc pos tp:Pos} {ts:List Expr} {xs2:List Str} {n:Nat} {body:List Stmt} {K:Fl->Loc->List V->Prop} (pg:PG G) (hp:Φ.plain=true) (hx:isGl Φ.scope "enumerate" = true) (hns:noStar l=true) (hn:namesAre ts xs2) (h2:xs2.length=2)
    (h:WE G Φ k l ρ β λ v β1=>∃ xs:List Int,v=IL xs/\∃ J:Nat->Loc->List V->Prop,J 0 ρ β1 /\
      (∀ (i:Nat) ρ1 β1,i < xs.length->J i ρ1 β1->∃ ρ2,SetAll xs2 [.val (.int i),.val (.int (ig xs i))] ρ1 ρ2/\WSs G Φ k body ρ2 β1 (ForK J i K))/\∀ ρ1 β1,J xs.length ρ1 β1->K .next ρ1 β1) :
    WS G Φ k (.For (.Tuple ts n tp) (.Call (.Name "enumerate" pn) [l] [] pc) body [] pos) ρ β K :=
  WS_forE (x := "") hp (isGl_mem hx) (pg_enum pg).1 (pg_enum pg).2 hns hn h2 (h.mono λ v b h=>by
    refine hid λ _ uQ=>?_
    obtain ⟨xs,hv,J,hJ,turn,fin⟩:=h
    refine uQ ?_
    have z:=ints_map xs
    exact ⟨xs.map .int,hv,J,hJ,λ i y ρ1 β1 hy hj=>(z.2 i y hy).2 ▸ turn i ρ1 β1 (z.2 i y hy).1 hj,z.1.symm ▸ fin⟩)
theorem WE_fnl {x:Str} {fv:V} {p:Pos} {args:List Expr} {pos K} (hm:(x,.val fv)∈ρ) (hf:IsFn G fv) (hns:args.all noStar=true)
    (h:WL G Φ k args ρ β λ xs β2=>Spec G k fv xs λ y=>K y β2):WE G Φ k (.Call (.Name x p) args [] pos) ρ β K :=
  WE_call (WE_name hm ⟨hf,h⟩) hns
section
variable {Kt Kf:List V->Prop}
theorem WT_blC {f:Expr} {args kw} (h:WE G Φ k (.Call f args kw pos) ρ β λ v β1=>Bl v λ c=>(c=true->Kt β1)/\(c=false->Kf β1)):WT G Φ k (.Call f args kw pos) ρ β Kt Kf:=WT_bl rfl h
end
section
variable {x:Str} {p:Pos}
end
end
end B6
noncomputable section B5
theorem n_mont_times:(dN 34).name = "mont_times" := by kernel_rfl
theorem n_check_odd:(dN 42).name = "check_odd" := by kernel_rfl
theorem d_check_odd {G:Gd} (pg:PG G):IsDef G (dN 42):=pg.d (by decide)
theorem n_strong_probable:(dN 45).name = "strong_probable" := by kernel_rfl
theorem d_strong_probable {G:Gd} (pg:PG G):IsDef G (dN 45):=pg.d (by decide)
theorem n_lucas_probable:(dN 54).name = "lucas_probable" := by kernel_rfl
theorem d_lucas_probable {G:Gd} (pg:PG G):IsDef G (dN 54):=pg.d (by decide)
theorem n_strong_lucas:(dN 55).name = "strong_lucas" := by kernel_rfl
theorem d_strong_lucas {G:Gd} (pg:PG G):IsDef G (dN 55):=pg.d (by decide)
theorem n_law_mul:(dN 61).name = "_law_mul" := by kernel_rfl
theorem d_law_mul {G:Gd} (pg:PG G):IsDef G (dN 61):=pg.d (by decide)
theorem n_law_divrem:(dN 62).name = "_law_divrem" := by kernel_rfl
theorem d_law_divrem {G:Gd} (pg:PG G):IsDef G (dN 62):=pg.d (by decide)
theorem n_law_box:(dN 64).name = "_law_box" := by kernel_rfl
theorem n_law_refused:(dN 70).name = "_law_refused" := by kernel_rfl
theorem d_law_refused {G:Gd} (pg:PG G):IsDef G (dN 70):=pg.d (by decide)
theorem n_law_tests_right:(dN 71).name = "_law_tests_right" := by kernel_rfl
theorem d_law_tests_right {G:Gd} (pg:PG G):IsDef G (dN 71):=pg.d (by decide)
theorem n_law:(dN 73).name = "law" := by kernel_rfl
theorem d_law {G:Gd} (pg:PG G):IsDef G (dN 73):=pg.d (by decide)
structure NM (x:Str) (i:Nat):Prop where
  ok:i∈fIdx/\(dN i).name=x
theorem NM.c_is_even:NM "is_even" 6:=⟨by decide,by kernel_rfl⟩
theorem NM.c_law_divrem:NM "_law_divrem" 62:=⟨by decide,by kernel_rfl⟩
theorem NM.c_law_is_prime:NM "_law_is_prime" 66:=⟨by decide,by kernel_rfl⟩
theorem NM.c_law_mul:NM "_law_mul" 61:=⟨by decide,by kernel_rfl⟩
theorem NM.c_law_row:NM "_law_row" 59:=⟨by decide,by kernel_rfl⟩
theorem NM.c_mont_mul:NM "mont_mul" 29:=⟨by decide,by kernel_rfl⟩
theorem NM.c_rest_small:NM "rest_small" 39:=⟨by decide,by kernel_rfl⟩
theorem NM.c_small_primes:NM "small_primes" 38:=⟨by decide,by kernel_rfl⟩
theorem NM.c_strong_probable:NM "strong_probable" 45:=⟨by decide,by kernel_rfl⟩
theorem WE_fnI {G:Gd} {Φ:Fm} {k:Nat} {ρ:Loc} {β:List V} {x:Str} {i:Nat} {p:Pos} {args:List Expr} {pos K} (nm:NM x i) (pg:PG G) (hx:isGl Φ.scope x=true) (hns:args.all noStar=true)
    (h:WL G Φ k args ρ β λ xs β2=>Spec G k (fnv G x) xs λ y=>K y β2):WE G Φ k (.Call (.Name x p) args [] pos) ρ β K:=WE_fn (pg.d nm.ok.1) nm.ok.2 hx hns h
theorem WE_fnvI {G:Gd} {Φ:Fm} {k:Nat} {ρ:Loc} {β:List V} {x:Str} {i:Nat} {p:Pos} {K} (nm:NM x i) (pg:PG G) (hx:isGl Φ.scope x=true) (h:K (fnv G x) β):WE G Φ k (.Name x p) ρ β K:=WE_fnv (pg.d nm.ok.1) nm.ok.2 hx h
noncomputable def isBox:Cell->Bool
  | .box _=>true
  | _=>false
end B5
noncomputable section P3
theorem len64 {B x:Int} (hB:2<=B) (h0:0<=x) (h1:x < 2 ^ 64):(row B x).length<=64:=by
  refine len_row hB h0 (Int.lt_of_lt_of_le h1 ?_)
  obtain ⟨b,rfl⟩:=Int.eq_ofNat_of_zero_le (show 0<=B by omega)
  have:(2:Nat) ^ 64<=b ^ 64:=Nat.pow_le_pow_left (by omega) 64
  rw [<- Int.natCast_pow]
  omega
theorem carry_step {B:Int} (hB:2<=B) (f:List Int) (t:Int):val B (f ++ [t % B]) + B ^ (f.length + 1) * (t / B)=val B f + B ^ f.length * t:=by
  rw [val_append,val_one,Int.pow_succ,Int.mul_assoc,Int.add_assoc,<- Int.mul_add,Int.emod_add_mul_ediv]
theorem dg_mod {B:Int} (hB:2<=B) {f:List Int} (h:Dg B f) (t:Int):Dg B (f ++ [t % B]) :=
  Dg.append.mpr ⟨h,Dg.cons.mpr ⟨⟨Int.emod_nonneg _ (by omega),Int.emod_lt_of_pos _ (by omega)⟩,Dg.nil⟩⟩
theorem val_take_succ {B:Int} {l:List Int} {i:Nat} (h:i < l.length):val B (l.take (i + 1))=val B (l.take i) + B ^ i * ig l (i:Int):=by
  rw [ig_take h,val_append,val_one,List.length_take,Nat.min_eq_left (by omega)]
theorem nrm_of_ge {B:Int} (hB:2<=B) {l:List Int} (hd:Dg B l) (h:l=[]\/B ^ (l.length - 1)<=val B l):Nrm l:=by
  rcases List.eq_nil_or_concat l with rfl | ⟨r,d,rfl⟩
  . simp [Nrm]
  . rw [List.concat_eq_append] at *
    have h:=h.resolve_left (by simp)
    intro e
    simp only [List.getLast?_append,List.getLast?_singleton,Option.some_or,Option.some.injEq] at e
    subst e
    have h1:=val_lt hB (Dg.append.mp hd).1
    rw [val_append,val_one] at h
    simp at h
    omega
theorem nrm_snoc {f:List Int} {c:Int} (h:c≠0):Nrm (f ++ [c]):=by
  unfold Nrm
  simp [h]
theorem row_ge {B x:Int} (hB:2<=B) (hx:0<=x):row B x=[]\/B ^ ((row B x).length - 1)<=x:=by
  by_cases h:row B x=[]
  . exact .inl h
  . have:=val_ge hB (dg_row hB x) (nrm_row hB x) h
    rw [val_row hB x hx] at this
    exact .inr this
theorem nrm_len {B x v:Int} (hB:2<=B) (hx:0<=x) {f:List Int} (hd:Dg B f) (hl:f.length=(row B x).length) (hv:val B f=v) (hxv:x<=v):Nrm f:=by
  refine nrm_of_ge hB hd ?_
  rcases row_ge hB hx with h | h
  . left; rw [h] at hl; exact List.length_eq_zero_iff.mp hl
  . right; rw [hl,hv]; omega
theorem row_eq_nil {B x:Int} (hB:2<=B) (hx:0<=x):row B x=[] ↔ x=0:=by
  constructor
  . intro h; have:=val_row hB x hx; rw [h] at this; exact this.symm
  . rintro rfl; exact row_zero
theorem row_len_pos {B x:Int} (hB:2<=B) (hx:0 < x):0 < (row B x).length:=by
  rw [row_pos hx hB]; simp
theorem ig_row0 {B x:Int} (hB:2<=B) (hx:0 < x):ig (row B x) 0=x % B:=by
  rw [row_pos hx hB]; rfl
theorem ig_row {B:Int} (hB:2<=B):∀ (i:Nat) (x:Int),0<=x->i < (row B x).length->ig (row B x) (i:Int)=x / B ^ i % B:=by
  intro i
  induction i with
  | zero => intro x hx h; have : 0 < x := by
              by_cases q:x=0
              . rw [q,row_zero] at h; simp at h
              . omega
            rw [Int.pow_zero,Int.ediv_one]; exact ig_row0 hB this
  | succ i ih =>
    intro x hx h
    have h0:0 < x:=by
      by_cases q:x=0
      . rw [q,row_zero] at h; simp at h
      . omega
    have e:=row_pos h0 hB
    rw [e] at h ⊢
    have:=ih (x / B) (Int.ediv_nonneg hx (by omega)) (by simpa using h)
    rw [Int.pow_succ,Int.mul_comm,<- Int.ediv_ediv_of_nonneg (by omega),<- this]
    unfold ig
    simp
theorem emod_mul' {B C:Int} (hB:0 < B) (hC:0 < C) (x:Int):x % (B * C)=x % B + B * (x / B % C):=by
  have e1:=Int.emod_add_mul_ediv x B
  have e2:=Int.emod_add_mul_ediv (x / B) C
  have l1:=Int.emod_nonneg x (show B≠0 by omega)
  have l2:=Int.emod_lt_of_pos x hB
  have l3:=Int.emod_nonneg (x / B) (show C≠0 by omega)
  have l4:=Int.emod_lt_of_pos (x / B) hC
  have e3:x=(x % B + B * (x / B % C)) + (B * C) * (x / B / C):=by
    rw [Int.mul_assoc,Int.add_assoc,<- Int.mul_add,e2,e1]
  have l5:B * (x / B % C + 1)<=B * C:=Int.mul_le_mul_of_nonneg_left (by omega) (by omega)
  have l6:0<=B * (x / B % C):=Int.mul_nonneg (by omega) l3
  rw [Int.mul_add] at l5
  conv=>lhs; rw [e3]
  rw [Int.add_mul_emod_self_left,Int.emod_eq_of_lt (by omega) (by omega)]
theorem row_take {B:Int} (hB:2<=B):∀ (i:Nat) (x:Int),0<=x->val B ((row B x).take i)=x % B ^ i:=by
  intro i
  induction i with
  | zero=>intro x hx; rw [List.take_zero,Int.pow_zero,Int.emod_one]; rfl
  | succ i ih =>
    intro x hx
    by_cases h0:0 < x
    . rw [row_pos h0 hB,List.take_succ_cons]
      show x % B + B * val B (List.take i (row B (x / B)))=_
      rw [ih _ (Int.ediv_nonneg hx (by omega)),Int.pow_succ,Int.mul_comm (B ^ i) B,emod_mul' (by omega) (pow_pos' hB i)]
    . rw [row_nil (by omega),show x=0 by omega,List.take_nil,Int.zero_emod]; rfl
theorem row_drop {B:Int} (hB:2<=B):∀ (i:Nat) (x:Int),0<=x->(row B x).drop i=row B (x / B ^ i):=by
  intro i
  induction i with
  | zero=>intro x hx; rw [List.drop_zero,Int.pow_zero,Int.ediv_one]
  | succ i ih =>
    intro x hx
    by_cases h0:0 < x
    . rw [row_pos h0 hB,List.drop_succ_cons,ih _ (Int.ediv_nonneg hx (by omega)),Int.pow_succ,Int.mul_comm,Int.ediv_ediv_of_nonneg (by omega)]
    . rw [row_nil (by omega),show x=0 by omega,Int.zero_ediv,row_zero]; simp
theorem val_zeros {B:Int}:∀ n:Nat,val B (List.replicate n 0)=0
  | 0=>rfl
  | n + 1=>by rw [List.replicate_succ]; show 0 + B * val B (List.replicate n 0)=0; rw [val_zeros n]; omega
theorem dg_zeros {B:Int} (hB:2<=B) (n:Nat):Dg B (List.replicate n 0):=λ d h=>by rw [List.eq_of_mem_replicate h]; omega
theorem row_shift {B:Int} (hB:2<=B) {x:Int} (hx:0 < x) (n:Nat):List.replicate n 0 ++ row B x=row B (x * B ^ n):=by
  refine row_eq hB (Dg.append.mpr ⟨dg_zeros hB n,dg_row hB x⟩) ?_ ?_
  . have:=nrm_row hB x
    unfold Nrm at this ⊢
    have hne:row B x≠[]:=λ h=>by rw [row_eq_nil hB (by omega)] at h; omega
    rw [List.getLast?_append]
    cases e:(row B x).getLast? with
    | none=>exact absurd (List.getLast?_eq_none_iff.mp e) hne
    | some d=>rw [e] at this; simpa using this
  . rw [val_append,val_zeros,List.length_replicate,val_row hB x (by omega),Int.mul_comm]; omega
end P3
noncomputable section B7
section
variable {G:Gd} {Φ:Fm} {k:Nat} {ρ:Loc} {β:List V} {p pos:Pos} {e f:Expr}
theorem WE_absI {K} (pg:PG G) (hx:isGl Φ.scope "abs" = true) (hns:noStar e=true) (h:WE G Φ k e ρ β λ v β1=>Int1 v λ i=>K (.int i.natAbs) β1):WE G Φ k (.Call (.Name "abs" p) [e] [] pos) ρ β K:=WE_abs pg hx hns h
end
end B7
end KO
section KN
local macro_rules | `(tactic| omega)=>`(tactic| ((fail_if_success (fail_if_success omega +splitDisjunctions)); first | lia -abstractProof | omega +splitDisjunctions))
noncomputable section L0
noncomputable def cM:ClsRec:=((plainsOf vw []).find? (λ c=>c.name == ("Montgomery" : Str))).getD ⟨"",none,[],[],0,[]⟩
noncomputable def cR:ClsRec:=((plainsOf vw []).find? (λ c=>c.name == ("Ring" : Str))).getD ⟨"",none,[],[],0,[]⟩
theorem n_cM:cM.name = "Montgomery" := by kernel_rfl
theorem n_cR:cR.name = "Ring" := by kernel_rfl
noncomputable def methOf (c:ClsRec) (n:Str):MethRec:=(c.meths.find? (λ r=>r.name == n)).getD ⟨"",⟨[],[],none,[],[],none,[]⟩,[],{ kind:=.function,names:=[],isGenerator:=false,isCoroutine:=false,more:=[] }⟩
theorem m_cM_init:cM.meths.find? (λ r=>r.name == ("__init__" : Str))=some (methOf cM "__init__"):=by kernel_rfl
noncomputable abbrev montV (C:Addr) (m mi one sq:V):V:=.inst C [("modulus",m),("minus",mi),("one",one),("square",sq)]
theorem obj_modulus:typeLookup (.type "object") "modulus" = pure none:=by rw [typeLookup_type,builtinLookup_eq_fast]; kernel_rfl
theorem obj_minus:typeLookup (.type "object") "minus" = pure none:=by rw [typeLookup_type,builtinLookup_eq_fast]; kernel_rfl
theorem obj_one:typeLookup (.type "object") "one" = pure none:=by rw [typeLookup_type,builtinLookup_eq_fast]; kernel_rfl
theorem obj_square:typeLookup (.type "object") "square" = pure none:=by rw [typeLookup_type,builtinLookup_eq_fast]; kernel_rfl
theorem st_cM:∀ f∈(["modulus","minus","one","square"]:List Str),cM.statics.contains f=true:=by
  have:(["modulus","minus","one","square"]:List Str).all (λ f=>cM.statics.contains f)=true:=by kernel_rfl
  exact λ f hf=>List.all_eq_true.mp this f hf
section
variable {G:Gd} {Φ:Fm} {k:Nat} {ρ ρ':Loc} {β:List V} {pos p q sp:Pos} {l e r:Expr} {x:Str} {C:Addr} {a b c d:V}
theorem WE_modulus {K} (hc:IsCls G cM C) (hm:(x,.val (montV C a b c d))∈ρ) (h:K a β):WE G Φ k (.Attribute (.Name x p) "modulus" pos) ρ β K :=
  WE_attr hc (st_cM _ (by simp)) obj_modulus (WE_name hm ⟨_,a,rfl,rfl,h⟩)
theorem WE_minusA {K} (hc:IsCls G cM C) (hm:(x,.val (montV C a b c d))∈ρ) (h:K b β):WE G Φ k (.Attribute (.Name x p) "minus" pos) ρ β K :=
  WE_attr hc (st_cM _ (by simp)) obj_minus (WE_name hm ⟨_,b,rfl,rfl,h⟩)
theorem WE_oneA {K} (hc:IsCls G cM C) (hm:(x,.val (montV C a b c d))∈ρ) (h:K c β):WE G Φ k (.Attribute (.Name x p) "one" pos) ρ β K :=
  WE_attr hc (st_cM _ (by simp)) obj_one (WE_name hm ⟨_,c,rfl,rfl,h⟩)
theorem WE_squareA {K} (hc:IsCls G cM C) (hm:(x,.val (montV C a b c d))∈ρ) (h:K d β):WE G Φ k (.Attribute (.Name x p) "square" pos) ρ β K :=
  WE_attr hc (st_cM _ (by simp)) obj_square (WE_name hm ⟨_,d,rfl,rfl,h⟩)
end
section
variable {G:Gd} {Φ:Fm} {k:Nat} {ρ ρ':Loc} {β:List V} {pos p:Pos}
theorem WE_make {c:ClsRec} {C:Addr} {x:Str} {e:Expr} {r:List Expr} {K} (hc:IsCls G c C) (hn:c.name=x) (hx:isGl Φ.scope x=true) (hns:(e :: r).all noStar=true)
    (h:WL G Φ k (e :: r) ρ β λ xs β1=>Spec G k (.fn C) xs λ y=>K y β1):WE G Φ k (.Call (.Name x p) (e :: r) [] pos) ρ β K :=
  λ A env g s Q E rm eo iv kk=>by
    subst hn
    refine hid λ _ uQ=>?_
    obtain ⟨hg,N,mN,P0⟩:=hc
    refine uQ ?_
    have hst:(backTo pos (starEach r env)).any (·.1)=false:=by
      have:=starEach_any (env:=env) (Bool.and_eq_true_iff.mp hns).2
      rw [<- this]
      unfold backTo
      rw [List.any_map]
      rfl
    refine Call_ (load_glob eo iv.ok (isGl_mem hx) hg ?_)
    refine callWith_cls P0.cls (h A env g s _ _ E rm eo iv λ vs xs β1 g1 h1 tk1 hk iv1 rs st1=>⟨λ b o e=>iv1.ok.sub b o (iv1.ok.gnd b o e),?_⟩) (starEach_cons (Bool.and_eq_true_iff.mp hns).1) hst
    exact hk A g1 (at_ s h1 tk1) _ vs Q E (rm.step st1) iv1.ok (.fn C) rs λ v x g2 h2 tk2 hx2 ok2 r2 st2=>kk v x β1 g2 h2 tk2 hx2 (iv1.called ok2 st2) r2 (st1.trans st2 λ b z=>z.elim)
end
theorem f_cM_init:fmOk (methOf cM "__init__").params (methOf cM "__init__").scope ("self" :: ["modulus","minus","one","square"]) []=true:=by kernel_rfl
theorem b_cM_init:InitB "self" (methOf cM "__init__").body [("modulus","modulus"),("minus","minus"),("one","one"),("square","square")]:=⟨by kernel_rfl,by kernel_rfl⟩
theorem spec_Montgomery {G:Gd} {C:Addr} (hM:IsCls G cM C) {k:Nat} (a b c d:V):Spec G (k + 2) (.fn C) [a,b,c,d] (·=montV C a b c d) :=
  spec_make (ps:=["modulus","minus","one","square"]) hM m_cM_init f_cM_init rfl b_cM_init rfl (by decide) (by decide) (λ f hf=>by
    simp only [List.mem_cons,List.not_mem_nil,or_false] at hf
    rcases hf with rfl | rfl | rfl | rfl
    . exact ⟨st_cM _ (by simp),obj_modulus⟩
    . exact ⟨st_cM _ (by simp),obj_minus⟩
    . exact ⟨st_cM _ (by simp),obj_one⟩
    . exact ⟨st_cM _ (by simp),obj_square⟩)
section
variable {G:Gd} {Φ:Fm} {k:Nat} {ρ ρ':Loc} {β:List V} {pos p q sp:Pos} {l e r:Expr} {x:Str} {C:Addr} {a b c d:V}
theorem WE_fromown {a:Addr} {xs:List V} {K} (hm:(x,.own a xs)∈ρ) (h:WE G Φ k e ρ β λ j β2=>∃ i,j=.int i/\0<=i/\xs.length<=10000/\K (.list (xs.drop i.toNat)) β2):WE G Φ k (.Subscript (.Name x p) (.Slice (some e) none none sp) pos) ρ β K :=
  λ A env g s Q E rm eo iv kk=>Subscript_ (wpAny_Name (load_own eo iv hm (by
    refine slice_node (h A env g _ _ E rm eo iv λ vj j β2 g2 h2 tk2 z0 iv2 rj st2=>hid λ _ uQ=>z0.elim λ i z0=>z0.elim λ hj z0=>z0.elim λ hi z0=>z0.elim λ hlen hk=>uQ <| wpAny_pure ?_)
    subst hj
    refine hid λ _ uQ=>?_
    obtain ⟨t,rfl⟩:=rj.int_inv
    obtain ⟨m,rfl⟩:=Int.eq_ofNat_of_zero_le hi
    obtain ⟨mm,hn,hc⟩:=iv2.cell
    obtain ⟨_,vs,n,ea,la⟩:=hc hm
    refine uQ ?_
    have x:=Ext.grown iv2.ok (Grow.push h2 { cls:=.type "slice",data:=.fields #[.int (m:Int) t,.none,.none] })
    refine tail_slice (λ _ _=>rfl) (x.grow.kept _ _ ea) ⟨_,Heap.get?_push_size _ rfl,rfl,rfl⟩ (.int _ _) .none (by rw [la.length]; omega) ?_
    rw [slicePick_from']
    have y:=Ext.alloc x.ok (lsObj (vs.drop m) 0)
    have z:=x.trans y
    exact kk _ _ β2 _ _ tk2 hk (z.inv iv2) (.list (gset_self ..) ((la.drop m).mono z.gle)) (st2.trans' z.step))) (eo.dbgk (iv.key hm)))
theorem WS_fnown {d:DefRec} {f:Str} {a:Addr} {xs:List V} {args:List Expr} {K} (hd:IsDef G d) (hn:d.name=f) (hx:isGl Φ.scope f=true) (hm:(x,.own a xs)∈ρ) (hns:args.all noStar=true)
    (h:WL G Φ k args ρ β λ ys β2=>SpecIO G k (fnv G f) xs ys λ r xs'=>r=.none/\∃ ρ',SetAt x (.own a xs') ρ (.own a xs) ρ'/\K .next ρ' β2):WS G Φ k (.Expr (.Call (.Name f p) (.Name x q :: args) [] pos) sp) ρ β K :=
  WS_callown hm (WE_fnv hd hn hx ⟨hn ▸ hd.isFn.1,h⟩) hns
end
noncomputable abbrev ringV (C:Addr) (n w mul dr:V):V:=.inst C [("n",n),("w",w),("mul",mul),("divrem",dr)]
theorem obj_n:typeLookup (.type "object") "n" = pure none:=by rw [typeLookup_type,builtinLookup_eq_fast]; kernel_rfl
theorem obj_w:typeLookup (.type "object") "w" = pure none:=by rw [typeLookup_type,builtinLookup_eq_fast]; kernel_rfl
theorem obj_mul:typeLookup (.type "object") "mul" = pure none:=by rw [typeLookup_type,builtinLookup_eq_fast]; kernel_rfl
theorem obj_divrem:typeLookup (.type "object") "divrem" = pure none:=by rw [typeLookup_type,builtinLookup_eq_fast]; kernel_rfl
theorem obj_plus:typeLookup (.type "object") "plus" = pure none:=by rw [typeLookup_type,builtinLookup_eq_fast]; kernel_rfl
theorem obj_product:typeLookup (.type "object") "product" = pure none:=by rw [typeLookup_type,builtinLookup_eq_fast]; kernel_rfl
theorem obj_half:typeLookup (.type "object") "half" = pure none:=by rw [typeLookup_type,builtinLookup_eq_fast]; kernel_rfl
theorem st_cR:∀ f∈(["n","w","mul","divrem"]:List Str),cR.statics.contains f=true:=by
  have:(["n","w","mul","divrem"]:List Str).all (λ f=>cR.statics.contains f)=true:=by kernel_rfl
  exact λ f hf=>List.all_eq_true.mp this f hf
theorem m_cR_init:cR.meths.find? (λ r=>r.name == ("__init__" : Str))=some (methOf cR "__init__"):=by kernel_rfl
theorem m_cR_plus:cR.meths.find? (λ r=>r.name == ("plus" : Str))=some (methOf cR "plus"):=by kernel_rfl
theorem m_cR_minus:cR.meths.find? (λ r=>r.name == ("minus" : Str))=some (methOf cR "minus"):=by kernel_rfl
theorem m_cR_product:cR.meths.find? (λ r=>r.name == ("product" : Str))=some (methOf cR "product"):=by kernel_rfl
theorem m_cR_half:cR.meths.find? (λ r=>r.name == ("half" : Str))=some (methOf cR "half"):=by kernel_rfl
theorem f_cR_init:fmOk (methOf cR "__init__").params (methOf cR "__init__").scope ("self" :: ["n","w","mul","divrem"]) []=true:=by kernel_rfl
theorem b_cR_init:InitB "self" (methOf cR "__init__").body [("n","n"),("w","w"),("mul","mul"),("divrem","divrem")]:=⟨by kernel_rfl,by kernel_rfl⟩
theorem spec_Ring {G:Gd} {C:Addr} (hM:IsCls G cR C) {k:Nat} (a b c d:V):Spec G (k + 2) (.fn C) [a,b,c,d] (·=ringV C a b c d) :=
  spec_make (ps:=["n","w","mul","divrem"]) hM m_cR_init f_cR_init rfl b_cR_init rfl (by decide) (by decide) (λ f hf=>by
    simp only [List.mem_cons,List.not_mem_nil,or_false] at hf
    rcases hf with rfl | rfl | rfl | rfl
    . exact ⟨st_cR _ (by simp),obj_n⟩
    . exact ⟨st_cR _ (by simp),obj_w⟩
    . exact ⟨st_cR _ (by simp),obj_mul⟩
    . exact ⟨st_cR _ (by simp),obj_divrem⟩)
section
variable {G:Gd} {Φ:Fm} {k:Nat} {ρ ρ':Loc} {β:List V} {pos p ap:Pos} {args:List Expr} {x:Str} {C:Addr} {a b c d:V}
theorem WE_rn {K} (hc:IsCls G cR C) (hm:(x,.val (ringV C a b c d))∈ρ) (h:K a β):WE G Φ k (.Attribute (.Name x p) "n" pos) ρ β K :=
  WE_attr hc (st_cR _ (by simp)) obj_n (WE_name hm ⟨_,a,rfl,rfl,h⟩)
theorem WE_rw {K} (hc:IsCls G cR C) (hm:(x,.val (ringV C a b c d))∈ρ) (h:K b β):WE G Φ k (.Attribute (.Name x p) "w" pos) ρ β K :=
  WE_attr hc (st_cR _ (by simp)) obj_w (WE_name hm ⟨_,b,rfl,rfl,h⟩)
theorem WE_rmul {K} (hc:IsCls G cR C) (hm:(x,.val (ringV C a b c d))∈ρ) (hf:IsFn G c) (hns:args.all noStar=true) (h:WL G Φ k args ρ β λ xs β2=>Spec G k c xs λ y=>K y β2)
    (he:∀ env,eval (.Call (.Attribute (.Name x p) "mul" ap) args [] pos) env=(do
      let ov <- eval (.Name x p) env
      standAt ap.atName
      let (f,first) <- holding [ov] (getMethod ov "mul" (do return (<- importBound (.Name x p) env).getD true))
      callWith pos f first (backTo pos (starEach args env)) []):=by intro _; rfl):WE G Φ k (.Call (.Attribute (.Name x p) "mul" ap) args [] pos) ρ β K :=
  WE_fcall hc (st_cR _ (by simp)) obj_mul (WE_name hm ⟨_,c,rfl,rfl,hf,h⟩) hns he
theorem WE_rdr {K} (hc:IsCls G cR C) (hm:(x,.val (ringV C a b c d))∈ρ) (hf:IsFn G d) (hns:args.all noStar=true) (h:WL G Φ k args ρ β λ xs β2=>Spec G k d xs λ y=>K y β2)
    (he:∀ env,eval (.Call (.Attribute (.Name x p) "divrem" ap) args [] pos) env=(do
      let ov <- eval (.Name x p) env
      standAt ap.atName
      let (f,first) <- holding [ov] (getMethod ov "divrem" (do return (<- importBound (.Name x p) env).getD true))
      callWith pos f first (backTo pos (starEach args env)) []):=by intro _; rfl):WE G Φ k (.Call (.Attribute (.Name x p) "divrem" ap) args [] pos) ρ β K :=
  WE_fcall hc (st_cR _ (by simp)) obj_divrem (WE_name hm ⟨_,d,rfl,rfl,hf,h⟩) hns he
theorem WE_rm {n:Str} {K} (hc:IsCls G cR C) (hm:(x,.val (ringV C a b c d))∈ρ) (hn:cR.meths.find? (λ r=>r.name == n)=some (methOf cR n)) (ho:typeLookup (.type "object") n=pure none) (hl:([("n",a),("w",b),("mul",c),("divrem",d)]:List (Str × V)).lookup n=none) (hns:args.all noStar=true)
    (h:WL G Φ k args ρ β λ xs β2=>SpecM G k cR C (methOf cR n) (ringV C a b c d :: xs) λ y=>K y β2)
    (he:∀ env,eval (.Call (.Attribute (.Name x p) n ap) args [] pos) env=(do
      let ov <- eval (.Name x p) env
      standAt ap.atName
      let (f,first) <- holding [ov] (getMethod ov n (do return (<- importBound (.Name x p) env).getD true))
      callWith pos f first (backTo pos (starEach args env)) []):=by intro _; rfl):WE G Φ k (.Call (.Attribute (.Name x p) n ap) args [] pos) ρ β K :=
  WE_meth hc hn ho (WE_name hm ⟨_,rfl,hl,h⟩) hns he
end
section
variable {G:Gd} {Φ:Fm} {k:Nat} {ρ ρ':Loc} {β:List V} {pos p q:Pos} {l r:Expr}
theorem WS_exprN {f:Expr} {args:List Expr} {kw:List Keyword} {K} (h:WE G Φ k (.Call f args kw p) ρ β λ v β1=>v=.none/\K .next ρ β1):WS G Φ k (.Expr (.Call f args kw p) pos) ρ β K :=
  λ A env g s Q E rm eo iv kk=>wpAny_Expr (h A env g s _ E rm eo iv λ v x β1 g1 h1 tk1 z0 iv1 rv st1=>z0.elim λ hx hk=>by
    refine Rep.none_q hx rv ?_
    exact kk .next .next ρ β1 g1 h1 tk1 hk iv1 trivial st1 λ b hb=>.inl hb) (by unfold interactive; rw [eo.fn]; rfl) (swaps_no rfl ..)
end
theorem WI_rev {G:Gd} {Φ:Fm} {k:Nat} {ρ:Loc} {β:List V} {l:Expr} {pn pc:Pos} {K} (pg:PG G) (hx:isGl Φ.scope "reversed" = true) (hns:noStar l=true) (h:WE G Φ k l ρ β λ v β1=>∃ xs,v=.list xs/\K xs.reverse β1):WI G Φ k (.Call (.Name "reversed" pn) [l] [] pc) ρ β K :=
  WI_reversed (isGl_mem hx) (pg_rev pg).1 (pg_rev pg).2 hns h
theorem WI_range {G:Gd} {Φ:Fm} {k:Nat} {ρ:Loc} {β:List V} {pn pc:Pos} {K} (pg:PG G) (hx:isGl Φ.scope "range" = true) {e:Expr} {r:List Expr} (hns:(e :: r).all noStar=true) (h:WL G Φ k (e :: r) ρ β λ xs β1=>∃ m c N,RangeOf xs m c N/\K (rng m c N) β1):WI G Φ k (.Call (.Name "range" pn) (e :: r) [] pc) ρ β K :=
  WI_rng (isGl_mem hx) (pg_range pg).1 (pg_range pg).2 hns h
end L0
noncomputable section L1
noncomputable section
set_option genSizeOf false
set_option genInjectivity false
inductive SV where
  | none | bool (b:Bool) | int (i:Int) | il (l:List Int) | rl (l:List (List Int)) | t2 (a b:SV) | t3 (a b c:SV)
  | mg (C:Addr) (a b c d:SV) | rg (C:Addr) (a b c d:SV) | v (x:V)
noncomputable def SV.den:SV->V
  | .none=>.none
  | .bool b=>.bool b
  | .int i=>.int i
  | .il l=>IL l
  | .rl l=>.list (l.map IL)
  | .t2 a b=>.tup [a.den,b.den]
  | .t3 a b c=>.tup [a.den,b.den,c.den]
  | .mg C a b c d=>montV C a.den b.den c.den d.den
  | .rg C a b c d=>ringV C a.den b.den c.den d.den
  | .v x=>x
inductive SL where
  | il (l:List Int) | rl (l:List (List Int)) | ss (xs:List SV) | vs (xs:List V)
noncomputable def SL.den:SL->List V
  | .il l=>l.map .int
  | .rl l=>l.map IL
  | .ss xs=>xs.map SV.den
  | .vs xs=>xs
inductive SC where
  | un | v (s:SV) | own (a:Addr) (l:SL) | box (a:Addr)
noncomputable def SC.den:SC->Cell
  | .un=>.un
  | .v s=>.val s.den
  | .own a l=>.own a l.den
  | .box a=>.box a
noncomputable abbrev En:=List SC
noncomputable def loc (ks:List Str) (ρ:En):Loc:=ks.zip (ρ.map SC.den)
set_option genCtorIdx false in
inductive IE where
  | nm (i:Nat) | gsm | gf (x:Str) | int (i:Int) | bool (b:Bool) | none
  | bin (op:Operator) (l r:IE) | neg (e:IE) | not (e:IE)
  | cmp (op:CmpOp) (l r:IE) | and (l r:IE) | or (l r:IE) | ite (t a b:IE)
  | call (x:Str) (as:IE) | calv (i:Nat) (as:IE) | io (x:Str) (as:IE) | mkM (as:IE) | mkR (as:IE)
  | fM (i j:Nat) | fR (i j:Nat) | cR (i j:Nat) (as:IE) | mR (i:Nat) (m:Str) (as:IE)
  | len (e:IE) | abs (e:IE) | max (a b:IE) | blen (e:IE)
  | idx (e i:IE) | oix (i:Nat) (e:IE) | last (e:IE) | olast (i:Nat) | upto (e i:IE) | ofrm (i:Nat) (e:IE)
  | lst (as:IE) | t2 (a b:IE) | t3 (a b c:IE)
  | nil | cons (e r:IE)
  | raw (e:Expr)
set_option genCtorIdx false in
inductive IS where
  | nil | ret (e:IE) | reto (i:Nat) | raise | cont
  | set (i:Nat) (e:IE) (r:IS) | seto (i:Nat) (e:IE) (r:IS)
  | set2 (i j:Nat) (a b:IE) (r:IS) | set4 (i j k l:Nat) (a b c d:IE) (r:IS) | cown (x:Str) (i:Nat) (as:IE) (r:IS) | set3 (i j k:Nat) (a b c:IE) (r:IS)
  | unp2 (i j:Nat) (e:IE) (r:IS) | unp3 (i j k:Nat) (e:IE) (r:IS)
  | aug (i:Nat) (op:Operator) (e:IE) (r:IS)
  | app (i:Nat) (e:IE) (r:IS) | put (i:Nat) (v e:IE) (r:IS)
  | ite (t:IE) (a b r:IS) | whl (t:IE) (b r:IS)
  | for1 (i:Nat) (e:IE) (b r:IS) | for2 (i:Nat) (l h:IE) (b r:IS) | forD (i:Nat) (l h:IE) (b r:IS) | forS (i:Nat) (l h s:IE) (b r:IS)
  | forL (i:Nat) (e:IE) (b r:IS) | forE (i j:Nat) (e:IE) (b r:IS) | forR (i:Nat) (e:IE) (b r:IS)
  | exp (e:IE) (r:IS) | frz (i:Nat) (r:IS) | raw (st:Stmt) (r:IS)
structure Br (c A B:Prop):Prop where
  t:c->A
  f:¬ c->B
noncomputable def vI (s:SV) (P:Int->Prop):Prop:=match s with
  | .int i=>P i
  | _=>False
noncomputable def vB (s:SV) (P:Bool->Prop):Prop:=match s with
  | .bool i=>P i
  | _=>False
noncomputable def vL (s:SV) (P:List Int->Prop):Prop:=match s with
  | .il i=>P i
  | _=>False
@[irreducible] noncomputable def Ca (G:Gd) (k:Nat) (f:V) (as:List SV) (K:SV->Prop):Prop:=Spec G k f (as.map SV.den) λ v=>∃ s:SV,v=s.den/\K s
@[irreducible] noncomputable def CaM (G:Gd) (k:Nat) (C:Addr) (m:Str) (as:List SV) (K:SV->Prop):Prop:=SpecM G k cR C (methOf cR m) (as.map SV.den) λ v=>∃ s:SV,v=s.den/\K s
@[irreducible] noncomputable def CaIO (G:Gd) (k:Nat) (f:V) (β:SL) (as:List SV) (K:SV->SL->Prop):Prop:=SpecIO G k f β.den (as.map SV.den) λ v l=>∃ (s:SV) (m:SL),v=s.den/\l=m.den/\K s m
noncomputable def vBin (op:Operator) (a b:SV) (K:SV->Prop):Prop:=match op with
  | .Add=>match a with
    | .int i=>vI b λ j=>K (.int (i + j))
    | .il f=>vL b λ g=>f.length + g.length<=10000/\K (.il (f ++ g))
    | _=>False
  | .Sub=>vI a λ i=>vI b λ j=>K (.int (i - j))
  | .Mult=>match a with
    | .int i=>vI b λ j=>Sm i/\Sm j/\K (.int (i * j))
    | .il [x]=>vI b λ n=>0<=n/\n<=10000/\K (.il (List.replicate n.toNat x))
    | _=>False
  | .FloorDiv=>vI a λ i=>vI b λ j=>0 < j/\Sm j/\K (.int (i / j))
  | .Mod=>vI a λ i=>vI b λ j=>0 < j/\K (.int (i % j))
  | .LShift=>vI a λ i=>vI b λ j=>∃ n:Nat,j=n/\n<=100000/\i.natAbs < 2 ^ 64/\K (.int (i * 2 ^ n))
  | .RShift=>vI a λ i=>vI b λ j=>∃ n:Nat,j=n/\K (.int (i / 2 ^ n))
  | .Pow=>vI a λ i=>vI b λ j=>∃ n:Nat,j=n/\n<=100000/\i.natAbs < 2 ^ 64/\K (.int (i ^ n))
  | .BitAnd=>vI a λ i=>vI b λ j=>K (.int (Builtin.bitAnd i j))
  | .BitOr=>vI a λ i=>vI b λ j=>K (.int (Builtin.bitOr i j))
  | _=>False
noncomputable def vBinR (op:Operator) (a b:SV) (K:SC->Prop):Prop:=match op with
  | .Add=>match a with
    | .il f=>vL b λ g=>f.length + g.length<=10000/\∀ ad,K (.own ad (.il (f ++ g)))
    | _=>vBin op a b λ s=>K (.v s)
  | .Mult=>match a with
    | .il [x]=>vI b λ n=>0<=n/\n<=10000/\∀ ad,K (.own ad (.il (List.replicate n.toNat x)))
    | .v (.list [y])=>vI b λ n=>0<=n/\n<=10000/\∀ ad,K (.own ad (.vs (List.replicate n.toNat y)))
    | _=>vBin op a b λ s=>K (.v s)
  | _=>vBin op a b λ s=>K (.v s)
noncomputable def vAug (op:Operator) (i:Int) (b:SV) (K:SV->Prop):Prop:=vI b λ j=>match op with
  | .Add=>K (.int (i + j))
  | .Sub=>K (.int (i - j))
  | .RShift=>∃ n:Nat,j=n/\K (.int (i / 2 ^ n))
  | .Mod=>0 < j/\K (.int (i % j))
  | .BitOr=>K (.int (Builtin.bitOr i j))
  | _=>False
noncomputable def vEq (a b:SV) (A B:Prop):Prop:=match a with
  | .int i=>match b with
    | .int j=>Br (i=j) A B
    | _=>False
  | .il f=>vL b λ g=>Br (f=g) A B
  | .bool c=>vB b λ d=>Br (c=d) A B
  | _=>False
noncomputable def vNe (a b:SV) (A B:Prop):Prop:=match a with
  | .none=>match b with
    | .none=>B
    | .int _=>A
    | _=>False
  | .int i=>match b with
    | .int j=>Br (i=j) B A
    | .none=>A
    | _=>False
  | .il f=>vL b λ g=>Br (f=g) B A
  | .bool c=>vB b λ d=>Br (c=d) B A
  | _=>False
noncomputable def vIn (a b:SV) (A B:Prop):Prop:=match a with
  | .int i=>match b with
    | .t2 x y=>vI x λ x=>vI y λ y=>Br (i=x\/i=y) A B
    | _=>False
  | .il f=>match b with
    | .t2 x y=>vL x λ x=>vL y λ y=>Br (f=x\/f=y) A B
    | .rl l=>Br (f∈l) A B
    | _=>False
  | _=>False
noncomputable def vIs (a b:SV) (A B:Prop):Prop:=match b with
  | .none=>match a with
    | .none=>A
    | .v x=>Br (x.isNone=true) A B
    | _=>B
  | _=>False
noncomputable def vTst (op:CmpOp) (a b:SV) (A B:Prop):Prop:=match op with
  | .Lt=>vI a λ i=>vI b λ j=>Br (i < j) A B
  | .LtE=>vI a λ i=>vI b λ j=>Br (i<=j) A B
  | .Gt=>vI a λ i=>vI b λ j=>Br (j < i) A B
  | .GtE=>vI a λ i=>vI b λ j=>Br (j<=i) A B
  | .Eq=>vEq a b A B
  | .NotEq=>vNe a b A B
  | .In=>vIn a b A B
  | .Is=>vIs a b A B
  | .IsNot=>vIs a b B A
  | _=>False
noncomputable def vCmp (op:CmpOp) (a b:SV) (K:SV->Prop):Prop:=match op with
  | .Lt=>vI a λ i=>vI b λ j=>K (.bool (decide (i < j)))
  | .LtE=>vI a λ i=>vI b λ j=>K (.bool (decide (i<=j)))
  | .Gt=>vI a λ i=>vI b λ j=>K (.bool (decide (j < i)))
  | .GtE=>vI a λ i=>vI b λ j=>K (.bool (decide (j<=i)))
  | .Eq=>match a with
    | .int i=>vI b λ j=>K (.bool (decide (i=j)))
    | .il f=>vL b λ g=>K (.bool (decide (f=g)))
    | .bool c=>vB b λ d=>K (.bool (c == d))
    | _=>False
  | .NotEq=>match a with
    | .int i=>vI b λ j=>K (.bool (decide (i≠j)))
    | .il f=>vL b λ g=>K (.bool (decide (f≠g)))
    | _=>False
  | .In=>match a with
    | .il f=>match b with
      | .rl l=>K (.bool (decide (f∈l)))
      | _=>False
    | _=>False
  | .Is=>match b with
    | .none=>K (.bool a.den.isNone)
    | _=>False
  | .IsNot=>match b with
    | .none=>K (.bool !a.den.isNone)
    | _=>False
  | _=>False
noncomputable def vIx (l:SL) (j:SV) (K:SV->Prop):Prop:=vI j λ i=>match l with
  | .il f=>0<=i/\i < f.length/\f.length<=100000/\K (.int (ig f i))
  | .rl f=>0<=i/\i < f.length/\f.length<=100000/\K (.il (f.getD i.toNat []))
  | .ss xs=>match i with
    | .ofNat n=>xs.length<=1000/\match xs[n]? with
      | some s=>K s
      | none=>False
    | _=>False
  | .vs xs=>∃ s:SV,Internal.idx xs i=some s.den/\K s
noncomputable def vLast (l:SL) (K:SV->Prop):Prop:=match l with
  | .il f=>0 < f.length/\f.length<=100000/\K (.int (ig f ((f.length - 1:Nat):Int)))
  | .rl f=>0 < f.length/\f.length<=100000/\K (.il (f.getD (f.length - 1) []))
  | .ss _=>False
  | .vs xs=>∃ s:SV,Internal.idx xs (-1)=some s.den/\K s
noncomputable def SV.sl:SV->Option SL
  | .il f=>some (.il f)
  | .rl f=>some (.rl f)
  | .t2 a b=>some (.ss [a,b])
  | .t3 a b c=>some (.ss [a,b,c])
  | .v (.list xs)=>some (.vs xs)
  | _=>Option.none
noncomputable def vSl (s:SV) (P:SL->Prop):Prop:=match s.sl with
  | some l=>P l
  | none=>False
noncomputable def vRl (s:SV) (P:Nat->Prop):Prop:=match s with
  | .il f=>P f.length
  | .rl f=>P f.length
  | _=>False
noncomputable def SL.app (l:SL) (s:SV):SL:=match l with
  | .il f=>match s with
    | .int i=>.il (f ++ [i])
    | .il g=>match f with
      | []=>.rl [g]
      | f=>.vs (f.map .int ++ [IL g])
    | s=>.vs (f.map .int ++ [s.den])
  | .rl f=>match s with
    | .il g=>.rl (f ++ [g])
    | s=>.vs (f.map IL ++ [s.den])
  | .ss xs=>.vs (xs.map SV.den ++ [s.den])
  | .vs xs=>.vs (xs ++ [s.den])
noncomputable def SL.sv:SL->SV
  | .il f=>.il f
  | .rl f=>.rl f
  | .ss xs=>.v (.list (xs.map SV.den))
  | .vs xs=>.v (.list xs)
noncomputable def SL.len:SL->Nat
  | .il f=>f.length
  | .rl f=>f.length
  | .ss xs=>xs.length
  | .vs xs=>xs.length
noncomputable def vLen (l:SL) (P:Nat->Prop):Prop:=match l with
  | .il f=>P f.length
  | .rl f=>P f.length
  | .ss f=>P f.length
  | .vs f=>P f.length
noncomputable def lstOf:List SV->SL
  | []=>.il []
  | [.int i]=>.il [i]
  | [.il f]=>.rl [f]
  | [.il f,.il g]=>.rl [f,g]
  | xs=>.ss xs
noncomputable def vPut (l:SL) (n:Int) (s:SV) (K:SL->Prop):Prop:=match l with
  | .il f=>vI s λ y=>0<=n/\n < f.length/\f.length<=10000/\K (.il (f.set n.toNat y))
  | .vs xs=>0<=n/\n < xs.length/\xs.length<=10000/\K (.vs (xs.set n.toNat s.den))
  | .ss xs=>match n with
    | .ofNat n=>n < xs.length/\xs.length<=10000/\K (.ss (xs.set n s))
    | _=>False
  | _=>False
noncomputable def SC.fz (c:SC):SC:=match c with
  | .own _ l=>.v l.sv
  | c=>c
noncomputable def SC.up (c:SC) (l:SL):SC:=match c with
  | .own a _=>.own a l
  | c=>c
structure Md where
  E:En->SL->(SV->SL->Prop)->Prop
  T:En->SL->(SL->Prop)->(SL->Prop)->Prop
  R:En->SL->(SC->SL->Prop)->Prop
  A:En->SL->(List SV->SL->Prop)->Prop
noncomputable def kTst (Kt Kf:SL->Prop) (s:SV) (β1:SL):Prop:=vB s λ c=>Br (c=true) (Kt β1) (Kf β1)
noncomputable def kVal (K:SC->SL->Prop) (s:SV) (β1:SL):Prop:=K (.v s) β1
noncomputable def Md.T' (E:En->SL->(SV->SL->Prop)->Prop) (ρ:En) (β:SL) (Kt Kf:SL->Prop):Prop:=E ρ β (kTst Kt Kf)
noncomputable def Md.R' (E:En->SL->(SV->SL->Prop)->Prop) (ρ:En) (β:SL) (K:SC->SL->Prop):Prop:=E ρ β (kVal K)
noncomputable def Md.no (_:En) (_:SL) (_:List SV->SL->Prop):Prop:=False
noncomputable def Md.noE (_:En) (_:SL) (_:SV->SL->Prop):Prop:=False
noncomputable def Md.noR (_:En) (_:SL) (_:SC->SL->Prop):Prop:=False
noncomputable def Md.noT (_:En) (_:SL) (_ _:SL->Prop):Prop:=False
noncomputable def Md.ofE (E:En->SL->(SV->SL->Prop)->Prop):Md:=⟨E,Md.T' E,Md.R' E,Md.no⟩
@[irreducible] noncomputable def Jn (K:SV->SL->Prop) (P:(SV->SL->Prop)->Prop):Prop:=∃ Q:SV->SL->Prop,P Q/\∀ s β,Q s β->K s β
@[irreducible] noncomputable def Jm (K:En->SL->Prop) (P:(En->SL->Prop)->Prop):Prop:=∃ Q:En->SL->Prop,P Q/\∀ s β,Q s β->K s β
noncomputable def vNm (c:SC) (K:SV->Prop):Prop:=match c with
  | .v s=>K s
  | _=>False
noncomputable def vNo (s:SV) (P:Prop):Prop:=match s with
  | .none=>P
  | _=>False
noncomputable def vMg (c:SC) (P:Addr->SV->SV->SV->SV->Prop):Prop:=match c with
  | .v (.mg ad a b c d)=>P ad a b c d
  | _=>False
noncomputable def vRg (c:SC) (P:Addr->SV->SV->SV->SV->Prop):Prop:=match c with
  | .v (.rg ad a b c d)=>P ad a b c d
  | _=>False
noncomputable def vBx (c:SC) (P:Prop):Prop:=match c with
  | .box _=>P
  | _=>False
structure Cx' where
  G:Gd
  Φ:Fm
  k:Nat
  bx:Nat:=0
noncomputable def lk (ρ:En) (i:Nat):SC:=ρ.getD i .un
noncomputable def vOw (c:SC) (P:SL->Prop) (Q:Prop):Prop:=match c with
  | .own _ l=>P l
  | .box _=>Q
  | _=>False
noncomputable def vIl (c:SC) (P:List Int->Prop):Prop:=match c with
  | .own _ (.il f)=>P f
  | _=>False
noncomputable def nth4 (a b c d:SV):Nat->SV
  | 0=>a
  | 1=>b
  | 2=>c
  | _=>d
noncomputable abbrev SE:Type:=En->SL->(SV->SL->Prop)->Prop
noncomputable abbrev ST:Type:=En->SL->(SL->Prop)->(SL->Prop)->Prop
noncomputable abbrev SA:Type:=En->SL->(List SV->SL->Prop)->Prop
noncomputable abbrev KE:Type:=SV->SL->Prop
noncomputable abbrev KX:Type:=SC->SL->Prop
noncomputable abbrev KA:Type:=List SV->SL->Prop
noncomputable def kF (K:KE) (β:SL) (s:SV):Prop:=K s β
noncomputable def kX (K:KX) (β:SL) (s:SC):Prop:=K s β
noncomputable def kFX (K:KX) (s:SV) (β:SL):Prop:=K (.v s) β
noncomputable def kB2 (op:Operator) (a:SV) (K:KE) (b:SV) (β:SL):Prop:=vBin op a b (kF K β)
noncomputable def kB1 (E:SE) (op:Operator) (ρ:En) (K:KE) (a:SV) (β:SL):Prop:=E ρ β (kB2 op a K)
noncomputable def kB2R (op:Operator) (a:SV) (K:KX) (b:SV) (β:SL):Prop:=vBinR op a b (kX K β)
noncomputable def kB1R (E:SE) (op:Operator) (ρ:En) (K:KX) (a:SV) (β:SL):Prop:=E ρ β (kB2R op a K)
noncomputable def kNeg (K:KE) (a:SV) (β:SL):Prop:=vI a λ i=>K (.int (-i)) β
noncomputable def kNot (K:KE) (a:SV) (β:SL):Prop:=vB a λ c=>K (.bool !c) β
noncomputable def kC2 (op:CmpOp) (a:SV) (K:KE) (b:SV) (β:SL):Prop:=vCmp op a b (kF K β)
noncomputable def kC1 (E:SE) (op:CmpOp) (ρ:En) (K:KE) (a:SV) (β:SL):Prop:=E ρ β (kC2 op a K)
noncomputable def kT2 (op:CmpOp) (a:SV) (Kt Kf:SL->Prop) (b:SV) (β:SL):Prop:=vTst op a b (Kt β) (Kf β)
noncomputable def kT1 (E:SE) (op:CmpOp) (ρ:En) (Kt Kf:SL->Prop) (a:SV) (β:SL):Prop:=E ρ β (kT2 op a Kt Kf)
noncomputable def kAnd (E:SE) (ρ:En) (K:KE) (a:SV) (β:SL):Prop:=vB a λ c=>Br (c=true) (E ρ β K) (K (.bool false) β)
noncomputable def kOr (E:SE) (ρ:En) (K:KE) (a:SV) (β:SL):Prop:=vB a λ c=>Br (c=true) (K (.bool true) β) (E ρ β K)
noncomputable def kTT (T:ST) (ρ:En) (Kt Kf:SL->Prop) (β:SL):Prop:=T ρ β Kt Kf
noncomputable def kEQ (E:SE) (ρ:En) (Q:KE) (β:SL):Prop:=E ρ β Q
noncomputable def pIte (T:ST) (A B:SE) (ρ:En) (β:SL) (Q:KE):Prop:=T ρ β (kEQ A ρ Q) (kEQ B ρ Q)
noncomputable def kCall (G:Gd) (k:Nat) (f:V) (K:KE) (xs:List SV) (β:SL):Prop:=Ca G k f xs (kF K β)
noncomputable def kIO (G:Gd) (k:Nat) (f:V) (K:KE) (xs:List SV) (β:SL):Prop:=CaIO G k f β xs K
noncomputable def kMet (G:Gd) (k:Nat) (ad:Addr) (m:Str) (o:SV) (K:KE) (xs:List SV) (β:SL):Prop:=CaM G k ad m (o :: xs) (kF K β)
noncomputable def kMk (g:SV->SV->SV->SV->SV) (K:KE) (xs:List SV) (β:SL):Prop:=match xs with
  | [a,b,c,d]=>K (g a b c d) β
  | _=>False
noncomputable def kLen (K:KE) (a:SV) (β:SL):Prop:=vRl a λ n=>n<=100000/\K (.int n) β
noncomputable def kAbs (K:KE) (a:SV) (β:SL):Prop:=vI a λ i=>K (.int i.natAbs) β
noncomputable def kBl (K:KE) (a:SV) (β:SL):Prop:=vI a λ i=>K (.int (Builtin.Int.intBits i)) β
noncomputable def kMax2 (a:SV) (K:KE) (b:SV) (β:SL):Prop:=vI a λ i=>vI b λ j=>K (.int (max i j)) β
noncomputable def kMax1 (E:SE) (ρ:En) (K:KE) (a:SV) (β:SL):Prop:=E ρ β (kMax2 a K)
noncomputable def kIx2 (o:SV) (K:KE) (j:SV) (β:SL):Prop:=vSl o λ l=>vIx l j (kF K β)
noncomputable def kIx1 (E:SE) (ρ:En) (K:KE) (o:SV) (β:SL):Prop:=E ρ β (kIx2 o K)
noncomputable def kOx (l:SL) (K:KE) (j:SV) (β:SL):Prop:=vIx l j (kF K β)
noncomputable def kOb (K:KE) (j:SV) (β:SL):Prop:=vIx β j (kF K β)
noncomputable def kLast (K:KE) (o:SV) (β:SL):Prop:=vSl o λ l=>vLast l (kF K β)
noncomputable def kUp2 (o:SV) (K:KE) (j:SV) (β:SL):Prop:=vL o λ f=>vI j λ i=>0<=i/\f.length<=10000/\K (.il (f.take i.toNat)) β
noncomputable def kUp1 (E:SE) (ρ:En) (K:KE) (o:SV) (β:SL):Prop:=E ρ β (kUp2 o K)
noncomputable def kFr (f:List Int) (K:KE) (j:SV) (β:SL):Prop:=vI j λ n=>0<=n/\f.length<=10000/\K (.il (f.drop n.toNat)) β
noncomputable def kLst (K:KE) (xs:List SV) (β:SL):Prop:=xs.length<=1000/\K (lstOf xs).sv β
noncomputable def kLstR (K:KX) (xs:List SV) (β:SL):Prop:=xs.length<=1000/\∀ a,K (.own a (lstOf xs)) β
noncomputable def kP2 (a:SV) (K:KE) (b:SV) (β:SL):Prop:=K (.t2 a b) β
noncomputable def kP1 (E:SE) (ρ:En) (K:KE) (a:SV) (β:SL):Prop:=E ρ β (kP2 a K)
noncomputable def kQ3 (a b:SV) (K:KE) (c:SV) (β:SL):Prop:=K (.t3 a b c) β
noncomputable def kQ2 (E:SE) (a:SV) (ρ:En) (K:KE) (b:SV) (β:SL):Prop:=E ρ β (kQ3 a b K)
noncomputable def kQ1 (E E2:SE) (ρ:En) (K:KE) (a:SV) (β:SL):Prop:=E ρ β (kQ2 E2 a ρ K)
noncomputable def kA2 (s:SV) (K:KA) (xs:List SV) (β:SL):Prop:=K (s :: xs) β
noncomputable def kA1 (A:SA) (ρ:En) (K:KA) (s:SV) (β:SL):Prop:=A ρ β (kA2 s K)
noncomputable def kR (K:KE) (v:V) (b:List V):Prop:=∃ (s:SV) (β:SL),v=s.den/\b=β.den/\K s β
noncomputable def kRT (K:SL->Prop) (b:List V):Prop:=∃ β:SL,b=β.den/\K β
noncomputable def vc (C:Cx'):IE->Md
  | .nm i=>.ofE λ ρ β K=>vNm (lk ρ i) (kF K β)
  | .gsm=>.ofE λ ρ β K=>K (.int 60) β
  | .gf x=>.ofE λ ρ β K=>K (.v (fnv C.G x)) β
  | .int i=>.ofE λ ρ β K=>K (.int i) β
  | .bool b=>.ofE λ ρ β K=>K (.bool b) β
  | .none=>.ofE λ ρ β K=>K .none β
  | .bin op l r=>⟨λ ρ β K=>(vc C l).E ρ β (kB1 (vc C r).E op ρ K),Md.noT,λ ρ β K=>(vc C l).E ρ β (kB1R (vc C r).E op ρ K),Md.no⟩
  | .neg e=>.ofE λ ρ β K=>(vc C e).E ρ β (kNeg K)
  | .not e=>⟨λ ρ β K=>(vc C e).E ρ β (kNot K),λ ρ β Kt Kf=>(vc C e).T ρ β Kf Kt,Md.noR,Md.no⟩
  | .cmp op l r=>⟨λ ρ β K=>(vc C l).E ρ β (kC1 (vc C r).E op ρ K),λ ρ β Kt Kf=>(vc C l).E ρ β (kT1 (vc C r).E op ρ Kt Kf),Md.noR,Md.no⟩
  | .and l r=>⟨λ ρ β K=>(vc C l).E ρ β (kAnd (vc C r).E ρ K),λ ρ β Kt Kf=>(vc C l).T ρ β (kTT (vc C r).T ρ Kt Kf) Kf,Md.noR,Md.no⟩
  | .or l r=>⟨λ ρ β K=>(vc C l).E ρ β (kOr (vc C r).E ρ K),λ ρ β Kt Kf=>(vc C l).T ρ β Kt (kTT (vc C r).T ρ Kt Kf),Md.noR,Md.no⟩
  | .ite t a b=>⟨λ ρ β K=>Jn K (pIte (vc C t).T (vc C a).E (vc C b).E ρ β),Md.noT,λ ρ β K=>Jn (kFX K) (pIte (vc C t).T (vc C a).E (vc C b).E ρ β),Md.no⟩
  | .call x as=>.ofE λ ρ β K=>(vc C as).A ρ β (kCall C.G C.k (fnv C.G x) K)
  | .calv i as=>.ofE λ ρ β K=>vNm (lk ρ i) λ s=>IsFn C.G s.den/\(vc C as).A ρ β (kCall C.G C.k s.den K)
  | .io x as=>.ofE λ ρ β K=>vBx (lk ρ C.bx) ((vc C as).A ρ β (kIO C.G C.k (fnv C.G x) K))
  | .mkM as=>.ofE λ ρ β K=>∃ ad,IsCls C.G cM ad/\2<=C.k/\(vc C as).A ρ β (kMk (.mg ad) K)
  | .mkR as=>.ofE λ ρ β K=>∃ ad,IsCls C.G Internal.cR ad/\2<=C.k/\(vc C as).A ρ β (kMk (.rg ad) K)
  | .fM i j=>.ofE λ ρ β K=>vMg (lk ρ i) λ ad a b c d=>IsCls C.G cM ad/\K (nth4 a b c d j) β
  | .fR i j=>.ofE λ ρ β K=>vRg (lk ρ i) λ ad a b c d=>IsCls C.G Internal.cR ad/\K (nth4 a b c d j) β
  | .cR i j as=>.ofE λ ρ β K=>vRg (lk ρ i) λ ad a b c d=>IsCls C.G Internal.cR ad/\IsFn C.G (nth4 a b c d j).den/\(vc C as).A ρ β (kCall C.G C.k (nth4 a b c d j).den K)
  | .mR i m as=>.ofE λ ρ β K=>vRg (lk ρ i) λ ad a b c d=>IsCls C.G Internal.cR ad/\(vc C as).A ρ β (kMet C.G C.k ad m (.rg ad a b c d) K)
  | .len e=>.ofE λ ρ β K=>(vc C e).E ρ β (kLen K)
  | .abs e=>.ofE λ ρ β K=>(vc C e).E ρ β (kAbs K)
  | .max a b=>.ofE λ ρ β K=>(vc C a).E ρ β (kMax1 (vc C b).E ρ K)
  | .blen e=>.ofE λ ρ β K=>(vc C e).E ρ β (kBl K)
  | .idx e i=>.ofE λ ρ β K=>(vc C e).E ρ β (kIx1 (vc C i).E ρ K)
  | .oix i e=>.ofE λ ρ β K=>vOw (lk ρ i) (λ l=>(vc C e).E ρ β (kOx l K)) ((vc C e).E ρ β (kOb K))
  | .last e=>.ofE λ ρ β K=>(vc C e).E ρ β (kLast K)
  | .olast i=>.ofE λ ρ β K=>vOw (lk ρ i) (λ l=>vLast l (kF K β)) (vLast β (kF K β))
  | .upto e i=>.ofE λ ρ β K=>(vc C e).E ρ β (kUp1 (vc C i).E ρ K)
  | .ofrm i e=>.ofE λ ρ β K=>vIl (lk ρ i) λ f=>(vc C e).E ρ β (kFr f K)
  | .lst as=>⟨λ ρ β K=>(vc C as).A ρ β (kLst K),Md.noT,λ ρ β K=>(vc C as).A ρ β (kLstR K),Md.no⟩
  | .t2 a b=>.ofE λ ρ β K=>(vc C a).E ρ β (kP1 (vc C b).E ρ K)
  | .t3 a b c=>.ofE λ ρ β K=>(vc C a).E ρ β (kQ1 (vc C b).E (vc C c).E ρ K)
  | .nil=>⟨Md.noE,Md.noT,Md.noR,λ ρ β K=>K [] β⟩
  | .cons e r=>⟨Md.noE,Md.noT,Md.noR,λ ρ β K=>(vc C e).E ρ β (kA1 (vc C r).A ρ K)⟩
  | .raw e=>⟨λ ρ β K=>WE C.G C.Φ C.k e (loc C.Φ.keys ρ) β.den (kR K),λ ρ β Kt Kf=>WT C.G C.Φ C.k e (loc C.Φ.keys ρ) β.den (kRT Kt) (kRT Kf),Md.noR,Md.no⟩
@[irreducible] noncomputable def LpF (N:Nat) (ρ:En) (β:SL) (turn:Nat->En->SL->(En->SL->Prop)->Prop) (K:En->SL->Prop):Prop :=
  ∃ J:Nat->En->SL->Prop,J 0 ρ β/\(∀ i ρ β,i < N->J i ρ β->turn i ρ β (J (i + 1)))/\∀ ρ β,J N ρ β->K ρ β
@[irreducible] noncomputable def LpW (ρ:En) (β:SL) (turn:En->SL->(En->SL->Prop)->Prop):Prop :=
  ∃ (J:Nat->En->SL->Prop) (n:Nat),J n ρ β/\∀ n ρ β,J n ρ β->turn ρ β λ ρ β=>∃ m,m < n/\J m ρ β
noncomputable abbrev KN:=En->SL->Prop
noncomputable abbrev KR:=SV->En->SL->Prop
noncomputable abbrev SS:Type:=En->SL->KN->KN->KR->Prop
noncomputable def hRet (R:KR) (ρ:En) (s:SV) (β:SL):Prop:=R s ρ β
noncomputable def hSet (S:SS) (i:Nat) (ρ:En) (N c:KN) (R:KR) (s:SV) (β:SL):Prop:=S (ρ.set i (.v s)) β N c R
noncomputable def hSeto (S:SS) (i:Nat) (ρ:En) (N c:KN) (R:KR) (s:SC) (β:SL):Prop:=S (ρ.set i s) β N c R
noncomputable def h22 (S:SS) (i j:Nat) (ρ:En) (N c:KN) (R:KR) (s t:SC) (β:SL):Prop:=S ((ρ.set j t).set i s) β N c R
noncomputable def h21 (S:SS) (i j:Nat) (B:En->SL->KX->Prop) (ρ:En) (N c:KN) (R:KR) (s:SC) (β:SL):Prop:=B ρ β (h22 S i j ρ N c R s)
noncomputable def h33 (S:SS) (i j k:Nat) (ρ:En) (N c:KN) (R:KR) (s t u:SC) (β:SL):Prop:=S (((ρ.set k u).set j t).set i s) β N c R
noncomputable def h32 (S:SS) (i j k:Nat) (D:En->SL->KX->Prop) (ρ:En) (N c:KN) (R:KR) (s t:SC) (β:SL):Prop:=D ρ β (h33 S i j k ρ N c R s t)
noncomputable def h31 (S:SS) (i j k:Nat) (B D:En->SL->KX->Prop) (ρ:En) (N c:KN) (R:KR) (s:SC) (β:SL):Prop:=B ρ β (h32 S i j k D ρ N c R s)
noncomputable def h44 (S:SS) (i j k l:Nat) (ρ:En) (N c:KN) (R:KR) (s t u w:SC) (β:SL):Prop:=S ((((ρ.set i s).set j t).set k u).set l w) β N c R
noncomputable def h43 (S:SS) (i j k l:Nat) (E:En->SL->KX->Prop) (ρ:En) (N c:KN) (R:KR) (s t u:SC) (β:SL):Prop:=E ρ β (h44 S i j k l ρ N c R s t u)
noncomputable def h42 (S:SS) (i j k l:Nat) (D E:En->SL->KX->Prop) (ρ:En) (N c:KN) (R:KR) (s t:SC) (β:SL):Prop:=D ρ β (h43 S i j k l E ρ N c R s t)
noncomputable def h41 (S:SS) (i j k l:Nat) (B D E:En->SL->KX->Prop) (ρ:En) (N c:KN) (R:KR) (s:SC) (β:SL):Prop:=B ρ β (h42 S i j k l D E ρ N c R s)
noncomputable def hOwn (S:SS) (i:Nat) (ρ:En) (N c:KN) (R:KR) (β:SL) (s:SV) (l:SL):Prop:=vNo s (S (ρ.set i (SC.up (lk ρ i) l)) β N c R)
noncomputable def hCown (G:Gd) (k:Nat) (f:V) (l:SL) (S:SS) (i:Nat) (ρ:En) (N c:KN) (R:KR) (xs:List SV) (β:SL):Prop:=CaIO G k f l xs (hOwn S i ρ N c R β)
noncomputable def hU2 (S:SS) (i j:Nat) (ρ:En) (N c:KN) (R:KR) (s:SV) (β:SL):Prop:=match s with
  | .t2 a b=>S ((ρ.set i (.v a)).set j (.v b)) β N c R
  | _=>False
noncomputable def hU3 (S:SS) (i j k:Nat) (ρ:En) (N c:KN) (R:KR) (s:SV) (β:SL):Prop:=match s with
  | .t3 a b d=>S (((ρ.set i (.v a)).set j (.v b)).set k (.v d)) β N c R
  | _=>False
noncomputable def hAug (S:SS) (i:Nat) (op:Operator) (x:Int) (ρ:En) (N c:KN) (R:KR) (y:SV) (β:SL):Prop:=vAug op x y λ s=>S (ρ.set i (.v s)) β N c R
noncomputable def hApp (S:SS) (i:Nat) (l:SL) (ρ:En) (N c:KN) (R:KR) (s:SV) (β:SL):Prop:=vLen l λ n=>n<=1000/\S (ρ.set i (SC.up (lk ρ i) (l.app s))) β N c R
noncomputable def hPut2 (S:SS) (i:Nat) (l:SL) (ρ:En) (N c:KN) (R:KR) (s j:SV) (β:SL):Prop:=vI j λ n=>vPut l n s λ l'=>S (ρ.set i (SC.up (lk ρ i) l')) β N c R
noncomputable def hPut1 (S:SS) (i:Nat) (l:SL) (E:SE) (ρ:En) (N c:KN) (R:KR) (s:SV) (β:SL):Prop:=E ρ β (hPut2 S i l ρ N c R s)
noncomputable def hPub2 (S:SS) (ρ:En) (N c:KN) (R:KR) (s j:SV) (β:SL):Prop:=vI j λ n=>vPut β n s λ β=>S ρ β N c R
noncomputable def hPub1 (S:SS) (E:SE) (ρ:En) (N c:KN) (R:KR) (s:SV) (β:SL):Prop:=E ρ β (hPub2 S ρ N c R s)
noncomputable def hSeq (S:SS) (N c:KN) (R:KR) (ρ:En) (β:SL):Prop:=S ρ β N c R
noncomputable def hBlk (S:SS) (ρ:En) (N c:KN) (R:KR) (β:SL):Prop:=S ρ β N c R
noncomputable def pIf (T:ST) (A B:SS) (ρ:En) (β:SL) (c:KN) (R:KR) (Q:KN):Prop:=T ρ β (hBlk A ρ Q c R) (hBlk B ρ Q c R)
noncomputable def pWhl (T:ST) (A S:SS) (N c:KN) (R:KR) (ρ:En) (β:SL) (Q:KN):Prop:=T ρ β (hBlk A ρ Q Q R) (hBlk S ρ N c R)
noncomputable def pF1 (B:SS) (i:Nat) (R:KR) (j:Nat) (ρ:En) (β:SL) (Q:KN):Prop:=B (ρ.set i (.v (.int j))) β Q Q R
noncomputable def pFU (B:SS) (i:Nat) (m:Int) (R:KR) (j:Nat) (ρ:En) (β:SL) (Q:KN):Prop:=B (ρ.set i (.v (.int (m + j)))) β Q Q R
noncomputable def pFD (B:SS) (i:Nat) (m:Int) (R:KR) (j:Nat) (ρ:En) (β:SL) (Q:KN):Prop:=B (ρ.set i (.v (.int (m - j)))) β Q Q R
noncomputable def pFS (B:SS) (i:Nat) (m d:Int) (R:KR) (j:Nat) (ρ:En) (β:SL) (Q:KN):Prop:=B (ρ.set i (.v (.int (m + j * d)))) β Q Q R
noncomputable def pFL (B:SS) (i:Nat) (f:List Int) (R:KR) (j:Nat) (ρ:En) (β:SL) (Q:KN):Prop:=B (ρ.set i (.v (.int (ig f j)))) β Q Q R
noncomputable def pFR (B:SS) (i:Nat) (f:List Int) (R:KR) (j:Nat) (ρ:En) (β:SL) (Q:KN):Prop:=B (ρ.set i (.v (.int (ig f ((f.length - 1 - j:Nat):Int))))) β Q Q R
noncomputable def pFE (B:SS) (i k:Nat) (f:List Int) (R:KR) (j:Nat) (ρ:En) (β:SL) (Q:KN):Prop:=B ((ρ.set i (.v (.int j))).set k (.v (.int (ig f j)))) β Q Q R
noncomputable def hF1 (S B:SS) (i:Nat) (ρ:En) (N c:KN) (R:KR) (s:SV) (β:SL):Prop:=vI s λ n=>∃ z:Nat,n=z/\z < 2 ^ 62/\LpF z ρ β (pF1 B i R) (hSeq S N c R)
noncomputable def hF22 (S B:SS) (i:Nat) (ρ:En) (N c:KN) (R:KR) (s t:SV) (β:SL):Prop:=vI s λ m=>vI t λ n=>0<=m/\m < 2 ^ 62/\0<=n/\n < 2 ^ 62/\∃ z:Nat,(n - m).toNat=z/\LpF z ρ β (pFU B i m R) (hSeq S N c R)
noncomputable def hF2 (S B:SS) (i:Nat) (H:SE) (ρ:En) (N c:KN) (R:KR) (s:SV) (β:SL):Prop:=H ρ β (hF22 S B i ρ N c R s)
noncomputable def hFD2 (S B:SS) (i:Nat) (ρ:En) (N c:KN) (R:KR) (s t:SV) (β:SL):Prop:=vI s λ m=>vI t λ n=>-1<=n/\m < 2 ^ 61/\∃ z:Nat,m=n + z/\LpF z ρ β (pFD B i m R) (hSeq S N c R)
noncomputable def hFD (S B:SS) (i:Nat) (H:SE) (ρ:En) (N c:KN) (R:KR) (s:SV) (β:SL):Prop:=H ρ β (hFD2 S B i ρ N c R s)
noncomputable def hFS3 (S B:SS) (i:Nat) (ρ:En) (N c:KN) (R:KR) (s t u:SV) (β:SL):Prop:=vI s λ m=>vI t λ n=>vI u λ d=>d≠0/\d.natAbs < 1073741824/\Builtin.Range.small m n d=true/\∃ z:Nat,Builtin.Range.rangeSize m n d=z/\LpF z ρ β (pFS B i m d R) (hSeq S N c R)
noncomputable def hFS2 (S B:SS) (i:Nat) (D:SE) (ρ:En) (N c:KN) (R:KR) (s t:SV) (β:SL):Prop:=D ρ β (hFS3 S B i ρ N c R s t)
noncomputable def hFS (S B:SS) (i:Nat) (H D:SE) (ρ:En) (N c:KN) (R:KR) (s:SV) (β:SL):Prop:=H ρ β (hFS2 S B i D ρ N c R s)
noncomputable def hFL (S B:SS) (i:Nat) (ρ:En) (N c:KN) (R:KR) (s:SV) (β:SL):Prop:=vL s λ f=>LpF f.length ρ β (pFL B i f R) (hSeq S N c R)
noncomputable def hFR (S B:SS) (i:Nat) (ρ:En) (N c:KN) (R:KR) (s:SV) (β:SL):Prop:=vL s λ f=>LpF f.length ρ β (pFR B i f R) (hSeq S N c R)
noncomputable def hFE (S B:SS) (i k:Nat) (ρ:En) (N c:KN) (R:KR) (s:SV) (β:SL):Prop:=vL s λ f=>LpF f.length ρ β (pFE B i k f R) (hSeq S N c R)
noncomputable def hExp (S:SS) (ρ:En) (N c:KN) (R:KR) (s:SV) (β:SL):Prop:=vNo s (S ρ β N c R)
noncomputable def hRaw (C:Cx') (S:SS) (n:Nat) (N c:KN) (R:KR) (f:Fl) (ρ1:Loc) (β1:List V):Prop:=∃ (ρ':En) (β:SL),ρ1=loc C.Φ.keys ρ'/\β1=β.den/\ρ'.length=n/\(∀ i a,ρ'[i]?=some (.box a)->i=C.bx)/\match f with
    | .next=>S ρ' β N c R
    | .cont=>c ρ' β
    | .ret x=>∃ s:SV,x=s.den/\R s ρ' β
    | _=>False
noncomputable def vs (C:Cx'):IS->SS
  | .nil,ρ,β,N,c,R=>N ρ β
  | .ret e,ρ,β,N,c,R=>(vc C e).E ρ β (hRet R ρ)
  | .reto i,ρ,β,N,c,R=>match C.bx with
    | 0=>False
    | _ + 1=>vOw (lk ρ i) (λ l=>R l.sv ρ β) False
  | .raise,_,_,_,_,_=>False
  | .cont,ρ,β,N,c,R=>c ρ β
  | .set i e r,ρ,β,N,c,R=>(vc C e).E ρ β (hSet (vs C r) i ρ N c R)
  | .seto i e r,ρ,β,N,c,R=>(vc C e).R ρ β (hSeto (vs C r) i ρ N c R)
  | .set2 i j a b r,ρ,β,N,c,R=>(vc C a).R ρ β (h21 (vs C r) i j (vc C b).R ρ N c R)
  | .set3 i j k a b d r,ρ,β,N,c,R=>(vc C a).R ρ β (h31 (vs C r) i j k (vc C b).R (vc C d).R ρ N c R)
  | .set4 i j k l a b d e r,ρ,β,N,c,R=>(vc C a).R ρ β (h41 (vs C r) i j k l (vc C b).R (vc C d).R (vc C e).R ρ N c R)
  | .cown x i as r,ρ,β,N,c,R=>vOw (lk ρ i) (λ l=>(vc C as).A ρ β (hCown C.G C.k (fnv C.G x) l (vs C r) i ρ N c R)) False
  | .unp2 i j e r,ρ,β,N,c,R=>(vc C e).E ρ β (hU2 (vs C r) i j ρ N c R)
  | .unp3 i j k e r,ρ,β,N,c,R=>(vc C e).E ρ β (hU3 (vs C r) i j k ρ N c R)
  | .aug i op e r,ρ,β,N,c,R=>vNm (lk ρ i) λ s=>vI s λ x=>(vc C e).E ρ β (hAug (vs C r) i op x ρ N c R)
  | .app i e r,ρ,β,N,c,R=>vOw (lk ρ i) (λ l=>(vc C e).E ρ β (hApp (vs C r) i l ρ N c R)) False
  | .put i v e r,ρ,β,N,c,R=>vOw (lk ρ i) (λ l=>(vc C v).E ρ β (hPut1 (vs C r) i l (vc C e).E ρ N c R)) (i=C.bx/\(vc C v).E ρ β (hPub1 (vs C r) (vc C e).E ρ N c R))
  | .ite t a b r,ρ,β,N,c,R=>Jm (hSeq (vs C r) N c R) (pIf (vc C t).T (vs C a) (vs C b) ρ β c R)
  | .whl t b r,ρ,β,N,c,R=>LpW ρ β (pWhl (vc C t).T (vs C b) (vs C r) N c R)
  | .for1 i e b r,ρ,β,N,c,R=>(vc C e).E ρ β (hF1 (vs C r) (vs C b) i ρ N c R)
  | .for2 i l h b r,ρ,β,N,c,R=>(vc C l).E ρ β (hF2 (vs C r) (vs C b) i (vc C h).E ρ N c R)
  | .forD i l h b r,ρ,β,N,c,R=>(vc C l).E ρ β (hFD (vs C r) (vs C b) i (vc C h).E ρ N c R)
  | .forS i l h d b r,ρ,β,N,c,R=>(vc C l).E ρ β (hFS (vs C r) (vs C b) i (vc C h).E (vc C d).E ρ N c R)
  | .forL i e b r,ρ,β,N,c,R=>(vc C e).E ρ β (hFL (vs C r) (vs C b) i ρ N c R)
  | .forR i e b r,ρ,β,N,c,R=>(vc C e).E ρ β (hFR (vs C r) (vs C b) i ρ N c R)
  | .forE i k e b r,ρ,β,N,c,R=>(vc C e).E ρ β (hFE (vs C r) (vs C b) i k ρ N c R)
  | .exp e r,ρ,β,N,c,R=>(vc C e).E ρ β (hExp (vs C r) ρ N c R)
  | .frz i r,ρ,β,N,c,R=>vs C r (ρ.set i (SC.fz (lk ρ i))) β N c R
  | .raw st r,ρ,β,N,c,R=>WS C.G C.Φ C.k st (loc C.Φ.keys ρ) β.den (hRaw C (vs C r) ρ.length N c R)
end
end L1
noncomputable section L2
noncomputable section
set_option genInjectivity false
set_option genSizeOf false
structure Cc where
  ks:List Str
  sc:Scope
  bx:Nat:=999
noncomputable def Cc.x (Γ:Cc) (i:Nat):Str:=Γ.ks.getD i ""
noncomputable def Cc.at (Γ:Cc) (i:Nat):Bool:=Nat.blt i Γ.ks.length
theorem Cc.at_ok {Γ:Cc} {i:Nat} (h:Γ.at i=true):Γ.ks[i]?=some (Γ.x i):=by
  unfold Cc.x
  rw [List.getD_eq_getElem?_getD,List.getElem?_eq_getElem (Nat.le_of_ble_eq_true h)]; rfl
noncomputable def isIn (l:List Str) (x:Str):Bool:=l.any λ y=>decide (y=x)
noncomputable def defNames:List Str:=fIdx.map λ i=>(dN i).name
structure Rb where
  E:Expr->Expr
  w:Expr->Bool
  A:List Expr->List Expr
  wA:List Expr->Bool
noncomputable def Rb.leaf (f:Expr->Expr) (c:Bool):Rb:=⟨f,λ _=>c,id,λ _=>false⟩
noncomputable def Rb.one (p:Expr->Expr) (a:Rb) (f:Expr->Expr->Expr) (c:Expr->Expr->Bool):Rb:=⟨λ e=>f e (a.E (p e)),λ e=>a.w (p e) && c e (a.E (p e)),id,λ _=>false⟩
noncomputable def Rb.two (p q:Expr->Expr) (a b:Rb) (f:Expr->Expr->Expr->Expr) (c:Expr->Expr->Bool):Rb:=⟨λ e=>f e (a.E (p e)) (b.E (q e)),λ e=>a.w (p e) && (b.w (q e) && c (a.E (p e)) (b.E (q e))),id,λ _=>false⟩
noncomputable def Rb.thr (a b d:Rb) (f:Expr->Expr->Expr->Expr->Expr) (c:Expr->Expr->Expr->Bool):Rb :=
  ⟨λ e=>f e (a.E (kd 0 e)) (b.E (kd 1 e)) (d.E (kd 2 e)),λ e=>a.w (kd 0 e) && (b.w (kd 1 e) && (d.w (kd 2 e) && c (a.E (kd 0 e)) (b.E (kd 1 e)) (d.E (kd 2 e)))),id,λ _=>false⟩
noncomputable def Rb.arg (p:Expr->List Expr) (a:Rb) (f:Expr->List Expr->Expr) (c:Expr->List Expr->Bool):Rb:=⟨λ e=>f e (a.A (p e)),λ e=>a.wA (p e) && c e (a.A (p e)),id,λ _=>false⟩
noncomputable def ok1 (_ _:Expr):Bool:=true
noncomputable def fldM:Nat->Str
  | 0 => "modulus"
  | 1 => "minus"
  | 2 => "one"
  | _ => "square"
noncomputable def fldR:Nat->Str
  | 0 => "n"
  | _ => "w"
noncomputable def calR:Nat->Str
  | 2 => "mul"
  | _ => "divrem"
noncomputable def nameE (x:Str) (e:Expr):Expr:=.Name x e.pos
noncomputable def callE (x:Str) (e:Expr) (l:List Expr):Expr:=.Call (nameE x (kd 0 e)) l [] e.pos
noncomputable def methE (x m:Str) (e:Expr) (l:List Expr):Expr:=.Call (.Attribute (nameE x (kd 0 (kd 0 e))) m (kd 0 e).pos) l [] e.pos
noncomputable def neg1 (e:Expr):Expr:=.UnaryOp .USub (.Constant (.int 1) (num (kd 0 e)) (kd 0 e).pos) e.pos
noncomputable def sameLn (e:Expr):Bool:=(kd 0 e).pos.endLine == e.pos.line
noncomputable def blenOk (e:Expr):Bool:=Nat.beq e.ctorIdx 21 || Nat.beq e.ctorIdx 2
noncomputable def Cc.gf (Γ:Cc) (x:Str):Bool:=isGl Γ.sc x && isIn defNames x
noncomputable def rb (Γ:Cc):IE->Rb
  | .nm i=>.leaf (nameE (Γ.x i)) (Γ.at i)
  | .gsm=>.leaf (nameE "MOST_SMALL") (isGl Γ.sc "MOST_SMALL")
  | .gf x=>.leaf (nameE x) (Γ.gf x)
  | .int i=>.leaf (λ e=>.Constant (.int i) (num e) e.pos) true
  | .bool b=>.leaf (λ e=>.Constant (.bool b) (num e) e.pos) true
  | .none=>.leaf (λ e=>.Constant .none (num e) e.pos) true
  | .bin op l r=>.two (kd 0) (kd 1) (rb Γ l) (rb Γ r) (λ e x y=>.BinOp x op y e.pos) ok1
  | .neg a=>.one (kd 0) (rb Γ a) (λ e x=>.UnaryOp .USub x e.pos) ok1
  | .not a=>.one (kd 0) (rb Γ a) (λ e x=>.UnaryOp .Not x e.pos) ok1
  | .cmp op l r=>.two (kd 0) (kd 1) (rb Γ l) (rb Γ r) (λ e x y=>.Compare x [op] [y] e.pos) λ _ y=>noSet y
  | .and l r=>.two (kd 0) (kd 1) (rb Γ l) (rb Γ r) (λ e x y=>.BoolOp .And [x,y] e.pos) ok1
  | .or l r=>.two (kd 0) (kd 1) (rb Γ l) (rb Γ r) (λ e x y=>.BoolOp .Or [x,y] e.pos) ok1
  | .ite t a b=>.thr (rb Γ t) (rb Γ a) (rb Γ b) (λ e x y z=>.IfExp x y z e.pos) λ _ _ _=>true
  | .call x as=>.arg kt (rb Γ as) (callE x) λ _ _=>Γ.gf x
  | .calv i as=>.arg kt (rb Γ as) (callE (Γ.x i)) λ _ _=>Γ.at i
  | .io x as=>.arg (λ e=>(kt e).tail) (rb Γ as) (λ e l=>callE x e (nameE (Γ.x Γ.bx) (kd 1 e) :: l)) λ _ _=>Γ.gf x && Γ.at Γ.bx
  | .mkM as=>.arg kt (rb Γ as) (callE "Montgomery") λ _ l=>isGl Γ.sc "Montgomery" && !l.isEmpty
  | .mkR as=>.arg kt (rb Γ as) (callE "Ring") λ _ l=>isGl Γ.sc "Ring" && !l.isEmpty
  | .fM i j=>.leaf (λ e=>.Attribute (nameE (Γ.x i) (kd 0 e)) (fldM j) e.pos) (Γ.at i)
  | .fR i j=>.leaf (λ e=>.Attribute (nameE (Γ.x i) (kd 0 e)) (fldR j) e.pos) (Γ.at i && Nat.blt j 2)
  | .cR i j as=>.arg kt (rb Γ as) (methE (Γ.x i) (calR j)) λ e l=>Γ.at i && (Nat.ble 2 j && (Nat.ble j 3 && (Nat.blt l.length 30 && sameLn e)))
  | .mR i m as=>.arg kt (rb Γ as) (methE (Γ.x i) m) λ e l=>Γ.at i && (isIn ["plus","minus","product","half"] m && (Nat.blt l.length 30 && sameLn e))
  | .len a=>.one (kd 1) (rb Γ a) (λ e x=>callE "len" e [x]) λ _ x=>isGl Γ.sc "len" && noStar x
  | .abs a=>.one (kd 1) (rb Γ a) (λ e x=>callE "abs" e [x]) λ _ x=>isGl Γ.sc "abs" && noStar x
  | .max a b=>.two (kd 1) (kd 2) (rb Γ a) (rb Γ b) (λ e x y=>callE "max" e [x,y]) λ x y=>isGl Γ.sc "max" && (noStar x && noStar y)
  | .blen a=>.one (λ e=>kd 0 (kd 0 e)) (rb Γ a) (λ e x=>.Call (.Attribute x "bit_length" (kd 0 e).pos) [] [] e.pos) λ e x=>blenOk x && sameLn e
  | .idx a b=>.two (kd 0) (kd 1) (rb Γ a) (rb Γ b) (λ e x y=>.Subscript x y e.pos) λ _ y=>noSlice y
  | .oix i b=>.one (kd 1) (rb Γ b) (λ e y=>.Subscript (nameE (Γ.x i) (kd 0 e)) y e.pos) λ _ y=>Γ.at i && noSlice y
  | .last a=>.one (kd 0) (rb Γ a) (λ e x=>.Subscript x (neg1 (kd 1 e)) e.pos) ok1
  | .olast i=>.leaf (λ e=>.Subscript (nameE (Γ.x i) (kd 0 e)) (neg1 (kd 1 e)) e.pos) (Γ.at i)
  | .upto a b=>.two (kd 0) (λ e=>kd 0 (kd 1 e)) (rb Γ a) (rb Γ b) (λ e x y=>.Subscript x (.Slice none (some y) none (kd 1 e).pos) e.pos) ok1
  | .ofrm i b=>.one (λ e=>kd 0 (kd 1 e)) (rb Γ b) (λ e y=>.Subscript (nameE (Γ.x i) (kd 0 e)) (.Slice (some y) none none (kd 1 e).pos) e.pos) λ _ _=>Γ.at i
  | .lst as=>.arg kid (rb Γ as) (λ e l=>.List l e.pos) λ _ _=>true
  | .t2 a b=>.two (kd 0) (kd 1) (rb Γ a) (rb Γ b) (λ e x y=>.Tuple [x,y] (num e) e.pos) λ x y=>noStar x && noStar y
  | .t3 a b c=>.thr (rb Γ a) (rb Γ b) (rb Γ c) (λ e x y z=>.Tuple [x,y,z] (num e) e.pos) λ x y z=>noStar x && (noStar y && noStar z)
  | .nil=>⟨id,λ _=>false,λ _=>[],λ _=>true⟩
  | .cons a r=>⟨id,λ _=>false,λ es=>(rb Γ a).E (es.headD default) :: (rb Γ r).A es.tail,λ es=>(rb Γ a).w (es.headD default) && (noStar ((rb Γ a).E (es.headD default)) && (rb Γ r).wA es.tail)⟩
  | .raw k=>.leaf (λ _=>k) true
noncomputable def swName (env:Env) (line:Nat) (e:Expr):Option Str:=swappedStores.match_8 (λ _=>Option Str) e (λ id pos=>if (env.kindOf id == some .local && pos.line == line)=true then some id else none) λ _=>none
noncomputable def swStar (vs:List Expr):Bool:=vs.any λ e=>swappedStores.match_5 (λ _=>Bool) e (λ _ _=>true) λ _=>false
noncomputable def swNames (ts:List Expr) (env:Env):List Str:=ts.filterMap (swName env ((ts.head?.map (·.pos.line)).getD 0))
noncomputable def sw (ts vs:List Expr) (env:Env):Nat :=
  if (!(ts.length == 2 || ts.length == 3) || vs.length != ts.length || env.blockKind != .function)=true then 2 else
  if swStar vs=true then 2 else
  if ((swNames ts env).length != ts.length || (swNames ts env).eraseDups.length != (swNames ts env).length)=true then 2 else
  if vs.all (foldedForSure 8)=true then 2 else
  if vs.all (constantsAlone 8)=true then 0 else 1
noncomputable def isCall (e:Expr):Bool:=Nat.beq e.ctorIdx 16
noncomputable def plainIter (e:Expr):Bool:=Nat.beq e.ctorIdx 16 || (Nat.beq e.ctorIdx 21 || Nat.beq e.ctorIdx 23)
noncomputable def hd1 (s:List Stmt):Stmt:=s.headD (.Pass default)
structure Rs where
  S:List Stmt->List Stmt
  w:List Stmt->Bool
noncomputable def Rs.id:Rs:=⟨λ s=>s,λ _=>true⟩
noncomputable def Rs.st (f:Stmt->Stmt) (c:Stmt->Bool) (r:Rs):Rs:=⟨λ s=>f (hd1 s) :: r.S s.tail,λ s=>c (hd1 s) && r.w s.tail⟩
noncomputable def tgt (xs:List Str) (e:Expr):List (Str × Pos):=xs.zip ((kid e).map (·.pos))
noncomputable def tupE (xs:List Str) (e:Expr):Expr:=.Tuple (nms (tgt xs e)) (num e) e.pos
noncomputable def tupW (Γ:Cc) (is:List Nat) (e:Expr):Bool:=is.all Γ.at && Nat.beq (kid e).length is.length
noncomputable def asgT (Γ:Cc) (is:List Nat) (v:Expr) (t:Stmt):Stmt:=.Assign [tupE (is.map Γ.x) (sk 0 t)] v t.pos
noncomputable def vtp (l:List Expr) (e:Expr):Expr:=.Tuple l (num e) e.pos
noncomputable def rngE (t:Stmt) (f:Str) (l:List Expr):Expr:=callE f (sk 1 t) l
noncomputable def forS (Γ:Cc) (i:Nat) (it:Expr) (b:Rs) (t:Stmt):Stmt:=.For (nameE (Γ.x i) (sk 0 t)) it (b.S (sb t)) [] t.pos
noncomputable def rs (Γ:Cc):IS->Rs
  | .nil=>⟨λ _=>[],λ _=>true⟩
  | .ret e=>.st (λ t=>.Return (some ((rb Γ e).E (sk 0 t))) t.pos) (λ t=>(rb Γ e).w (sk 0 t)) .id
  | .reto i=>.st (λ t=>.Return (some (nameE (Γ.x i) (sk 0 t))) t.pos) (λ _=>Γ.at i) .id
  | .raise=>.id
  | .cont=>.st (λ t=>.Continue t.pos) (λ _=>true) .id
  | .set i e r=>.st (λ t=>.Assign [nameE (Γ.x i) (sk 0 t)] ((rb Γ e).E (sk 1 t)) t.pos) (λ t=>Γ.at i && ((rb Γ e).w (sk 1 t) && noComp ((rb Γ e).E (sk 1 t)))) (rs Γ r)
  | .seto i e r=>.st (λ t=>.Assign [nameE (Γ.x i) (sk 0 t)] ((rb Γ e).E (sk 1 t)) t.pos) (λ t=>Γ.at i && ((rb Γ e).w (sk 1 t) && noComp ((rb Γ e).E (sk 1 t)))) (rs Γ r)
  | .set2 i j a b r=>.st (λ t=>asgT Γ [i,j] (vtp ((rb Γ (.cons a (.cons b .nil))).A (kid (sk 1 t))) (sk 1 t)) t)
      (λ t=>tupW Γ [i,j] (sk 0 t) && (decide (i≠j) && ((rb Γ (.cons a (.cons b .nil))).wA (kid (sk 1 t)) && !Nat.beq (sw (nms (tgt [Γ.x i,Γ.x j] (sk 0 t))) ((rb Γ (.cons a (.cons b .nil))).A (kid (sk 1 t))) (scEnv Γ.sc)) 0))) (rs Γ r)
  | .set3 i j k a b d r=>.st (λ t=>asgT Γ [i,j,k] (vtp ((rb Γ (.cons a (.cons b (.cons d .nil)))).A (kid (sk 1 t))) (sk 1 t)) t)
      (λ t=>tupW Γ [i,j,k] (sk 0 t) && (decide (i≠j/\i≠k/\j≠k) && ((rb Γ (.cons a (.cons b (.cons d .nil)))).wA (kid (sk 1 t)) && !Nat.beq (sw (nms (tgt [Γ.x i,Γ.x j,Γ.x k] (sk 0 t))) ((rb Γ (.cons a (.cons b (.cons d .nil)))).A (kid (sk 1 t))) (scEnv Γ.sc)) 0))) (rs Γ r)
  | .set4 i j k l a b d e r=>.st (λ t=>asgT Γ [i,j,k,l] (vtp ((rb Γ (.cons a (.cons b (.cons d (.cons e .nil))))).A (kid (sk 1 t))) (sk 1 t)) t)
      (λ t=>tupW Γ [i,j,k,l] (sk 0 t) && (rb Γ (.cons a (.cons b (.cons d (.cons e .nil))))).wA (kid (sk 1 t))) (rs Γ r)
  | .unp2 i j e r=>.st (λ t=>asgT Γ [i,j] ((rb Γ e).E (sk 1 t)) t) (λ t=>tupW Γ [i,j] (sk 0 t) && ((rb Γ e).w (sk 1 t) && isCall ((rb Γ e).E (sk 1 t)))) (rs Γ r)
  | .unp3 i j k e r=>.st (λ t=>asgT Γ [i,j,k] ((rb Γ e).E (sk 1 t)) t) (λ t=>tupW Γ [i,j,k] (sk 0 t) && ((rb Γ e).w (sk 1 t) && isCall ((rb Γ e).E (sk 1 t)))) (rs Γ r)
  | .aug i op e r=>.st (λ t=>.AugAssign (nameE (Γ.x i) (sk 0 t)) op ((rb Γ e).E (sk 1 t)) t.pos) (λ t=>Γ.at i && (rb Γ e).w (sk 1 t)) (rs Γ r)
  | .app i e r=>.st (λ t=>.Expr (methE (Γ.x i) "append" (sk 0 t) [(rb Γ e).E (kd 1 (sk 0 t))]) t.pos)
      (λ t=>Γ.at i && ((rb Γ e).w (kd 1 (sk 0 t)) && (noStar ((rb Γ e).E (kd 1 (sk 0 t))) && sameLn (sk 0 t)))) (rs Γ r)
  | .put i v e r=>.st (λ t=>.Assign [.Subscript (nameE (Γ.x i) (kd 0 (sk 0 t))) ((rb Γ e).E (kd 1 (sk 0 t))) (sk 0 t).pos] ((rb Γ v).E (sk 1 t)) t.pos)
      (λ t=>Γ.at i && ((rb Γ e).w (kd 1 (sk 0 t)) && ((rb Γ v).w (sk 1 t) && noComp ((rb Γ v).E (sk 1 t))))) (rs Γ r)
  | .cown x i as r=>.st (λ t=>.Expr (callE x (sk 0 t) (nameE (Γ.x i) (kd 1 (sk 0 t)) :: (rb Γ as).A (kt (sk 0 t)).tail)) t.pos) (λ t=>Γ.at i && (Γ.gf x && (rb Γ as).wA (kt (sk 0 t)).tail)) (rs Γ r)
  | .ite t a b r=>.st (λ s=>.If ((rb Γ t).E (sk 0 s)) ((rs Γ a).S (sb s)) ((rs Γ b).S (so s)) s.pos) (λ s=>(rb Γ t).w (sk 0 s) && ((rs Γ a).w (sb s) && (rs Γ b).w (so s))) (rs Γ r)
  | .whl t b r=>.st (λ s=>.While ((rb Γ t).E (sk 0 s)) ((rs Γ b).S (sb s)) [] s.pos) (λ s=>(rb Γ t).w (sk 0 s) && (rs Γ b).w (sb s)) (rs Γ r)
  | .for1 i e b r=>.st (λ t=>forS Γ i (rngE t "range" [(rb Γ e).E (kd 1 (sk 1 t))]) (rs Γ b) t) (λ t=>Γ.at i && (isGl Γ.sc "range" && ((rb Γ e).w (kd 1 (sk 1 t)) && (noStar ((rb Γ e).E (kd 1 (sk 1 t))) && (rs Γ b).w (sb t))))) (rs Γ r)
  | .for2 i l h b r=>.st (λ t=>forS Γ i (rngE t "range" ((rb Γ (.cons l (.cons h .nil))).A (kt (sk 1 t)))) (rs Γ b) t) (λ t=>Γ.at i && (isGl Γ.sc "range" && ((rb Γ (.cons l (.cons h .nil))).wA (kt (sk 1 t)) && (rs Γ b).w (sb t)))) (rs Γ r)
  | .forD i l h b r=>.st (λ t=>forS Γ i (rngE t "range" ((rb Γ (.cons l (.cons h .nil))).A (kt (sk 1 t)) ++ [neg1 (kd 3 (sk 1 t))])) (rs Γ b) t)
      (λ t=>Γ.at i && (isGl Γ.sc "range" && ((rb Γ (.cons l (.cons h .nil))).wA (kt (sk 1 t)) && (rs Γ b).w (sb t)))) (rs Γ r)
  | .forS i l h d b r=>.st (λ t=>forS Γ i (rngE t "range" ((rb Γ (.cons l (.cons h (.cons d .nil)))).A (kt (sk 1 t)))) (rs Γ b) t) (λ t=>Γ.at i && (isGl Γ.sc "range" && ((rb Γ (.cons l (.cons h (.cons d .nil)))).wA (kt (sk 1 t)) && (rs Γ b).w (sb t)))) (rs Γ r)
  | .forL i e b r=>.st (λ t=>forS Γ i ((rb Γ e).E (sk 1 t)) (rs Γ b) t) (λ t=>Γ.at i && ((rb Γ e).w (sk 1 t) && (plainIter ((rb Γ e).E (sk 1 t)) && (rs Γ b).w (sb t)))) (rs Γ r)
  | .forR i e b r=>.st (λ t=>forS Γ i (rngE t "reversed" [(rb Γ e).E (kd 1 (sk 1 t))]) (rs Γ b) t) (λ t=>Γ.at i && (isGl Γ.sc "reversed" && ((rb Γ e).w (kd 1 (sk 1 t)) && (noStar ((rb Γ e).E (kd 1 (sk 1 t))) && (rs Γ b).w (sb t))))) (rs Γ r)
  | .forE i j e b r=>.st (λ t=>.For (tupE [Γ.x i,Γ.x j] (sk 0 t)) (rngE t "enumerate" [(rb Γ e).E (kd 1 (sk 1 t))]) ((rs Γ b).S (sb t)) [] t.pos)
      (λ t=>tupW Γ [i,j] (sk 0 t) && (isGl Γ.sc "enumerate" && ((rb Γ e).w (kd 1 (sk 1 t)) && (noStar ((rb Γ e).E (kd 1 (sk 1 t))) && (rs Γ b).w (sb t))))) (rs Γ r)
  | .exp e r=>.st (λ t=>.Expr ((rb Γ e).E (sk 0 t)) t.pos) (λ t=>(rb Γ e).w (sk 0 t) && isCall ((rb Γ e).E (sk 0 t))) (rs Γ r)
  | .frz i r=>⟨(rs Γ r).S,λ s=>Γ.at i && (rs Γ r).w s⟩
  | .raw st r=>.st (λ _=>st) (λ _=>true) (rs Γ r)
structure Fits (Γ:Cc) (ir:IS) (sts:List Stmt):Prop where
  S:(rs Γ ir).S sts=sts
  w:(rs Γ ir).w sts=true
end
end L2
noncomputable section L3
structure Fit (C:Cx') (ρ:En):Prop where
  len:ρ.length=C.Φ.keys.length
  box:∀ (i:Nat) (a:Addr),ρ[i]?=some (.box a)->i=C.bx
theorem loc_mem {x:Str} {ks:List Str} {ρ:En} {i:Nat} {c:SC} (h:ks[i]?=some x) (h2:ρ[i]?=some c):(x,c.den)∈loc ks ρ:=by
  refine List.mem_of_getElem? (i:=i) ?_
  unfold loc
  rw [List.getElem?_zip_eq_some]
  exact ⟨h,by rw [List.getElem?_map,h2]; rfl⟩
theorem lk_get {ρ:En} {i:Nat} (h:i < ρ.length):ρ[i]?=some (lk ρ i):=by
  unfold lk
  rw [List.getD_eq_getElem?_getD,List.getElem?_eq_getElem h]; rfl
theorem Fit.lt {C:Cx'} {ρ:En} (f:Fit C ρ) {x:Str} {i:Nat} (h:C.Φ.keys[i]?=some x):i < ρ.length:=by
  rw [f.len]; exact (List.getElem?_eq_some_iff.mp h).1
theorem Fit.mem {C:Cx'} {ρ:En} (f:Fit C ρ) {x:Str} {i:Nat} (h:C.Φ.keys[i]?=some x):(x,(lk ρ i).den)∈loc C.Φ.keys ρ:=loc_mem h (lk_get (f.lt h))
theorem loc_set {x:Str} {c:SC} {ks:List Str} {ρ:En} {i:Nat} (h:ks[i]?=some x) (h2:i < ρ.length):SetAt x c.den (loc ks ρ) (lk ρ i).den (loc ks (ρ.set i c)):=by
  induction ks generalizing ρ i with
  | nil=>cases h
  | cons y ks ih=>cases ρ with
    | nil=>exact absurd h2 (Nat.not_lt_zero _)
    | cons d ρ=>cases i with
      | zero=>rw [<- Option.some.inj h]; exact .here
      | succ i=>exact .there (ih h (Nat.lt_of_succ_lt_succ h2))
theorem Fit.set {C:Cx'} {ρ:En} (f:Fit C ρ) (i:Nat) {c:SC} (hc:∀ a,c=.box a->i=C.bx):Fit C (ρ.set i c) :=
  ⟨by rw [List.length_set]; exact f.len,λ j a h=>by
    rw [List.getElem?_set] at h
    split at h
    . rename_i e
      split at h
      . rw [<- e]; exact hc a (Option.some.inj h)
      . cases h
    . exact f.box j a h⟩
theorem SC.noRo (c:SC):c.den.isRo=false:=by cases c <;> rfl
noncomputable abbrev LE (K:SV->SL->Prop):V->List V->Prop:=λ v b=>∃ (s:SV) (β:SL),v=s.den/\b=β.den/\K s β
noncomputable abbrev LT (K:SL->Prop):List V->Prop:=λ b=>∃ β:SL,b=β.den/\K β
noncomputable abbrev LA (K:List SV->SL->Prop):List V->List V->Prop:=λ v b=>∃ (s:List SV) (β:SL),v=s.map SV.den/\b=β.den/\K s β
noncomputable def SC.nb:SC->Bool
  | .box _=>false
  | _=>true
noncomputable abbrev LR (K:SC->SL->Prop):Cell->List V->Prop:=λ v b=>∃ (s:SC) (β:SL),v=s.den/\b=β.den/\s.nb=true/\K s β
structure SnE (C:Cx') (m:Md) (e:Expr):Prop where
  E:∀ ρ β K,Fit C ρ->m.E ρ β K->WE C.G C.Φ C.k e (loc C.Φ.keys ρ) β.den (LE K)
  T:∀ ρ β Kt Kf,Fit C ρ->m.T ρ β Kt Kf->WT C.G C.Φ C.k e (loc C.Φ.keys ρ) β.den (LT Kt) (LT Kf)
  R:∀ ρ β K,Fit C ρ->m.R ρ β K->WR C.G C.Φ C.k e (loc C.Φ.keys ρ) β.den (LR K)
noncomputable def SnA (C:Cx') (m:Md) (es:List Expr):Prop:=∀ ρ β K,Fit C ρ->m.A ρ β K->WL C.G C.Φ C.k es (loc C.Φ.keys ρ) β.den (LA K)
theorem LE.mk {K:SV->SL->Prop} {s:SV} {β:SL} (k:K s β):LE K s.den β.den:=⟨s,β,rfl,rfl,k⟩
theorem LR.mk {K:SC->SL->Prop} {s:SC} {β:SL} (h:s.nb=true) (k:K s β):LR K s.den β.den:=⟨s,β,rfl,rfl,h,k⟩
theorem WE.monoD {G:Gd} {Φ:Fm} {k:Nat} {ρ:Loc} {β:List V} {e:Expr} {K:SV->SL->Prop} {K':V->List V->Prop} (h:WE G Φ k e ρ β (LE K)) (hK:∀ (s:SV) (b:SL),K s b->K' s.den b.den):WE G Φ k e ρ β K' :=
  h.mono λ v b z=>z.elim λ s z=>z.elim λ β z=>z.1 ▸ z.2.1 ▸ hK s β z.2.2
theorem WL.monoD {G:Gd} {Φ:Fm} {k:Nat} {ρ:Loc} {β:List V} {e:List Expr} {K:List SV->SL->Prop} {K':List V->List V->Prop} (h:WL G Φ k e ρ β (LA K)) (hK:∀ (s:List SV) (b:SL),K s b->K' (s.map SV.den) b.den):WL G Φ k e ρ β K' :=
  λ A env g s pos Q E rm eo iv kk=>h A env g s pos Q E rm eo iv λ v x β' g' h' tk z=>kk v x β' g' h' tk (z.elim λ s z=>z.elim λ β z=>z.1 ▸ z.2.1 ▸ hK s β z.2.2)
theorem SpecIO.monoD {G:Gd} {k:Nat} {f:V} {xs ys:List V} {K:SV->SL->Prop} {P':V->List V->Prop} (h:SpecIO G k f xs ys λ y l=>∃ (s:SV) (m:SL),y=s.den/\l=m.den/\K s m) (hP:∀ (s:SV) (m:SL),K s m->P' s.den m.den):SpecIO G k f xs ys P' :=
  h.mono λ v b z=>z.elim λ s z=>z.elim λ β z=>z.1 ▸ z.2.1 ▸ hP s β z.2.2
@[elab_as_elim] theorem vI_e {s:SV} {P:Int->Prop} {Q:SV->Prop} (h:vI s P) (k:∀ i,P i->Q (.int i)):Q s:=by cases s <;> first | exact h.elim | exact k _ h
@[elab_as_elim] theorem vB_e {s:SV} {P:Bool->Prop} {Q:SV->Prop} (h:vB s P) (k:∀ i,P i->Q (.bool i)):Q s:=by cases s <;> first | exact h.elim | exact k _ h
@[elab_as_elim] theorem vL_e {s:SV} {P:List Int->Prop} {Q:SV->Prop} (h:vL s P) (k:∀ i,P i->Q (.il i)):Q s:=by cases s <;> first | exact h.elim | exact k _ h
theorem vI_ok {s:SV} {P:Int->Prop} (h:vI s P):∃ i,s=.int i/\P i:=by cases s <;> first | exact h.elim | exact ⟨_,rfl,h⟩
theorem vI2_ok {a b:SV} {P:Int->Int->Prop} (h:vI a λ i=>vI b λ j=>P i j):∃ i j,a=.int i/\b=.int j/\P i j:=by
  obtain ⟨i,rfl,k⟩:=vI_ok h
  obtain ⟨j,rfl,m⟩:=vI_ok k
  exact ⟨i,j,rfl,rfl,m⟩
theorem vB_ok {s:SV} {P:Bool->Prop} (h:vB s P):∃ i,s=.bool i/\P i:=by cases s <;> first | exact h.elim | exact ⟨_,rfl,h⟩
theorem vL_ok {s:SV} {P:List Int->Prop} (h:vL s P):∃ i,s=.il i/\P i:=by cases s <;> first | exact h.elim | exact ⟨_,rfl,h⟩
theorem vNm_ok {s:SC} {P:SV->Prop} (h:vNm s P):∃ i,s=.v i/\P i:=by cases s <;> first | exact h.elim | exact ⟨_,rfl,h⟩
theorem vMg_ok {s:SC} {P:Addr->SV->SV->SV->SV->Prop} (h:vMg s P):∃ ad a b c d,s=.v (.mg ad a b c d)/\P ad a b c d:=by
  cases s with
  | v s=>cases s <;> first | exact h.elim | exact ⟨_,_,_,_,_,rfl,h⟩
  | _=>exact h.elim
theorem vRg_ok {s:SC} {P:Addr->SV->SV->SV->SV->Prop} (h:vRg s P):∃ ad a b c d,s=.v (.rg ad a b c d)/\P ad a b c d:=by
  cases s with
  | v s=>cases s <;> first | exact h.elim | exact ⟨_,_,_,_,_,rfl,h⟩
  | _=>exact h.elim
theorem vBx_ok {s:SC} {P:Prop} (h:vBx s P):(∃ a,s=.box a)/\P:=by cases s <;> first | exact h.elim | exact ⟨⟨_,rfl⟩,h⟩
theorem vIl_ok {s:SC} {P:List Int->Prop} (h:vIl s P):∃ a f,s=.own a (.il f)/\P f:=by
  cases s with
  | own a l=>cases l <;> first | exact h.elim | exact ⟨_,_,rfl,h⟩
  | _=>exact h.elim
theorem vOw_ok {s:SC} {P:SL->Prop} {Q:Prop} (h:vOw s P Q):(∃ a l,s=.own a l/\P l)\/(∃ a,s=.box a)/\Q:=by cases s <;> first | exact h.elim | exact .inl ⟨_,_,rfl,h⟩ | exact .inr ⟨⟨_,rfl⟩,h⟩
theorem vSl_ok {s:SV} {P:SL->Prop} (h:vSl s P):∃ l,(s.den=.list l.den\/s.den=.tup l.den)/\P l:=by
  cases s with
  | il f=>exact ⟨_,.inl rfl,h⟩
  | rl f=>exact ⟨_,.inl rfl,h⟩
  | t2 a b=>exact ⟨_,.inr rfl,h⟩
  | t3 a b c=>exact ⟨_,.inr rfl,h⟩
  | v x=>cases x <;> first | exact h.elim | exact ⟨_,.inl rfl,h⟩
  | _=>exact h.elim
theorem vRl_ok {s:SV} {P:Nat->Prop} (h:vRl s P):∃ l:SL,s.den=.list l.den/\P l.len:=by
  cases s <;> first | exact h.elim | exact ⟨.il _,rfl,h⟩ | exact ⟨.rl _,rfl,h⟩
theorem vLen_ok {l:SL} {P:Nat->Prop} (h:vLen l P):P l.len:=by cases l <;> exact h
theorem SL.len_den (l:SL):l.den.length=l.len:=by cases l <;> first | rfl | exact List.length_map ..
theorem SL.sv_den (l:SL):l.sv.den=.list l.den:=by cases l <;> rfl
section
variable {G:Gd}
theorem vBin_ok {op:Operator} {a b:SV} {K:SV->Prop} (h:vBin op a b K):∃ s,OpOk G op a.den b.den s.den/\K s:=by
  cases op with
  | Add =>
    cases a with
    | int i=>exact vI_e h λ j h=>⟨.int _,op_add G i j,h⟩
    | il f =>
      refine vL_e h λ g h=>?_
      exact ⟨.il (f ++ g),by have:=op_cat G (f.map V.int) (g.map V.int) (by rw [List.length_map,List.length_map]; exact h.1); rw [<- List.map_append] at this; exact this,h.2⟩
    | _=>exact h.elim
  | Sub=>exact vI_e h λ i h=>vI_e h λ j h=>⟨.int _,op_sub G i j,h⟩
  | Mult =>
    cases a with
    | int i=>exact vI_e h λ j h=>⟨.int _,op_mul G i j h.1 h.2.1,h.2.2⟩
    | il f =>
      cases f with
      | nil=>exact h.elim
      | cons x f =>
        cases f with
        | nil =>
          refine vI_e h λ n h=>?_
          exact ⟨.il (List.replicate n.toNat x),by have:=op_rep G (.int x) n h.1 h.2.1; rw [<- List.map_replicate (f:=V.int)] at this; exact this,h.2.2⟩
        | cons=>exact h.elim
    | _=>exact h.elim
  | FloorDiv=>exact vI_e h λ i h=>vI_e h λ j h=>⟨.int _,op_div G i j h.1 h.2.1,h.2.2⟩
  | Mod=>exact vI_e h λ i h=>vI_e h λ j h=>⟨.int _,op_mod G i j h.1,h.2⟩
  | LShift=>exact vI_e h λ i h=>vI_e h λ j h=>h.elim λ n h=>h.1 ▸ ⟨.int _,op_shl G i n (Int.natCast_nonneg n) (Int.ofNat_le.mpr h.2.1) h.2.2.1,h.2.2.2⟩
  | RShift=>exact vI_e h λ i h=>vI_e h λ j h=>h.elim λ n h=>h.1 ▸ ⟨.int _,op_shr G i n (Int.natCast_nonneg n),h.2⟩
  | Pow=>exact vI_e h λ i h=>vI_e h λ j h=>h.elim λ n h=>h.1 ▸ ⟨.int _,op_pow G i n (Int.natCast_nonneg n) (Int.ofNat_le.mpr h.2.1) h.2.2.1,h.2.2.2⟩
  | BitAnd=>exact vI_e h λ i h=>vI_e h λ j h=>⟨.int _,op_and G i j,h⟩
  | BitOr=>exact vI_e h λ i h=>vI_e h λ j h=>⟨.int _,op_or G i j,h⟩
  | _=>exact h.elim
theorem vBinR_ok {op:Operator} {a b:SV} {K:SC->Prop} (h:vBinR op a b K):(∃ s,OpOk G op a.den b.den s.den/\K (.v s))\/∃ l:SL,OpNew G op a.den b.den l.den/\∀ ad,K (.own ad l):=by
  cases op with
  | Add =>
    cases a with
    | il f =>
      refine vL_e h λ g h=>?_
      exact .inr ⟨.il (f ++ g),by have:=new_cat G (f.map V.int) (g.map V.int) (by rw [List.length_map,List.length_map]; exact h.1); rw [<- List.map_append] at this; exact this,h.2⟩
    | _=>exact .inl (vBin_ok h)
  | Mult =>
    cases a with
    | il f =>
      cases f with
      | nil=>exact .inl (vBin_ok h)
      | cons x f =>
        cases f with
        | nil =>
          refine vI_e h λ n h=>?_
          exact .inr ⟨.il (List.replicate n.toNat x),by have:=new_rep G (.int x) n h.1 h.2.1; rw [<- List.map_replicate (f:=V.int)] at this; exact this,h.2.2⟩
        | cons=>exact .inl (vBin_ok h)
    | v y =>
      cases y with
      | list ys =>
        cases ys with
        | nil=>exact .inl (vBin_ok h)
        | cons y ys =>
          cases ys with
          | nil =>
            refine vI_e h λ n h=>?_
            exact .inr ⟨.vs (List.replicate n.toNat y),new_rep G y n h.1 h.2.1,h.2.2⟩
          | cons=>exact .inl (vBin_ok h)
      | _=>exact .inl (vBin_ok h)
    | _=>exact .inl (vBin_ok h)
  | _=>exact .inl (vBin_ok h)
noncomputable def CmpTo (G:Gd) (op:CmpOp) (a b:SV) (A B:Prop):Prop:=∃ c,CmpOk G op a.den b.den c/\(c=true->A)/\(c=false->B)
theorem CmpTo.of {op:CmpOp} {a b:SV} {p A B:Prop} [Decidable p] (h:CmpOk G op a.den b.den (decide p)) (k:Br p A B):CmpTo G op a b A B:=⟨_,h,λ q=>k.t (of_decide_eq_true q),λ q=>k.f (of_decide_eq_false q)⟩
theorem CmpTo.ofN {op:CmpOp} {a b:SV} {p A B:Prop} [Decidable p] (h:CmpOk G op a.den b.den (decide ¬ p)) (k:Br p B A):CmpTo G op a b A B:=⟨_,h,λ q=>k.f (of_decide_eq_true q),λ q=>k.t (Classical.not_not.mp (of_decide_eq_false q))⟩
theorem vIs_ok {a b:SV} {A B:Prop} (h:vIs a b A B):b=.none/\(a.den.isNone=true->A)/\(a.den.isNone=false->B):=by
  cases b with
  | none=>refine ⟨rfl,?_⟩; cases a with
    | v x=>exact ⟨h.t,λ q=>h.f (λ z=>nomatch q.symm.trans z)⟩
    | none=>exact ⟨λ _=>h,nofun⟩
    | _=>exact ⟨nofun,λ _=>h⟩
  | _=>exact h.elim
theorem vTst_ok {op:CmpOp} {a b:SV} {A B:Prop} (h:vTst op a b A B):CmpTo G op a b A B:=by
  cases op with
  | Lt=>exact vI_e h λ i h=>vI_e h λ j h=>.of (cmp_lt G i j) h
  | LtE=>exact vI_e h λ i h=>vI_e h λ j h=>.of (cmp_le G i j) h
  | Gt=>exact vI_e h λ i h=>vI_e h λ j h=>.of (cmp_gt G i j) h
  | GtE=>exact vI_e h λ i h=>vI_e h λ j h=>.of (cmp_ge G i j) h
  | Eq =>
      cases a with
    | int i=>cases b <;> first | exact h.elim | exact .of (cmp_eq G _ _) h
    | il f=>exact vL_e h λ g h=>.of (cmp_eql G f g) h
    | bool c=>exact vB_e h λ d h=>.of (by have:=cmp_eqb G c d; rwa [show (c == d)=decide (c=d) from rfl] at this) h
    | _=>exact h.elim
  | NotEq =>
      cases a with
    | none =>
      cases b with
      | none=>exact ⟨_,cmp_ne_none_none G,λ q=>(by cases q),λ _=>h⟩
      | int j=>exact ⟨_,cmp_ne_none_int G j,λ _=>h,λ q=>(by cases q)⟩
      | _=>exact h.elim
    | int i =>
      cases b with
      | none=>exact ⟨_,cmp_ne_int_none G i,λ _=>h,λ q=>(by cases q)⟩
      | int j=>exact .ofN (cmp_ne G i j) h
      | _=>exact h.elim
    | il f=>exact vL_e h λ g h=>.ofN (cmp_nel G f g) h
    | bool c=>exact vB_e h λ d h=>.ofN (by have:=cmp_neb G c d; rwa [show (c != d)=decide (¬ c=d) from by cases c <;> cases d <;> rfl] at this) h
    | _=>exact h.elim
  | In =>
      cases a with
    | int i =>
      cases b with
      | t2 x y =>
        exact vI_e h λ x k=>vI_e k λ y h=>.of (p:=i∈[x,y]) (cmp_in_tints G i [x,y]) ⟨λ q=>h.t (by simpa using q),λ q=>h.f (by simpa using q)⟩
      | _=>exact h.elim
    | il f =>
      cases b with
      | t2 x y =>
        exact vL_e h λ x k=>vL_e k λ y h=>.of (p:=f∈[x,y]) (cmp_in_tlists G f [x,y]) ⟨λ q=>h.t (by simpa using q),λ q=>h.f (by simpa using q)⟩
      | rl l=>exact .of (cmp_in_lists G f l) h
      | _=>exact h.elim
    | _=>exact h.elim
  | Is=>obtain ⟨rfl,h1,h2⟩:=vIs_ok h; exact ⟨_,cmp_is G _,h1,h2⟩
  | IsNot=>obtain ⟨rfl,h1,h2⟩:=vIs_ok h; exact ⟨_,cmp_isnot G _,λ q=>h2 (by simpa using q),λ q=>h1 (by simpa using q)⟩
  | _=>exact h.elim
theorem vCmp_ok {op:CmpOp} {a b:SV} {K:SV->Prop} (h:vCmp op a b K):∃ c,CmpOk G op a.den b.den c/\K (.bool c):=by
  cases op with
  | Lt=>exact vI_e h λ i h=>vI_e h λ j h=>⟨_,cmp_lt G i j,h⟩
  | LtE=>exact vI_e h λ i h=>vI_e h λ j h=>⟨_,cmp_le G i j,h⟩
  | Gt=>exact vI_e h λ i h=>vI_e h λ j h=>⟨_,cmp_gt G i j,h⟩
  | GtE=>exact vI_e h λ i h=>vI_e h λ j h=>⟨_,cmp_ge G i j,h⟩
  | Eq =>
    cases a with
    | int i=>exact vI_e h λ j h=>⟨_,cmp_eq G i j,h⟩
    | il f=>exact vL_e h λ g h=>⟨_,cmp_eql G f g,h⟩
    | bool c=>exact vB_e h λ d h=>⟨_,cmp_eqb G c d,h⟩
    | _=>exact h.elim
  | NotEq =>
    cases a with
    | int i=>exact vI_e h λ j h=>⟨_,cmp_ne G i j,h⟩
    | il f=>exact vL_e h λ g h=>⟨_,cmp_nel G f g,h⟩
    | _=>exact h.elim
  | In =>
    cases a with
    | il f=>cases b <;> first | exact h.elim | exact ⟨_,cmp_in_lists G f _,h⟩
    | _=>exact h.elim
  | Is=>cases b <;> first | exact h.elim | exact ⟨_,cmp_is G _,h⟩
  | IsNot=>cases b <;> first | exact h.elim | exact ⟨_,cmp_isnot G _,h⟩
  | _=>exact h.elim
end
theorem rg_at {f:List (List Int)} {j:Nat} (h:j < f.length):f[j]?=some (f.getD j []):=by
  rw [List.getD_eq_getElem?_getD,List.getElem?_eq_getElem h]; rfl
theorem idx_lastV {xs:List V} {x:V} (hl:xs.length<=100000) (hx:xs[xs.length - 1]?=some x):idx xs (-1)=some x:=by
  have h0:0 < xs.length:=by
    rcases Nat.eq_zero_or_pos xs.length with z | z
    . rw [List.length_eq_zero_iff.mp z] at hx; cases hx
    . exact z
  have e:xs=xs.take (xs.length - 1) ++ [x]:=by
    conv=>lhs; rw [<- List.take_append_drop (xs.length - 1) xs]
    congr 1
    rw [List.drop_eq_getElem_cons (by omega),List.drop_of_length_le (by omega)]
    rw [List.getElem?_eq_getElem (by omega)] at hx
    rw [Option.some.inj hx]
  rw [e]
  exact idx_last (by simp; omega)
theorem vIx_ok {l:SL} {j:SV} {K:SV->Prop} (h:vIx l j K):∃ (i:Int) (s:SV),j=.int i/\idx l.den i=some s.den/\K s:=by
  obtain ⟨i,rfl,h⟩:=vI_ok h
  refine ⟨i,?_⟩
  cases l with
  | il f=>obtain ⟨h0,h1,h2,h⟩:=h; exact ⟨.int _,rfl,idx_pos h0 (by show (f.map V.int)[_]?=_; rw [List.getElem?_map,ig_some h0 h1]; rfl) (by rw [SL.len_den]; exact h2),h⟩
  | rl f=>obtain ⟨h0,h1,h2,h⟩:=h; exact ⟨.il _,rfl,idx_pos h0 (by show (f.map IL)[_]?=_; rw [List.getElem?_map,rg_at (by omega)]; rfl) (by rw [SL.len_den]; exact h2),h⟩
  | ss xs =>
    cases i with
    | negSucc n=>exact h.elim
    | ofNat n =>
      obtain ⟨h1,h⟩:=h
      cases e:xs[n]? with
      | none=>rw [e] at h; exact h.elim
      | some s=>rw [e] at h; exact ⟨s,rfl,idx_pos (Int.natCast_nonneg n) (by show (xs.map SV.den)[(Int.ofNat n).toNat]?=_; rw [List.getElem?_map]; show (xs[n]?).map _=_; rw [e]; rfl) (by rw [SL.len_den]; exact Nat.le_trans h1 (by decide)),h⟩
  | vs xs=>obtain ⟨s,e,h⟩:=h; exact ⟨s,rfl,e,h⟩
theorem vLast_ok {l:SL} {K:SV->Prop} (h:vLast l K):∃ s:SV,idx l.den (-1)=some s.den/\K s:=by
  cases l with
  | il f =>
    obtain ⟨h0,h1,h⟩:=h
    refine ⟨.int _,idx_lastV (by rw [SL.len_den]; exact h1) ?_,h⟩
    have:=ig_some (l:=f) (i:=((f.length - 1:Nat):Int)) (by omega) (by omega)
    rw [Int.toNat_natCast] at this
    show (f.map V.int)[(f.map V.int).length - 1]?=_
    rw [List.getElem?_map,List.length_map,this]; rfl
  | rl f =>
    obtain ⟨h0,h1,h⟩:=h
    exact ⟨.il _,idx_lastV (by rw [SL.len_den]; exact h1) (by show (f.map IL)[(f.map IL).length - 1]?=_; rw [List.getElem?_map,List.length_map,rg_at (by omega)]; rfl),h⟩
  | ss xs=>exact h.elim
  | vs xs=>exact h
end L3
noncomputable section L4
theorem isIn_ok {l:List Str} {x:Str} (h:isIn l x=true):x∈l:=by
  unfold isIn at h
  obtain ⟨y,hy,e⟩:=List.any_eq_true.mp h
  exact of_decide_eq_true e ▸ hy
theorem defN_ok {x:Str} (h:isIn defNames x=true):∃ i,i∈fIdx/\(dN i).name=x:=by
  obtain ⟨i,hi,e⟩:=List.mem_map.mp (isIn_ok h)
  exact ⟨i,hi,e⟩
section
variable {G:Gd} {Φ:Fm} {k:Nat} {ρ:Loc} {β:List V}
theorem WT_valP {e:Expr} {Kt Kf} (h:WE G Φ k e ρ β λ v β1=>∃ c,v=.bool c/\(c=true->Kt β1)/\(c=false->Kf β1)) (hp:∀ env whole,isTrue e env whole=(do let v <- whole; standAt e.pos; holding [v] (truthy v))):WT G Φ k e ρ β Kt Kf :=
  λ A env g s Q E rm eo iv kk=>isTrue_plain (h A env g s _ E rm eo iv λ v x β1 g1 h1 tk1 z0 iv1 r st1=>z0.elim λ c z0=>z0.elim λ hc hk=>by
    refine Rep.bool_q hc r ?_
    exact wpAny_truthy_bool (kk c β1 g1 h1 tk1 hk.1 hk.2 iv1 st1)) (hp env _)
end
section
variable {C:Cx'} {ρ:En} {β:SL}
theorem SnE.ofP {F e} (h:∀ ρ β K,Fit C ρ->F ρ β K->WE C.G C.Φ C.k e (loc C.Φ.keys ρ) β.den (LE K)) (hp:∀ env whole,isTrue e env whole=(do let v <- whole; standAt e.pos; holding [v] (truthy v))):SnE C (Md.ofE F) e where
  E:=h
  T:=λ ρ β Kt Kf f t=>WT_valP ((h ρ β _ f t).monoD λ s β' k=>by
    refine vB_e k λ c k=>?_
    exact ⟨c,rfl,λ q=>⟨β',rfl,k.t q⟩,λ q=>⟨β',rfl,k.f (by rw [q]; nofun)⟩⟩) hp
  R:=λ ρ β K f t=>WR_val ((h ρ β _ f t).monoD λ s β' k=>LR.mk (s:=.v s) rfl k)
theorem SnE.ofE {F e} (h:∀ ρ β K,Fit C ρ->F ρ β K->WE C.G C.Φ C.k e (loc C.Φ.keys ρ) β.den (LE K)) (hp:plainTest e=true):SnE C (Md.ofE F) e:=.ofP h (plainTest_eq hp)
theorem SnE.raw {e}:SnE C (vc C (.raw e)) e:=⟨λ ρ β K f h=>h,λ ρ β Kt Kf f h=>h,λ ρ β K f h=>h.elim⟩
theorem SnE.join {F:SV->SL->Prop} {t a b:Expr} {pos} {mt ma mb:Md} (ht:SnE C mt t) (ha:SnE C ma a) (hb:SnE C mb b) (f:Fit C ρ)
    (h:Jn F λ Q=>mt.T ρ β (λ β=>ma.E ρ β Q) λ β=>mb.E ρ β Q):WE C.G C.Φ C.k (.IfExp t a b pos) (loc C.Φ.keys ρ) β.den (LE F):=by
  unfold Jn at h
  obtain ⟨Q,h,k⟩:=h
  refine WE.mono (K:=LE Q) ?_ λ v b z0=>z0.elim λ s z0=>z0.elim λ β' z0=>z0.elim λ hv z0=>z0.elim λ hb q=>⟨s,β',hv,hb,k s β' q⟩
  have h:=ht.T _ _ _ _ f h
  refine WE_if (λ A env g s Q' E rm eo iv kk=>h A env g s Q' E rm eo iv λ c b g' h' tk t1 t2=>kk c b g' h' tk (λ q=>?_) (λ q=>?_))
  . obtain ⟨β',rfl,q⟩:=t1 q; exact ha.E _ _ _ f q
  . obtain ⟨β',rfl,q⟩:=t2 q; exact hb.E _ _ _ f q
theorem WT.mono {G:Gd} {Φ:Fm} {k:Nat} {e:Expr} {ρ:Loc} {β:List V} {Kt Kf Kt' Kf':List V->Prop} (h:WT G Φ k e ρ β Kt Kf) (ht:∀ b,Kt b->Kt' b) (hf:∀ b,Kf b->Kf' b):WT G Φ k e ρ β Kt' Kf' :=
  λ A env g s Q E rm eo iv kk=>h A env g s Q E rm eo iv λ c b g' h' tk t1 t2=>kk c b g' h' tk (λ q=>ht b (t1 q)) λ q=>hf b (t2 q)
theorem SnA.nil:SnA C (vc C .nil) []:=λ ρ β K _ k=>WL_nil ⟨[],β,rfl,rfl,k⟩
theorem SnA.cons {i j:IE} {e:Expr} {r:List Expr} (h:SnE C (vc C i) e) (hs:noStar e=true) (hr:SnA C (vc C j) r):SnA C (vc C (.cons i j)) (e :: r) :=
  λ ρ β K t k=>WL_cons ((h.E _ _ _ t k).monoD λ s β' k=>by
    exact λ A env g s' pos Q E rm eo iv kk=>hr ρ β' _ t k A env g s' pos Q E rm eo iv λ vs xs β2 g' h' tk z0=>z0.elim λ ss z0=>z0.elim λ β'' z0=>z0.elim λ hx z0=>z0.elim λ hb k=>kk vs xs β2 g' h' tk ⟨s :: ss,β'',by rw [hx]; rfl,hb,k⟩) hs
theorem WL.mono {G:Gd} {Φ:Fm} {k:Nat} {e:List Expr} {ρ:Loc} {β:List V} {K K':List V->List V->Prop} (h:WL G Φ k e ρ β K) (hK:∀ x b,K x b->K' x b):WL G Φ k e ρ β K' :=
  λ A env g s pos Q E rm eo iv kk=>h A env g s pos Q E rm eo iv λ v x β' g' h' tk hk=>kk v x β' g' h' tk (hK x β' hk)
theorem Ca.to {f:V} {as:List SV} {K:SV->SL->Prop} (h:Ca C.G C.k f as λ s=>K s β):Spec C.G C.k f (as.map SV.den) λ y=>LE K y β.den:=by
  unfold Ca at h
  exact h.mono λ v z0=>z0.elim λ s z0=>z0.elim λ hv k=>⟨s,β,hv,rfl,k⟩
theorem CaM.to {ad:Addr} {m:Str} {as:List SV} {K:SV->SL->Prop} (h:CaM C.G C.k ad m as λ s=>K s β):SpecM C.G C.k cR ad (methOf cR m) (as.map SV.den) λ y=>LE K y β.den:=by
  unfold CaM at h
  exact λ f hf=>(h f hf).mono λ v z0=>z0.elim λ s z0=>z0.elim λ hv k=>⟨s,β,hv,rfl,k⟩
theorem CaIO.to {f:V} {as:List SV} {K:SV->SL->Prop} (h:CaIO C.G C.k f β as K):SpecIO C.G C.k f β.den (as.map SV.den) λ y l=>∃ (s:SV) (m:SL),y=s.den/\l=m.den/\K s m:=by
  unfold CaIO at h
  exact h
theorem Fit.box1 {ρ:En} (f:Fit C ρ) {x:Str} (hx:C.Φ.keys[C.bx]?=some x) (y:Str) (b:Addr) (m:(y,.box b)∈loc C.Φ.keys ρ):y=x:=by
  obtain ⟨i,hi⟩:=List.getElem?_of_mem m
  unfold loc at hi
  rw [List.getElem?_zip_eq_some] at hi
  obtain ⟨h1,h2⟩:=hi
  rw [List.getElem?_map] at h2
  obtain ⟨c,hc,e⟩:=Option.map_eq_some_iff.mp h2
  cases c with
  | box a =>
    rw [f.box i a hc,hx] at h1
    exact (Option.some.inj h1).symm
  | _=>cases e
theorem eval_meth {y m : Str} {q ap pos : Pos} {as : List Expr} (h1 : as.all noStar = true) (h2 : as.length < 30) (h3 : (ap.endLine == pos.line) = true) (env : Env) : eval (.Call (.Attribute (.Name y q) m ap) as [] pos) env = (do
      let ov <- eval (.Name y q) env
      standAt ap.atName
      let (f,first) <- holding [ov] (getMethod ov m (do return (<- importBound (.Name y q) env).getD true))
      callWith pos f first (backTo pos (starEach as env)) []):=by
  have hf:methodCallForm (as.length + 0) (backTo pos (starEach as env)) (backToKw pos (keywordEach [] env))=true:=by
    have:=starEach_any (env:=env) h1
    have e:(backTo pos (starEach as env)).any (·.1)=false:=by
      rw [<- this]; unfold backTo; rw [List.any_map]; rfl
    unfold methodCallForm
    rw [show (backTo pos (starEach as env)).all (λ x=>!x.1)=!(backTo pos (starEach as env)).any (·.1) from by simp [List.not_any_eq_all_not],e]
    exact decide_eq_true (p:=as.length < 30) h2
  have hp:∀ few,few=true->methodCallPos few (.Name y q) env ap pos=pure pos:=λ few e=>by subst e; unfold methodCallPos; rw [h3]; rfl
  show (do
    let ov <- attributeBase (.Name y q) m env (eval (.Name y q) env)
    standAt ap.atName
    methodCall (.Name y q) m ap pos env ov (as.length + 0) (backTo pos (starEach as env)) (backToKw pos (keywordEach [] env)))=_
  unfold methodCall
  rw [hf,hp _ rfl]
  rfl
theorem WR_opB {G:Gd} {Φ:Fm} {k:Nat} {ρ:Loc} {β:List V} {l r:Expr} {op pos} {K:Cell->List V->Prop} (h:WE G Φ k l ρ β λ a β1=>WE G Φ k r ρ β1 λ b β2=>(∃ c,OpOk G op a b c/\K (.val c) β2)\/∃ xs,OpNew G op a b xs/\∀ a,K (.own a xs) β2):WR G Φ k (.BinOp l op r pos) ρ β K :=
  λ A env g s Q E rm eo iv kk=>wpAny_BinOp (h A env g s _ E rm eo iv λ va a β1 g1 h1 tk1 hr iv1 ra st1 =>
    hr A env g1 _ _ E (rm.step st1) eo iv1 λ vb b β2 g2 h2 tk2 ho iv2 rb st2=>by
      rcases ho with ⟨c,hop,hk⟩ | ⟨xs,hop,hk⟩
      . exact hop A g2 _ va vb Q E rm.hd (by have:=rm.units; omega) iv2.ok (ra.mono st2.gle) rb λ rv g3 h3 tk3 x rr =>
          kk rv (.val c) β2 g3 h3 tk3 hk (x.inv iv2) rr (λ _ hb=>addrs_val hb) ((st1.trans' st2).trans' x.step)
      . exact hop A g2 _ va vb Q E rm.hd (by have:=rm.units; omega) iv2.ok (ra.mono st2.gle) rb λ vs hvs=>by
          obtain ⟨iv3,rv,st3⟩:=push_own iv2 hvs
          exact kk _ _ β2 g2 _ tk2 (hk _) iv3 rv (λ b hb=>by rw [addrs_own hb]; exact iv.old (st1.trans' st2) iv2.ok (get?_size h2)) ((st1.trans' st2).trans' st3))
theorem WE_neg1 {G:Gd} {Φ:Fm} {k:Nat} {ρ:Loc} {β:List V} {s:Expr} {K} (hk:K (.int (-1)) β):WE G Φ k (neg1 s) ρ β K:=WE_usub (WE_int (int1_ok hk))
theorem bool_true {c:Bool} (h:c=false):¬ c=true:=by rw [h]; nofun
structure Sn (C:Cx') (m:Md) (r:Rb):Prop where
  E:∀ e,r.w e=true->SnE C m (r.E e)
  A:∀ es,r.wA es=true->SnA C m (r.A es)/\(r.A es).all noStar=true
section
variable {m ma mb md:Md} {a b d:Rb}
theorem and2 {x y:Bool} (h:(x && y)=true):x=true/\y=true:=Bool.and_eq_true_iff.mp h
theorem and3 {x y z:Bool} (h:(x && (y && z))=true):x=true/\y=true/\z=true:=⟨(and2 h).1,and2 (and2 h).2⟩
theorem and4 {x y z u:Bool} (h:(x && (y && (z && u)))=true):x=true/\y=true/\z=true/\u=true:=⟨(and2 h).1,and3 (and2 h).2⟩
theorem and5 {x y z u v:Bool} (h:(x && (y && (z && (u && v))))=true):x=true/\y=true/\z=true/\u=true/\v=true:=⟨(and2 h).1,and4 (and2 h).2⟩
theorem Sn.leaf {f c} (h:c=true->∀ e,SnE C m (f e)):Sn C m (.leaf f c):=⟨λ e hc=>h hc e,λ _ z=>nomatch z⟩
theorem Sn.one {p f c} (ha:Sn C ma a) (h:∀ e x,SnE C ma x->c e x=true->SnE C m (f e x)):Sn C m (.one p a f c):=⟨λ e hc=>h _ _ (ha.E _ (and2 hc).1) (and2 hc).2,λ _ z=>nomatch z⟩
theorem Sn.two {p q f c} (ha:Sn C ma a) (hb:Sn C mb b) (h:∀ e x y,SnE C ma x->SnE C mb y->c x y=true->SnE C m (f e x y)):Sn C m (.two p q a b f c) :=
  ⟨λ e hc=>h _ _ _ (ha.E _ (and3 hc).1) (hb.E _ (and3 hc).2.1) (and3 hc).2.2,λ _ z=>nomatch z⟩
theorem Sn.thr {f c} (ha:Sn C ma a) (hb:Sn C mb b) (hd:Sn C md d) (h:∀ e x y z,SnE C ma x->SnE C mb y->SnE C md z->c x y z=true->SnE C m (f e x y z)):Sn C m (.thr a b d f c) :=
  ⟨λ e hc=>h _ _ _ _ (ha.E _ (and4 hc).1) (hb.E _ (and4 hc).2.1) (hd.E _ (and4 hc).2.2.1) (and4 hc).2.2.2,λ _ z=>nomatch z⟩
theorem Sn.arg {p f c} (ha:Sn C ma a) (h:∀ e l,SnA C ma l->l.all noStar=true->c e l=true->SnE C m (f e l)):Sn C m (.arg p a f c) :=
  ⟨λ e hc=>h _ _ (ha.A _ (and2 hc).1).1 (ha.A _ (and2 hc).1).2 (and2 hc).2,λ _ z=>nomatch z⟩
end
noncomputable abbrev gc (C:Cx'):Cc:=⟨C.Φ.keys,C.Φ.scope,C.bx⟩
theorem Fit.m (f:Fit C ρ) {i:Nat} (h:(gc C).at i=true) {c:SC} (e:lk ρ i=c):((gc C).x i,c.den)∈loc C.Φ.keys ρ:=e ▸ f.mem (Cc.at_ok h)
theorem lstOf_den:∀ xs:List SV,(lstOf xs).den=xs.map SV.den
  | []=>rfl
  | [x]=>by cases x <;> rfl
  | [x,y]=>by
    cases x with
    | il f=>cases y <;> rfl
    | _=>rfl
  | x :: y :: z :: r=>by
    cases x with
    | il f=>cases y <;> rfl
    | _=>rfl
variable (pg:PG C.G) (hp:C.Φ.plain=true)
theorem sn_name {i:Nat} (h1:(gc C).at i=true) (e:Expr):SnE C (vc C (.nm i)) (nameE ((gc C).x i) e):=SnE.ofE (λ ρ β K f h=>by
  obtain ⟨s,e,h⟩:=vNm_ok h
  exact WE_name (f.m h1 e) ⟨s,β,rfl,rfl,h⟩) rfl
include pg in
theorem sn_gsm (h2:isGl C.Φ.scope "MOST_SMALL" = true) (e:Expr):SnE C (vc C .gsm) (nameE "MOST_SMALL" e):=by
  obtain ⟨t,ht⟩:=pg.small
  exact SnE.ofE (λ ρ β K f h=>WE_globint ht (isGl_mem h2) ⟨_,β,rfl,rfl,h⟩) rfl
theorem gf_ok {x:Str} (h:(gc C).gf x=true):isGl C.Φ.scope x=true/\∃ i,i∈fIdx/\(dN i).name=x:=⟨(and2 h).1,defN_ok (and2 h).2⟩
include pg in
theorem sn_gf {x:Str} (hc:(gc C).gf x=true) (e:Expr):SnE C (vc C (.gf x)) (nameE x e):=by
  obtain ⟨h2,i,hi,e⟩:=gf_ok hc
  exact SnE.ofE (λ ρ β K f h=>WE_fnv (pg.d hi) e h2 ⟨_,β,rfl,rfl,h⟩) rfl
section
variable {l r t a b c as:IE} {x y z e:Expr} {es:List Expr}
theorem sn_bin {op} (hl:SnE C (vc C l) x) (hr:SnE C (vc C r) y) {p}:SnE C (vc C (.bin op l r)) (.BinOp x op y p):=by
  refine ⟨λ ρ β K f h=>WE_bin ((hl.E _ _ _ f h).monoD λ s β' k=>?_),λ ρ β Kt Kf f h=>h.elim,λ ρ β K f h=>?_⟩
  . refine (hr.E _ _ _ f k).monoD λ t β'' k=>?_
    obtain ⟨y,hy,k⟩:=vBin_ok k
    exact ⟨y.den,hy,LE.mk k⟩
  . refine WR_opB ((hl.E _ _ _ f h).monoD λ s β' k=>?_)
    refine (hr.E _ _ _ f k).monoD λ t β'' k=>?_
    rcases vBinR_ok k with ⟨y,hy,k⟩ | ⟨l,hl,k⟩
    . exact .inl ⟨y.den,hy,LR.mk (s:=.v y) rfl k⟩
    . exact .inr ⟨l.den,hl,λ ad=>LR.mk (s:=.own ad l) rfl (k ad)⟩
theorem sn_neg (ha:SnE C (vc C a) x) {p}:SnE C (vc C (.neg a)) (.UnaryOp .USub x p):=SnE.ofP (λ ρ β K f h=>WE_neg ((ha.E _ _ _ f h).monoD λ s β' k=>by
  refine vI_e k λ i k=>?_
  exact ⟨i,rfl,LE.mk (s:=.int _) k⟩)) λ _ _=>rfl
theorem sn_not (ha:SnE C (vc C a) x) {p}:SnE C (vc C (.not a)) (.UnaryOp .Not x p) :=
  ⟨λ ρ β K f h=>WE_not ((ha.E _ _ _ f h).monoD λ s β' k=>by
    refine vB_e k λ i k=>?_
    exact ⟨i,rfl,LE.mk (s:=.bool _) k⟩),λ ρ β Kt Kf f h=>WT_not (ha.T _ _ _ _ f h),λ ρ β K f h=>h.elim⟩
theorem sn_cmp {op} (hl:SnE C (vc C l) x) (hr:SnE C (vc C r) y) {p} (h1:noSet y=true):SnE C (vc C (.cmp op l r)) (.Compare x [op] [y] p):=by
  refine ⟨λ ρ β K f h=>WE_cmp ((hl.E _ _ _ f h).monoD λ s β' k=>?_) h1,λ ρ β Kt Kf f h=>WT_cmp ((hl.E _ _ _ f h).monoD λ s β' k=>?_) h1,λ ρ β K f h=>h.elim⟩
  . refine (hr.E _ _ _ f k).monoD λ t β'' k=>?_
    obtain ⟨c,hc,k⟩:=vCmp_ok k
    exact ⟨c,hc,LE.mk (s:=.bool c) k⟩
  . refine (hr.E _ _ _ f k).monoD λ t β'' k=>?_
    refine hid λ _ uQ=>?_
    obtain ⟨c,hc,k1,k2⟩:=vTst_ok k
    refine uQ ?_
    exact ⟨c,hc,λ q=>⟨β'',rfl,k1 q⟩,λ q=>⟨β'',rfl,k2 q⟩⟩
theorem sn_and (hl:SnE C (vc C l) x) (hr:SnE C (vc C r) y) {p}:SnE C (vc C (.and l r)) (.BoolOp .And [x,y] p) :=
  ⟨λ ρ β K f h=>WE_and ((hl.E _ _ _ f h).monoD λ s β' k=>by
    refine vB_e k λ c k=>?_
    exact ⟨c,rfl,λ q=>hr.E _ _ _ f (k.t q),λ q=>LE.mk (s:=.bool false) (k.f (bool_true q))⟩),λ ρ β Kt Kf f h=>WT_and ((hl.T _ _ _ _ f h).mono (λ b z0=>z0.elim λ β' z0=>z0.1 ▸ hr.T _ _ _ _ f z0.2) λ b h=>h),λ ρ β K f h=>h.elim⟩
theorem sn_or (hl:SnE C (vc C l) x) (hr:SnE C (vc C r) y) {p}:SnE C (vc C (.or l r)) (.BoolOp .Or [x,y] p) :=
  ⟨λ ρ β K f h=>WE_or ((hl.E _ _ _ f h).monoD λ s β' k=>by
    refine vB_e k λ c k=>?_
    exact ⟨c,rfl,λ q=>hr.E _ _ _ f (k.f (bool_true q)),λ q=>LE.mk (s:=.bool true) (k.t q)⟩),λ ρ β Kt Kf f h=>WT_or ((hl.T _ _ _ _ f h).mono (λ b h=>h) λ b z0=>z0.elim λ β' z0=>z0.1 ▸ hr.T _ _ _ _ f z0.2),λ ρ β K f h=>h.elim⟩
theorem sn_ite (ht:SnE C (vc C t) x) (ha:SnE C (vc C a) y) (hb:SnE C (vc C b) z) {p}:SnE C (vc C (.ite t a b)) (.IfExp x y z p) :=
  ⟨λ ρ β K f h=>SnE.join ht ha hb f h,λ ρ β Kt Kf f h=>h.elim,λ ρ β K f h=>WR_val ((SnE.join ht ha hb f h).monoD λ s β' k=>LR.mk (s:=.v s) rfl k)⟩
include pg in
theorem sn_call {x:Str} (hl:SnA C (vc C as) es) (h1:es.all noStar=true) (hc:(gc C).gf x=true):SnE C (vc C (.call x as)) (callE x e es):=by
  obtain ⟨h3,i,hi,e⟩:=gf_ok hc
  exact SnE.ofE (λ ρ β K f h=>WE_fn (pg.d hi) e h3 h1 ((hl _ _ _ f h).monoD λ ss β' k=>k.to)) rfl
theorem sn_calv {i:Nat} (hl:SnA C (vc C as) es) (h1:es.all noStar=true) (hc:(gc C).at i=true):SnE C (vc C (.calv i as)) (callE ((gc C).x i) e es) :=
  SnE.ofE (λ ρ β K f h=>by
    obtain ⟨s,e,hf,h⟩:=vNm_ok h
    exact WE_fnl (f.m hc e) hf h1 ((hl _ _ _ f h).monoD λ ss β' k=>k.to)) rfl
include pg in
theorem sn_io {x:Str} {q:Expr} (hl:SnA C (vc C as) es) (h1:es.all noStar=true) (hc:(gc C).gf x=true) (hb:(gc C).at C.bx=true):SnE C (vc C (.io x as)) (callE x e (nameE ((gc C).x C.bx) q :: es)):=by
  obtain ⟨h3,i,hi,e⟩:=gf_ok hc
  refine SnE.ofE (λ ρ β K f h=>?_) rfl
  obtain ⟨⟨a,hl'⟩,h⟩:=vBx_ok h
  exact WE_fnbox (pg.d hi) e h3 (f.m hb hl') (f.box1 (Cc.at_ok hb)) h1 ((hl _ _ _ f h).monoD λ ss β' k=>CaIO.to (K:=K) k)
@[elab_as_elim] theorem kMk_e {g:SV->SV->SV->SV->SV} {K:SV->SL->Prop} {ss:List SV} {β:SL} {Q:List SV->Prop} (h:kMk g K ss β) (k:∀ a b c d,K (g a b c d) β->Q [a,b,c,d]):Q ss:=by
  cases ss with
  | nil=>exact h.elim
  | cons a ss=>cases ss with
    | nil=>exact h.elim
    | cons b ss=>cases ss with
      | nil=>exact h.elim
      | cons c ss=>cases ss with
        | nil=>exact h.elim
        | cons d ss=>cases ss with
          | nil=>exact k a b c d h
          | cons _ _=>exact h.elim
theorem sn_mk {as:IE} {m:Md} {x:Str} {cl:ClsRec} {g:Addr->SV->SV->SV->SV->SV} (hm:m=Md.ofE λ ρ β K=>∃ ad,IsCls C.G cl ad/\2<=C.k/\(vc C as).A ρ β (kMk (g ad) K)) (hn:cl.name=x)
    (sp:∀ {ad},IsCls C.G cl ad->∀ a b c d:SV,Spec C.G 2 (.fn ad) [a.den,b.den,c.den,d.den] (·=(g ad a b c d).den)) (hl:SnA C (vc C as) es) (h1:es.all noStar=true) (h2:isGl C.Φ.scope x=true) (h3:(!es.isEmpty)=true):SnE C m (callE x e es):=by
  subst hm
  cases es with
  | nil=>cases h3
  | cons y es =>
    refine SnE.ofE (λ ρ β K f z0=>z0.elim λ ad z0=>z0.elim λ hc z0=>z0.elim λ hk h=>WE_make hc hn h2 h1 ((hl _ _ _ f h).monoD λ ss β' k=>?_)) rfl
    refine kMk_e k λ a b c d k=>Spec.eq (sp hc a b c d) hk (LE.mk k)
theorem sn_fM {i j:Nat} {p} (h1:(gc C).at i=true):SnE C (vc C (.fM i j)) (.Attribute (nameE ((gc C).x i) e) (fldM j) p):=SnE.ofE (λ ρ β K f h=>by
  obtain ⟨ad,a,b,c,d,e,hc,h⟩:=vMg_ok h
  have hm:=f.m h1 e
  cases j with
  | zero=>exact WE_modulus hc hm (LE.mk h)
  | succ j=>cases j with
    | zero=>exact WE_minusA hc hm (LE.mk h)
    | succ j=>cases j with
      | zero=>exact WE_oneA hc hm (LE.mk h)
      | succ j=>exact WE_squareA hc hm (LE.mk h)) rfl
theorem sn_fR {i j:Nat} {p} (h1:(gc C).at i=true) (h2:Nat.blt j 2=true):SnE C (vc C (.fR i j)) (.Attribute (nameE ((gc C).x i) e) (fldR j) p):=SnE.ofE (λ ρ β K f h=>by
  obtain ⟨ad,a,b,c,d,e,hc,h⟩:=vRg_ok h
  have hm:=f.m h1 e
  cases j with
  | zero=>exact WE_rn hc hm (LE.mk h)
  | succ j=>cases j with
    | zero=>exact WE_rw hc hm (LE.mk h)
    | succ j=>cases h2) rfl
theorem cal_ok {j:Nat} (h2:Nat.ble 2 j=true) (h3:Nat.ble j 3=true):j=2\/j=3:=by
  have:=Nat.le_of_ble_eq_true h2
  have:=Nat.le_of_ble_eq_true h3
  omega
theorem sn_cR {i j:Nat} (hl:SnA C (vc C as) es) (h1:es.all noStar=true) (h0:(gc C).at i=true) (hj:j=2\/j=3) (h2:Nat.blt es.length 30=true) (h3:sameLn e=true):SnE C (vc C (.cR i j as)) (methE ((gc C).x i) (calR j) e es):=by
  have he:=λ m=>eval_meth (m:=m) (y:=(gc C).x i) (q:=(kd 0 (kd 0 e)).pos) h1 (Nat.le_of_ble_eq_true h2) h3
  rcases hj with rfl | rfl <;> refine SnE.ofE (λ ρ β K f h'=>?_) rfl <;> obtain ⟨ad,a,b,c,d,e',hc,hf,h'⟩:=vRg_ok h'
  . exact WE_rmul hc (f.m h0 e') hf h1 ((hl _ _ _ f h').monoD λ ss β' k=>k.to) (he _)
  . exact WE_rdr hc (f.m h0 e') hf h1 ((hl _ _ _ f h').monoD λ ss β' k=>k.to) (he _)
theorem isIn_cons {a m:Str} {l:List Str} (h:isIn (a :: l) m=true):a=m\/isIn l m=true:=(Bool.or_eq_true_iff.mp h).imp of_decide_eq_true id
theorem sn_mR {i:Nat} {m:Str} (hl:SnA C (vc C as) es) (h1:es.all noStar=true) (h:(gc C).at i=true/\isIn ["plus","minus","product","half"] m=true/\Nat.blt es.length 30=true/\sameLn e=true):SnE C (vc C (.mR i m as)) (methE ((gc C).x i) m e es):=SnE.ofE (λ ρ β K f h'=>by
  obtain ⟨ad,a,b,c,d,e',hc,h'⟩:=vRg_ok h'
  have hm:=f.m h.1 e'
  have he:=eval_meth (m:=m) (y:=(gc C).x i) (q:=(kd 0 (kd 0 e)).pos) h1 (Nat.le_of_ble_eq_true h.2.2.1) h.2.2.2
  have r:WL C.G C.Φ C.k es (loc C.Φ.keys ρ) β.den (λ xs β2=>SpecM C.G C.k cR ad (methOf cR m) ((SV.rg ad a b c d).den :: xs) λ y=>LE K y β2):=(hl _ _ _ f h').monoD λ ss β' k=>k.to
  rcases isIn_cons h.2.1 with q | q
  . subst q; exact WE_rm hc hm m_cR_plus obj_plus rfl h1 r he
  rcases isIn_cons q with q | q
  . subst q; exact WE_rm hc hm m_cR_minus obj_minus rfl h1 r he
  rcases isIn_cons q with q | q
  . subst q; exact WE_rm hc hm m_cR_product obj_product rfl h1 r he
  rcases isIn_cons q with q | q
  . subst q; exact WE_rm hc hm m_cR_half obj_half rfl h1 r he
  . cases q) rfl
include pg in
theorem sn_len (ha:SnE C (vc C a) x) (h2:isGl C.Φ.scope "len" = true) (h3:noStar x=true):SnE C (vc C (.len a)) (callE "len" e [x]):=SnE.ofE (λ ρ β K f h=>WE_len pg h2 h3 ((ha.E _ _ _ f h).monoD λ s β' k=>by
  refine hid λ _ uQ=>?_
  obtain ⟨l,e,hl,k⟩:=vRl_ok k
  refine uQ ?_
  exact ⟨l.den,e,by rw [l.len_den]; exact hl,⟨_,β',by rw [l.len_den]; rfl,rfl,k⟩⟩)) rfl
include pg in
theorem sn_abs (ha:SnE C (vc C a) x) (h2:isGl C.Φ.scope "abs" = true) (h3:noStar x=true):SnE C (vc C (.abs a)) (callE "abs" e [x]):=SnE.ofE (λ ρ β K f h=>WE_abs pg h2 h3 ((ha.E _ _ _ f h).monoD λ s β' k=>by
  refine vI_e k λ i k=>?_
  exact ⟨i,rfl,LE.mk (s:=.int _) k⟩)) rfl
include pg in
theorem sn_max (ha:SnE C (vc C a) x) (hb:SnE C (vc C b) y) (h2:isGl C.Φ.scope "max" = true) (h4:noStar x=true) (h5:noStar y=true):SnE C (vc C (.max a b)) (callE "max" e [x,y]):=SnE.ofE (λ ρ β K f h=>WE_max pg h2 h4 h5 ((ha.E _ _ _ f h).monoD λ s β' k=>by
  refine (hb.E _ _ _ f k).monoD λ t β'' k=>?_
  refine vI_e k λ i k2=>?_
  refine vI_e k2 λ j k3=>?_
  exact ⟨i,j,rfl,rfl,LE.mk (s:=.int _) k3⟩)) rfl
theorem blen_ok (h:blenOk x=true) (env:Env):attributeBase x "bit_length" env (eval x env)=eval x env:=by
  cases x <;> first | exact absurd h Bool.false_ne_true | rfl
theorem sn_blen (ha:SnE C (vc C a) x) (h1:blenOk x=true) (h3:sameLn e=true):SnE C (vc C (.blen a)) (.Call (.Attribute x "bit_length" (kd 0 e).pos) [] [] e.pos):=SnE.ofE (λ ρ β K f h=>WE_bitlen h3 ((ha.E _ _ _ f h).monoD λ s β' k=>by
  refine vI_e k λ i k=>?_
  exact ⟨i,rfl,LE.mk (s:=.int _) k⟩) (blen_ok h1)) rfl
theorem sn_idx (ha:SnE C (vc C a) x) (hb:SnE C (vc C b) y) (h4:noSlice y=true) {p}:SnE C (vc C (.idx a b)) (.Subscript x y p):=SnE.ofE (λ ρ β K f h=>WE_sub ((ha.E _ _ _ f h).monoD λ o β' k=>by
  refine (hb.E _ _ _ f k).monoD λ t β'' k=>?_
  refine hid λ _ uQ=>?_
  obtain ⟨l,hl,k⟩:=vSl_ok k
  obtain ⟨i,s,e,hs,k⟩:=vIx_ok k
  refine uQ ?_
  exact ⟨l.den,i,s.den,hl,congrArg SV.den e,hs,LE.mk k⟩) h4) rfl
theorem sn_oix {i:Nat} {q:Expr} (hb:SnE C (vc C b) y) (h1:(gc C).at i=true) (h4:noSlice y=true) {p}:SnE C (vc C (.oix i b)) (.Subscript (nameE ((gc C).x i) q) y p):=SnE.ofE (λ ρ β K f h=>by
  rcases vOw_ok h with ⟨a,l,hl,h⟩ | ⟨⟨a,hl⟩,h⟩
  . refine WE_subown (f.m h1 hl) ((hb.E _ _ _ f h).monoD λ o β' k=>?_) h4
    refine hid λ _ uQ=>?_
    obtain ⟨i,s',e,hs,k⟩:=vIx_ok k
    refine uQ ?_
    exact ⟨i,s'.den,congrArg SV.den e,hs,LE.mk k⟩
  . refine WE_subbox (f.m h1 hl) ((hb.E _ _ _ f h).monoD λ o β' k=>?_) h4
    refine hid λ _ uQ=>?_
    obtain ⟨i,s',e,hs,k⟩:=vIx_ok k
    refine uQ ?_
    exact ⟨i,s'.den,congrArg SV.den e,hs,LE.mk k⟩) rfl
theorem sn_last {q:Expr} (ha:SnE C (vc C a) x) {p}:SnE C (vc C (.last a)) (.Subscript x (neg1 q) p):=SnE.ofE (λ ρ β K f h=>WE_sub ((ha.E _ _ _ f h).monoD λ o β' k=>WE_neg1 (by
  refine hid λ _ uQ=>?_
  obtain ⟨l,hl,k⟩:=vSl_ok k
  obtain ⟨s,hs,k⟩:=vLast_ok k
  refine uQ ?_
  exact ⟨l.den,-1,s.den,hl,rfl,hs,LE.mk k⟩)) rfl) rfl
theorem sn_olast {i:Nat} {q q2:Expr} (h1:(gc C).at i=true) {p}:SnE C (vc C (.olast i)) (.Subscript (nameE ((gc C).x i) q) (neg1 q2) p):=SnE.ofE (λ ρ β K f h=>by
  rcases vOw_ok h with ⟨a,l,hl,h⟩ | ⟨⟨a,hl⟩,h⟩
  . obtain ⟨s',hs,k⟩:=vLast_ok h
    exact WE_subown (f.m h1 hl) (WE_neg1 ⟨-1,s'.den,rfl,hs,⟨s',β,rfl,rfl,k⟩⟩) rfl
  . obtain ⟨s',hs,k⟩:=vLast_ok h
    exact WE_subbox (f.m h1 hl) (WE_neg1 ⟨-1,s'.den,rfl,hs,⟨s',β,rfl,rfl,k⟩⟩) rfl) rfl
theorem sn_upto (ha:SnE C (vc C a) x) (hb:SnE C (vc C b) y) {p q}:SnE C (vc C (.upto a b)) (.Subscript x (.Slice none (some y) none p) q):=SnE.ofE (λ ρ β K f h=>WE_upto ((ha.E _ _ _ f h).monoD λ s β' k=>by
  refine (hb.E _ _ _ f k).monoD λ t β'' k=>?_
  refine vL_e k λ g k2=>?_
  refine vI_e k2 λ i k3=>?_
  exact ⟨g.map .int,i,rfl,rfl,k3.1,by rw [List.length_map]; exact k3.2.1,⟨.il (g.take i.toNat),β'',by show _=IL _; rw [<- List.map_take],rfl,k3.2.2⟩⟩)) rfl
theorem sn_ofrm {i:Nat} {q:Expr} (hb:SnE C (vc C b) y) (h1:(gc C).at i=true) {p q2}:SnE C (vc C (.ofrm i b)) (.Subscript (nameE ((gc C).x i) q) (.Slice (some y) none none p) q2):=SnE.ofE (λ ρ β K f h=>by
  refine hid λ _ uQ=>?_
  obtain ⟨a,g,hl,h⟩:=vIl_ok h
  refine uQ ?_
  refine WE_fromown (f.m h1 hl) ((hb.E _ _ _ f h).monoD λ s β' k=>?_)
  refine vI_e k λ n k2=>?_
  exact ⟨n,rfl,k2.1,by rw [SL.len_den]; exact k2.2.1,⟨.il (g.drop n.toNat),β',by show V.list (List.drop n.toNat (g.map V.int))=IL _; rw [<- List.map_drop],rfl,k2.2.2⟩⟩) rfl
theorem sn_lst (hl:SnA C (vc C as) es) (h1:es.all noStar=true) {p}:SnE C (vc C (.lst as)) (.List es p) :=
  ⟨λ ρ β K f h=>WE_list ((hl _ _ _ f h).monoD λ ss β' k=>⟨by rw [List.length_map]; exact k.1,⟨_,β',by rw [SL.sv_den,lstOf_den],rfl,k.2⟩⟩),λ ρ β Kt Kf f h=>h.elim,
    λ ρ β K f h=>WR_list ((hl _ _ _ f h).monoD λ ss β' k=>⟨by rw [List.length_map]; exact k.1,λ a=>⟨.own a (lstOf ss),β',by show _=Cell.own a _; rw [lstOf_den],rfl,rfl,k.2 a⟩⟩)⟩
theorem sn_t2 (ha:SnE C (vc C a) x) (hb:SnE C (vc C b) y) (h1:noStar x=true) (h2:noStar y=true) {m p}:SnE C (vc C (.t2 a b)) (.Tuple [x,y] m p):=SnE.ofE (λ ρ β K f h=>WE_tuple (WL_cons ((ha.E _ _ _ f h).monoD λ s β' k=>by
  refine WL_cons ((hb.E _ _ _ f k).monoD λ t β'' k=>?_) h2
  exact WL_nil ⟨Nat.le_of_ble_eq_true rfl,LE.mk (s:=.t2 s t) k⟩) h1)) rfl
theorem sn_t3 (ha:SnE C (vc C a) x) (hb:SnE C (vc C b) y) (hc:SnE C (vc C c) z) (h1:noStar x=true) (h2:noStar y=true) (h3:noStar z=true) {m p}:SnE C (vc C (.t3 a b c)) (.Tuple [x,y,z] m p):=SnE.ofE (λ ρ β K f h=>WE_tuple (WL_cons ((ha.E _ _ _ f h).monoD λ s β' k=>by
  refine WL_cons ((hb.E _ _ _ f k).monoD λ t β'' k=>?_) h2
  refine WL_cons ((hc.E _ _ _ f k).monoD λ y β3 k=>?_) h3
  exact WL_nil ⟨Nat.le_of_ble_eq_true rfl,LE.mk (s:=.t3 s t y) k⟩) h1)) rfl
end
include pg in
theorem sn_E (i:IE):Sn C (vc C i) (rb (gc C) i):=by
  induction i with
  | nm i=>exact .leaf λ h e=>sn_name h e
  | gsm=>exact .leaf λ h e=>sn_gsm pg h e
  | gf x=>exact .leaf λ h e=>sn_gf pg h e
  | int i=>exact .leaf λ _ e=>SnE.ofE (λ ρ β K f h=>WE_int ⟨.int i,β,rfl,rfl,h⟩) rfl
  | bool i=>exact .leaf λ _ e=>SnE.ofE (λ ρ β K f h=>WE_bool ⟨.bool i,β,rfl,rfl,h⟩) rfl
  | none=>exact .leaf λ _ e=>SnE.ofE (λ ρ β K f h=>WE_none ⟨.none,β,rfl,rfl,h⟩) rfl
  | bin op l r hl hr=>exact .two hl hr λ _ _ _ hx hy _=>sn_bin hx hy
  | neg a ha=>exact .one ha λ _ _ hx _=>sn_neg hx
  | not a ha=>exact .one ha λ _ _ hx _=>sn_not hx
  | cmp op l r hl hr=>exact .two hl hr λ _ _ _ hx hy h=>sn_cmp hx hy h
  | and l r hl hr=>exact .two hl hr λ _ _ _ hx hy _=>sn_and hx hy
  | or l r hl hr=>exact .two hl hr λ _ _ _ hx hy _=>sn_or hx hy
  | ite t a b ht ha hb=>exact .thr ht ha hb λ _ _ _ _ hx hy hz _=>sn_ite hx hy hz
  | call x as h=>exact .arg h λ _ _ hl h1 hc=>sn_call pg hl h1 hc
  | calv i as h=>exact .arg h λ _ _ hl h1 hc=>sn_calv hl h1 hc
  | io x as h=>exact .arg h λ _ _ hl h1 hc=>sn_io pg hl h1 (and2 hc).1 (and2 hc).2
  | mkM as h=>exact .arg h λ _ _ hl h1 hc=>sn_mk (g:=.mg) rfl n_cM (λ hC a b c d=>spec_Montgomery (k:=0) hC _ _ _ _) hl h1 (and2 hc).1 (and2 hc).2
  | mkR as h=>exact .arg h λ _ _ hl h1 hc=>sn_mk (g:=.rg) rfl n_cR (λ hC a b c d=>spec_Ring (k:=0) hC _ _ _ _) hl h1 (and2 hc).1 (and2 hc).2
  | fM i j=>exact .leaf λ h e=>sn_fM h
  | fR i j=>exact .leaf λ h e=>sn_fR (and2 h).1 (and2 h).2
  | cR i j as h=>exact .arg h λ _ _ hl h1 hc=>sn_cR hl h1 (and5 hc).1 (cal_ok (and5 hc).2.1 (and5 hc).2.2.1) (and5 hc).2.2.2.1 (and5 hc).2.2.2.2
  | mR i m as h=>exact .arg h λ _ _ hl h1 hc=>sn_mR hl h1 (and4 hc)
  | len a ha=>exact .one ha λ _ _ hx h=>sn_len pg hx (and2 h).1 (and2 h).2
  | abs a ha=>exact .one ha λ _ _ hx h=>sn_abs pg hx (and2 h).1 (and2 h).2
  | max a b ha hb=>exact .two ha hb λ _ _ _ hx hy h=>sn_max pg hx hy (and3 h).1 (and3 h).2.1 (and3 h).2.2
  | blen a ha=>exact .one ha λ _ _ hx h=>sn_blen hx (and2 h).1 (and2 h).2
  | idx a b ha hb=>exact .two ha hb λ _ _ _ hx hy h=>sn_idx hx hy h
  | oix i b hb=>exact .one hb λ _ _ hx h=>sn_oix hx (and2 h).1 (and2 h).2
  | last a ha=>exact .one ha λ _ _ hx _=>sn_last hx
  | olast i=>exact .leaf λ h e=>sn_olast h
  | upto a b ha hb=>exact .two ha hb λ _ _ _ hx hy _=>sn_upto hx hy
  | ofrm i b hb=>exact .one hb λ _ _ hx h=>sn_ofrm hx h
  | lst as h=>exact .arg h λ _ _ hl h1 _=>sn_lst hl h1
  | t2 a b ha hb=>exact .two ha hb λ _ _ _ hx hy h=>sn_t2 hx hy (and2 h).1 (and2 h).2
  | t3 a b c ha hb hc=>exact .thr ha hb hc λ _ _ _ _ hx hy hz h=>sn_t3 hx hy hz (and3 h).1 (and3 h).2.1 (and3 h).2.2
  | nil=>exact ⟨(λ _ z=>nomatch z),λ _ _=>⟨SnA.nil,rfl⟩⟩
  | cons a r ha hr=>exact ⟨(λ _ z=>nomatch z),λ es h=>⟨.cons (ha.E _ (and3 h).1) (and3 h).2.1 (hr.A _ (and3 h).2.2).1,Bool.and_eq_true_iff.mpr ⟨(and3 h).2.1,(hr.A _ (and3 h).2.2).2⟩⟩⟩
  | raw k=>exact .leaf λ _ e=>SnE.raw
end
end L4
noncomputable section L5
section
variable {C:Cx'} {ρ:En} {β:SL}
noncomputable def LK (C:Cx') (N c:KN) (R:KR):Fl->Loc->List V->Prop:=λ f ρ1 β1=>∃ (ρ:En) (β:SL),ρ1=loc C.Φ.keys ρ/\β1=β.den/\Fit C ρ/\match f with
  | .next=>N ρ β
  | .cont=>c ρ β
  | .ret x=>∃ s:SV,x=s.den/\R s ρ β
  | .reto _ xs=>C.bx≠0/\∃ s:SV,V.list xs=s.den/\R s ρ β
  | .brk=>False
theorem LK.seq {rest:List Stmt} {N M c:KN} {R:KR} (h:∀ ρ β,Fit C ρ->M ρ β->WSs C.G C.Φ C.k rest (loc C.Φ.keys ρ) β.den (LK C N c R)):∀ f ρ1 β1,LK C M c R f ρ1 β1->Seq C.G C.Φ C.k rest (LK C N c R) f ρ1 β1:=by
  rintro f ρ1 β1 ⟨ρ,β,rfl,rfl,fit,k⟩
  cases f with
  | next=>exact h ρ β fit k
  | _=>exact ⟨ρ,β,rfl,rfl,fit,k⟩
noncomputable def SnS (C:Cx') (i:IS) (sts:List Stmt):Prop:=∀ ρ β N c R,Fit C ρ->vs C i ρ β N c R->WSs C.G C.Φ C.k sts (loc C.Φ.keys ρ) β.den (LK C N c R)
theorem SnS.raw {st:Stmt} {rest:List Stmt} {i:IS} (h:SnS C i rest):SnS C (.raw st i) (st :: rest):=λ ρ β N c R f k =>
  WSs_cons (WS.mono k λ fl ρ1 β1 z0=>z0.elim λ ρ' z0=>z0.elim λ β' z0=>z0.elim λ e1 z0=>z0.elim λ e2 z0=>z0.elim λ hl z0=>z0.elim λ hx k=>LK.seq (M:=λ ρ β=>vs C i ρ β N c R) (λ ρ β f k=>h ρ β N c R f k) fl ρ1 β1
    ⟨ρ',β',e1,e2,⟨hl.trans f.len,hx⟩,by cases fl <;> first | exact k | exact k.elim⟩)
theorem SnS.next {st:Stmt} {rest:List Stmt} {i:IS} (h:SnS C i rest) {N c:KN} {R:KR} {M:KN} (hM:∀ ρ β,M ρ β->vs C i ρ β N c R) (k:WS C.G C.Φ C.k st (loc C.Φ.keys ρ) β.den (LK C M c R)) :
    WSs C.G C.Φ C.k (st :: rest) (loc C.Φ.keys ρ) β.den (LK C N c R) :=
  WSs_cons (WS.mono k (LK.seq λ ρ β f k=>h ρ β N c R f (hM ρ β k)))
theorem LK.nx {N c:KN} {R:KR} (f:Fit C ρ) (k:N ρ β):LK C N c R .next (loc C.Φ.keys ρ) β.den:=⟨ρ,β,rfl,rfl,f,k⟩
variable (hp:C.Φ.plain=true) (pg:PG C.G)
theorem WR.mono' {G:Gd} {Φ:Fm} {k:Nat} {e:Expr} {ρ:Loc} {β:List V} {K:SC->SL->Prop} {K':Cell->List V->Prop} (h:WR G Φ k e ρ β (LR K)) (hK:∀ s (β:SL),s.nb=true->K s β->K' s.den β.den):WR G Φ k e ρ β K' :=
  WR.mono h λ c b z0=>z0.elim λ s z0=>z0.elim λ β z0=>z0.1 ▸ z0.2.1 ▸ hK s β z0.2.2.1 z0.2.2.2
theorem nb_v {s:SC} (h:s.nb=true) {i b:Nat} (a:Addr) (e:s=.box a):i=b:=by rw [e] at h; cases h
theorem Fit.setN {ρ:En} (f:Fit C ρ) (i:Nat) {c:SC} (hc:c.nb=true):Fit C (ρ.set i c):=f.set i λ a e=>nb_v hc a e
theorem Fit.at_ {x:Str} {i:Nat} {c:SC} (f:Fit C ρ) (h:C.Φ.keys[i]?=some x):∃ d,SetAt x c.den (loc C.Φ.keys ρ) d (loc C.Φ.keys (ρ.set i c))/\d.isRo=false:=⟨_,loc_set h (f.lt h),SC.noRo _⟩
section
variable {ia ib id ie:IE} {a b d e v:Expr} {i:IS} {rest:List Stmt} {x:Str} {p pos:Pos} {j:Nat}
include hp in
theorem sn_seto (ga:SnE C (vc C ia) v) (hr:SnS C i rest) (h1:C.Φ.keys[j]?=some x) (h2:noComp v=true):SnS C (.seto j ia i) (.Assign [.Name x p] v pos :: rest):=λ ρ β N c R f k=>by
  refine SnS.next hr (M:=λ ρ β=>vs C i ρ β N c R) (λ _ _ k=>k) (WS_assign ((ga.R _ _ _ f k).mono' λ s β' hn k=>?_) h2 hp)
  obtain ⟨d,hset,hd⟩:=f.at_ (c:=s) h1
  exact ⟨d,_,hset,hd,LK.nx (f.setN j hn) k⟩
include hp in
theorem sn_set (ga:SnE C (vc C ia) v) (hr:SnS C i rest) (h1:C.Φ.keys[j]?=some x) (h2:noComp v=true):SnS C (.set j ia i) (.Assign [.Name x p] v pos :: rest):=λ ρ β N c R f k=>by
  refine SnS.next hr (M:=λ ρ β=>vs C i ρ β N c R) (λ _ _ k=>k) (WS_assign (WR_val ((ga.E _ _ _ f k).monoD λ s β' k=>?_)) h2 hp)
  obtain ⟨d,hset,hd⟩:=f.at_ (c:=.v s) h1
  exact ⟨d,_,hset,hd,LK.nx (f.setN j rfl) k⟩
end
theorem filter_nms {p:Str->Pos->Bool} {g:Expr->Option Str} (hg:∀ x q,g (.Name x q)=if p x q=true then some x else none):∀ l:List (Str × Pos),((nms l).filterMap g).length=(nms l).length->(nms l).filterMap g=l.map (·.1)
  | [],_=>rfl
  | q :: l,hl=>by
    have e:List.filterMap g (nms (q :: l))=(if p q.1 q.2=true then [q.1] else []) ++ List.filterMap g (nms l):=by
      show List.filterMap g (.Name q.1 q.2 :: nms l)=_
      rw [List.filterMap_cons,hg]; cases p q.1 q.2 <;> rfl
    rw [e] at hl ⊢
    cases hpq:p q.1 q.2 with
    | true=>rw [hpq] at hl; exact congrArg (q.1 :: ·) (filter_nms hg l (Nat.succ.inj hl))
    | false=>rw [hpq] at hl; exact absurd (hl ▸ List.length_filterMap_le g (nms l)) (Nat.not_succ_le_self _)
theorem swapped_eq {ts vs:List Expr} {env:Env} {n m:Nat} {p q:Pos}:swappedStores [.Tuple ts n p] (.Tuple vs m q) env=(
    if (!(ts.length == 2 || ts.length == 3) || vs.length != ts.length || env.blockKind != .function)=true then pure none else
    if swStar vs=true then pure none else
    if ((swNames ts env).length != ts.length || (swNames ts env).eraseDups.length != (swNames ts env).length)=true then pure none else
    if vs.all (foldedForSure 8)=true then pure none else
    if vs.all (constantsAlone 8)=true then (do unsupported "assign.tuple-of-constant-expressions:order-of-the-stores"; pure (some (swNames ts env))) else pure (some (swNames ts env))):=by
  kernel_rfl
theorem swapped_of {l:List (Str × Pos)} {vs:List Expr} {env:Env} {n m:Nat} {p q:Pos} (h:sw (nms l) vs env≠0) :
    swappedStores [.Tuple (nms l) n p] (.Tuple vs m q) env=pure none\/swappedStores [.Tuple (nms l) n p] (.Tuple vs m q) env=pure (some (l.map (·.1))):=by
  rw [swapped_eq]
  unfold sw at h
  split
  . exact .inl rfl
  . rw [if_neg (by assumption)] at h
    split
    . exact .inl rfl
    . rw [if_neg (by assumption)] at h
      split
      . exact .inl rfl
      . rename_i h3
        rw [if_neg h3] at h
        split
        . exact .inl rfl
        . rw [if_neg (by assumption)] at h
          split
          . rw [if_pos (by assumption)] at h; exact absurd rfl h
          . refine .inr ?_
            simp only [Bool.or_eq_true,not_or,bne_iff_ne,ne_eq,Classical.not_not] at h3
            exact congrArg (λ z=>pure (some z)) (filter_nms (p:=λ id pos=>env.kindOf id == some .local && pos.line == ((nms l).head?.map (·.pos.line)).getD 0) (λ x q=>rfl) l h3.1)
theorem SetAll.two {x y:Str} {i j:Nat} {s t:SC} (f:Fit C ρ) (hx:C.Φ.keys[i]?=some x) (hy:C.Φ.keys[j]?=some y):SetAll [x,y] [s.den,t.den] (loc C.Φ.keys ρ) (loc C.Φ.keys ((ρ.set i s).set j t)):=by
  have e1:=loc_set (ρ:=ρ) (c:=s) hx (f.lt hx)
  have e2:=loc_set (ρ:=ρ.set i s) (c:=t) hy (by rw [List.length_set]; exact f.lt hy)
  exact .cons e1 (SC.noRo _) (.cons e2 (SC.noRo _) .nil)
theorem SetAll.three {x y z:Str} {i j k:Nat} {s t u:SC} (f:Fit C ρ) (hx:C.Φ.keys[i]?=some x) (hy:C.Φ.keys[j]?=some y) (hz:C.Φ.keys[k]?=some z):SetAll [x,y,z] [s.den,t.den,u.den] (loc C.Φ.keys ρ) (loc C.Φ.keys (((ρ.set i s).set j t).set k u)):=by
  have e1:=loc_set (ρ:=ρ) (c:=s) hx (f.lt hx)
  have e2:=loc_set (ρ:=ρ.set i s) (c:=t) hy (by rw [List.length_set]; exact f.lt hy)
  have e3:=loc_set (ρ:=(ρ.set i s).set j t) (c:=u) hz (by rw [List.length_set,List.length_set]; exact f.lt hz)
  exact .cons e1 (SC.noRo _) (.cons e2 (SC.noRo _) (.cons e3 (SC.noRo _) .nil))
theorem SetAll.four {x y z w:Str} {i j k l:Nat} {s t u v:SC} (f:Fit C ρ) (hx:C.Φ.keys[i]?=some x) (hy:C.Φ.keys[j]?=some y) (hz:C.Φ.keys[k]?=some z) (hw:C.Φ.keys[l]?=some w):SetAll [x,y,z,w] [s.den,t.den,u.den,v.den] (loc C.Φ.keys ρ) (loc C.Φ.keys ((((ρ.set i s).set j t).set k u).set l v)):=by
  have e1:=loc_set (ρ:=ρ) (c:=s) hx (f.lt hx)
  have e2:=loc_set (ρ:=ρ.set i s) (c:=t) hy (by rw [List.length_set]; exact f.lt hy)
  have e3:=loc_set (ρ:=(ρ.set i s).set j t) (c:=u) hz (by rw [List.length_set,List.length_set]; exact f.lt hz)
  have e4:=loc_set (ρ:=((ρ.set i s).set j t).set k u) (c:=v) hw (by rw [List.length_set,List.length_set,List.length_set]; exact f.lt hw)
  exact .cons e1 (SC.noRo _) (.cons e2 (SC.noRo _) (.cons e3 (SC.noRo _) (.cons e4 (SC.noRo _) .nil)))
section
variable {ia ib id ie:IE} {a b d e v:Expr} {q:IS} {rest:List Stmt} {pos tp tp2:Pos} {i j l o m m2:Nat} {ps:List (Str × Pos)}
include hp in
theorem sn_set2 (ga:SnE C (vc C ia) a) (gb:SnE C (vc C ib) b) (hr:SnS C q rest) (hi:(gc C).at i=true) (hj:(gc C).at j=true) (hne:i≠j) (hl:ps.map (·.1)=[(gc C).x i,(gc C).x j]) (ha:noStar a=true) (hb:noStar b=true)
    (hw:sw (nms ps) [a,b] (scEnv C.Φ.scope)≠0):SnS C (.set2 i j ia ib q) (.Assign [.Tuple (nms ps) m tp] (.Tuple [a,b] m2 tp2) pos :: rest):=λ ρ β N c R f k=>by
  have hx:=Cc.at_ok hi
  have hy:=Cc.at_ok hj
  have hn:namesAre (nms ps) _:=⟨ps,rfl,hl⟩
  refine SnS.next hr (M:=λ ρ β=>vs C q ρ β N c R) (λ _ _ k=>k) ?_
  have k:=ga.R _ _ _ f k
  rcases swapped_of (n:=m) (m:=m2) (p:=tp) (q:=tp2) hw with w | w
  . refine WS_unpack (WRs_cons (k.mono' λ s β hs k=>WRs_cons ((gb.R _ _ _ f k).mono' λ t β ht k=>WRs_nil ⟨Nat.le_of_ble_eq_true rfl,rfl,_,SetAll.two f hx hy,LK.nx ((f.setN i hs).setN j ht) ?_⟩) hb) ha) w hn hp
    rw [List.set_comm _ _ hne]; exact k
  . rw [hl] at w
    exact WS_swap (xs:=[_,_]) (WRs_cons (k.mono' λ s β hs k=>WRs_cons ((gb.R _ _ _ f k).mono' λ t β ht k=>WRs_nil ⟨Nat.le_of_ble_eq_true rfl,rfl,_,SetAll.two (s:=t) (t:=s) f hy hx,LK.nx ((f.setN j ht).setN i hs) k⟩) hb) ha) w hp
include hp in
theorem sn_set3 (ga:SnE C (vc C ia) a) (gb:SnE C (vc C ib) b) (gd:SnE C (vc C id) d) (hr:SnS C q rest) (hi:(gc C).at i=true) (hj:(gc C).at j=true) (hk:(gc C).at l=true) (hne:i≠j/\i≠l/\j≠l) (hl:ps.map (·.1)=[(gc C).x i,(gc C).x j,(gc C).x l])
    (ha:noStar a=true) (hb:noStar b=true) (hd:noStar d=true) (hw:sw (nms ps) [a,b,d] (scEnv C.Φ.scope)≠0):SnS C (.set3 i j l ia ib id q) (.Assign [.Tuple (nms ps) m tp] (.Tuple [a,b,d] m2 tp2) pos :: rest):=λ ρ β N c R f k=>by
  have hx:=Cc.at_ok hi
  have hy:=Cc.at_ok hj
  have hz:=Cc.at_ok hk
  have hn:namesAre (nms ps) _:=⟨ps,rfl,hl⟩
  refine SnS.next hr (M:=λ ρ β=>vs C q ρ β N c R) (λ _ _ k=>k) ?_
  have k:=ga.R _ _ _ f k
  rcases swapped_of (n:=m) (m:=m2) (p:=tp) (q:=tp2) hw with w | w
  . refine WS_unpack (WRs_cons (k.mono' λ s β hs k=>WRs_cons ((gb.R _ _ _ f k).mono' λ t β ht k=>WRs_cons ((gd.R _ _ _ f k).mono' λ u β hu k=>WRs_nil ⟨Nat.le_of_ble_eq_true rfl,rfl,_,SetAll.three f hx hy hz,LK.nx (((f.setN i hs).setN j ht).setN l hu) ?_⟩) hd) hb) ha) w hn hp
    rw [List.set_comm _ _ hne.1,List.set_comm _ _ hne.2.1,List.set_comm (l:=ρ) _ _ hne.2.2]
    exact k
  . rw [hl] at w
    exact WS_swap (xs:=[_,_,_]) (WRs_cons (k.mono' λ s β hs k=>WRs_cons ((gb.R _ _ _ f k).mono' λ t β ht k=>WRs_cons ((gd.R _ _ _ f k).mono' λ u β hu k=>WRs_nil ⟨Nat.le_of_ble_eq_true rfl,rfl,_,SetAll.three (s:=u) (t:=t) (u:=s) f hz hy hx,LK.nx (((f.setN l hu).setN j ht).setN i hs) k⟩) hd) hb) ha) w hp
include hp in
theorem sn_set4 (ga:SnE C (vc C ia) a) (gb:SnE C (vc C ib) b) (gd:SnE C (vc C id) d) (ge:SnE C (vc C ie) e) (hr:SnS C q rest) (hi:(gc C).at i=true) (hj:(gc C).at j=true) (hk:(gc C).at l=true) (ho:(gc C).at o=true)
    (hl:ps.map (·.1)=[(gc C).x i,(gc C).x j,(gc C).x l,(gc C).x o]) (ha:noStar a=true) (hb:noStar b=true) (hd:noStar d=true) (he:noStar e=true):SnS C (.set4 i j l o ia ib id ie q) (.Assign [.Tuple (nms ps) m tp] (.Tuple [a,b,d,e] m2 tp2) pos :: rest):=λ ρ β N c R f k=>by
  have hn:namesAre (nms ps) _:=⟨ps,rfl,hl⟩
  refine SnS.next hr (M:=λ ρ β=>vs C q ρ β N c R) (λ _ _ k=>k) ?_
  have sw0:swappedStores [.Tuple (nms ps) m tp] (.Tuple [a,b,d,e] m2 tp2) (scEnv C.Φ.scope)=pure none:=by
    have h4:(nms ps).length=4:=by rw [nms,List.length_map,<- List.length_map (f:=(·.1)),hl]; rfl
    rw [swapped_eq,h4]; rfl
  exact WS_unpack (WRs_cons ((ga.R _ _ _ f k).mono' λ s β hs k=>WRs_cons ((gb.R _ _ _ f k).mono' λ t β ht k=>WRs_cons ((gd.R _ _ _ f k).mono' λ u β hu k=>WRs_cons ((ge.R _ _ _ f k).mono' λ v β hv k =>
    WRs_nil ⟨Nat.le_of_ble_eq_true rfl,rfl,_,SetAll.four f (Cc.at_ok hi) (Cc.at_ok hj) (Cc.at_ok hk) (Cc.at_ok ho),LK.nx ((((f.setN i hs).setN j ht).setN l hu).setN o hv) k⟩) he) hd) hb) ha) sw0 hn hp
theorem isCall_ok {v:Expr} (h:isCall v=true):∃ g as kw p,v=.Call g as kw p:=by
  cases v <;> first | exact ⟨_,_,_,_,rfl⟩ | exact absurd h Bool.false_ne_true
include hp in
theorem sn_unp2 (ga:SnE C (vc C ia) v) (hv:isCall v=true) (hr:SnS C q rest) (hi:(gc C).at i=true) (hj:(gc C).at j=true) (hl:ps.map (·.1)=[(gc C).x i,(gc C).x j]) :
    SnS C (.unp2 i j ia q) (.Assign [.Tuple (nms ps) m tp] v pos :: rest):=λ ρ β N c R f k=>by
  have hn:namesAre (nms ps) _:=⟨ps,rfl,hl⟩
  refine hid λ _ uQ=>?_
  obtain ⟨g,as,kw,p,rfl⟩:=isCall_ok hv
  refine uQ ?_
  refine SnS.next hr (M:=λ ρ β=>vs C q ρ β N c R) (λ _ _ k=>k) (WS_unpackv ((ga.E _ _ _ f k).monoD λ s β' k=>?_) rfl hn rfl hp)
  cases s with
  | t2 a d=>exact ⟨[a.den,d.den],_,rfl,rfl,SetAll.two (s:=.v a) (t:=.v d) f (Cc.at_ok hi) (Cc.at_ok hj),LK.nx ((f.setN i rfl).setN j rfl) k⟩
  | _=>exact k.elim
include hp in
theorem sn_unp3 (ga:SnE C (vc C ia) v) (hv:isCall v=true) (hr:SnS C q rest) (hi:(gc C).at i=true) (hj:(gc C).at j=true) (hk:(gc C).at l=true) (hl:ps.map (·.1)=[(gc C).x i,(gc C).x j,(gc C).x l]) :
    SnS C (.unp3 i j l ia q) (.Assign [.Tuple (nms ps) m tp] v pos :: rest):=λ ρ β N c R f k=>by
  have hn:namesAre (nms ps) _:=⟨ps,rfl,hl⟩
  refine hid λ _ uQ=>?_
  obtain ⟨g,as,kw,p,rfl⟩:=isCall_ok hv
  refine uQ ?_
  refine SnS.next hr (M:=λ ρ β=>vs C q ρ β N c R) (λ _ _ k=>k) (WS_unpackv ((ga.E _ _ _ f k).monoD λ s β' k=>?_) rfl hn rfl hp)
  cases s with
  | t3 a d e=>exact ⟨[a.den,d.den,e.den],_,rfl,rfl,SetAll.three (s:=.v a) (t:=.v d) (u:=.v e) f (Cc.at_ok hi) (Cc.at_ok hj) (Cc.at_ok hk),LK.nx (((f.setN i rfl).setN j rfl).setN l rfl) k⟩
  | _=>exact k.elim
end
end
end L5
noncomputable section L6
theorem down_small2 {m n:Int} (h:n<=m) (h0:-1<=n) (h1:m < 2 ^ 61):Builtin.Range.small m n (-1)=true/\Builtin.Range.rangeSize m n (-1)=((m - n).toNat:Int):=by
  have e:Builtin.Range.rangeSize m n (-1)=m - n:=by
    unfold Builtin.Range.rangeSize
    rw [if_neg (by omega),show (-(-1):Int)=1 from rfl,Int.ediv_one]
    split <;> omega
  refine ⟨?_,by rw [e]; omega⟩
  unfold Builtin.Range.small
  rw [e]
  simp only [Builtin.Range.rangeFitsLong,Bool.and_eq_true,Bool.or_eq_true,decide_eq_true_eq,beq_iff_eq]
  refine ⟨⟨⟨⟨?_,?_⟩,?_⟩,?_⟩,.inr ?_⟩ <;> (try split) <;> simp <;> omega
theorem all2 {x y:Expr} (h:noStar x=true) (h2:noStar y=true):[x,y].all noStar=true:=by rw [List.all_cons,h,List.all_cons,h2]; rfl
theorem all3 {x y z:Expr} (h:noStar x=true) (h2:noStar y=true) (h3:noStar z=true):[x,y,z].all noStar=true:=by rw [List.all_cons,h,all2 h2 h3]; rfl
theorem LpF.to {N:Nat} {ρ:En} {β:SL} {turn:Nat->En->SL->(En->SL->Prop)->Prop} {K:En->SL->Prop} (h:LpF N ρ β turn K):∃ J:Nat->En->SL->Prop,J 0 ρ β/\(∀ i ρ β,i < N->J i ρ β->turn i ρ β (J (i + 1)))/\∀ ρ β,J N ρ β->K ρ β:=by
  unfold LpF at h; exact h
section
variable {C:Cx'} {ρ:En} {β:SL}
theorem LK.forK {J:Nat->En->SL->Prop} {j:Nat} {N c:KN} {R:KR}:∀ f ρ1 β1,LK C (J (j + 1)) (J (j + 1)) R f ρ1 β1 ->
    ForK (λ n ρ1 β1=>∃ (ρ:En) (β:SL),ρ1=loc C.Φ.keys ρ/\β1=β.den/\Fit C ρ/\J n ρ β) j (LK C N c R) f ρ1 β1:=by
  rintro f ρ1 β1 ⟨ρ,β,e1,e2,fit,k⟩
  cases f with
  | brk=>exact k.elim
  | _=>exact ⟨ρ,β,e1,e2,fit,k⟩
theorem LK.loopK {J:Nat->En->SL->Prop} {n:Nat} {N c:KN} {R:KR}:∀ f ρ1 β1,LK C (λ ρ β=>∃ m,m < n/\J m ρ β) (λ ρ β=>∃ m,m < n/\J m ρ β) R f ρ1 β1 ->
    LoopK (λ n ρ1 β1=>∃ (ρ:En) (β:SL),ρ1=loc C.Φ.keys ρ/\β1=β.den/\Fit C ρ/\J n ρ β) n (LK C N c R) f ρ1 β1:=by
  rintro f ρ1 β1 ⟨ρ,β,e1,e2,fit,k⟩
  cases f with
  | brk=>exact k.elim
  | next=>obtain ⟨m,hm,k⟩:=k; exact ⟨m,hm,ρ,β,e1,e2,fit,k⟩
  | cont=>obtain ⟨m,hm,k⟩:=k; exact ⟨m,hm,ρ,β,e1,e2,fit,k⟩
  | _=>exact ⟨ρ,β,e1,e2,fit,k⟩
theorem lpF {b:IS} {body:List Stmt} (hbody:SnS C b body) {x:Str} {i:Nat} (hx:C.Φ.keys[i]?=some x) {z:Nat} {g:Nat->Int} {M N c:KN} {R:KR} (f:Fit C ρ)
    (h:LpF z ρ β (λ j ρ β Q=>vs C b (ρ.set i (.v (.int (g j)))) β Q Q R) M) :
    LoopI C.G C.Φ C.k x body (LK C M c R) (loc C.Φ.keys ρ) β.den z g:=by
  unfold LpF at h
  obtain ⟨J,h0,ht,hf⟩:=h
  refine ⟨λ n ρ1 β1=>∃ (ρ:En) (β:SL),ρ1=loc C.Φ.keys ρ/\β1=β.den/\Fit C ρ/\J n ρ β,⟨ρ,β,rfl,rfl,f,h0⟩,?_,?_⟩
  . rintro j _ _ hj ⟨ρ,β,rfl,rfl,f,k⟩
    obtain ⟨d,hset,hd⟩:=f.at_ (c:=.v (.int (g j))) hx
    exact ⟨d,_,hset,hd,WSs.mono (hbody _ _ _ _ _ (f.setN i rfl) (ht j ρ β hj k)) LK.forK⟩
  . rintro _ _ ⟨ρ,β,rfl,rfl,f,k⟩
    exact LK.nx f (hf ρ β k)
variable (hp:C.Φ.plain=true) (pg:PG C.G) {je il ih id it:IE} {b q:IS} {body rest:List Stmt} (hbody:SnS C b body) (hr:SnS C q rest)
include hp hbody hr pg
theorem sn_for1 {x:Str} {i:Nat} {e:Expr} (ge:SnE C (vc C je) e) (hx:C.Φ.keys[i]?=some x) {p p2 p3 p4:Pos} (h1:isGl C.Φ.scope "range" = true) (h2:noStar e=true) :
    SnS C (.for1 i je b q) (.For (.Name x p) (.Call (.Name "range" p2) [e] [] p3) body [] p4 :: rest):=λ ρ β N c R f k=>by
  refine SnS.next hr (M:=λ ρ β=>vs C q ρ β N c R) (λ _ _ k=>k) (WS_forZ hp (WI_range pg h1 (by rw [List.all_cons,h2]; rfl) (WL_cons ((ge.E _ _ _ f k).monoD λ s β' k=>WL_nil ?_) h2)))
  obtain ⟨n,rfl,z,rfl,hz,k⟩:=vI_ok k
  exact ⟨0,1,z,.one hz,z,λ j=>j,(ints_rng 0 1 z).eq λ i=>by rw [Int.zero_add,Int.mul_one],lpF (c:=c) (N:=N) hbody hx f k⟩
theorem sn_for2 {x:Str} {i:Nat} {l h:Expr} (gl:SnE C (vc C il) l) (gh:SnE C (vc C ih) h) (hx:C.Φ.keys[i]?=some x) {p p2 p3 p4:Pos} (h1:isGl C.Φ.scope "range" = true) (h2:noStar l=true) (h3:noStar h=true) :
    SnS C (.for2 i il ih b q) (.For (.Name x p) (.Call (.Name "range" p2) [l,h] [] p3) body [] p4 :: rest):=λ ρ β N c R f k=>by
  refine SnS.next hr (M:=λ ρ β=>vs C q ρ β N c R) (λ _ _ k=>k) (WS_forZ hp (WI_range pg h1 (all2 h2 h3) (WL_cons ((gl.E _ _ _ f k).monoD λ s β' k=>?_) h2)))
  refine WL_cons ((gh.E _ _ _ f k).monoD λ t β' k=>WL_nil ?_) h3
  obtain ⟨m,n,rfl,rfl,m1,m2,n1,n2,z,hz,k3⟩:=vI2_ok k
  exact ⟨m,1,_,.two (Int.le_trans (by decide) m1) m2 (Int.le_trans (by decide) n1) n2,z,λ j=>m + j,hz ▸ (ints_rng m 1 _).eq λ i=>by rw [Int.mul_one],lpF (c:=c) (N:=N) hbody hx f k3⟩
theorem sn_forD {x:Str} {i:Nat} {l h d:Expr} (gl:SnE C (vc C il) l) (gh:SnE C (vc C ih) h) (hx:C.Φ.keys[i]?=some x) {p p2 p3 p4:Pos} (h1:isGl C.Φ.scope "range" = true) (h2:noStar l=true) (h3:noStar h=true) :
    SnS C (.forD i il ih b q) (.For (.Name x p) (.Call (.Name "range" p2) [l,h,neg1 d] [] p3) body [] p4 :: rest):=λ ρ β N c R f k=>by
  refine SnS.next hr (M:=λ ρ β=>vs C q ρ β N c R) (λ _ _ k=>k) (WS_forZ hp (WI_range pg h1 (all3 h2 h3 rfl) (WL_cons ((gl.E _ _ _ f k).monoD λ s β' k=>?_) h2)))
  refine WL_cons ((gh.E _ _ _ f k).monoD λ t β' k=>WL_cons (WE_neg1 (WL_nil ?_)) rfl) h3
  obtain ⟨m,n,rfl,rfl,n0,m2,z,hz,k3⟩:=vI2_ok k
  obtain ⟨e1,e2⟩:=down_small2 (m:=m) (n:=n) (by omega) n0 m2
  exact ⟨m,-1,z,.three (by decide) (by decide) e1 (by rw [e2]; omega),z,λ j=>m - j,(ints_rng m (-1) z).eq λ i=>by omega,lpF (c:=c) (N:=N) hbody hx f k3⟩
theorem sn_forS {x:Str} {i:Nat} {l h d:Expr} (gl:SnE C (vc C il) l) (gh:SnE C (vc C ih) h) (gd:SnE C (vc C id) d) (hx:C.Φ.keys[i]?=some x) {p p2 p3 p4:Pos} (h1:isGl C.Φ.scope "range" = true) (h2:noStar l=true) (h3:noStar h=true) (h4:noStar d=true) :
    SnS C (.forS i il ih id b q) (.For (.Name x p) (.Call (.Name "range" p2) [l,h,d] [] p3) body [] p4 :: rest):=λ ρ β N c R f k=>by
  refine SnS.next hr (M:=λ ρ β=>vs C q ρ β N c R) (λ _ _ k=>k) (WS_forZ hp (WI_range pg h1 (all3 h2 h3 h4) (WL_cons ((gl.E _ _ _ f k).monoD λ s β' k=>?_) h2)))
  refine WL_cons ((gh.E _ _ _ f k).monoD λ t β' k=>?_) h3
  refine WL_cons ((gd.E _ _ _ f k).monoD λ w β' k=>WL_nil ?_) h4
  obtain ⟨m,n,rfl,rfl,k2⟩:=vI2_ok k
  obtain ⟨d,rfl,d0,d1,d2,z,hz,k3⟩:=vI_ok k2
  exact ⟨m,d,z,.three d0 d1 d2 hz,z,λ j=>m + j * d,ints_rng m d z,lpF (c:=c) (N:=N) hbody hx f k3⟩
theorem sn_forL {x:Str} {i:Nat} {e:Expr} (ge:SnE C (vc C je) e) (hx:C.Φ.keys[i]?=some x) {p p4:Pos} (h1:∀ env v,foldedSetIterable e env v=pure v) :
    SnS C (.forL i je b q) (.For (.Name x p) e body [] p4 :: rest):=λ ρ β N c R f k=>by
  refine SnS.next hr (M:=λ ρ β=>vs C q ρ β N c R) (λ _ _ k=>k) (WS_forL hp ((ge.E _ _ _ f k).monoD λ s β' k=>?_) h1)
  refine vL_e k λ l k=>?_
  exact ⟨l,rfl,lpF (c:=c) (N:=N) hbody hx f k⟩
theorem sn_forR {x:Str} {i:Nat} {e:Expr} (ge:SnE C (vc C je) e) (hx:C.Φ.keys[i]?=some x) {p p2 p3 p4:Pos} (h1:isGl C.Φ.scope "reversed" = true) (h2:noStar e=true) :
    SnS C (.forR i je b q) (.For (.Name x p) (.Call (.Name "reversed" p2) [e] [] p3) body [] p4 :: rest):=λ ρ β N c R f k=>by
  refine SnS.next hr (M:=λ ρ β=>vs C q ρ β N c R) (λ _ _ k=>k) (WS_forZ hp (WI_rev pg h1 h2 ((ge.E _ _ _ f k).monoD λ s β' k=>?_)))
  refine vL_e k λ l k=>?_
  exact ⟨l.map .int,rfl,_,_,ints_rev l,lpF (c:=c) (N:=N) hbody hx f k⟩
theorem sn_forE {ps:List (Str × Pos)} {i j:Nat} {e:Expr} (ge:SnE C (vc C je) e) (hi:(gc C).at i=true) (hj:(gc C).at j=true) (hl:ps.map (·.1)=[(gc C).x i,(gc C).x j]) {m:Nat} {p p2 p3 p4:Pos} (h1:isGl C.Φ.scope "enumerate" = true) (h2:noStar e=true) :
    SnS C (.forE i j je b q) (.For (.Tuple (nms ps) m p) (.Call (.Name "enumerate" p2) [e] [] p3) body [] p4 :: rest):=λ ρ β N c R f k=>by
  have hx:=Cc.at_ok hi
  have hy:=Cc.at_ok hj
  have hn:namesAre (nms ps) _:=⟨ps,rfl,hl⟩
  refine SnS.next hr (M:=λ ρ β=>vs C q ρ β N c R) (λ _ _ k=>k) ?_
  refine WS_forEI pg hp h1 h2 hn rfl ((ge.E _ _ _ f k).monoD λ s β' k=>?_)
  refine vL_e k λ l k2=>?_
  obtain ⟨J,h0,ht,hf⟩:=LpF.to k2
  refine ⟨l,rfl,λ n ρ1 β1=>∃ (ρ:En) (β:SL),ρ1=loc C.Φ.keys ρ/\β1=β.den/\Fit C ρ/\J n ρ β,⟨ρ,β',rfl,rfl,f,h0⟩,?_,?_⟩
  . rintro n _ _ hj ⟨ρ,β,rfl,rfl,f,k⟩
    exact ⟨_,SetAll.two (s:=.v (.int n)) (t:=.v (.int (ig l n))) f hx hy,WSs.mono (hbody _ _ _ _ _ ((f.setN i rfl).setN j rfl) (ht n ρ β hj k)) LK.forK⟩
  . rintro _ _ ⟨ρ,β,rfl,rfl,f,k⟩
    exact LK.nx f (hf ρ β k)
theorem sn_whl {t:Expr} (gt:SnE C (vc C it) t) {p:Pos}:SnS C (.whl it b q) (.While t body [] p :: rest):=λ ρ β N c R f k=>by
  refine SnS.next hr (M:=λ ρ β=>vs C q ρ β N c R) (λ _ _ k=>k) ?_
  have k:LpW ρ β λ ρ β Q=>(vc C it).T ρ β (λ β=>vs C b ρ β Q Q R) λ β=>vs C q ρ β N c R:=k
  unfold LpW at k
  obtain ⟨J,n,h0,ht⟩:=k
  refine WS_while (λ n ρ1 β1=>∃ (ρ:En) (β:SL),ρ1=loc C.Φ.keys ρ/\β1=β.den/\Fit C ρ/\J n ρ β) n ⟨ρ,β,rfl,rfl,f,h0⟩ ?_
  rintro n _ _ ⟨ρ,β,rfl,rfl,f,k⟩
  refine (gt.T _ _ _ _ f (ht n ρ β k)).mono ?_ ?_
  . rintro _ ⟨β,rfl,k⟩
    exact WSs.mono (hbody _ _ _ _ _ f k) LK.loopK
  . rintro _ ⟨β,rfl,k⟩
    exact LK.nx f k
omit hbody in
theorem sn_if {a b':IS} {as bs:List Stmt} (ha:SnS C a as) (hb:SnS C b' bs) {t:Expr} (gt:SnE C (vc C it) t) {p:Pos}:SnS C (.ite it a b' q) (.If t as bs p :: rest):=λ ρ β N c R f k=>by
  have k:Jm (λ ρ β=>vs C q ρ β N c R) λ Q=>(vc C it).T ρ β (λ β=>vs C a ρ β Q c R) λ β=>vs C b' ρ β Q c R:=k
  unfold Jm at k
  obtain ⟨Q,k,hQ⟩:=k
  refine SnS.next hr (M:=Q) hQ (WS_if ((gt.T _ _ _ _ f k).mono ?_ ?_))
  . rintro _ ⟨β,rfl,k⟩
    exact ha _ _ _ _ _ f k
  . rintro _ ⟨β,rfl,k⟩
    exact hb _ _ _ _ _ f k
end
end L6
noncomputable section L7
theorem SC.up_den {c:SC} {a:Addr} {l l':SL} (h:c=.own a l):(SC.up c l').den=.own a l'.den:=by rw [h]; rfl
theorem SL.app_den (l:SL) (s:SV):(l.app s).den=l.den ++ [s.den]:=by
  cases l with
  | il f =>
    cases s with
    | int i=>show (f ++ [i]).map V.int=f.map V.int ++ [.int i]; rw [List.map_append]; rfl
    | il g=>cases f <;> rfl
    | _=>rfl
  | rl f =>
    cases s with
    | il g=>show (f ++ [g]).map IL=f.map IL ++ [IL g]; rw [List.map_append]; rfl
    | _=>rfl
  | ss xs=>rfl
  | vs xs=>rfl
theorem vPut_ok {l:SL} {n:Int} {s:SV} {K:SL->Prop} (h:vPut l n s K):0<=n/\n < l.den.length/\l.den.length<=100000/\∃ l':SL,l'.den=l.den.set n.toNat s.den/\K l':=by
  cases l with
  | il f =>
    obtain ⟨y,rfl,h0,h1,h2,h⟩:=vI_ok h
    exact ⟨h0,by rw [SL.len_den]; exact h1,by rw [SL.len_den]; exact Nat.le_trans h2 (by decide),.il (f.set n.toNat y),by show (f.set n.toNat y).map V.int=(f.map V.int).set n.toNat (.int y); rw [List.map_set],h⟩
  | vs xs=>obtain ⟨h0,h1,h2,h⟩:=h; exact ⟨h0,h1,Nat.le_trans h2 (by decide),.vs _,rfl,h⟩
  | ss xs =>
    cases n with
    | ofNat n=>obtain ⟨h1,h2,h⟩:=h; exact ⟨Int.natCast_nonneg n,by rw [SL.len_den]; exact Int.ofNat_lt.mpr h1,by rw [SL.len_den]; exact Nat.le_trans h2 (by decide),.ss (xs.set n s),by show (xs.set n s).map SV.den=(xs.map SV.den).set n s.den; rw [List.map_set],h⟩
    | negSucc n=>exact h.elim
  | rl f=>exact h.elim
section
variable {C:Cx'} {ρ:En} {β:SL} (hp:C.Φ.plain=true) (pg:PG C.G) {je iv as:IE} {q:IS} {rest:List Stmt} (hr:SnS C q rest)
theorem SetAt.old {x:Str} {c d d':Cell} {r r':Loc} (h:SetAt x c r d r') (e:d=d'):SetAt x c r d' r':=e ▸ h
include hp hr
theorem sn_put {x:Str} {i:Nat} (hx:C.Φ.keys[i]?=some x) {v e:Expr} (gv:SnE C (vc C iv) v) (ge:SnE C (vc C je) e) {p tp pos:Pos} (h1:noComp v=true):SnS C (.put i iv je q) (.Assign [.Subscript (.Name x p) e tp] v pos :: rest):=λ ρ β N c R f k=>by
  refine SnS.next hr (M:=λ ρ β=>vs C q ρ β N c R) (λ _ _ k=>k) ?_
  have hm:=f.mem hx
  rcases vOw_ok k with ⟨a,l,hl,k⟩ | ⟨⟨a,hl⟩,hi,k⟩
  . rw [hl] at hm
    refine WS_setown hm ((gv.E _ _ _ f k).monoD λ s β' k=>?_) h1
    refine (ge.E _ _ _ f k).monoD λ t β'' k=>?_
    refine vI_e k λ n k2=>?_
    obtain ⟨h0,h1,h2,l',e',k⟩:=vPut_ok k2
    exact ⟨n,_,rfl,h0,h1,h2,(e' ▸ SC.up_den hl ▸ loc_set hx (f.lt hx) (c:=SC.up (lk ρ i) l')).old (by rw [hl]; rfl),LK.nx (f.setN i (by rw [hl]; rfl)) k⟩
  . rw [hl] at hm
    refine WS_setbox hm (f.box1 (hi ▸ hx)) ((gv.E _ _ _ f k).monoD λ s β' k=>?_) h1
    refine (ge.E _ _ _ f k).monoD λ t β'' k=>?_
    refine vI_e k λ n k2=>?_
    obtain ⟨h0,h1,h2,l',e',k⟩:=vPut_ok k2
    exact ⟨n,rfl,h0,h1,h2,e' ▸ LK.nx f k⟩
theorem sn_app {x:Str} {i:Nat} (hx:C.Φ.keys[i]?=some x) {e:Expr} (ge:SnE C (vc C je) e) {p ap cp pos:Pos} (h1:noStar e=true) (h2:(ap.endLine == cp.line)=true):SnS C (.app i je q) (.Expr (.Call (.Attribute (.Name x p) "append" ap) [e] [] cp) pos :: rest):=λ ρ β N c R f k=>by
  refine SnS.next hr (M:=λ ρ β=>vs C q ρ β N c R) (λ _ _ k=>k) ?_
  have hm:=f.mem hx
  have k:vOw (lk ρ i) (λ l=>(vc C je).E ρ β λ s β=>vLen l λ n=>n<=1000/\vs C q (ρ.set i (SC.up (lk ρ i) (l.app s))) β N c R) False:=k
  rcases vOw_ok k with ⟨a,l,hl,k⟩ | ⟨_,k⟩
  . rw [hl] at hm
    refine WS_app hm h1 h2 ((ge.E _ _ _ f k).monoD λ s β' k=>?_)
    have k:=vLen_ok k
    exact ⟨by show l.den.length<=1000; rw [l.len_den]; exact k.1,_,_,SL.app_den l s ▸ SC.up_den hl ▸ loc_set hx (f.lt hx) (c:=SC.up (lk ρ i) (l.app s)),SC.noRo _,LK.nx (f.setN i (by rw [hl]; rfl)) k.2⟩
  . exact k.elim
theorem sn_aug {x:Str} {i:Nat} (hx:C.Φ.keys[i]?=some x) {e:Expr} (ge:SnE C (vc C je) e) {op:Operator} {p pos:Pos}:SnS C (.aug i op je q) (.AugAssign (.Name x p) op e pos :: rest):=λ ρ β N c R f k=>by
  refine SnS.next hr (M:=λ ρ β=>vs C q ρ β N c R) (λ _ _ k=>k) ?_
  have hm:=f.mem hx
  obtain ⟨s,hl,k⟩:=vNm_ok k
  obtain ⟨z,rfl,k2⟩:=vI_ok k
  rw [hl] at hm
  refine WS_aug1 hp hm ((ge.E _ _ _ f k2).monoD λ s β' k=>?_)
  refine vI_e k λ j k3=>?_
  have pt:∀ {r:Int},vs C q (ρ.set i (.v (.int r))) β' N c R->Put x r z (loc C.Φ.keys ρ) λ ρ'=>LK C (λ ρ β=>vs C q ρ β N c R) c R .next ρ' β'.den:=λ k=>⟨_,(loc_set hx (f.lt hx) (c:=.v (.int _))).old (by rw [hl]; rfl),LK.nx (f.setN i rfl) k⟩
  cases op with
  | Add=>exact aug_add (pt k3)
  | Sub=>exact aug_sub (pt k3)
  | RShift=>obtain ⟨n,rfl,k4⟩:=k3; exact aug_shr (Int.natCast_nonneg n) (pt k4)
  | Mod=>exact aug_mod k3.1 (pt k3.2)
  | BitOr=>exact aug_or (pt k3)
  | _=>exact k3.elim
include pg in
theorem sn_cown {x f:Str} {i j:Nat} (hx:C.Φ.keys[i]?=some x) (hj:j∈fIdx) (hn:(dN j).name=f) (hf:isGl C.Φ.scope f=true) {es:List Expr} (ga:SnA C (vc C as) es) (h1:es.all noStar=true) {p pf cp pos:Pos} :
    SnS C (.cown f i as q) (.Expr (.Call (.Name f pf) (.Name x p :: es) [] cp) pos :: rest):=λ ρ β N c R f k=>by
  refine SnS.next hr (M:=λ ρ β=>vs C q ρ β N c R) (λ _ _ k=>k) ?_
  have hm:=f.mem hx
  rcases vOw_ok k with ⟨a,l,hl,k⟩ | ⟨_,k⟩
  . rw [hl] at hm
    refine WS_fnown (pg.d hj) hn hf hm h1 ((ga _ _ _ f k).monoD λ ss β' k=>?_)
    refine (CaIO.to k).monoD λ s l' k=>?_
    cases s with
    | none=>exact ⟨rfl,_,(SC.up_den hl ▸ loc_set hx (f.lt hx) (c:=SC.up (lk ρ i) l')).old (by rw [hl]; rfl),LK.nx (f.setN i (by rw [hl]; rfl)) k⟩
    | _=>exact k.elim
  . exact k.elim
theorem sn_exp {v:Expr} (gv:SnE C (vc C iv) v) (hv:isCall v=true) {pos:Pos}:SnS C (.exp iv q) (.Expr v pos :: rest):=λ ρ β N c R f k=>by
  obtain ⟨g,as,kw,p,rfl⟩:=isCall_ok hv
  refine SnS.next hr (M:=λ ρ β=>vs C q ρ β N c R) (λ _ _ k=>k) ?_
  refine WS_exprN ((gv.E _ _ _ f k).monoD λ s β' k=>?_)
  cases s <;> first | exact k.elim | exact ⟨rfl,LK.nx f k⟩
end
section
variable {C:Cx'}
theorem Fit.fz {ρ:En} (f:Fit C ρ) (i:Nat):Fit C (ρ.set i (SC.fz (lk ρ i))):=f.set i λ a e=>by
  cases hl:lk ρ i with
  | box b=>rw [hl] at e; exact f.box i b (by
      have:i < ρ.length:=by
        rcases Nat.lt_or_ge i ρ.length with z | z
        . exact z
        . unfold lk at hl; rw [List.getD_eq_getElem?_getD,List.getElem?_eq_none z] at hl; cases hl
      rw [lk_get this,hl])
  | _=>rw [hl] at e; cases e
theorem sn_frz {sts:List Stmt} {i:IS} {j:Nat} (h:SnS C i sts) (hj:(gc C).at j=true):SnS C (.frz j i) sts:=λ ρ β N c R f k=>by
  have hx:=Cc.at_ok hj
  have r:=h _ _ _ _ _ (f.fz j) k
  have st:=loc_set hx (f.lt hx) (c:=SC.fz (lk ρ j))
  cases hl:lk ρ j with
  | own a sl =>
    rw [hl] at st r
    refine WSs_freeze (x:=(gc C).x j) (a:=a) (xs:=sl.den) ?_ r
    have e:(SC.fz (SC.own a sl)).den=.val (.list sl.den):=by show Cell.val sl.sv.den=_; rw [SL.sv_den]
    rw [e] at st; exact st
  | _ =>
    have e:ρ.set j (SC.fz (lk ρ j))=ρ:=by
      rw [hl]
      have:=lk_get (f.lt hx)
      rw [hl] at this
      exact List.ext_getElem? λ m=>by
        rw [List.getElem?_set]
        split
        . rename_i e; subst e; split
          . exact this.symm
          . rename_i z; exact absurd (f.lt hx) z
        . rfl
    rw [e] at r; exact r
theorem sn_reto {i:Nat} {e:Expr} {p:Pos} {rest:List Stmt} (h:(gc C).at i=true):SnS C (.reto i) (.Return (some (nameE ((gc C).x i) e)) p :: rest):=λ ρ β N c R f k=>by
  have k:(match C.bx with | 0=>False | _ + 1=>vOw (lk ρ i) (λ l=>R l.sv ρ β) False):=k
  have hbx:C.bx≠0:=λ z=>by rw [z] at k; exact k
  obtain ⟨m,hm'⟩:=Nat.exists_eq_succ_of_ne_zero hbx
  rw [hm'] at k
  rcases vOw_ok k with ⟨a,l,hl,k⟩ | ⟨_,k⟩
  . exact WSs_cons (WS_reto (f.m h hl) ⟨ρ,β,rfl,rfl,f,hbx,⟨l.sv,(SL.sv_den l).symm,k⟩⟩)
  . exact k.elim
end
end L7
noncomputable section L8
section
variable {C:Cx'} (pg:PG C.G) (hp:C.Φ.plain=true)
noncomputable def Ss (C:Cx') (i:IS) (r:Rs):Prop:=∀ s,r.w s=true->SnS C i (r.S s)
theorem Ss.st {i:IS} {j:IS} {q:Rs} {f:Stmt->Stmt} {c:Stmt->Bool} (hq:Ss C j q) (h:∀ t r,c t=true->SnS C j r->SnS C i (f t :: r)):Ss C i (.st f c q):=λ s hc=>h _ _ (and2 hc).1 (hq _ (and2 hc).2)
theorem Ss.end' {i:IS} {f:Stmt->Stmt} {c:Stmt->Bool} (h:∀ t r,c t=true->SnS C i (f t :: r)):Ss C i (.st f c .id):=λ s hc=>h _ _ (and2 hc).1
theorem tgt_fst {xs:List Str} {e:Expr} (h:(kid e).length=xs.length):(tgt xs e).map (·.1)=xs:=List.map_fst_zip (by rw [List.length_map,h]; exact Nat.le_refl _)
theorem tupW_2 {i j:Nat} {e:Expr} (h:tupW (gc C) [i,j] e=true):(gc C).at i=true/\(gc C).at j=true/\(tgt [(gc C).x i,(gc C).x j] e).map (·.1)=[(gc C).x i,(gc C).x j] :=
  ⟨(and3 (and2 h).1).1,(and3 (and2 h).1).2.1,tgt_fst (Nat.eq_of_beq_eq_true (and2 h).2)⟩
theorem tupW_3 {i j k:Nat} {e:Expr} (h:tupW (gc C) [i,j,k] e=true):(gc C).at i=true/\(gc C).at j=true/\(gc C).at k=true/\(tgt [(gc C).x i,(gc C).x j,(gc C).x k] e).map (·.1)=[(gc C).x i,(gc C).x j,(gc C).x k] :=
  ⟨(and4 (and2 h).1).1,(and4 (and2 h).1).2.1,(and4 (and2 h).1).2.2.1,tgt_fst (Nat.eq_of_beq_eq_true (and2 h).2)⟩
theorem tupW_4 {i j k l:Nat} {e:Expr} (h:tupW (gc C) [i,j,k,l] e=true):(gc C).at i=true/\(gc C).at j=true/\(gc C).at k=true/\(gc C).at l=true/\(tgt [(gc C).x i,(gc C).x j,(gc C).x k,(gc C).x l] e).map (·.1)=[(gc C).x i,(gc C).x j,(gc C).x k,(gc C).x l] :=
  ⟨(and5 (and2 h).1).1,(and5 (and2 h).1).2.1,(and5 (and2 h).1).2.2.1,(and5 (and2 h).1).2.2.2.1,tgt_fst (Nat.eq_of_beq_eq_true (and2 h).2)⟩
theorem plainIter_ok {it:Expr} (h:plainIter it=true):∀ env v,foldedSetIterable it env v=pure v:=by
  cases it <;> first | exact absurd h Bool.false_ne_true | exact λ _ _=>rfl
theorem sw_ne {n:Nat} (h:(!Nat.beq n 0)=true):n≠0:=λ e=>by rw [e] at h; cases h
variable {i j:IE} {a b d:IE}
include pg in
include pg in
theorem A_cons {es:List Expr} (h:(rb (gc C) (.cons a i)).wA es=true):SnE C (vc C a) ((rb (gc C) a).E (es.headD default))/\noStar ((rb (gc C) a).E (es.headD default))=true/\(rb (gc C) i).wA es.tail=true :=
  ⟨(sn_E pg a).E _ (and3 h).1,(and3 h).2⟩
include pg hp in
theorem sn_S (i:IS):Ss C i (rs (gc C) i):=by
  have E:=λ i e=>(sn_E pg (C:=C) i).E e
  induction i with
  | nil=>exact λ s _ ρ β N c R f k=>WSs_nil (LK.nx f k)
  | ret e=>exact .end' λ t r h ρ β N c R f k=>WSs_cons (WS_ret (((E _ _ h).E _ _ _ f k).monoD λ s β' k=>⟨ρ,β',rfl,rfl,f,⟨s,rfl,k⟩⟩))
  | reto i=>exact .end' λ t r h=>sn_reto h
  | raise=>exact λ s _ ρ β N c R f k=>k.elim
  | cont=>exact .end' λ t r _ ρ β N c R f k=>WSs_cons (WS_cont ⟨ρ,β,rfl,rfl,f,k⟩)
  | set i e r hr=>exact .st hr λ t r h hr=>sn_set hp (E _ _ (and3 h).2.1) hr (Cc.at_ok (and3 h).1) (and3 h).2.2
  | seto i e r hr=>exact .st hr λ t r h hr=>sn_seto hp (E _ _ (and3 h).2.1) hr (Cc.at_ok (and3 h).1) (and3 h).2.2
  | set2 i j a b r hr =>
    refine .st hr λ t r h hr=>?_
    have h:=and4 h
    have w:=tupW_2 h.1
    have A:=A_cons pg h.2.2.1
    have B:=A_cons pg A.2.2
    exact sn_set2 hp A.1 B.1 hr w.1 w.2.1 (of_decide_eq_true h.2.1) w.2.2 A.2.1 B.2.1 (sw_ne h.2.2.2)
  | set3 i j k a b d r hr =>
    refine .st hr λ t r h hr=>?_
    have h:=and4 h
    have w:=tupW_3 h.1
    have A:=A_cons pg h.2.2.1
    have B:=A_cons pg A.2.2
    have D:=A_cons pg B.2.2
    exact sn_set3 hp A.1 B.1 D.1 hr w.1 w.2.1 w.2.2.1 (of_decide_eq_true h.2.1) w.2.2.2 A.2.1 B.2.1 D.2.1 (sw_ne h.2.2.2)
  | set4 i j k l a b d e r hr =>
    refine .st hr λ t r h hr=>?_
    have w:=tupW_4 (and2 h).1
    have A:=A_cons pg (and2 h).2
    have B:=A_cons pg A.2.2
    have D:=A_cons pg B.2.2
    have F:=A_cons pg D.2.2
    exact sn_set4 hp A.1 B.1 D.1 F.1 hr w.1 w.2.1 w.2.2.1 w.2.2.2.1 w.2.2.2.2 A.2.1 B.2.1 D.2.1 F.2.1
  | unp2 i j e r hr=>exact .st hr λ t r h hr=>sn_unp2 hp (E _ _ (and3 h).2.1) (and3 h).2.2 hr (tupW_2 (and3 h).1).1 (tupW_2 (and3 h).1).2.1 (tupW_2 (and3 h).1).2.2
  | unp3 i j k e r hr=>exact .st hr λ t r h hr=>sn_unp3 hp (E _ _ (and3 h).2.1) (and3 h).2.2 hr (tupW_3 (and3 h).1).1 (tupW_3 (and3 h).1).2.1 (tupW_3 (and3 h).1).2.2.1 (tupW_3 (and3 h).1).2.2.2
  | aug i op e r hr=>exact .st hr λ t r h hr=>sn_aug hp hr (Cc.at_ok (and2 h).1) (E _ _ (and2 h).2)
  | app i e r hr=>exact .st hr λ t r h hr=>sn_app hp hr (Cc.at_ok (and4 h).1) (E _ _ (and4 h).2.1) (and4 h).2.2.1 (and4 h).2.2.2
  | put i v e r hr=>exact .st hr λ t r h hr=>sn_put hp hr (Cc.at_ok (and4 h).1) (E _ _ (and4 h).2.2.1) (E _ _ (and4 h).2.1) (and4 h).2.2.2
  | cown x i as r hr =>
    refine .st hr λ t r h hr=>?_
    refine hid λ _ uQ=>?_
    obtain ⟨h2,j,hj,e⟩:=gf_ok (and3 h).2.1
    refine uQ ?_
    have A:=(sn_E pg as).A _ (and3 h).2.2
    exact sn_cown hp pg hr (Cc.at_ok (and3 h).1) hj e h2 A.1 A.2
  | ite t a b r ha hb hr=>exact .st hr λ t r h hr=>sn_if hp pg hr (ha _ (and3 h).2.1) (hb _ (and3 h).2.2) (E _ _ (and3 h).1)
  | whl t b r hb hr=>exact .st hr λ t r h hr=>sn_whl hp pg (hb _ (and2 h).2) hr (E _ _ (and2 h).1)
  | for1 i e b r hb hr=>exact .st hr λ t r h hr=>sn_for1 hp pg (hb _ (and5 h).2.2.2.2) hr (E _ _ (and5 h).2.2.1) (Cc.at_ok (and5 h).1) (and5 h).2.1 (and5 h).2.2.2.1
  | for2 i l u b r hb hr =>
    refine .st hr λ t r h hr=>?_
    have A:=A_cons pg (and4 h).2.2.1
    have B:=A_cons pg A.2.2
    exact sn_for2 hp pg (hb _ (and4 h).2.2.2) hr A.1 B.1 (Cc.at_ok (and4 h).1) (and4 h).2.1 A.2.1 B.2.1
  | forD i l u b r hb hr =>
    refine .st hr λ t r h hr=>?_
    have A:=A_cons pg (and4 h).2.2.1
    have B:=A_cons pg A.2.2
    exact sn_forD hp pg (hb _ (and4 h).2.2.2) hr A.1 B.1 (Cc.at_ok (and4 h).1) (and4 h).2.1 A.2.1 B.2.1
  | forS i l u d b r hb hr =>
    refine .st hr λ t r h hr=>?_
    have A:=A_cons pg (and4 h).2.2.1
    have B:=A_cons pg A.2.2
    have D:=A_cons pg B.2.2
    exact sn_forS hp pg (hb _ (and4 h).2.2.2) hr A.1 B.1 D.1 (Cc.at_ok (and4 h).1) (and4 h).2.1 A.2.1 B.2.1 D.2.1
  | forL i e b r hb hr=>exact .st hr λ t r h hr=>sn_forL hp pg (hb _ (and4 h).2.2.2) hr (E _ _ (and4 h).2.1) (Cc.at_ok (and4 h).1) (plainIter_ok (and4 h).2.2.1)
  | forR i e b r hb hr=>exact .st hr λ t r h hr=>sn_forR hp pg (hb _ (and5 h).2.2.2.2) hr (E _ _ (and5 h).2.2.1) (Cc.at_ok (and5 h).1) (and5 h).2.1 (and5 h).2.2.2.1
  | forE i j e b r hb hr=>exact .st hr λ t r h hr=>sn_forE hp pg (hb _ (and5 h).2.2.2.2) hr (E _ _ (and5 h).2.2.1) (tupW_2 (and5 h).1).1 (tupW_2 (and5 h).1).2.1 (tupW_2 (and5 h).1).2.2 (and5 h).2.1 (and5 h).2.2.2.1
  | exp e r hr=>exact .st hr λ t r h hr=>sn_exp hp hr (E _ _ (and2 h).1) (and2 h).2
  | frz i r hr=>exact λ s h=>sn_frz (hr s (and2 h).2) (and2 h).1
  | raw st r hr=>exact .st hr λ t r h hr=>SnS.raw hr
include pg hp in
theorem sn_fit {i:IS} {sts:List Stmt} (h:Fits (gc C) i sts):SnS C i sts:=h.S ▸ sn_S pg hp i sts h.w
end
end L8
noncomputable section L9
structure FOk (i:Nat) (x:Str) (ps ls mu:List Str) (bx:Nat) (ir:IS):Prop where
  nm:(dN i).name=x
  fm:fmOk (dN i).params (dN i).scope ps ls=true
  ir:Fits ⟨ps ++ ls,(dN i).scope,bx⟩ ir (dN i).body
  ix:i∈fIdx
noncomputable abbrev Cf (G:Gd) (sc:Scope) (ks:List Str) (k bx:Nat):Cx':=⟨G,⟨sc,ks,true,none⟩,k,bx⟩
noncomputable def en0 (as:List SV) (ls:List Str):En:=as.map .v ++ ls.map λ _=>.un
theorem en0_den (ps ls:List Str) (as:List SV) (h:as.length=ps.length):loc (ps ++ ls) (en0 as ls)=ps.zip ((as.map SV.den).map .val) ++ ls.map (·,.un):=by
  unfold loc en0
  rw [List.map_append,List.zip_append (by simp [h]),List.map_map,List.map_map,List.map_map]
  congr 1
  induction ls with
  | nil=>rfl
  | cons x l ih=>rw [List.map_cons,List.zip_cons_cons,ih]; rfl
theorem en0_nobox {as:List SV} {ls:List Str} {i:Nat} {a:Addr} (h:(en0 as ls)[i]?=some (.box a)):False:=by
  have:=List.mem_of_getElem? h
  unfold en0 at this
  rcases List.mem_append.mp this with q | q <;> obtain ⟨_,_,e⟩:=List.mem_map.mp q <;> cases e
theorem en0_len {as:List SV} {ls:List Str}:(en0 as ls).length=as.length + ls.length:=by simp [en0]
noncomputable def rN (K:SV->Prop) (_:En) (_:SL):Prop:=K .none
noncomputable def rC (_:En) (_:SL):Prop:=False
noncomputable def rR (K:SV->Prop) (s:SV) (_:En) (_:SL):Prop:=K s
noncomputable def bN (a:Addr) (K:SV->SL->Prop) (ρ:En) (β:SL):Prop:=lk ρ 0=.box a/\K .none β
noncomputable def bR (a:Addr) (K:SV->SL->Prop) (s:SV) (ρ:En) (β:SL):Prop:=lk ρ 0=.box a/\K s β
section
variable {G:Gd} (pg:PG G) {k:Nat} {K:SV->Prop}
include pg
theorem vdef {i:Nat} {x:Str} {ps ls mu:List Str} {bx:Nat} {ir:IS} (hf:FOk i x ps ls mu bx ir) {as:List SV} (hl:as.length=ps.length)
    (h:vs (Cf G (dN i).scope (ps ++ ls) k bx) ir (en0 as ls) (.ss []) (rN K) rC (rR K)):Ca G (k + 1) (fnv G x) as K:=by
  unfold Ca
  rw [<- hf.nm]
  refine spec_def (pg.d hf.ix) hf.fm (by rw [List.length_map,hl]) ?_
  have r:=sn_fit (C:=Cf G (dN i).scope (ps ++ ls) k bx) pg rfl hf.ir (en0 as ls) (.ss []) _ _ _
    ⟨by rw [en0_len,hl]; exact List.length_append.symm,λ _ _ h=>(en0_nobox h).elim⟩ h
  rw [<- en0_den _ _ _ hl]
  refine WSs.mono r λ f ρ1 β1 z0=>z0.elim λ ρ z0=>z0.elim λ β z0=>z0.elim λ e1 z0=>z0.elim λ e2 z0=>z0.elim λ fit k=>?_
  cases f with
  | next=>exact ⟨.none,rfl,k⟩
  | ret x=>exact k
  | reto a xs=>exact k.2
  | _=>exact k.elim
theorem vdefIO {i:Nat} {x y:Str} {ps ls mu:List Str} {ir:IS} (hf:FOk i x (y :: ps) ls mu 0 ir) {as:List SV} {β:SL} {K:SV->SL->Prop} (hl:as.length=ps.length)
    (h:∀ a,vs (Cf G (dN i).scope (y :: (ps ++ ls)) k 0) ir (.box a :: en0 as ls) β (bN a K) rC (bR a K)):CaIO G (k + 1) (fnv G x) β as K:=by
  unfold CaIO
  rw [<- hf.nm]
  refine specIO_def (pg.d hf.ix) hf.fm (by rw [List.length_map,hl]) λ a=>?_
  have r:=sn_fit (C:=Cf G (dN i).scope (y :: (ps ++ ls)) k 0) pg rfl hf.ir (.box a :: en0 as ls) β _ _ _
    ⟨by rw [List.length_cons,en0_len,hl]; simp,λ j _ h=>by
      cases j with
      | zero=>rfl
      | succ j=>exact (en0_nobox h).elim⟩ (h a)
  have e:loc (y :: (ps ++ ls)) (.box a :: en0 as ls)=(y,Cell.box a) :: loc (ps ++ ls) (en0 as ls):=rfl
  rw [<- en0_den _ _ _ hl,<- e]
  have at0:∀ {ρ:En},Fit (Cf G (dN i).scope (y :: (ps ++ ls)) k 0) ρ->lk ρ 0=.box a->(y,Cell.box a)∈loc (y :: (ps ++ ls)) ρ:=λ f e=>by
    have:=f.mem (x:=y) (i:=0) rfl
    rw [e] at this; exact this
  refine WSs.mono r λ f ρ1 β1 z0=>z0.elim λ ρ z0=>z0.elim λ β z0=>z0.elim λ e1 z0=>z0.elim λ e2 z0=>z0.elim λ fit k=>?_
  subst e1
  cases f with
  | next=>exact ⟨at0 fit k.1,.none,β,rfl,e2,k.2⟩
  | ret x=>obtain ⟨s,hx,h0,k⟩:=k; exact ⟨at0 fit h0,s,β,hx,e2,k⟩
  | reto a xs=>exact absurd rfl k.1
  | _=>exact k.elim
end
structure MOkF (m:Str) (ps ls mu:List Str) (ir:IS):Prop where
  fm:fmOk (methOf cR m).params (methOf cR m).scope ps ls=true
  ir:Fits ⟨ps ++ ls,(methOf cR m).scope,999⟩ ir (methOf cR m).body
theorem vdefM {G:Gd} (pg:PG G) {k:Nat} {K:SV->Prop} {m:Str} {ps ls mu:List Str} {ir:IS} (hf:MOkF m ps ls mu ir) {C:Addr} {as:List SV} (hl:as.length=ps.length)
    (h:vs (Cf G (methOf cR m).scope (ps ++ ls) k 999) ir (en0 as ls) (.ss []) (rN K) rC (rR K)):CaM G (k + 1) C m as K:=by
  unfold CaM
  refine specM_def hf.fm (by rw [List.length_map,hl]) ?_
  have r:=sn_fit (C:=Cf G (methOf cR m).scope (ps ++ ls) k 999) pg rfl hf.ir (en0 as ls) (.ss []) _ _ _
    ⟨by rw [en0_len,hl]; exact List.length_append.symm,λ _ _ h=>(en0_nobox h).elim⟩ h
  rw [<- en0_den _ _ _ hl]
  refine WSs.mono r λ f ρ1 β1 z0=>z0.elim λ ρ z0=>z0.elim λ β z0=>z0.elim λ e1 z0=>z0.elim λ e2 z0=>z0.elim λ fit k=>?_
  cases f with
  | next=>exact ⟨.none,rfl,k⟩
  | ret x=>exact k
  | reto a xs=>exact k.2
  | _=>exact k.elim
theorem Ca.eq {G:Gd} {k k':Nat} {f:V} {as:List SV} {r:SV} {K:SV->Prop} (h:Ca G k' f as (·=r)) (l:Nat.ble k' k=true) (hk:K r):Ca G k f as K:=by
  unfold Ca at h ⊢
  exact (h.le (Nat.le_of_ble_eq_true l)).mono λ v z0=>z0.elim λ s z0=>⟨s,z0.1,z0.2 ▸ hk⟩
theorem Ca.to' {G:Gd} {k k':Nat} {f:V} {as:List SV} {K K':SV->Prop} (h:Ca G k' f as K') (l:Nat.ble k' k=true) (hk:∀ s,K' s->K s):Ca G k f as K:=by
  unfold Ca at h ⊢
  exact (h.le (Nat.le_of_ble_eq_true l)).mono λ v z0=>z0.elim λ s z0=>z0.elim λ hv e=>⟨s,hv,hk s e⟩
theorem Ca.toL {ι:Type} {g:ι->SV} {P:ι->Prop} {G:Gd} {k k':Nat} {f:V} {as:List SV} {K:SV->Prop} (h:Ca G k' f as λ v=>∃ i,v=g i/\P i) (l:Nat.ble k' k=true) (hk:∀ i,P i->K (g i)):Ca G k f as K:=h.to' l λ _ z=>z.elim λ i z=>z.1 ▸ hk i z.2
theorem Ca.toR {ι:Type} {g:ι->SV} {P:ι->Prop} {G:Gd} {k k':Nat} {f:V} {as:List SV} {K:SV->Prop} (h:Ca G k' f as λ v=>∃ i,P i/\v=g i) (l:Nat.ble k' k=true) (hk:∀ i,P i->K (g i)):Ca G k f as K:=h.to' l λ _ z=>z.elim λ i z=>z.2 ▸ hk i z.1
theorem Ca.of {G:Gd} {k:Nat} {f:V} {as:List SV} {r:SV} (h:∀ K:SV->Prop,K r->Ca G k f as K):Ca G k f as (·=r):=h _ rfl
theorem Ca.ofR {G:Gd} {k:Nat} {f:V} {as:List SV} {P:SV->Prop} (h:∀ K:SV->Prop,(∀ s,P s->K s)->Ca G k f as K):Ca G k f as P:=h _ λ _ h=>h
theorem CaM.of {G:Gd} {k:Nat} {C:Addr} {m:Str} {as:List SV} {r:SV} (h:∀ K:SV->Prop,K r->CaM G k C m as K):CaM G k C m as (·=r):=h _ rfl
theorem CaIO.ofR {G:Gd} {k:Nat} {f:V} {β:SL} {as:List SV} {P:SV->SL->Prop} (h:∀ K:SV->SL->Prop,(∀ s b,P s b->K s b)->CaIO G k f β as K):CaIO G k f β as P:=h _ λ _ _ h=>h
theorem CaM.eq {G:Gd} {k k':Nat} {C:Addr} {m:Str} {as:List SV} {r:SV} {K:SV->Prop} (h:CaM G k' C m as (·=r)) (l:Nat.ble k' k=true) (hk:K r):CaM G k C m as K:=by
  unfold CaM at h ⊢
  exact λ f hf=>((h f hf).le (Nat.le_of_ble_eq_true l)).mono λ v z0=>z0.elim λ s z0=>⟨s,z0.1,z0.2 ▸ hk⟩
theorem CaIO.to' {G:Gd} {k k':Nat} {f:V} {β:SL} {as:List SV} {K K':SV->SL->Prop} (h:CaIO G k' f β as K') (l:Nat.ble k' k=true) (hk:∀ s b,K' s b->K s b):CaIO G k f β as K:=by
  unfold CaIO at h ⊢
  exact (h.le (Nat.le_of_ble_eq_true l)).monoD λ s m e=>⟨s,m,rfl,rfl,hk s m e⟩
theorem Jm.dup {K P} (h:P K):Jm K P:=by unfold Jm; exact ⟨K,h,λ _ _ h=>h⟩
theorem Jm.any {K:KN} {P} (J:KN) (h:P J) (h2:∀ ρ β,J ρ β->K ρ β):Jm K P:=by unfold Jm; exact ⟨J,h,h2⟩
theorem Jn.dup {K P} (h:P K):Jn K P:=by unfold Jn; exact ⟨K,h,λ _ _ h=>h⟩
section
variable {N:Nat} {ρ:En} {β:SL} {turn:Nat->En->SL->KN->Prop} {K:KN} {A B D E:Type}
theorem LpF.c0 (f:Nat->En) (I1:Nat->Prop) (h0:f 0=ρ) (h1:I1 0)
    (ht:∀ (Q:KN) i,(I1 (i + 1)->Q (f (i + 1)) β)->i < N->I1 i->turn i (f i) β Q)
    (hK:I1 N->K (f N) β):LpF N ρ β turn K:=by
  unfold LpF
  refine ⟨λ i r c=>f i=r/\β=c/\I1 i,⟨h0,rfl,h1⟩,?_,?_⟩
  . rintro i _ _ hi ⟨rfl,rfl,k1⟩; exact ht _ i (λ k1=>⟨rfl,rfl,k1⟩) hi k1
  . rintro _ _ ⟨rfl,rfl,k1⟩; exact hK k1
theorem LpF.c1 (f:Nat->A->En) (I1 I2 I3:Nat->A->Prop) (a:A) (h0:f 0 a=ρ) (h1:I1 0 a) (h2:I2 0 a) (h3:I3 0 a)
    (ht:∀ (Q:KN) i a,(∀ a,I1 (i + 1) a->I2 (i + 1) a->I3 (i + 1) a->Q (f (i + 1) a) β)->i < N->I1 i a->I2 i a->I3 i a->turn i (f i a) β Q)
    (hK:∀ a,I1 N a->I2 N a->I3 N a->K (f N a) β):LpF N ρ β turn K:=by
  unfold LpF
  refine ⟨λ i r c=>∃ a,f i a=r/\β=c/\I1 i a/\I2 i a/\I3 i a,⟨a,h0,rfl,h1,h2,h3⟩,?_,?_⟩
  . rintro i _ _ hi ⟨a,rfl,rfl,k1,k2,k3⟩; exact ht _ i a (λ a k1 k2 k3=>⟨a,rfl,rfl,k1,k2,k3⟩) hi k1 k2 k3
  . rintro _ _ ⟨a,rfl,rfl,k1,k2,k3⟩; exact hK a k1 k2 k3
theorem LpF.c2 (f:Nat->A->B->En) (I1 I2 I3 I4:Nat->A->B->Prop) (a:A) (b:B) (h0:f 0 a b=ρ) (h1:I1 0 a b) (h2:I2 0 a b) (h3:I3 0 a b) (h4:I4 0 a b)
    (ht:∀ (Q:KN) i a b,(∀ a b,I1 (i + 1) a b->I2 (i + 1) a b->I3 (i + 1) a b->I4 (i + 1) a b->Q (f (i + 1) a b) β)->i < N->I1 i a b->I2 i a b->I3 i a b->I4 i a b->turn i (f i a b) β Q)
    (hK:∀ a b,I1 N a b->I2 N a b->I3 N a b->I4 N a b->K (f N a b) β):LpF N ρ β turn K:=by
  unfold LpF
  refine ⟨λ i r c=>∃ a b,f i a b=r/\β=c/\I1 i a b/\I2 i a b/\I3 i a b/\I4 i a b,⟨a,b,h0,rfl,h1,h2,h3,h4⟩,?_,?_⟩
  . rintro i _ _ hi ⟨a,b,rfl,rfl,k1,k2,k3,k4⟩; exact ht _ i a b (λ a b k1 k2 k3 k4=>⟨a,b,rfl,rfl,k1,k2,k3,k4⟩) hi k1 k2 k3 k4
  . rintro _ _ ⟨a,b,rfl,rfl,k1,k2,k3,k4⟩; exact hK a b k1 k2 k3 k4
theorem LpF.c3 (f:Nat->A->B->D->En) (I1 I2 I3 I4:Nat->A->B->D->Prop) (a:A) (b:B) (d:D) (h0:f 0 a b d=ρ) (h1:I1 0 a b d) (h2:I2 0 a b d) (h3:I3 0 a b d) (h4:I4 0 a b d)
    (ht:∀ (Q:KN) i a b d,(∀ a b d,I1 (i + 1) a b d->I2 (i + 1) a b d->I3 (i + 1) a b d->I4 (i + 1) a b d->Q (f (i + 1) a b d) β)->i < N->I1 i a b d->I2 i a b d->I3 i a b d->I4 i a b d->turn i (f i a b d) β Q)
    (hK:∀ a b d,I1 N a b d->I2 N a b d->I3 N a b d->I4 N a b d->K (f N a b d) β):LpF N ρ β turn K:=by
  unfold LpF
  refine ⟨λ i r c=>∃ a b d,f i a b d=r/\β=c/\I1 i a b d/\I2 i a b d/\I3 i a b d/\I4 i a b d,⟨a,b,d,h0,rfl,h1,h2,h3,h4⟩,?_,?_⟩
  . intro i _ _ hi zQ4; refine hid λ _ uQ=>?_; obtain ⟨a,b,d,rfl,rfl,k1,k2,k3,k4⟩:=zQ4; refine uQ ?_; exact ht _ i a b d (λ a b d k1 k2 k3 k4=>⟨a,b,d,rfl,rfl,k1,k2,k3,k4⟩) hi k1 k2 k3 k4
  . intro _ _ zQ2; refine hid λ _ uQ=>?_; obtain ⟨a,b,d,rfl,rfl,k1,k2,k3,k4⟩:=zQ2; refine uQ ?_; exact hK a b d k1 k2 k3 k4
theorem LpF.c4 (f:Nat->A->B->D->E->En) (I1 I2 I3 I4 I5:Nat->A->B->D->E->Prop) (a:A) (b:B) (d:D) (e:E) (h0:f 0 a b d e=ρ) (h1:I1 0 a b d e) (h2:I2 0 a b d e) (h3:I3 0 a b d e) (h4:I4 0 a b d e) (h5:I5 0 a b d e)
    (ht:∀ (Q:KN) i a b d e,(∀ a b d e,I1 (i + 1) a b d e->I2 (i + 1) a b d e->I3 (i + 1) a b d e->I4 (i + 1) a b d e->I5 (i + 1) a b d e->Q (f (i + 1) a b d e) β)->i < N->I1 i a b d e->I2 i a b d e->I3 i a b d e->I4 i a b d e->I5 i a b d e->turn i (f i a b d e) β Q)
    (hK:∀ a b d e,I1 N a b d e->I2 N a b d e->I3 N a b d e->I4 N a b d e->I5 N a b d e->K (f N a b d e) β):LpF N ρ β turn K:=by
  unfold LpF
  refine ⟨λ i r c=>∃ a b d e,f i a b d e=r/\β=c/\I1 i a b d e/\I2 i a b d e/\I3 i a b d e/\I4 i a b d e/\I5 i a b d e,⟨a,b,d,e,h0,rfl,h1,h2,h3,h4,h5⟩,?_,?_⟩
  . intro i _ _ hi zQ4; refine hid λ _ uQ=>?_; obtain ⟨a,b,d,e,rfl,rfl,k1,k2,k3,k4,k5⟩:=zQ4; refine uQ ?_; exact ht _ i a b d e (λ a b d e k1 k2 k3 k4 k5=>⟨a,b,d,e,rfl,rfl,k1,k2,k3,k4,k5⟩) hi k1 k2 k3 k4 k5
  . intro _ _ zQ2; refine hid λ _ uQ=>?_; obtain ⟨a,b,d,e,rfl,rfl,k1,k2,k3,k4,k5⟩:=zQ2; refine uQ ?_; exact hK a b d e k1 k2 k3 k4 k5
end
section
variable {ρ:En} {β:SL} {turn:En->SL->KN->Prop} {A B D E:Type}
theorem LpW.c1 (f:A->En) (I1 I2 I3:A->Prop) (m:A->Nat) (a:A) (h0:f a=ρ) (h1:I1 a) (h2:I2 a) (h3:I3 a)
    (ht:∀ (Q:KN) a,(∀ a',m a' < m a->I1 a'->I2 a'->I3 a'->Q (f a') β)->I1 a->I2 a->I3 a->turn (f a) β Q):LpW ρ β turn:=by
  unfold LpW
  refine ⟨λ n r c=>∃ a,f a=r/\β=c/\n=m a/\I1 a/\I2 a/\I3 a,m a,⟨a,h0,rfl,rfl,h1,h2,h3⟩,?_⟩
  rintro n _ _ ⟨a,rfl,rfl,rfl,k1,k2,k3⟩
  exact ht _ a (λ a' hm k1 k2 k3=>⟨_,hm,a',rfl,rfl,rfl,k1,k2,k3⟩) k1 k2 k3
theorem LpW.c2 (f:A->B->En) (I1 I2 I3 I4:A->B->Prop) (m:A->B->Nat) (a:A) (b:B) (h0:f a b=ρ) (h1:I1 a b) (h2:I2 a b) (h3:I3 a b) (h4:I4 a b)
    (ht:∀ (Q:KN) a b,(∀ a' b',m a' b' < m a b->I1 a' b'->I2 a' b'->I3 a' b'->I4 a' b'->Q (f a' b') β)->I1 a b->I2 a b->I3 a b->I4 a b->turn (f a b) β Q):LpW ρ β turn:=by
  unfold LpW
  refine ⟨λ n r c=>∃ a b,f a b=r/\β=c/\n=m a b/\I1 a b/\I2 a b/\I3 a b/\I4 a b,m a b,⟨a,b,h0,rfl,rfl,h1,h2,h3,h4⟩,?_⟩
  intro n _ _ zQ3
  refine hid λ _ uQ=>?_
  obtain ⟨a,b,rfl,rfl,rfl,k1,k2,k3,k4⟩:=zQ3
  refine uQ ?_
  exact ht _ a b (λ a' b' hm k1 k2 k3 k4=>⟨_,hm,a',b',rfl,rfl,rfl,k1,k2,k3,k4⟩) k1 k2 k3 k4
theorem LpW.c3 (f:A->B->D->En) (I1 I2 I3 I4 I5:A->B->D->Prop) (m:A->B->D->Nat) (a:A) (b:B) (d:D) (h0:f a b d=ρ) (h1:I1 a b d) (h2:I2 a b d) (h3:I3 a b d) (h4:I4 a b d) (h5:I5 a b d)
    (ht:∀ (Q:KN) a b d,(∀ a' b' d',m a' b' d' < m a b d->I1 a' b' d'->I2 a' b' d'->I3 a' b' d'->I4 a' b' d'->I5 a' b' d'->Q (f a' b' d') β)->I1 a b d->I2 a b d->I3 a b d->I4 a b d->I5 a b d->turn (f a b d) β Q):LpW ρ β turn:=by
  unfold LpW
  refine ⟨λ n r c=>∃ a b d,f a b d=r/\β=c/\n=m a b d/\I1 a b d/\I2 a b d/\I3 a b d/\I4 a b d/\I5 a b d,m a b d,⟨a,b,d,h0,rfl,rfl,h1,h2,h3,h4,h5⟩,?_⟩
  intro n _ _ zQ3
  refine hid λ _ uQ=>?_
  obtain ⟨a,b,d,rfl,rfl,rfl,k1,k2,k3,k4,k5⟩:=zQ3
  refine uQ ?_
  exact ht _ a b d (λ a' b' d' hm k1 k2 k3 k4 k5=>⟨_,hm,a',b',d',rfl,rfl,rfl,k1,k2,k3,k4,k5⟩) k1 k2 k3 k4 k5
theorem LpW.c4 (f:A->B->D->E->En) (I1 I2 I3 I4 I5 I6:A->B->D->E->Prop) (m:A->B->D->E->Nat) (a:A) (b:B) (d:D) (e:E) (h0:f a b d e=ρ) (h1:I1 a b d e) (h2:I2 a b d e) (h3:I3 a b d e) (h4:I4 a b d e) (h5:I5 a b d e) (h6:I6 a b d e)
    (ht:∀ (Q:KN) a b d e,(∀ a' b' d' e',m a' b' d' e' < m a b d e->I1 a' b' d' e'->I2 a' b' d' e'->I3 a' b' d' e'->I4 a' b' d' e'->I5 a' b' d' e'->I6 a' b' d' e'->Q (f a' b' d' e') β)->I1 a b d e->I2 a b d e->I3 a b d e->I4 a b d e->I5 a b d e->I6 a b d e->turn (f a b d e) β Q):LpW ρ β turn:=by
  unfold LpW
  refine ⟨λ n r c=>∃ a b d e,f a b d e=r/\β=c/\n=m a b d e/\I1 a b d e/\I2 a b d e/\I3 a b d e/\I4 a b d e/\I5 a b d e/\I6 a b d e,m a b d e,⟨a,b,d,e,h0,rfl,rfl,h1,h2,h3,h4,h5,h6⟩,?_⟩
  intro n _ _ zQ3
  refine hid λ _ uQ=>?_
  obtain ⟨a,b,d,e,rfl,rfl,rfl,k1,k2,k3,k4,k5,k6⟩:=zQ3
  refine uQ ?_
  exact ht _ a b d e (λ a' b' d' e' hm k1 k2 k3 k4 k5 k6=>⟨_,hm,a',b',d',e',rfl,rfl,rfl,k1,k2,k3,k4,k5,k6⟩) k1 k2 k3 k4 k5 k6
end
section
variable {K:KN} {P:KN->Prop} {A B D E:Type}
theorem Jm.c0 (β:SL) (f:En) (I1:Prop) (h:∀ Q:KN,(I1->Q (f) β)->P Q) (h2:I1->K (f) β):Jm K P :=
  by
  refine Jm.any (K:=K) _ (h (λ r c=>f=r/\β=c/\I1) λ k1=>⟨rfl,rfl,k1⟩) ?_
  rintro _ _ ⟨rfl,rfl,k1⟩
  exact h2 k1
theorem Jm.c2 (β:SL) (f:A->B->En) (I1 I2 I3 I4:A->B->Prop) (h:∀ Q:KN,(∀ a b,I1 a b->I2 a b->I3 a b->I4 a b->Q (f a b) β)->P Q) (h2:∀ a b,I1 a b->I2 a b->I3 a b->I4 a b->K (f a b) β):Jm K P :=
  by
  refine Jm.any (K:=K) _ (h (λ r c=>∃ a b,f a b=r/\β=c/\I1 a b/\I2 a b/\I3 a b/\I4 a b) λ a b k1 k2 k3 k4=>⟨a,b,rfl,rfl,k1,k2,k3,k4⟩) ?_
  rintro _ _ ⟨a,b,rfl,rfl,k1,k2,k3,k4⟩
  exact h2 a b k1 k2 k3 k4
end
theorem Jn.any {K:KE} {P} (J:KE) (h:P J) (h2:∀ s β,J s β->K s β):Jn K P:=by unfold Jn; exact ⟨J,h,h2⟩
theorem Jn.c1 {K:KE} {P:KE->Prop} {A:Type} (β:SL) (f:A->SV) (I:A->Prop) (h:∀ Q:KE,(∀ a,I a->Q (f a) β)->P Q) (h2:∀ a,I a->K (f a) β):Jn K P :=
  by
  refine Jn.any (K:=K) _ (h (λ r c=>∃ a,f a=r/\β=c/\I a) λ a k=>⟨a,rfl,rfl,k⟩) ?_
  rintro _ _ ⟨a,rfl,rfl,k⟩
  exact h2 a k
theorem Jn.c0 {K:KE} {P:KE->Prop} (β:SL) (s:SV) (h:∀ Q:KE,Q s β->P Q) (h2:K s β):Jn K P :=
  Jn.any (λ r c=>s=r/\β=c) (h (λ r c=>s=r/\β=c) ⟨rfl,rfl⟩) λ _ _ z0=>z0.1 ▸ z0.2 ▸ h2
noncomputable def lv (d:SC) (g:Nat->Int):Nat->SC
  | 0=>d
  | i + 1=>.v (.int (g i))
end L9
noncomputable section M1
noncomputable def ir_normal:IS:=.set 1 (.len (.nm 0)) (.whl (.and (.cmp .Gt (.nm 1) (.int 0)) (.cmp .Eq (.idx (.nm 0) (.bin .Sub (.nm 1) (.int 1))) (.int 0))) (.aug 1 .Sub (.int 1) .nil) (.ret (.upto (.nm 0) (.nm 1))))
theorem o_normal:FOk 4 "normal" ["a"] ["end"] [] 999 ir_normal:=⟨by kernel_rfl,by kernel_rfl,⟨by kernel_rfl,by kernel_rfl⟩,by decide⟩
noncomputable def ir_nat_of:IS:=.ite (.cmp .Lt (.nm 0) (.int 0)) .raise .nil (.set2 2 3 (.lst .nil) (.bin .Sub (.bin .LShift (.int 1) (.nm 1)) (.int 1)) (.whl (.cmp .Gt (.nm 0) (.int 0)) (.app 2 (.bin .BitAnd (.nm 0) (.nm 3)) (.aug 0 .RShift (.nm 1) .nil)) (.reto 2)))
theorem o_nat_of:FOk 5 "nat_of" ["number","w"] ["found","mask"] ["found"] 999 ir_nat_of:=⟨by kernel_rfl,by kernel_rfl,⟨by kernel_rfl,by kernel_rfl⟩,by decide⟩
noncomputable def ir_is_even:IS:=.ret (.or (.cmp .Eq (.len (.nm 0)) (.int 0)) (.cmp .Eq (.bin .BitAnd (.idx (.nm 0) (.int 0)) (.int 1)) (.int 0)))
theorem o_is_even:FOk 6 "is_even" ["a"] [] [] 999 ir_is_even:=⟨by kernel_rfl,by kernel_rfl,⟨by kernel_rfl,by kernel_rfl⟩,by decide⟩
noncomputable def ir_compare:IS:=.ite (.cmp .NotEq (.len (.nm 0)) (.len (.nm 1))) (.ret (.ite (.cmp .Lt (.len (.nm 0)) (.len (.nm 1))) (.neg (.int 1)) (.int 1))) .nil (.forD 2 (.bin .Sub (.len (.nm 0)) (.int 1)) (.neg (.int 1)) (.ite (.cmp .NotEq (.idx (.nm 0) (.nm 2)) (.idx (.nm 1) (.nm 2))) (.ret (.ite (.cmp .Lt (.idx (.nm 0) (.nm 2)) (.idx (.nm 1) (.nm 2))) (.neg (.int 1)) (.int 1))) .nil .nil) (.ret (.int 0)))
theorem o_compare:FOk 7 "compare" ["a","b"] ["at"] [] 999 ir_compare:=⟨by kernel_rfl,by kernel_rfl,⟨by kernel_rfl,by kernel_rfl⟩,by decide⟩
noncomputable def ir_add:IS:=.ite (.cmp .Lt (.len (.nm 0)) (.len (.nm 1))) (.set2 0 1 (.nm 1) (.nm 0) .nil) .nil (.set3 3 4 5 (.lst .nil) (.int 0) (.bin .Sub (.bin .LShift (.int 1) (.nm 2)) (.int 1)) (.for1 6 (.len (.nm 1)) (.aug 4 .Add (.bin .Add (.idx (.nm 0) (.nm 6)) (.idx (.nm 1) (.nm 6))) (.app 3 (.bin .BitAnd (.nm 4) (.nm 5)) (.aug 4 .RShift (.nm 2) .nil))) (.for2 6 (.len (.nm 1)) (.len (.nm 0)) (.aug 4 .Add (.idx (.nm 0) (.nm 6)) (.app 3 (.bin .BitAnd (.nm 4) (.nm 5)) (.aug 4 .RShift (.nm 2) .nil))) (.ite (.cmp .Gt (.nm 4) (.int 0)) (.app 3 (.nm 4) .nil) .nil (.reto 3)))))
theorem o_add:FOk 8 "add" ["a","b","w"] ["found","carry","mask","at"] ["found"] 999 ir_add:=⟨by kernel_rfl,by kernel_rfl,⟨by kernel_rfl,by kernel_rfl⟩,by decide⟩
noncomputable def ir_sub:IS:=.ite (.cmp .Lt (.call "compare" (.cons (.nm 0) (.cons (.nm 1) .nil))) (.int 0)) .raise .nil (.set3 3 4 5 (.lst .nil) (.int 0) (.bin .LShift (.int 1) (.nm 2)) (.for1 6 (.len (.nm 0)) (.set 7 (.bin .Sub (.bin .Sub (.idx (.nm 0) (.nm 6)) (.nm 4)) (.ite (.cmp .Lt (.nm 6) (.len (.nm 1))) (.idx (.nm 1) (.nm 6)) (.int 0))) (.set 4 (.ite (.cmp .Lt (.nm 7) (.int 0)) (.int 1) (.int 0)) (.app 3 (.ite (.cmp .Lt (.nm 7) (.int 0)) (.bin .Add (.nm 7) (.nm 5)) (.nm 7)) .nil))) (.frz 3 (.ret (.call "normal" (.cons (.nm 3) .nil))))))
theorem o_sub:FOk 9 "sub" ["a","b","w"] ["found","borrow","base","at","limb"] ["found"] 999 ir_sub:=⟨by kernel_rfl,by kernel_rfl,⟨by kernel_rfl,by kernel_rfl⟩,by decide⟩
noncomputable def ir_add_limb:IS:=.set2 3 4 (.lst .nil) (.bin .Sub (.bin .LShift (.int 1) (.nm 2)) (.int 1)) (.forL 5 (.nm 0) (.aug 1 .Add (.nm 5) (.app 3 (.bin .BitAnd (.nm 1) (.nm 4)) (.aug 1 .RShift (.nm 2) .nil))) (.ite (.cmp .Gt (.nm 1) (.int 0)) (.app 3 (.nm 1) .nil) .nil (.reto 3)))
theorem o_add_limb:FOk 10 "add_limb" ["a","limb","w"] ["found","mask","one"] ["found"] 999 ir_add_limb:=⟨by kernel_rfl,by kernel_rfl,⟨by kernel_rfl,by kernel_rfl⟩,by decide⟩
noncomputable def ir_sub_limb:IS:=.ret (.call "sub" (.cons (.nm 0) (.cons (.ite (.cmp .Gt (.nm 1) (.int 0)) (.lst (.cons (.nm 1) .nil)) (.lst .nil)) (.cons (.nm 2) .nil))))
theorem o_sub_limb:FOk 11 "sub_limb" ["a","limb","w"] [] [] 999 ir_sub_limb:=⟨by kernel_rfl,by kernel_rfl,⟨by kernel_rfl,by kernel_rfl⟩,by decide⟩
noncomputable def ir_lifted:IS:=.ret (.ite (.cmp .Gt (.len (.nm 0)) (.int 0)) (.bin .Add (.bin .Mult (.lst (.cons (.int 0) .nil)) (.nm 1)) (.nm 0)) (.lst .nil))
theorem o_lifted:FOk 12 "lifted" ["a","spot"] [] [] 999 ir_lifted:=⟨by kernel_rfl,by kernel_rfl,⟨by kernel_rfl,by kernel_rfl⟩,by decide⟩
noncomputable def ir_shift_left:IS:=.ite (.cmp .Eq (.len (.nm 0)) (.int 0)) (.ret (.lst .nil)) .nil (.set2 3 4 (.bin .FloorDiv (.nm 1) (.nm 2)) (.bin .Mod (.nm 1) (.nm 2)) (.set3 5 6 7 (.bin .Mult (.lst (.cons (.int 0) .nil)) (.nm 3)) (.int 0) (.bin .Sub (.bin .LShift (.int 1) (.nm 2)) (.int 1)) (.forL 8 (.nm 0) (.aug 6 .BitOr (.bin .LShift (.nm 8) (.nm 4)) (.app 5 (.bin .BitAnd (.nm 6) (.nm 7)) (.aug 6 .RShift (.nm 2) .nil))) (.ite (.cmp .Gt (.nm 6) (.int 0)) (.app 5 (.nm 6) .nil) .nil (.reto 5)))))
theorem o_shift_left:FOk 13 "shift_left" ["a","n","w"] ["spots","few","found","carry","mask","one"] ["found"] 999 ir_shift_left:=⟨by kernel_rfl,by kernel_rfl,⟨by kernel_rfl,by kernel_rfl⟩,by decide⟩
noncomputable def ir_shift_right:IS:=.set2 3 4 (.bin .FloorDiv (.nm 1) (.nm 2)) (.bin .Mod (.nm 1) (.nm 2)) (.set2 5 6 (.lst .nil) (.bin .Sub (.bin .LShift (.int 1) (.nm 2)) (.int 1)) (.for2 7 (.nm 3) (.len (.nm 0)) (.set 8 (.ite (.cmp .Lt (.bin .Add (.nm 7) (.int 1)) (.len (.nm 0))) (.idx (.nm 0) (.bin .Add (.nm 7) (.int 1))) (.int 0)) (.app 5 (.bin .BitAnd (.bin .BitOr (.bin .RShift (.idx (.nm 0) (.nm 7)) (.nm 4)) (.bin .LShift (.nm 8) (.bin .Sub (.nm 2) (.nm 4)))) (.nm 6)) .nil)) (.frz 5 (.ret (.call "normal" (.cons (.nm 5) .nil))))))
theorem o_shift_right:FOk 14 "shift_right" ["a","n","w"] ["spots","few","found","mask","at","above"] ["found"] 999 ir_shift_right:=⟨by kernel_rfl,by kernel_rfl,⟨by kernel_rfl,by kernel_rfl⟩,by decide⟩
noncomputable def ir_bits:IS:=.ret (.ite (.cmp .Gt (.len (.nm 0)) (.int 0)) (.bin .Add (.bin .Mult (.bin .Sub (.len (.nm 0)) (.int 1)) (.nm 1)) (.blen (.last (.nm 0)))) (.int 0))
theorem o_bits:FOk 15 "bits" ["a","w"] [] [] 999 ir_bits:=⟨by kernel_rfl,by kernel_rfl,⟨by kernel_rfl,by kernel_rfl⟩,by decide⟩
noncomputable def ir_bit:IS:=.ret (.ite (.cmp .Lt (.bin .FloorDiv (.nm 1) (.nm 2)) (.len (.nm 0))) (.bin .BitAnd (.bin .RShift (.idx (.nm 0) (.bin .FloorDiv (.nm 1) (.nm 2))) (.bin .Mod (.nm 1) (.nm 2))) (.int 1)) (.int 0))
theorem o_bit:FOk 16 "bit" ["a","n","w"] [] [] 999 ir_bit:=⟨by kernel_rfl,by kernel_rfl,⟨by kernel_rfl,by kernel_rfl⟩,by decide⟩
noncomputable def ir_trailing:IS:=.forE 2 3 (.nm 0) (.ite (.cmp .Gt (.nm 3) (.int 0)) (.ret (.bin .Sub (.bin .Add (.bin .Mult (.nm 2) (.nm 1)) (.blen (.bin .BitAnd (.nm 3) (.neg (.nm 3))))) (.int 1))) .nil .nil) .raise
theorem o_trailing:FOk 17 "trailing" ["a","w"] ["at","limb"] [] 999 ir_trailing:=⟨by kernel_rfl,by kernel_rfl,⟨by kernel_rfl,by kernel_rfl⟩,by decide⟩
noncomputable def ir_inverse_limb:IS:=.ite (.cmp .Eq (.bin .Mod (.nm 0) (.int 2)) (.int 0)) .raise .nil (.set 2 (.bin .LShift (.int 1) (.nm 1)) (.set2 3 4 (.bin .Mod (.nm 0) (.nm 2)) (.int 3) (.whl (.cmp .Lt (.nm 4) (.nm 1)) (.set 3 (.bin .Mod (.bin .Mult (.nm 3) (.bin .Mod (.bin .Sub (.int 2) (.bin .Mult (.nm 0) (.nm 3))) (.nm 2))) (.nm 2)) (.set 4 (.bin .Mult (.int 2) (.nm 4)) .nil)) (.ret (.nm 3)))))
theorem o_inverse_limb:FOk 19 "inverse_limb" ["d","w"] ["whole","found","sure"] [] 999 ir_inverse_limb:=⟨by kernel_rfl,by kernel_rfl,⟨by kernel_rfl,by kernel_rfl⟩,by decide⟩
noncomputable def ir_doubled_rest:IS:=.set 3 (.call "shift_left" (.cons (.nm 0) (.cons (.int 1) (.cons (.nm 2) .nil)))) (.ret (.ite (.cmp .GtE (.call "compare" (.cons (.nm 3) (.cons (.nm 1) .nil))) (.int 0)) (.call "sub" (.cons (.nm 3) (.cons (.nm 1) (.cons (.nm 2) .nil)))) (.nm 3)))
theorem o_doubled_rest:FOk 22 "doubled_rest" ["a","m","w"] ["found"] [] 999 ir_doubled_rest:=⟨by kernel_rfl,by kernel_rfl,⟨by kernel_rfl,by kernel_rfl⟩,by decide⟩
noncomputable def ir_mont_make:IS:=.ite (.call "is_even" (.cons (.nm 0) .nil)) .raise .nil (.set 2 (.ite (.cmp .Eq (.nm 0) (.lst (.cons (.int 1) .nil))) (.lst .nil) (.lst (.cons (.int 1) .nil))) (.for1 3 (.bin .Mult (.len (.nm 0)) (.nm 1)) (.set 2 (.call "doubled_rest" (.cons (.nm 2) (.cons (.nm 0) (.cons (.nm 1) .nil)))) .nil) (.set 4 (.nm 2) (.for1 3 (.bin .Mult (.len (.nm 0)) (.nm 1)) (.set 4 (.call "doubled_rest" (.cons (.nm 4) (.cons (.nm 0) (.cons (.nm 1) .nil)))) .nil) (.ret (.mkM (.cons (.nm 0) (.cons (.bin .BitAnd (.neg (.call "inverse_limb" (.cons (.idx (.nm 0) (.int 0)) (.cons (.nm 1) .nil)))) (.bin .Sub (.bin .LShift (.int 1) (.nm 1)) (.int 1))) (.cons (.nm 2) (.cons (.nm 4) .nil))))))))))
theorem o_mont_make:FOk 23 "mont_make" ["m","w"] ["one","turn","square"] [] 999 ir_mont_make:=⟨by kernel_rfl,by kernel_rfl,⟨by kernel_rfl,by kernel_rfl⟩,by decide⟩
noncomputable def ir_add_row:IS:=.set2 5 6 (.int 0) (.bin .Sub (.bin .LShift (.int 1) (.nm 4)) (.int 1)) (.forL 7 (.nm 1) (.aug 5 .Add (.bin .Add (.oix 0 (.nm 3)) (.bin .Mult (.nm 7) (.nm 2))) (.put 0 (.bin .BitAnd (.nm 5) (.nm 6)) (.nm 3) (.aug 5 .RShift (.nm 4) (.aug 3 .Add (.int 1) .nil)))) (.whl (.cmp .Gt (.nm 5) (.int 0)) (.aug 5 .Add (.oix 0 (.nm 3)) (.put 0 (.bin .BitAnd (.nm 5) (.nm 6)) (.nm 3) (.aug 5 .RShift (.nm 4) (.aug 3 .Add (.int 1) .nil)))) .nil))
theorem o_add_row:FOk 24 "add_row" ("rest" :: ["m","limb","at","w"]) ["carry","mask","one"] ["rest"] 0 ir_add_row:=⟨by kernel_rfl,by kernel_rfl,⟨by kernel_rfl,by kernel_rfl⟩,by decide⟩
noncomputable def ir_taken_once:IS:=.ret (.ite (.cmp .GtE (.call "compare" (.cons (.nm 0) (.cons (.nm 1) .nil))) (.int 0)) (.call "sub" (.cons (.nm 0) (.cons (.nm 1) (.cons (.nm 2) .nil)))) (.nm 0))
theorem o_taken_once:FOk 25 "taken_once" ["a","m","w"] [] [] 999 ir_taken_once:=⟨by kernel_rfl,by kernel_rfl,⟨by kernel_rfl,by kernel_rfl⟩,by decide⟩
noncomputable def ir_redc:IS:=.set 3 (.fM 1 0) (.set 4 (.len (.nm 3)) (.ite (.cmp .GtE (.call "compare" (.cons (.nm 0) (.cons (.call "lifted" (.cons (.nm 3) (.cons (.nm 4) .nil))) .nil))) (.int 0)) .raise .nil (.set2 5 6 (.bin .Add (.nm 0) (.bin .Mult (.lst (.cons (.int 0) .nil)) (.bin .Sub (.bin .Add (.bin .Mult (.int 2) (.nm 4)) (.int 1)) (.len (.nm 0))))) (.bin .Sub (.bin .LShift (.int 1) (.nm 2)) (.int 1)) (.for1 7 (.nm 4) (.cown "add_row" 5 (.cons (.nm 3) (.cons (.bin .BitAnd (.bin .Mult (.oix 5 (.nm 7)) (.fM 1 1)) (.nm 6)) (.cons (.nm 7) (.cons (.nm 2) .nil)))) .nil) (.ret (.call "taken_once" (.cons (.call "normal" (.cons (.ofrm 5 (.nm 4)) .nil)) (.cons (.nm 3) (.cons (.nm 2) .nil)))))))))
theorem o_redc:FOk 26 "redc" ["a","told","w"] ["m","size","rest","mask","at"] ["rest"] 999 ir_redc:=⟨by kernel_rfl,by kernel_rfl,⟨by kernel_rfl,by kernel_rfl⟩,by decide⟩
noncomputable def ir_to_mont:IS:=.ite (.cmp .GtE (.call "compare" (.cons (.nm 0) (.cons (.fM 1 0) .nil))) (.int 0)) .raise .nil (.ret (.call "redc" (.cons (.calv 3 (.cons (.nm 0) (.cons (.fM 1 3) (.cons (.nm 2) .nil)))) (.cons (.nm 1) (.cons (.nm 2) .nil)))))
theorem o_to_mont:FOk 27 "to_mont" ["a","told","w","mul"] [] [] 999 ir_to_mont:=⟨by kernel_rfl,by kernel_rfl,⟨by kernel_rfl,by kernel_rfl⟩,by decide⟩
noncomputable def ir_from_mont:IS:=.ret (.call "redc" (.cons (.nm 0) (.cons (.nm 1) (.cons (.nm 2) .nil))))
theorem o_from_mont:FOk 28 "from_mont" ["a","told","w"] [] [] 999 ir_from_mont:=⟨by kernel_rfl,by kernel_rfl,⟨by kernel_rfl,by kernel_rfl⟩,by decide⟩
noncomputable def ir_mont_mul:IS:=.ret (.call "redc" (.cons (.calv 4 (.cons (.nm 0) (.cons (.nm 1) (.cons (.nm 3) .nil)))) (.cons (.nm 2) (.cons (.nm 3) .nil))))
theorem o_mont_mul:FOk 29 "mont_mul" ["a","b","told","w","mul"] [] [] 999 ir_mont_mul:=⟨by kernel_rfl,by kernel_rfl,⟨by kernel_rfl,by kernel_rfl⟩,by decide⟩
noncomputable def ir_odd_powers:IS:=.set2 3 4 (.lst (.cons (.nm 0) .nil)) (.calv 2 (.cons (.nm 0) (.cons (.nm 0) .nil))) (.for1 5 (.bin .Sub (.bin .LShift (.int 1) (.bin .Sub (.nm 1) (.int 1))) (.int 1)) (.app 3 (.calv 2 (.cons (.olast 3) (.cons (.nm 4) .nil))) .nil) (.reto 3))
theorem o_odd_powers:FOk 31 "odd_powers" ["base","size","times"] ["found","square","turn"] ["found"] 999 ir_odd_powers:=⟨by kernel_rfl,by kernel_rfl,⟨by kernel_rfl,by kernel_rfl⟩,by decide⟩
noncomputable def ir_window_at:IS:=.set 4 (.max (.bin .Add (.bin .Sub (.nm 1) (.nm 2)) (.int 1)) (.int 0)) (.whl (.cmp .Eq (.call "bit" (.cons (.nm 0) (.cons (.nm 4) (.cons (.nm 3) .nil)))) (.int 0)) (.aug 4 .Add (.int 1) .nil) (.set 5 (.int 0) (.forD 6 (.nm 1) (.bin .Sub (.nm 4) (.int 1)) (.set 5 (.bin .Add (.bin .Mult (.int 2) (.nm 5)) (.call "bit" (.cons (.nm 0) (.cons (.nm 6) (.cons (.nm 3) .nil))))) .nil) (.ret (.t2 (.nm 5) (.bin .Add (.bin .Sub (.nm 1) (.nm 4)) (.int 1)))))))
theorem o_window_at:FOk 32 "window_at" ["e","top","size","w"] ["last","value","spot"] [] 999 ir_window_at:=⟨by kernel_rfl,by kernel_rfl,⟨by kernel_rfl,by kernel_rfl⟩,by decide⟩
noncomputable def ir_by_windows:IS:=.ite (.cmp .Eq (.nm 1) (.lst .nil)) (.ret (.nm 4)) .nil (.set2 6 7 (.call "odd_powers" (.cons (.nm 0) (.cons (.nm 2) (.cons (.nm 5) .nil)))) .none (.set 8 (.bin .Sub (.call "bits" (.cons (.nm 1) (.cons (.nm 3) .nil))) (.int 1)) (.whl (.cmp .GtE (.nm 8) (.int 0)) (.ite (.cmp .Eq (.call "bit" (.cons (.nm 1) (.cons (.nm 8) (.cons (.nm 3) .nil)))) (.int 0)) (.set 7 (.calv 5 (.cons (.nm 7) (.cons (.nm 7) .nil))) (.aug 8 .Sub (.int 1) .cont)) .nil (.unp2 9 10 (.call "window_at" (.cons (.nm 1) (.cons (.nm 8) (.cons (.nm 2) (.cons (.nm 3) .nil))))) (.ite (.cmp .Is (.nm 7) .none) (.set 7 (.idx (.nm 6) (.bin .FloorDiv (.nm 9) (.int 2))) .nil) (.for1 11 (.nm 10) (.set 7 (.calv 5 (.cons (.nm 7) (.cons (.nm 7) .nil))) .nil) (.set 7 (.calv 5 (.cons (.nm 7) (.cons (.idx (.nm 6) (.bin .FloorDiv (.nm 9) (.int 2))) .nil))) .nil)) (.aug 8 .Sub (.nm 10) .nil)))) (.ret (.nm 7)))))
theorem o_by_windows:FOk 33 "by_windows" ["base","e","size","w","one","times"] ["table","found","spot","value","many","turn"] [] 999 ir_by_windows:=⟨by kernel_rfl,by kernel_rfl,⟨by kernel_rfl,by kernel_rfl⟩,by decide⟩
noncomputable def ir_power_mont:IS:=.set 7 (.call "mont_make" (.cons (.nm 2) (.cons (.nm 3) .nil))) (.set 8 (.call "to_mont" (.cons (.idx (.calv 6 (.cons (.nm 0) (.cons (.nm 2) (.cons (.nm 3) .nil)))) (.int 1)) (.cons (.nm 7) (.cons (.nm 3) (.cons (.nm 5) .nil))))) (.set 9 (.call "by_windows" (.cons (.nm 8) (.cons (.nm 1) (.cons (.nm 4) (.cons (.nm 3) (.cons (.fM 7 2) (.cons (.call "mont_times" (.cons (.nm 7) (.cons (.nm 3) (.cons (.nm 5) .nil)))) .nil))))))) (.ret (.call "from_mont" (.cons (.nm 9) (.cons (.nm 7) (.cons (.nm 3) .nil)))))))
theorem o_power_mont:FOk 35 "power_mont" ["a","e","m","w","size","mul","divrem"] ["told","base","found"] [] 999 ir_power_mont:=⟨by kernel_rfl,by kernel_rfl,⟨by kernel_rfl,by kernel_rfl⟩,by decide⟩
noncomputable def ir_small_primes:IS:=.set2 1 2 (.bin .Mult (.lst (.cons (.bool false) .nil)) (.bin .Add (.nm 0) (.int 1))) (.lst .nil) (.for2 3 (.int 2) (.bin .Add (.nm 0) (.int 1)) (.ite (.not (.oix 1 (.nm 3))) (.app 2 (.nm 3) (.forS 4 (.bin .Mult (.nm 3) (.nm 3)) (.bin .Add (.nm 0) (.int 1)) (.nm 3) (.put 1 (.bool true) (.nm 4) .nil) .nil)) .nil .nil) (.reto 2))
theorem o_small_primes:FOk 38 "small_primes" ["most"] ["is_crossed","found","n","multiple"] ["is_crossed","found"] 999 ir_small_primes:=⟨by kernel_rfl,by kernel_rfl,⟨by kernel_rfl,by kernel_rfl⟩,by decide⟩
noncomputable def ir_rest_small:IS:=.set 3 (.int 0) (.forD 4 (.bin .Sub (.len (.nm 0)) (.int 1)) (.neg (.int 1)) (.set 3 (.bin .Mod (.bin .BitOr (.bin .LShift (.nm 3) (.nm 2)) (.idx (.nm 0) (.nm 4))) (.nm 1)) .nil) (.ret (.nm 3)))
theorem o_rest_small:FOk 39 "rest_small" ["a","d","w"] ["rest","at"] [] 999 ir_rest_small:=⟨by kernel_rfl,by kernel_rfl,⟨by kernel_rfl,by kernel_rfl⟩,by decide⟩
noncomputable def ir_trial:IS:=.forL 3 (.call "small_primes" (.cons (.nm 2) .nil)) (.ite (.and (.cmp .Eq (.call "rest_small" (.cons (.nm 0) (.cons (.nm 3) (.cons (.nm 1) .nil)))) (.int 0)) (.cmp .NotEq (.nm 0) (.call "nat_of" (.cons (.nm 3) (.cons (.nm 1) .nil))))) (.ret (.nm 3)) .nil .nil) (.ret .none)
theorem o_trial:FOk 40 "trial" ["n","w","most"] ["p"] [] 999 ir_trial:=⟨by kernel_rfl,by kernel_rfl,⟨by kernel_rfl,by kernel_rfl⟩,by decide⟩
noncomputable def ir_odd_part:IS:=.set 2 (.call "trailing" (.cons (.nm 0) (.cons (.nm 1) .nil))) (.ret (.t2 (.nm 2) (.call "shift_right" (.cons (.nm 0) (.cons (.nm 2) (.cons (.nm 1) .nil))))))
theorem o_odd_part:FOk 41 "odd_part" ["n","w"] ["s"] [] 999 ir_odd_part:=⟨by kernel_rfl,by kernel_rfl,⟨by kernel_rfl,by kernel_rfl⟩,by decide⟩
noncomputable def ir_check_odd:IS:=.ite (.or (.call "is_even" (.cons (.nm 0) .nil)) (.cmp .Eq (.nm 0) (.lst (.cons (.int 1) .nil)))) .raise .nil .nil
theorem o_check_odd:FOk 42 "check_odd" ["n"] [] [] 999 ir_check_odd:=⟨by kernel_rfl,by kernel_rfl,⟨by kernel_rfl,by kernel_rfl⟩,by decide⟩
noncomputable def ir_square_rest:IS:=.ret (.idx (.calv 4 (.cons (.calv 3 (.cons (.nm 0) (.cons (.nm 0) (.cons (.nm 2) .nil)))) (.cons (.nm 1) (.cons (.nm 2) .nil)))) (.int 1))
theorem o_square_rest:FOk 43 "square_rest" ["x","n","w","mul","divrem"] [] [] 999 ir_square_rest:=⟨by kernel_rfl,by kernel_rfl,⟨by kernel_rfl,by kernel_rfl⟩,by decide⟩
noncomputable def ir_strong_rows:IS:=.unp2 5 6 (.call "odd_part" (.cons (.call "sub_limb" (.cons (.nm 0) (.cons (.int 1) (.cons (.nm 2) .nil)))) (.cons (.nm 2) .nil))) (.seto 7 (.lst (.cons (.call "power_mont" (.cons (.nm 1) (.cons (.nm 6) (.cons (.nm 0) (.cons (.nm 2) (.cons (.int 3) (.cons (.nm 3) (.cons (.nm 4) .nil)))))))) .nil)) (.for1 8 (.bin .Sub (.nm 5) (.int 1)) (.app 7 (.call "square_rest" (.cons (.olast 7) (.cons (.nm 0) (.cons (.nm 2) (.cons (.nm 3) (.cons (.nm 4) .nil)))))) .nil) (.reto 7)))
theorem o_strong_rows:FOk 44 "strong_rows" ["n","base","w","mul","divrem"] ["s","d","found","turn"] ["found"] 999 ir_strong_rows:=⟨by kernel_rfl,by kernel_rfl,⟨by kernel_rfl,by kernel_rfl⟩,by decide⟩
noncomputable def ir_strong_probable:IS:=.exp (.call "check_odd" (.cons (.nm 0) .nil)) (.ite (.cmp .Eq (.idx (.calv 4 (.cons (.nm 1) (.cons (.nm 0) (.cons (.nm 2) .nil)))) (.int 1)) (.lst .nil)) (.ret (.bool true)) .nil (.set2 5 6 (.call "strong_rows" (.cons (.nm 0) (.cons (.nm 1) (.cons (.nm 2) (.cons (.nm 3) (.cons (.nm 4) .nil)))))) (.call "sub_limb" (.cons (.nm 0) (.cons (.int 1) (.cons (.nm 2) .nil)))) (.ret (.or (.cmp .Eq (.idx (.nm 5) (.int 0)) (.lst (.cons (.int 1) .nil))) (.cmp .In (.nm 6) (.nm 5))))))
theorem o_strong_probable:FOk 45 "strong_probable" ["n","base","w","mul","divrem"] ["rows","last"] [] 999 ir_strong_probable:=⟨by kernel_rfl,by kernel_rfl,⟨by kernel_rfl,by kernel_rfl⟩,by decide⟩
noncomputable def ir_jacobi_small:IS:=.set2 3 4 (.int 1) (.bin .BitAnd (.idx (.nm 1) (.int 0)) (.int 7)) (.ite (.cmp .Lt (.nm 2) (.int 3)) (.set 4 (.call "rest_small" (.cons (.nm 1) (.cons (.int 8) (.cons (.nm 2) .nil)))) .nil) .nil (.ite (.cmp .Lt (.nm 0) (.int 0)) (.set 0 (.neg (.nm 0)) (.set 3 (.ite (.cmp .Eq (.bin .BitAnd (.nm 4) (.int 3)) (.int 3)) (.neg (.int 1)) (.int 1)) .nil)) .nil (.whl (.and (.cmp .Gt (.nm 0) (.int 0)) (.cmp .Eq (.bin .BitAnd (.nm 0) (.int 1)) (.int 0))) (.aug 0 .RShift (.int 1) (.set 3 (.ite (.cmp .In (.nm 4) (.t2 (.int 3) (.int 5))) (.neg (.nm 3)) (.nm 3)) .nil)) (.ite (.cmp .Eq (.nm 0) (.int 0)) (.ret (.ite (.cmp .Eq (.nm 1) (.lst (.cons (.int 1) .nil))) (.int 1) (.int 0))) .nil (.ite (.and (.cmp .Eq (.bin .BitAnd (.nm 0) (.int 3)) (.int 3)) (.cmp .Eq (.bin .BitAnd (.nm 4) (.int 3)) (.int 3))) (.set 3 (.neg (.nm 3)) .nil) .nil (.ret (.ite (.cmp .Gt (.nm 0) (.int 1)) (.bin .Mult (.nm 3) (.call "jacobi_plain" (.cons (.call "rest_small" (.cons (.nm 1) (.cons (.nm 0) (.cons (.nm 2) .nil)))) (.cons (.nm 0) .nil)))) (.nm 3))))))))
theorem o_jacobi_small:FOk 46 "jacobi_small" ["d","n","w"] ["sign","rest"] [] 999 ir_jacobi_small:=⟨by kernel_rfl,by kernel_rfl,⟨by kernel_rfl,by kernel_rfl⟩,by decide⟩
noncomputable def ir_jacobi_plain:IS:=.set2 0 2 (.bin .Mod (.nm 0) (.nm 1)) (.int 1) (.whl (.cmp .Gt (.nm 0) (.int 0)) (.whl (.cmp .Eq (.bin .BitAnd (.nm 0) (.int 1)) (.int 0)) (.aug 0 .RShift (.int 1) (.set 2 (.ite (.cmp .In (.bin .BitAnd (.nm 1) (.int 7)) (.t2 (.int 3) (.int 5))) (.neg (.nm 2)) (.nm 2)) .nil)) (.set2 0 1 (.nm 1) (.nm 0) (.set 2 (.ite (.and (.cmp .Eq (.bin .BitAnd (.nm 0) (.int 3)) (.int 3)) (.cmp .Eq (.bin .BitAnd (.nm 1) (.int 3)) (.int 3))) (.neg (.nm 2)) (.nm 2)) (.aug 0 .Mod (.nm 1) .nil)))) (.ret (.ite (.cmp .Eq (.nm 1) (.int 1)) (.nm 2) (.int 0))))
theorem o_jacobi_plain:FOk 47 "jacobi_plain" ["a","n"] ["sign"] [] 999 ir_jacobi_plain:=⟨by kernel_rfl,by kernel_rfl,⟨by kernel_rfl,by kernel_rfl⟩,by decide⟩
noncomputable def ir_root_whole:IS:=.ite (.cmp .Eq (.nm 0) (.lst .nil)) (.ret (.lst .nil)) .nil (.set 3 (.call "shift_left" (.cons (.lst (.cons (.int 1) .nil)) (.cons (.bin .FloorDiv (.bin .Add (.call "bits" (.cons (.nm 0) (.cons (.nm 1) .nil))) (.int 1)) (.int 2)) (.cons (.nm 1) .nil)))) (.whl (.bool true) (.set 4 (.call "shift_right" (.cons (.call "add" (.cons (.nm 3) (.cons (.idx (.calv 2 (.cons (.nm 0) (.cons (.nm 3) (.cons (.nm 1) .nil)))) (.int 0)) (.cons (.nm 1) .nil)))) (.cons (.int 1) (.cons (.nm 1) .nil)))) (.ite (.cmp .GtE (.call "compare" (.cons (.nm 4) (.cons (.nm 3) .nil))) (.int 0)) (.ret (.nm 3)) .nil (.set 3 (.nm 4) .nil))) .nil))
theorem o_root_whole:FOk 48 "root_whole" ["a","w","divrem"] ["found","better"] [] 999 ir_root_whole:=⟨by kernel_rfl,by kernel_rfl,⟨by kernel_rfl,by kernel_rfl⟩,by decide⟩
noncomputable def ir_is_square_row:IS:=.set 4 (.call "root_whole" (.cons (.nm 0) (.cons (.nm 1) (.cons (.nm 3) .nil)))) (.ret (.cmp .Eq (.calv 2 (.cons (.nm 4) (.cons (.nm 4) (.cons (.nm 1) .nil)))) (.nm 0)))
theorem o_is_square_row:FOk 49 "is_square_row" ["a","w","mul","divrem"] ["root"] [] 999 ir_is_square_row:=⟨by kernel_rfl,by kernel_rfl,⟨by kernel_rfl,by kernel_rfl⟩,by decide⟩
noncomputable def ir_selfridge:IS:=.set 2 (.int 5) (.whl (.bool true) (.set 3 (.call "jacobi_small" (.cons (.nm 2) (.cons (.nm 0) (.cons (.nm 1) .nil)))) (.ite (.cmp .Eq (.nm 3) (.neg (.int 1))) (.ret (.nm 2)) .nil (.ite (.and (.cmp .Eq (.nm 3) (.int 0)) (.cmp .NotEq (.nm 0) (.call "nat_of" (.cons (.abs (.nm 2)) (.cons (.nm 1) .nil))))) (.ret (.int 0)) .nil (.set 2 (.ite (.cmp .Gt (.nm 2) (.int 0)) (.bin .Sub (.neg (.nm 2)) (.int 2)) (.bin .Sub (.int 2) (.nm 2))) .nil)))) .nil)
theorem o_selfridge:FOk 50 "selfridge" ["n","w"] ["d","sign"] [] 999 ir_selfridge:=⟨by kernel_rfl,by kernel_rfl,⟨by kernel_rfl,by kernel_rfl⟩,by decide⟩
noncomputable def ir_signed_rest:IS:=.set 4 (.idx (.calv 3 (.cons (.call "nat_of" (.cons (.abs (.nm 0)) (.cons (.nm 2) .nil))) (.cons (.nm 1) (.cons (.nm 2) .nil)))) (.int 1)) (.ret (.ite (.and (.cmp .Lt (.nm 0) (.int 0)) (.cmp .NotEq (.nm 4) (.lst .nil))) (.call "sub" (.cons (.nm 1) (.cons (.nm 4) (.cons (.nm 2) .nil)))) (.nm 4)))
theorem o_signed_rest:FOk 51 "signed_rest" ["number","n","w","divrem"] ["rest"] [] 999 ir_signed_rest:=⟨by kernel_rfl,by kernel_rfl,⟨by kernel_rfl,by kernel_rfl⟩,by decide⟩
noncomputable def ir_lucas_rows:IS:=.set3 5 6 7 (.idx (.cR 0 3 (.cons (.lst (.cons (.int 1) .nil)) (.cons (.fR 0 0) (.cons (.fR 0 1) .nil)))) (.int 1)) (.nm 1) (.nm 3) (.forD 8 (.bin .Sub (.call "bits" (.cons (.nm 4) (.cons (.fR 0 1) .nil))) (.int 2)) (.neg (.int 1)) (.set2 5 6 (.mR 0 "product" (.cons (.nm 5) (.cons (.nm 6) .nil))) (.mR 0 "minus" (.cons (.mR 0 "product" (.cons (.nm 6) (.cons (.nm 6) .nil))) (.cons (.mR 0 "plus" (.cons (.nm 7) (.cons (.nm 7) .nil))) .nil))) (.set 7 (.mR 0 "product" (.cons (.nm 7) (.cons (.nm 7) .nil))) (.ite (.cmp .Eq (.call "bit" (.cons (.nm 4) (.cons (.nm 8) (.cons (.fR 0 1) .nil)))) (.int 1)) (.set 9 (.mR 0 "half" (.cons (.mR 0 "plus" (.cons (.mR 0 "product" (.cons (.nm 1) (.cons (.nm 5) .nil))) (.cons (.nm 6) .nil))) .nil)) (.set2 5 6 (.nm 9) (.mR 0 "half" (.cons (.mR 0 "plus" (.cons (.mR 0 "product" (.cons (.nm 2) (.cons (.nm 5) .nil))) (.cons (.mR 0 "product" (.cons (.nm 1) (.cons (.nm 6) .nil))) .nil))) .nil)) (.set 7 (.mR 0 "product" (.cons (.nm 7) (.cons (.nm 3) .nil))) .nil))) .nil .nil))) (.ret (.t3 (.nm 5) (.nm 6) (.nm 7))))
theorem o_lucas_rows:FOk 53 "lucas_rows" ["ring","p","d","q","m"] ["u","v","power","spot","first"] [] 999 ir_lucas_rows:=⟨by kernel_rfl,by kernel_rfl,⟨by kernel_rfl,by kernel_rfl⟩,by decide⟩
noncomputable def ir_lucas_probable:IS:=.exp (.call "check_odd" (.cons (.nm 0) .nil)) (.ite (.call "is_square_row" (.cons (.nm 0) (.cons (.nm 1) (.cons (.nm 2) (.cons (.nm 3) .nil))))) (.ret (.bool false)) .nil (.set 4 (.call "selfridge" (.cons (.nm 0) (.cons (.nm 1) .nil))) (.ite (.cmp .Eq (.nm 4) (.int 0)) (.ret (.bool false)) .nil (.set 5 (.mkR (.cons (.nm 0) (.cons (.nm 1) (.cons (.nm 2) (.cons (.nm 3) .nil))))) (.set2 6 7 (.call "signed_rest" (.cons (.int 1) (.cons (.nm 0) (.cons (.nm 1) (.cons (.nm 3) .nil))))) (.call "signed_rest" (.cons (.bin .FloorDiv (.bin .Sub (.int 1) (.nm 4)) (.int 4)) (.cons (.nm 0) (.cons (.nm 1) (.cons (.nm 3) .nil))))) (.ret (.cmp .Eq (.idx (.call "lucas_rows" (.cons (.nm 5) (.cons (.nm 6) (.cons (.call "signed_rest" (.cons (.nm 4) (.cons (.nm 0) (.cons (.nm 1) (.cons (.nm 3) .nil))))) (.cons (.nm 7) (.cons (.call "add_limb" (.cons (.nm 0) (.cons (.int 1) (.cons (.nm 1) .nil)))) .nil)))))) (.int 0)) (.lst .nil))))))))
theorem o_lucas_probable:FOk 54 "lucas_probable" ["n","w","mul","divrem"] ["d","ring","p","q"] [] 999 ir_lucas_probable:=⟨by kernel_rfl,by kernel_rfl,⟨by kernel_rfl,by kernel_rfl⟩,by decide⟩
noncomputable def ir_strong_lucas:IS:=.exp (.call "check_odd" (.cons (.nm 0) .nil)) (.ite (.call "is_square_row" (.cons (.nm 0) (.cons (.nm 1) (.cons (.nm 2) (.cons (.nm 3) .nil))))) (.ret (.bool false)) .nil (.set 4 (.call "selfridge" (.cons (.nm 0) (.cons (.nm 1) .nil))) (.ite (.cmp .Eq (.nm 4) (.int 0)) (.ret (.bool false)) .nil (.set 5 (.mkR (.cons (.nm 0) (.cons (.nm 1) (.cons (.nm 2) (.cons (.nm 3) .nil))))) (.set2 6 7 (.call "signed_rest" (.cons (.int 1) (.cons (.nm 0) (.cons (.nm 1) (.cons (.nm 3) .nil))))) (.call "signed_rest" (.cons (.bin .FloorDiv (.bin .Sub (.int 1) (.nm 4)) (.int 4)) (.cons (.nm 0) (.cons (.nm 1) (.cons (.nm 3) .nil))))) (.unp2 8 9 (.call "odd_part" (.cons (.call "add_limb" (.cons (.nm 0) (.cons (.int 1) (.cons (.nm 1) .nil)))) (.cons (.nm 1) .nil))) (.unp3 10 11 12 (.call "lucas_rows" (.cons (.nm 5) (.cons (.nm 6) (.cons (.call "signed_rest" (.cons (.nm 4) (.cons (.nm 0) (.cons (.nm 1) (.cons (.nm 3) .nil))))) (.cons (.nm 7) (.cons (.nm 9) .nil)))))) (.ite (.cmp .Eq (.nm 10) (.lst .nil)) (.ret (.bool true)) .nil (.for1 13 (.nm 8) (.ite (.cmp .Eq (.nm 11) (.lst .nil)) (.ret (.bool true)) .nil (.set2 11 12 (.mR 5 "minus" (.cons (.mR 5 "product" (.cons (.nm 11) (.cons (.nm 11) .nil))) (.cons (.mR 5 "plus" (.cons (.nm 12) (.cons (.nm 12) .nil))) .nil))) (.mR 5 "product" (.cons (.nm 12) (.cons (.nm 12) .nil))) .nil)) (.ret (.bool false)))))))))))
theorem o_strong_lucas:FOk 55 "strong_lucas" ["n","w","mul","divrem"] ["d","ring","p","q","s","odd","u","v","power","turn"] [] 999 ir_strong_lucas:=⟨by kernel_rfl,by kernel_rfl,⟨by kernel_rfl,by kernel_rfl⟩,by decide⟩
noncomputable def ir_law_row:IS:=.seto 2 (.lst .nil) (.whl (.cmp .Gt (.nm 0) (.int 0)) (.app 2 (.bin .Mod (.nm 0) (.bin .Pow (.int 2) (.nm 1))) (.set 0 (.bin .FloorDiv (.nm 0) (.bin .Pow (.int 2) (.nm 1))) .nil)) (.reto 2))
theorem o_law_row:FOk 59 "_law_row" ["number","w"] ["found"] ["found"] 999 ir_law_row:=⟨by kernel_rfl,by kernel_rfl,⟨by kernel_rfl,by kernel_rfl⟩,by decide⟩
noncomputable def ir_law_number:IS:=.set 2 (.int 0) (.forR 3 (.nm 0) (.set 2 (.bin .Add (.bin .Mult (.nm 2) (.bin .Pow (.int 2) (.nm 1))) (.nm 3)) .nil) (.ret (.nm 2)))
theorem o_law_number:FOk 60 "_law_number" ["row","w"] ["found","limb"] [] 999 ir_law_number:=⟨by kernel_rfl,by kernel_rfl,⟨by kernel_rfl,by kernel_rfl⟩,by decide⟩
noncomputable def ir_law_mul:IS:=.ret (.call "_law_row" (.cons (.bin .Mult (.call "_law_number" (.cons (.nm 0) (.cons (.nm 2) .nil))) (.call "_law_number" (.cons (.nm 1) (.cons (.nm 2) .nil)))) (.cons (.nm 2) .nil)))
theorem o_law_mul:FOk 61 "_law_mul" ["a","b","w"] [] [] 999 ir_law_mul:=⟨by kernel_rfl,by kernel_rfl,⟨by kernel_rfl,by kernel_rfl⟩,by decide⟩
noncomputable def ir_law_divrem:IS:=.set2 3 4 (.call "_law_number" (.cons (.nm 0) (.cons (.nm 2) .nil))) (.call "_law_number" (.cons (.nm 1) (.cons (.nm 2) .nil))) (.ret (.t2 (.call "_law_row" (.cons (.bin .FloorDiv (.nm 3) (.nm 4)) (.cons (.nm 2) .nil))) (.call "_law_row" (.cons (.bin .Mod (.nm 3) (.nm 4)) (.cons (.nm 2) .nil)))))
theorem o_law_divrem:FOk 62 "_law_divrem" ["a","b","w"] ["x","y"] [] 999 ir_law_divrem:=⟨by kernel_rfl,by kernel_rfl,⟨by kernel_rfl,by kernel_rfl⟩,by decide⟩
noncomputable def ir_law_draw:IS:=.put 0 (.bin .Add (.oix 0 (.int 0)) (.int 1)) (.int 0) (.ite (.cmp .Lt (.oix 0 (.int 0)) (.len (.oix 0 (.int 1)))) (.ret (.bin .Mod (.abs (.idx (.oix 0 (.int 1)) (.oix 0 (.int 0)))) (.nm 1))) .nil (.put 0 (.bin .Mod (.bin .Add (.bin .Add (.bin .Mult (.oix 0 (.int 2)) (.int 6364136223846793005)) (.int 1442695040888963407)) (.oix 0 (.int 0))) (.bin .Pow (.int 2) (.int 64))) (.int 2) (.ret (.ite (.cmp .Lt (.nm 1) (.bin .Pow (.int 2) (.int 40))) (.bin .Mod (.bin .FloorDiv (.oix 0 (.int 2)) (.bin .Pow (.int 2) (.int 16))) (.nm 1)) (.bin .Mod (.bin .Mult (.bin .Add (.bin .Mult (.oix 0 (.int 2)) (.bin .Pow (.int 2) (.int 64))) (.bin .FloorDiv (.oix 0 (.int 2)) (.int 3))) (.bin .Pow (.int 2) (.int 40))) (.nm 1))))))
theorem o_law_draw:FOk 63 "_law_draw" ("box" :: ["many"]) [] ["box"] 0 ir_law_draw:=⟨by kernel_rfl,by kernel_rfl,⟨by kernel_rfl,by kernel_rfl⟩,by decide⟩
noncomputable def ir_law_least:IS:=.set 1 (.int 2) (.whl (.cmp .LtE (.bin .Mult (.nm 1) (.nm 1)) (.nm 0)) (.ite (.cmp .Eq (.bin .Mod (.nm 0) (.nm 1)) (.int 0)) (.ret (.nm 1)) .nil (.set 1 (.ite (.cmp .Eq (.nm 1) (.int 2)) (.bin .Add (.nm 1) (.int 1)) (.bin .Add (.nm 1) (.int 2))) .nil)) (.ret (.nm 0)))
theorem o_law_least:FOk 65 "_law_least" ["n"] ["d"] [] 999 ir_law_least:=⟨by kernel_rfl,by kernel_rfl,⟨by kernel_rfl,by kernel_rfl⟩,by decide⟩
noncomputable def ir_law_is_prime:IS:=.ret (.and (.cmp .Gt (.nm 0) (.int 1)) (.cmp .Eq (.call "_law_least" (.cons (.nm 0) .nil)) (.nm 0)))
theorem o_law_is_prime:FOk 66 "_law_is_prime" ["n"] [] [] 999 ir_law_is_prime:=⟨by kernel_rfl,by kernel_rfl,⟨by kernel_rfl,by kernel_rfl⟩,by decide⟩
noncomputable def ir_law_strong:IS:=.set2 2 3 (.bin .Sub (.nm 0) (.int 1)) (.int 0) (.whl (.cmp .Eq (.bin .Mod (.nm 2) (.int 2)) (.int 0)) (.set2 2 3 (.bin .FloorDiv (.nm 2) (.int 2)) (.bin .Add (.nm 3) (.int 1)) .nil) (.ite (.cmp .Eq (.bin .Mod (.nm 1) (.nm 0)) (.int 0)) (.ret (.bool true)) .nil (.set3 4 5 6 (.int 1) (.bin .Mod (.nm 1) (.nm 0)) (.nm 2) (.whl (.cmp .Gt (.nm 6) (.int 0)) (.set 4 (.ite (.cmp .Eq (.bin .Mod (.nm 6) (.int 2)) (.int 1)) (.bin .Mod (.bin .Mult (.nm 4) (.nm 5)) (.nm 0)) (.nm 4)) (.set2 5 6 (.bin .Mod (.bin .Mult (.nm 5) (.nm 5)) (.nm 0)) (.bin .FloorDiv (.nm 6) (.int 2)) .nil)) (.ite (.cmp .Eq (.nm 4) (.int 1)) (.ret (.bool true)) .nil (.for1 7 (.nm 3) (.ite (.cmp .Eq (.nm 4) (.bin .Sub (.nm 0) (.int 1))) (.ret (.bool true)) .nil (.set 4 (.bin .Mod (.bin .Mult (.nm 4) (.nm 4)) (.nm 0)) .nil)) (.ret (.bool false))))))))
theorem o_law_strong:FOk 67 "_law_strong" ["n","base"] ["d","s","here","square","e","turn"] [] 999 ir_law_strong:=⟨by kernel_rfl,by kernel_rfl,⟨by kernel_rfl,by kernel_rfl⟩,by decide⟩
noncomputable def ir_law_sign:IS:=.set 2 (.int 1) (.whl (.cmp .Gt (.nm 1) (.int 1)) (.set 3 (.call "_law_least" (.cons (.nm 1) .nil)) (.set4 1 4 5 6 (.bin .FloorDiv (.nm 1) (.nm 3)) (.bin .Mod (.nm 0) (.nm 3)) (.bin .FloorDiv (.bin .Sub (.nm 3) (.int 1)) (.int 2)) (.int 1) (.whl (.cmp .Gt (.nm 5) (.int 0)) (.set 6 (.ite (.cmp .Eq (.bin .Mod (.nm 5) (.int 2)) (.int 1)) (.bin .Mod (.bin .Mult (.nm 6) (.nm 4)) (.nm 3)) (.nm 6)) (.set2 4 5 (.bin .Mod (.bin .Mult (.nm 4) (.nm 4)) (.nm 3)) (.bin .FloorDiv (.nm 5) (.int 2)) .nil)) (.set 2 (.bin .Mult (.nm 2) (.ite (.and (.cmp .Eq (.nm 6) (.bin .Sub (.nm 3) (.int 1))) (.cmp .Gt (.nm 3) (.int 2))) (.bin .Sub (.int 0) (.int 1)) (.nm 6))) .nil)))) (.ret (.nm 2)))
theorem o_law_sign:FOk 68 "_law_sign" ["number","n"] ["found","p","rest","e","here"] [] 999 ir_law_sign:=⟨by kernel_rfl,by kernel_rfl,⟨by kernel_rfl,by kernel_rfl⟩,by decide⟩
noncomputable def ir_law_drawn:IS:=.set2 1 2 (.io "_law_draw" (.cons (.int 6) .nil)) (.bin .Add (.int 3) (.bin .Mult (.int 2) (.io "_law_draw" (.cons (.int 100) .nil)))) (.ite (.cmp .Eq (.nm 1) (.int 0)) (.ret (.bin .Mult (.nm 2) (.nm 2))) .nil (.ite (.cmp .Eq (.nm 1) (.int 1)) (.ret (.bin .Mult (.nm 2) (.bin .Add (.int 3) (.bin .Mult (.int 2) (.io "_law_draw" (.cons (.int 100) .nil)))))) .nil (.ite (.cmp .Eq (.nm 1) (.int 2)) (.ret (.bin .Add (.int 3599) (.bin .Mult (.int 2) (.io "_law_draw" (.cons (.int 6) .nil))))) .nil (.ret (.bin .Add (.int 3) (.bin .Mult (.int 2) (.io "_law_draw" (.cons (.ite (.cmp .Gt (.nm 1) (.int 3)) (.int 6000) (.int 200)) .nil))))))))
theorem o_law_drawn:FOk 69 "_law_drawn" ("box" :: []) ["form","few"] ["box"] 0 ir_law_drawn:=⟨by kernel_rfl,by kernel_rfl,⟨by kernel_rfl,by kernel_rfl⟩,by decide⟩
end M1
noncomputable section Z0
theorem down_at {l i:Nat} (h:i < l):(l:Int) - 1 - (i:Int)=((l - 1 - i:Nat):Int):=by omega
theorem down_lt {l i:Nat} (h:i < l):l - 1 - i < l:=Nat.lt_of_le_of_lt (Nat.sub_le ..) (Nat.sub_lt (Nat.zero_lt_of_lt h) Nat.one_pos)
theorem down_up {l i:Nat} (h:i < l):l - 1 - i + 1=l - i:=by
  rw [Nat.sub_right_comm]; exact Nat.sub_add_cancel (Nat.le_sub_of_add_le (by rw [Nat.add_comm]; exact h))
theorem down_up' {l i:Nat}:l - (i + 1)=l - 1 - i:=by rw [Nat.sub_right_comm]; rfl
theorem down_0 {l i:Nat} (h:i < l):(0:Int)<=(l:Int) - 1 - i:=by omega
theorem down_l {l i:Nat} (h:i < l):(l:Int) - 1 - i < l:=by omega
theorem down_m {l i m:Nat} (h:i < l) (e:l=m):(l:Int) - 1 - i < m:=e ▸ down_l h
theorem down_61 {l m:Nat} (h:l<=m) (e:Nat.ble m 1000000=true):(l:Int) - 1 < 2 ^ 61:=by
  have:=Nat.le_trans h (Nat.le_of_ble_eq_true e); omega
theorem zs_nat {a b c:Nat} (h:a<=b) (e:Nat.ble b c=true):a<=c:=Nat.le_trans h (Nat.le_of_ble_eq_true e)
theorem zs_62 {a b:Nat} (h:a<=b) (e:Nat.ble b 1000000=true):(a:Int) < 2 ^ 62:=by
  have:=Nat.le_trans h (Nat.le_of_ble_eq_true e); omega
theorem zs_n62 {a b:Nat} (h:a<=b) (e:Nat.ble b 1000000=true):a < 2 ^ 62:=by
  have:=Nat.le_trans h (Nat.le_of_ble_eq_true e); omega
theorem Sm.nat {a b:Nat} (h:a<=b) (e:Nat.ble b 1000000=true):Sm a:=Sm.of (by omega) (by have:=Nat.le_trans h (Nat.le_of_ble_eq_true e); omega)
theorem Sm.lt {a b:Int} (h:0<=a) (h2:a < b) (h3:b<=2 ^ 200):Sm a:=Sm.of (by omega) (by omega)
theorem Jn.ite {K:KE} {P:KE->Prop} (β:SL) {c:Prop} [Decidable c] (a b:Int) (h:∀ Q:KE,(c->Q (.int a) β)->(¬ c->Q (.int b) β)->P Q) (h2:K (.int (if c then a else b)) β):Jn K P :=
  Jn.c0 β (.int (if c then a else b)) (λ Q hQ=>h Q (λ z=>by rwa [if_pos z] at hQ) λ z=>by rwa [if_neg z] at hQ) h2
end Z0
section N1a
end N1a
local macro_rules | `(tactic| walk_at "zs")=>`(tactic| first
  | (with_reducible first
    | assumption
    | exact Int.natCast_nonneg _
    | exact zs_nat ‹_› rfl
    | exact down_0 ‹_›
    | exact down_l ‹_›
    | exact down_m ‹_› ‹_›
    | exact down_61 ‹_› rfl
    | exact zs_62 ‹_› rfl
    | exact zs_n62 ‹_› rfl
    | exact Int.ofNat_lt.mpr ‹_›
    | exact trivial
    | exact Int.le_refl _)
  | exact rfl
  | exact Nat.le_of_ble_eq_true rfl
  | omega
  | (apply Sm.of <;> omega))
local macro_rules | `(tactic| walk_at "z")=>`(tactic| first
  | refine Br.mk (λ _=>?_) (λ _=>?_)
  | (refine And.intro ?_ ?_; focus (walk_at "zs"))
  | refine Exists.intro _ (And.intro rfl ?_)
  | refine Jm.dup ?_)
local macro_rules | `(tactic| walk_at "Z")=>`(tactic| first | walk_at "z" | refine Jn.dup ?_)
noncomputable section N1
theorem K_eq {K:SV->Prop} {a b:SV} (hK:K b) (e:a=b):K a:=e ▸ hK
theorem cmp3 {x y:Int} {K:SV->Prop} (hK:K (.int (if x < y then -1 else if x=y then 0 else 1))):(x < y->K (.int (-1)))/\(x=y->K (.int 0))/\(y < x->K (.int 1)) :=
  ⟨λ h=>by rwa [if_pos h] at hK,λ h=>by rwa [if_neg (by rw [h]; exact Int.lt_irrefl y),if_pos h] at hK,λ h=>by rwa [if_neg (Int.lt_asymm h),if_neg (Int.ne_of_gt h)] at hK⟩
theorem gt_of {a b:Int} (h1:¬ a=b) (h2:¬ a < b):b < a:=Int.lt_iff_le_and_ne.mpr ⟨Int.not_lt.mp h2,λ e=>h1 e.symm⟩
theorem sp_compare {G:Gd} (pg:PG G) {B:Int} (hB:2<=B) {x y:Int} (hx:0<=x) (hy:0<=y) (hx':x < 2 ^ 64) (hy':y < 2 ^ 64) :
    Ca G 1 (fnv G "compare") [.il (row B x),.il (row B y)] (·=.int (if x < y then -1 else if x=y then 0 else 1)):=by
  have lx:=len64 hB hx hx'
  have ly:=len64 hB hy hy'
  have vx:=val_row hB x hx
  have vy:=val_row hB y hy
  have dx:=dg_row hB x
  have dy:=dg_row hB y
  have nx:=nrm_row hB x
  have ny:=nrm_row hB y
  have inj:=@row_inj B hB x y hx hy
  refine Ca.of λ K hK=>?_
  obtain ⟨kl,ke,kg⟩:=cmp3 hK
  rw [<- vx,<- vy] at kl kg
  clear hK hx hy hx' hy' vx vy
  generalize row B x=f at *
  generalize row B y=g at *
  refine vdef pg o_compare rfl ?_
  repeat' first | walk_at "Z"
  . rename_i h1
    have eg:=Int.ofNat_inj.mp h1
    refine LpF.c0 (λ i=>[.v (.il f),.v (.il g),lv .un (λ i=>f.length - 1 - i) i]) (λ i=>f.drop (f.length - i)=g.drop (f.length - i)) rfl ?_ ?_ ?_
    . rw [Nat.sub_zero,List.drop_length,List.drop_of_length_le (Nat.le_of_eq eg.symm)]
    . intro Q i hQ hi heq
      have e3:=down_up hi
      have hf:=down_lt hi
      have hg:=Nat.lt_of_lt_of_eq hf eg
      repeat' first | walk_at "Z"
      . rename_i h2
        rw [down_at hi] at h2
        exact hQ (by rw [down_up',ig_drop hf,ig_drop (l:=g) hg,e3,heq,h2])
      . rename_i h2 h3
        rw [down_at hi] at h3
        exact kl (ig_lt hB dx dy hf hg (e3 ▸ heq) h3)
      . rename_i h2 h3
        rw [down_at hi] at h2 h3
        exact kg (ig_lt hB dy dx hg hf (e3 ▸ heq.symm) (gt_of h2 h3))
    . intro heq
      rw [Nat.sub_self,List.drop_zero,List.drop_zero] at heq
      exact ke (inj heq)
  . rename_i h1 h2
    exact kl (len_lt hB dx dy ny (Int.ofNat_lt.mp h2))
  . rename_i h1 h2
    exact kg (len_lt hB dy dx nx (Int.ofNat_lt.mp (gt_of h1 h2)))
theorem nrm_take {l:List Int} {n:Nat} (h:n<=l.length) (h0:n=0\/ig l ((n - 1:Nat):Int)≠0):Nrm (l.take n):=by
  unfold Nrm
  cases n with
  | zero=>simp
  | succ m =>
    rw [ig_take h]
    simp only [List.getLast?_append,List.getLast?_singleton,Option.some_or]
    have:=h0.resolve_left (Nat.succ_ne_zero m)
    simpa using this
theorem val_take0 {B:Int} {l:List Int} {n:Nat} (h:n < l.length) (h0:ig l (n:Int)=0):val B (l.take (n + 1))=val B (l.take n):=by
  rw [ig_take h,val_append,h0,val_one,Int.mul_zero,Int.add_zero]
theorem SV.row_eq {B:Int} (hB:2<=B) {l:List Int} {n:Int} (h:Dg B l) (hn:Nrm l) (e:val B l=n):SV.il l=SV.il (row B n):=by rw [Internal.row_eq hB h hn e]
theorem pred_at {n:Nat} (h:(0:Int) < n):(n:Int) - 1=((n - 1:Nat):Int):=by omega
theorem pred_0 {n:Nat} (h:(0:Int) < n):(0:Int)<=(n:Int) - 1:=by omega
theorem pred_l {n l:Nat} (h:n<=l):(n:Int) - 1 < l:=by omega
theorem pred_up {n:Nat} (h:(0:Int) < n):n=n - 1 + 1:=by omega
theorem sp_normal {G:Gd} (pg:PG G) {B:Int} (hB:2<=B) {l:List Int} (hl:l.length<=1000) (hd:Dg B l) :
    Ca G 1 (fnv G "normal") [.il l] (·=.il (row B (val B l))):=by
  refine Ca.of λ K hK=>vdef pg o_normal rfl ?_
  repeat' first | walk_at "z"
  refine LpW.c1 (λ n:Nat=>[.v (.il l),.v (.int n)]) (λ n=>n<=l.length) (λ n=>val B (l.take n)=val B l) (λ _=>True) (λ n=>n) l.length rfl (Nat.le_refl _) (by rw [List.take_length]) trivial ?_
  intro Q n hQ hn hv _
  refine Br.mk (λ h1=>?_) (λ h1=>?_)
  . have p0:=pred_0 h1
    have p1:=pred_l hn
    have e1:=pred_at h1
    have hlt:=Nat.sub_lt (Int.ofNat_lt.mp h1) Nat.one_pos
    have hQ:=hQ (n - 1) hlt (Nat.le_trans (Nat.sub_le ..) hn)
    repeat' first | walk_at "z"
    . rename_i h2
      rw [e1] at h2
      rw [<- e1] at hQ
      exact hQ (by rw [<- hv,pred_up h1,val_take0 (Nat.lt_of_lt_of_le hlt hn) h2]; rfl) trivial
    . rename_i h2
      rw [e1] at h2
      exact K_eq (K:=K) hK (SV.row_eq hB (hd.take _) (nrm_take hn (.inr h2)) hv)
  . repeat' first | walk_at "z"
    exact K_eq (K:=K) hK (SV.row_eq hB (hd.take _) (nrm_take hn (.inl (Nat.eq_zero_of_not_pos λ h=>h1 (Int.ofNat_lt.mpr h)))) hv)
theorem row_len_succ {B n:Int} (hB:2<=B) (h:0 < n):(row B n).length=(row B (n / B)).length + 1:=by rw [row_pos h hB]; rfl
theorem band_mask1 (x:Int) (w:Nat):Builtin.bitAnd x (1 * 2 ^ w - 1)=x % 2 ^ w:=by rw [Int.one_mul,band_mask]
theorem sp_nat_of {G:Gd} (pg:PG G) {w:Nat} (hw:1<=w) (hw':w<=64) {x:Int} (hx:0<=x) (hx':x < 2 ^ 64) :
    Ca G 1 (fnv G "nat_of") [.int x,.int w] (·=.il (row (2 ^ w) x)):=by
  have hB:=two_le hw
  have lx:=len64 hB hx hx'
  refine Ca.of λ K hK=>vdef pg o_nat_of rfl ?_
  repeat' first | walk_at "z"
  . rename_i h; exact absurd hx (Int.not_le.mpr h)
  repeat' first | walk_at "z"
  intro ad
  repeat' first | walk_at "z"
  refine LpW.c2 (λ (y:Int) (f:List Int)=>[.v (.int y),.v (.int w),.own ad (.il f),.v (.int (1 * 2 ^ w - 1))]) (λ y _=>0<=y) (λ y f=>f ++ row (2 ^ w) y=row (2 ^ w) x) (λ _ _=>True) (λ _ _=>True) (λ y _=>(row (2 ^ w) y).length) x [] rfl hx rfl trivial trivial ?_
  intro Q y f hQ hy hf _ _
  have hlen:=congrArg List.length hf
  rw [List.length_append] at hlen
  have hl:f.length<=64:=Nat.le_trans (hlen ▸ Nat.le_add_right ..) lx
  repeat' first | walk_at "z"
  . rename_i h1
    rw [band_mask1]
    refine hQ _ _ ?_ (Int.ediv_nonneg hy (Int.le_of_lt (pw2_pos w))) ?_ trivial trivial
    . show _ < (row (2 ^ w) y).length
      rw [row_len_succ hB h1]; exact Nat.lt_succ_self _
    . rw [<- hf,row_pos h1 hB,List.append_assoc]; rfl
  . rename_i h1
    rw [row_nil (Int.not_lt.mp h1),List.append_nil] at hf
    exact K_eq (K:=K) hK (congrArg SV.il hf)
theorem even_mod {w:Nat} (hw:1<=w) (x:Int):x % 2 ^ w % 2=x % 2:=by
  obtain ⟨k,rfl⟩:=Nat.exists_eq_add_of_le hw
  rw [Int.pow_add,Int.pow_one]
  exact Int.emod_emod_of_dvd x ⟨2 ^ k,rfl⟩
theorem row_pos_of {B x:Int} (hx:0<=x) (h:(row B x).length≠0):0 < x:=by
  refine Int.lt_iff_le_and_ne.mpr ⟨hx,λ e=>h ?_⟩
  rw [<- e,row_zero]; rfl
theorem row_0_of {B x:Int} (hB:2<=B) (hx:0<=x) (h:(row B x).length=0):x=0:=(row_eq_nil hB hx).mp (List.length_eq_zero_iff.mp h)
theorem sp_is_even {G:Gd} (pg:PG G) {w:Nat} (hw:1<=w) {x:Int} (hx:0<=x) (hx':x < 2 ^ 64) :
    Ca G 1 (fnv G "is_even") [.il (row (2 ^ w) x)] (·=.bool (decide (x % 2=0))):=by
  have hB:=two_le hw
  have lx:=len64 hB hx hx'
  refine vdef pg o_is_even rfl ?_
  repeat' first | walk_at "z"
  . rename_i h
    rw [row_0_of hB hx (Int.ofNat_inj.mp (of_decide_eq_true h))]; rfl
  . rename_i h
    have hx0:=row_pos_of hx (λ e=>h (decide_eq_true (congrArg Int.ofNat e)))
    have:=Int.ofNat_lt.mpr (row_len_pos hB hx0)
    repeat' first | walk_at "z"
    show SV.bool _=_
    rw [ig_row0 hB hx0,bitAnd_m1,even_mod hw]
end N1
noncomputable section N2
theorem one_more {α:Type} {f:List α} {n:Nat} (c:α) (h:f.length=n):(f ++ [c]).length=n + 1:=by rw [List.length_append,h]; rfl
theorem carry_lt {B c p q:Int} (h:c < 2) (hp:p < B) (hq:q < B):c + (p + q) < 2 * B:=by omega
theorem carry_0 {c p q:Int} (h:0<=c) (hp:0<=p) (hq:0<=q):0<=c + (p + q):=by omega
theorem carry_turn {B:Int} (hB:2<=B) {f:List Int} {i:Nat} {c t v:Int} (hf:f.length=i) (hv:val B f + B ^ i * c=v):val B (f ++ [(c + t) % B]) + B ^ (i + 1) * ((c + t) / B)=v + B ^ i * t:=by
  rw [<- hf,carry_step hB,hf,Int.mul_add,<- Int.add_assoc,hv]
theorem carry_mask {w:Nat} (hB:(2:Int)<=2 ^ w) {f:List Int} {i:Nat} {c t v:Int} (hf:f.length=i) (hv:val (2 ^ w) f + (2 ^ w) ^ i * c=v):val (2 ^ w) (f ++ [Builtin.bitAnd (c + t) (1 * 2 ^ w - 1)]) + (2 ^ w) ^ (i + 1) * ((c + t) / 2 ^ w)=v + (2 ^ w) ^ i * t:=by
  rw [band_mask1,carry_turn hB hf hv]
theorem dg_mask {w:Nat} (hB:(2:Int)<=2 ^ w) {f:List Int} (h:Dg (2 ^ w) f) (t:Int):Dg (2 ^ w) (f ++ [Builtin.bitAnd t (1 * 2 ^ w - 1)]):=by rw [band_mask1]; exact dg_mod hB h t
theorem add_take {B:Int} {f g:List Int} {i:Nat} (h1:i < f.length) (h2:i < g.length):val B (f.take i) + val B (g.take i) + B ^ i * (ig f i + ig g i)=val B (f.take (i + 1)) + val B (g.take (i + 1)):=by
  rw [val_take_succ h1,val_take_succ h2,Int.mul_add]; ac_rfl
theorem add_take1 {B q:Int} {f:List Int} {n i:Nat} (h1:n + i < f.length):val B (f.take (n + i)) + q + B ^ (n + i) * ig f ((n + i:Nat):Int)=val B (f.take (n + (i + 1))) + q:=by
  rw [<- Nat.add_assoc,val_take_succ h1]; ac_rfl
theorem carry_end {B x v c:Int} (hB:2<=B) {f:List Int} {n:Nat} (hf:f.length=n) (hd:Dg B f) (h0:0 < c) (hc:c < B) (hv:val B f + B ^ n * c=v):SV.il (f ++ [c])=SV.il (row B v):=by
  refine SV.row_eq hB (Dg.append.mpr ⟨hd,Dg.cons.mpr ⟨⟨Int.le_of_lt h0,hc⟩,Dg.nil⟩⟩) (nrm_snoc (Int.ne_of_gt h0)) ?_
  rw [val_append,val_one,hf]; exact hv
theorem carry_none {B x v c:Int} (hB:2<=B) (hx:0<=x) {f:List Int} (hd:Dg B f) (hf:f.length=(row B x).length) (hc:0<=c) (h0:¬ 0 < c) (hv:val B f + B ^ (row B x).length * c=v) (hxv:x<=v):SV.il f=SV.il (row B v):=by
  obtain rfl:c=0:=Int.le_antisymm (Int.not_lt.mp h0) hc
  rw [Int.mul_zero,Int.add_zero] at hv
  exact SV.row_eq hB hd (nrm_len hB hx hd hf hv hxv) hv
theorem lt_2B {B:Int} (hB:2<=B) {c:Int} (h:c < 2):c < B:=Int.lt_of_lt_of_le h hB
theorem app_64 {f:List Int} {n:Nat} (h:f.length=n) (l:n<=64):f.length<=1000:=by rw [h]; exact Nat.le_trans l (Nat.le_of_ble_eq_true rfl)
theorem at_l {l i:Nat} (h:i < l):(i:Int) < l:=Int.ofNat_lt.mpr h
theorem div_2 {B t:Int} (hB:2<=B) (h0:0<=t) (h:t < 2 * B):0<=t / B/\t / B < 2:=⟨Int.ediv_nonneg h0 (Int.le_trans (by decide) hB),Int.ediv_lt_of_lt_mul (Int.lt_of_lt_of_le (by decide) hB) h⟩
theorem from_lt {a b i:Nat} (h:i < ((a:Int) - b).toNat):b + i < a:=by omega
theorem from_end {a b:Nat} (h:b<=a):b + ((a:Int) - b).toNat=a:=by omega
theorem nn_0 {a b:Nat}:(0:Int)<=(a:Int) + b:=Int.natCast_nonneg (a + b)
theorem nn_l {a b c:Nat} (h:a + b < c):(a:Int) + b < c:=Int.ofNat_lt.mpr h
theorem carry_lt1 {B c p:Int} (hB:2<=B) (h:c < 2) (hp:p < B):c + p < 2 * B:=by omega
theorem sp_add {G:Gd} (pg:PG G) {w:Nat} (hw:1<=w) (hw':w<=64) {x y:Int} (hx:0<=x) (hx':x < 2 ^ 64) (hy:0<=y) (hy':y < 2 ^ 64) :
    Ca G 1 (fnv G "add") [.il (row (2 ^ w) x),.il (row (2 ^ w) y),.int w] (·=.il (row (2 ^ w) (x + y))):=by
  have hB:=two_le hw
  have lx:=len64 hB hx hx'
  have ly:=len64 hB hy hy'
  refine Ca.of λ K hK=>vdef pg o_add rfl ?_
  refine Jm.c2 (.ss []) (λ p q:Int=>[.v (.il (row (2 ^ w) p)),.v (.il (row (2 ^ w) q)),.v (.int w),.un,.un,.un,.un]) (λ p q=>0<=p/\0<=q) (λ p _=>(row (2 ^ w) p).length<=64) (λ p q=>(row (2 ^ w) q).length<=(row (2 ^ w) p).length) (λ p q=>K (.il (row (2 ^ w) (p + q)))) ?_ ?_
  . intro Q hQ
    repeat' first | walk_at "z"
    . rename_i h
      exact hQ y x ⟨hy,hx⟩ ly (Nat.le_of_lt (Int.ofNat_lt.mp h)) (Int.add_comm x y ▸ hK)
    . rename_i h
      exact hQ x y ⟨hx,hy⟩ lx (Int.ofNat_le.mp (Int.not_lt.mp h)) hK
  clear hx hx' hy hy' lx ly hK
  intro p q hpq lp lq hK
  have lq':=Nat.le_trans lq lp
  have dp:=dg_row hB p
  have dq:=dg_row hB q
  have vp:=val_row hB p hpq.1
  have vq:=val_row hB q hpq.2
  have fin:=λ f c=>carry_none (f:=f) (c:=c) (v:=p + q) hB hpq.1
  generalize row (2 ^ w) p=fp at *
  generalize row (2 ^ w) q=fq at *
  repeat' first | walk_at "z"
  intro ad
  repeat' first | walk_at "z"
  refine LpF.c3 (λ i (f:List Int) (c:Int) (d:SC)=>[.v (.il fp),.v (.il fq),.v (.int w),.own ad (.il f),.v (.int c),.v (.int (1 * 2 ^ w - 1)),d])
    (λ i f c _=>f.length=i) (λ _ f _ _=>Dg (2 ^ w) f) (λ _ _ c _=>0<=c/\c < 2) (λ i f c _=>val (2 ^ w) f + (2 ^ w) ^ i * c=val (2 ^ w) (fp.take i) + val (2 ^ w) (fq.take i)) [] 0 .un rfl rfl Dg.nil ⟨Int.le_refl _,by decide⟩ rfl ?_ ?_
  . intro Q i f c d hQ hi hf hd hc hv
    have hi':=Nat.lt_of_lt_of_le hi lq
    have g1:=ig_dg dp hi'
    have g2:=ig_dg dq hi
    have hf6:=app_64 hf (Nat.le_trans (Nat.le_of_lt hi) lq')
    repeat' first | walk_at "z"
    exact hQ _ _ _ (one_more _ hf) (dg_mask hB hd _) (div_2 hB (carry_0 hc.1 g1.1 g2.1) (carry_lt hc.2 g1.2 g2.2)) ((carry_mask hB hf hv).trans (add_take hi' hi))
  . intro f c d hf hd hc hv
    rw [List.take_length,vq] at hv
    repeat' first | walk_at "z"
    refine LpF.c3 (λ i (f:List Int) (c:Int) (d:SC)=>[.v (.il fp),.v (.il fq),.v (.int w),.own ad (.il f),.v (.int c),.v (.int (1 * 2 ^ w - 1)),d])
      (λ i f c _=>f.length=fq.length + i) (λ _ f _ _=>Dg (2 ^ w) f) (λ _ _ c _=>0<=c/\c < 2) (λ i f c _=>val (2 ^ w) f + (2 ^ w) ^ (fq.length + i) * c=val (2 ^ w) (fp.take (fq.length + i)) + q) f c d rfl hf hd hc hv ?_ ?_
    . intro Q i f c d hQ hi hf hd hc hv
      have hi':=from_lt hi
      have g1:=ig_dg dp hi'
      have hf6:=app_64 hf (Nat.le_trans (Nat.le_of_lt hi') lp)
      have s1:=nn_l hi'
      have s0:(0:Int)<=_:=nn_0 (a:=fq.length) (b:=i)
      repeat' first | walk_at "z"
      exact hQ _ _ _ (one_more _ hf) (dg_mask hB hd _) (div_2 hB (Int.add_nonneg hc.1 g1.1) (carry_lt1 hB hc.2 g1.2)) ((carry_mask hB hf hv).trans (add_take1 hi'))
    . intro f c d hf hd hc hv
      rw [from_end lq] at hf hv
      rw [List.take_length,vp] at hv
      have hf6:=app_64 hf lp
      repeat' first | walk_at "z"
      . rename_i h
        exact K_eq (K:=K) hK (carry_end (x:=p) hB hf hd h (lt_2B hB hc.2) hv)
      . rename_i h
        exact K_eq (K:=K) hK (fin _ _ hd hf hc.1 h hv (Int.le_add_of_nonneg_right hpq.2))
end N2
noncomputable section N3
noncomputable def gd (l:List Int) (i:Nat):Int:=if i < l.length then ig l (i:Int) else 0
theorem gd_in {l:List Int} {i:Nat} (h:(i:Int) < l.length):gd l i=ig l (i:Int):=if_pos (Int.ofNat_lt.mp h)
theorem gd_out {l:List Int} {i:Nat} (h:¬ (i:Int) < l.length):gd l i=0:=if_neg λ z=>h (Int.ofNat_lt.mpr z)
theorem val_take_gd {B:Int} {l:List Int} (i:Nat):val B (l.take (i + 1))=val B (l.take i) + B ^ i * gd l i:=by
  unfold gd
  split
  . rw [val_take_succ (by assumption)]
  . rw [List.take_of_length_le (by omega),List.take_of_length_le (by omega),Int.mul_zero,Int.add_zero]
theorem gd_dg {B:Int} (hB:2<=B) {l:List Int} (h:Dg B l) (i:Nat):0<=gd l i/\gd l i < B:=by
  unfold gd; split
  . exact ig_dg h (by assumption)
  . omega
theorem sub_turn {B c t:Int} {f:List Int} {i:Nat} {l r:List Int} (e:t=ig l i - c - gd r i) (hi:i < l.length) (hf:f.length=i) (hv:val B f=val B (l.take i) - val B (r.take i) + B ^ i * c) :
    val B (f ++ [if t < 0 then t + B else t])=val B (l.take (i + 1)) - val B (r.take (i + 1)) + B ^ (i + 1) * (if t < 0 then 1 else 0):=by
  rw [val_append,val_one,val_take_gd,val_take_gd,hf,hv,Int.pow_succ]
  have e1:gd l i=ig l i:=gd_in (Int.ofNat_lt.mpr hi)
  rw [e1,show ig l (i:Int)=t + c + gd r i by omega]
  split
  . rw [Int.mul_add,Int.mul_add,Int.mul_add]; omega
  . rw [Int.mul_add,Int.mul_add]; omega
theorem sub_dg {B c p q t:Int} {f:List Int} (e:t=p - c - q) (hd:Dg B f) (hc:0<=c/\c < 2) (hp:0<=p/\p < B) (hq:0<=q/\q < B):Dg B (f ++ [if t < 0 then t + B else t]) :=
  Dg.append.mpr ⟨hd,Dg.cons.mpr ⟨by split <;> omega,Dg.nil⟩⟩
theorem bw_2 {t:Int}:(0:Int)<=(if t < 0 then 1 else 0)/\(if t < 0 then 1 else 0:Int) < 2:=by split <;> decide
theorem sub_end {B x y c:Int} (hB:2<=B) {f:List Int} {n:Nat} (hd:Dg B f) (hf:f.length=n) (hc:0<=c/\c < 2) (hxy:y<=x) (hv:val B f=x - y + B ^ n * c):val B f=x - y:=by
  have v1:=val_lt hB hd
  rw [hf] at v1
  have hc0:c=0:=by
    have:c=0\/c=1:=by omega
    rcases this with h | h
    . exact h
    . rw [h,Int.mul_one] at hv; omega
  rw [hv,hc0,Int.mul_zero,Int.add_zero]
theorem not_lt_m {x y:Int} (h:y<=x):¬ (if x < y then -1 else if x=y then 0 else 1:Int) < 0:=by
  rw [if_neg (Int.not_lt.mpr h)]; split <;> decide
theorem sp_sub {G:Gd} (pg:PG G) {w:Nat} (hw:1<=w) (hw':w<=64) {x y:Int} (hx:0<=x) (hx':x < 2 ^ 64) (hy:0<=y) (hxy:y<=x) :
    Ca G 2 (fnv G "sub") [.il (row (2 ^ w) x),.il (row (2 ^ w) y),.int w] (·=.il (row (2 ^ w) (x - y))):=by
  have hB:=two_le hw
  have hy':=Int.lt_of_le_of_lt hxy hx'
  have lx:=len64 hB hx hx'
  have ly:=len64 hB hy hy'
  have hl:=row_lt_len hB hy hx hxy
  have cm:=sp_compare pg hB hx hy hx' hy'
  have dx:=dg_row hB x
  have dy:=dg_row hB y
  have vx:=val_row hB x hx
  have vy:=val_row hB y hy
  refine Ca.of λ K hK=>vdef pg o_sub rfl ?_
  refine Jm.c0 (.ss []) [.v (.il (row (2 ^ w) x)),.v (.il (row (2 ^ w) y)),.v (.int w),.un,.un,.un,.un,.un] True ?_ ?_
  . intro Q hQ
    refine Ca.eq cm rfl ?_
    repeat' first | walk_at "z"
    . rename_i h; exact absurd h (not_lt_m hxy)
    . exact hQ trivial
  intro _
  clear cm hx' hy' hx hy
  generalize row (2 ^ w) x=fx at *
  generalize row (2 ^ w) y=fy at *
  repeat' first | walk_at "z"
  intro ad
  repeat' first | walk_at "z"
  refine LpF.c4 (λ i (f:List Int) (c:Int) (d d2:SC)=>[.v (.il fx),.v (.il fy),.v (.int w),.own ad (.il f),.v (.int c),.v (.int (1 * 2 ^ w)),d,d2])
    (λ i f _ _ _=>f.length=i) (λ _ f _ _ _=>Dg (2 ^ w) f) (λ _ _ c _ _=>0<=c/\c < 2) (λ i f c _ _=>val (2 ^ w) f=val (2 ^ w) (fx.take i) - val (2 ^ w) (fy.take i) + (2 ^ w) ^ i * c) (λ _ _ _ _ _=>True) [] 0 .un .un rfl rfl Dg.nil ⟨Int.le_refl _,by decide⟩ rfl trivial ?_ ?_
  . intro Q i f c d d2 hQ hi hf hd hc hv _
    have g1:=ig_dg dx hi
    have g2:=gd_dg hB dy i
    have hf6:=app_64 hf (Nat.le_trans (Nat.le_of_lt hi) lx)
    have hil:=at_l hi
    have e1:=Int.one_mul ((2:Int) ^ w)
    repeat' first | walk_at "z"
    refine Jn.c0 (.ss []) (.int (gd fy i)) ?_ ?_
    . intro Q hQ
      repeat' first | walk_at "z"
      . rename_i h; exact gd_in h ▸ hQ
      . rename_i h; exact gd_out h ▸ hQ
    repeat' first | walk_at "z"
    have hdg:=λ t (e:t=_)=>sub_dg e hd hc g1 g2
    have hvl:=λ t (e:t=_)=>sub_turn e hi hf hv
    refine Jn.ite (.ss []) 1 0 (λ Q h1 h2=>Br.mk h1 h2) ?_
    refine Jn.ite (.ss []) (_ + 2 ^ w) _ (λ Q h1 h2=>Br.mk (λ h=>e1.symm ▸ h1 h) h2) ?_
    repeat' first | walk_at "z"
    exact hQ _ _ _ _ (one_more _ hf) (hdg _ rfl) bw_2 (hvl _ rfl) trivial
  . intro f c d d2 hf hd hc hv _
    rw [List.take_length,List.take_of_length_le hl,vx,vy] at hv
    have hf6:=app_64 hf lx
    have hv:=sub_end hB hd hf hc hxy hv
    repeat' first | walk_at "z" | refine Ca.eq (by apply sp_normal pg <;> walk_at "zs") (by exact rfl) ?_
    exact hv.symm ▸ hK
end N3
noncomputable section N4
theorem row_one {B d:Int} (hB:2<=B) (h0:0 < d) (h1:d < B):row B d=[d]:=by
  rw [row_pos h0 hB,Int.emod_eq_of_lt (Int.le_of_lt h0) h1,Int.ediv_eq_zero_of_lt (Int.le_of_lt h0) h1,row_zero]
theorem add_take' {B y:Int} {f:List Int} {i:Nat} (h1:i < f.length):val B (f.take i) + y + B ^ i * ig f i=val B (f.take (i + 1)) + y:=by
  rw [val_take_succ h1]; ac_rfl
theorem carry_b {B c p:Int} (hB:2<=B) (h0:0<=c/\c < B) (hp:0<=p/\p < B):0<=(c + p) / B/\(c + p) / B < B:=by
  refine ⟨Int.ediv_nonneg (by omega) (by omega),?_⟩
  have:(c + p) / B < 2:=Int.ediv_lt_of_lt_mul (by omega) (by omega)
  omega
theorem sp_add_limb {G:Gd} (pg:PG G) {w:Nat} (hw:1<=w) (hw':w<=64) {x y:Int} (hx:0<=x) (hx':x < 2 ^ 64) (hy:0<=y) (hy':y < 2 ^ w) :
    Ca G 1 (fnv G "add_limb") [.il (row (2 ^ w) x),.int y,.int w] (·=.il (row (2 ^ w) (x + y))):=by
  have hB:=two_le hw
  have lx:=len64 hB hx hx'
  have dx:=dg_row hB x
  have vx:=val_row hB x hx
  refine Ca.of λ K hK=>vdef pg o_add_limb rfl ?_
  have fin:=λ f c=>carry_none (f:=f) (c:=c) (v:=x + y) hB hx
  generalize row (2 ^ w) x=fx at *
  repeat' first | walk_at "z"
  intro ad
  repeat' first | walk_at "z"
  refine LpF.c3 (λ i (f:List Int) (c:Int) (d:SC)=>[.v (.il fx),.v (.int c),.v (.int w),.own ad (.il f),.v (.int (1 * 2 ^ w - 1)),d])
    (λ i f _ _=>f.length=i) (λ _ f _ _=>Dg (2 ^ w) f) (λ _ _ c _=>0<=c/\c < 2 ^ w) (λ i f c _=>val (2 ^ w) f + (2 ^ w) ^ i * c=val (2 ^ w) (fx.take i) + y) [] y .un rfl rfl Dg.nil ⟨hy,hy'⟩ ?_ ?_ ?_
  . show 0 + (2 ^ w) ^ 0 * y=0 + y
    rw [Int.pow_zero,Int.one_mul]
  . intro Q i f c d hQ hi hf hd hc hv
    have g1:=ig_dg dx hi
    have hf6:=app_64 hf (Nat.le_trans (Nat.le_of_lt hi) lx)
    repeat' first | walk_at "z"
    exact hQ _ _ _ (one_more _ hf) (dg_mask hB hd _) (carry_b hB hc g1) ((carry_mask hB hf hv).trans (add_take' hi))
  . intro f c d hf hd hc hv
    rw [List.take_length,vx] at hv
    have hf6:=app_64 hf lx
    repeat' first | walk_at "z"
    . rename_i h
      exact K_eq (K:=K) hK (carry_end (x:=x) hB hf hd h hc.2 hv)
    . rename_i h
      exact K_eq (K:=K) hK (fin _ _ hd hf hc.1 h hv (Int.le_add_of_nonneg_right hy))
theorem sp_sub_limb {G:Gd} (pg:PG G) {w:Nat} (hw:1<=w) (hw':w<=64) {x y:Int} (hx:0<=x) (hx':x < 2 ^ 64) (hy:0<=y) (hy':y < 2 ^ w) (hxy:y<=x) :
    Ca G 3 (fnv G "sub_limb") [.il (row (2 ^ w) x),.int y,.int w] (·=.il (row (2 ^ w) (x - y))):=by
  have hB:=two_le hw
  refine Ca.of λ K hK=>vdef pg o_sub_limb rfl ?_
  refine Jn.c0 (.ss []) (.il (row (2 ^ w) y)) ?_ ?_
  . intro Q hQ
    refine Br.mk (λ h=>?_) (λ h=>?_)
    . rw [row_one hB h hy'] at hQ; repeat' first | walk_at "z"; exact hQ
    . rw [row_nil (Int.not_lt.mp h)] at hQ; repeat' first | walk_at "z"; exact hQ
  exact Ca.eq (sp_sub pg hw hw' hx hx' hy hxy) rfl hK
theorem sp_lifted {G:Gd} (pg:PG G) {B:Int} (hB:2<=B) {x:Int} (hx:0<=x) (hx':x < 2 ^ 64) {n:Nat} (hn:n<=1000) :
    Ca G 1 (fnv G "lifted") [.il (row B x),.int n] (·=.il (row B (x * B ^ n))):=by
  have lx:=len64 hB hx hx'
  refine Ca.of λ K hK=>vdef pg o_lifted rfl ?_
  repeat' first | walk_at "Z"
  . rename_i h
    have h0:=row_pos_of hx (Int.ne_of_gt h ∘ congrArg Int.ofNat)
    have hs:(List.replicate (n:Int).toNat (0:Int)).length + (row B x).length<=10000:=by rw [List.length_replicate,Int.toNat_natCast]; omega
    have hn':(n:Int)<=10000:=Int.ofNat_le.mpr (zs_nat hn rfl)
    repeat' first | walk_at "z"
    exact K_eq (K:=K) hK (by rw [Int.toNat_natCast,row_shift hB h0])
  . rename_i h
    have h0:=row_0_of hB hx (Nat.eq_zero_of_not_pos λ z=>h (Int.ofNat_lt.mpr z))
    repeat' first | walk_at "z"
    exact K_eq (K:=K) hK (by rw [h0,Int.zero_mul,row_zero]; rfl)
theorem pow_split (w n:Nat):(2:Int) ^ n=2 ^ (n % w) * (2 ^ w) ^ (n / w):=by
  rw [<- Int.pow_mul,<- Int.pow_add,Nat.mod_add_div]
theorem bor_lt {c g:Int} {r w:Nat} (hc:0<=c/\c < 2 ^ r) (hg:0<=g/\g < 2 ^ w):0<=c + g * 2 ^ r/\c + g * 2 ^ r < 2 ^ r * 2 ^ w:=by
  refine ⟨Int.add_nonneg hc.1 (Int.mul_nonneg hg.1 (Int.le_of_lt (pw2_pos _))),?_⟩
  have:(g + 1) * 2 ^ r<=2 ^ w * 2 ^ r:=Int.mul_le_mul_of_nonneg_right (by omega) (Int.le_of_lt (pw2_pos _))
  rw [Int.add_mul,Int.one_mul] at this
  rw [Int.mul_comm (2 ^ r)]; omega
theorem shl_c {c g:Int} {r w:Nat} (hc:0<=c/\c < 2 ^ r) (hg:0<=g/\g < 2 ^ w):0<=Builtin.bitOr c (g * 2 ^ r) / 2 ^ w/\Builtin.bitOr c (g * 2 ^ r) / 2 ^ w < 2 ^ r:=by
  rw [bor_add hc.1 hc.2 hg.1]
  obtain ⟨a,b⟩:=bor_lt hc hg
  exact ⟨Int.ediv_nonneg a (Int.le_of_lt (pw2_pos w)),Int.ediv_lt_of_lt_mul (pw2_pos w) b⟩
theorem shl_v {c:Int} {r w i:Nat} {f l:List Int} (hB:(2:Int)<=2 ^ w) (hc:0<=c/\c < 2 ^ r) (hi:i < l.length) (hg:0<=ig l i/\ig l i < 2 ^ w) (hf:f.length=i) (hv:val (2 ^ w) f + (2 ^ w) ^ i * c=val (2 ^ w) (l.take i) * 2 ^ r) :
    val (2 ^ w) (f ++ [Builtin.bitAnd (Builtin.bitOr c (ig l i * 2 ^ r)) (1 * 2 ^ w - 1)]) + (2 ^ w) ^ (i + 1) * (Builtin.bitOr c (ig l i * 2 ^ r) / 2 ^ w)=val (2 ^ w) (l.take (i + 1)) * 2 ^ r:=by
  rw [bor_add hc.1 hc.2 hg.1,carry_mask hB hf hv,val_take_succ hi,Int.add_mul,Int.mul_assoc]
theorem digit_64 {g:Int} {w:Nat} (hw:w<=60) (hg:0<=g/\g < 2 ^ w):g.natAbs < 2 ^ 64:=by
  have:(2:Int) ^ w<=2 ^ 60:=pow_mono (by omega) hw
  omega
theorem rep_app {z:Nat} {f:List Int} (h:z<=500) (hf:f.length<=64):(List.replicate z (0:Int) ++ f).length<=1000:=by rw [List.length_append,List.length_replicate]; omega
theorem sp_shift_left {G:Gd} (pg:PG G) {w:Nat} (hw:1<=w) (hw':w<=60) {x:Int} (hx:0<=x) (hx':x < 2 ^ 64) {n:Nat} (hn:n<=500) :
    Ca G 1 (fnv G "shift_left") [.il (row (2 ^ w) x),.int n,.int w] (·=.il (row (2 ^ w) (x * 2 ^ n))):=by
  have hB:=two_le hw
  have lx:=len64 hB hx hx'
  have hq:n / w<=500:=Nat.le_trans (Nat.div_le_self ..) hn
  have hr:n % w < w:=Nat.mod_lt _ hw
  have ps:=pow_split w n
  have hwp:(0:Int) < w:=Int.ofNat_lt.mpr hw
  have smw:=Sm.nat hw' rfl
  refine Ca.of λ K hK=>vdef pg o_shift_left rfl ?_
  refine Jm.c0 (.ss []) (en0 [.il (row (2 ^ w) x),.int n,.int w] ["spots","few","found","carry","mask","one"]) (0 < x) ?_ ?_
  . intro Q hQ
    repeat' first | walk_at "z"
    . rename_i h
      exact K_eq (K:=K) hK (by rw [row_0_of hB hx (Int.ofNat_inj.mp h),Int.zero_mul,row_zero]; rfl)
    . rename_i h
      exact hQ (row_pos_of hx λ e=>h (congrArg Int.ofNat e))
  intro hx0
  refine And.intro hwp (And.intro smw (And.intro hwp ?_))
  have dx:=dg_row hB x
  have vx:=val_row hB x hx
  have hz:∀ g:List Int,Dg (2 ^ w) g->Nrm g->val (2 ^ w) g=x * 2 ^ (n % w)->SV.il (List.replicate (n / w) 0 ++ g)=.il (row (2 ^ w) (x * 2 ^ n)):=λ g h1 h2 h3=>by
    have hpos:0 < x * 2 ^ (n % w):=Int.mul_pos hx0 (pw2_pos _)
    rw [row_eq hB h1 h2 h3,row_shift hB hpos,ps,Int.mul_assoc]
  have hnl:∀ f,Dg (2 ^ w) f->f.length=(row (2 ^ w) x).length->val (2 ^ w) f=x * 2 ^ (n % w)->Nrm f:=λ f hd hl hv=>nrm_len hB hx hd hl hv (by
    have:=Int.mul_le_mul_of_nonneg_left (show (1:Int)<=2 ^ (n % w) from pw2_pos (n % w)) hx
    rwa [Int.mul_one] at this)
  generalize row (2 ^ w) x=fx at *
  have s0:(0:Int)<=(n:Int) / (w:Int):=Int.natCast_nonneg (n / w)
  have s1:(n:Int) / (w:Int)<=10000:=Int.ofNat_le.mpr (zs_nat hq rfl)
  repeat' first | walk_at "z"
  intro ad
  repeat' first | walk_at "z"
  refine LpF.c3 (λ i (f:List Int) (c:Int) (d:SC)=>[.v (.il fx),.v (.int n),.v (.int w),.v (.int ((n / w:Nat):Int)),.v (.int ((n % w:Nat):Int)),.own ad (.il (List.replicate (n / w) 0 ++ f)),.v (.int c),.v (.int (1 * 2 ^ w - 1)),d])
    (λ i f _ _=>f.length=i) (λ _ f _ _=>Dg (2 ^ w) f) (λ _ _ c _=>0<=c/\c < 2 ^ (n % w)) (λ i f c _=>val (2 ^ w) f + (2 ^ w) ^ i * c=val (2 ^ w) (fx.take i) * 2 ^ (n % w)) [] 0 .un ?_ rfl Dg.nil ⟨Int.le_refl _,pw2_pos _⟩ ?_ ?_ ?_
  . rw [List.append_nil]; rfl
  . show 0 + (2 ^ w) ^ 0 * 0=0 * _
    rw [Int.mul_zero,Int.zero_mul]; rfl
  . intro Q i f c d hQ hi hf hd hc hv
    have g1:=ig_dg dx hi
    have hf6:=rep_app hq (hf ▸ Nat.le_trans (Nat.le_of_lt hi) lx:f.length<=64)
    have g3:=digit_64 hw' g1
    have hr':n % w<=100000:=Nat.le_trans (Nat.le_of_lt hr) (Nat.le_trans hw' (Nat.le_of_ble_eq_true rfl))
    repeat' first | walk_at "z"
    have hQ:=hQ (f ++ [Builtin.bitAnd (Builtin.bitOr c (ig fx i * 2 ^ (n % w))) (1 * 2 ^ w - 1)]) _ (.v (.int (ig fx i))) (one_more _ hf) (dg_mask hB hd _) (shl_c hc g1) (shl_v hB hc hi g1 hf hv)
    rw [<- List.append_assoc] at hQ
    exact hQ
  . intro f c d hf hd hc hv
    rw [List.take_length,vx] at hv
    have hf6:=rep_app hq (hf ▸ lx:f.length<=64)
    have hcB:c < 2 ^ w:=Int.lt_of_lt_of_le hc.2 (pow_mono (by decide) (Nat.le_of_lt hr))
    repeat' first | walk_at "z"
    . rename_i h
      refine K_eq (K:=K) hK ((congrArg SV.il (List.append_assoc ..)).trans (hz _ (Dg.append.mpr ⟨hd,Dg.cons.mpr ⟨⟨hc.1,hcB⟩,Dg.nil⟩⟩) (nrm_snoc (Int.ne_of_gt h)) (by rw [val_append,val_one,hf]; exact hv)))
    . rename_i h
      obtain rfl:c=0:=Int.le_antisymm (Int.not_lt.mp h) hc.1
      rw [Int.mul_zero,Int.add_zero] at hv
      exact K_eq (K:=K) hK (hz _ hd (hnl f hd hf hv) hv)
end N4
noncomputable section N5
theorem shr_dig {w r:Nat} (hr:r < w) {q:Int} (hq:0<=q):(q % 2 ^ w / 2 ^ r + q / 2 ^ w % 2 ^ w * 2 ^ (w - r)) % 2 ^ w=q / 2 ^ r % 2 ^ w:=by
  have e0:(2:Int) ^ w=2 ^ r * 2 ^ (w - r):=by rw [<- Int.pow_add]; congr 1; omega
  have p1:=pw2_pos r
  have p2:=pw2_pos (w - r)
  have p3:=pw2_pos w
  have e1:=Int.emod_add_mul_ediv q (2 ^ w)
  have e2:=Int.emod_add_mul_ediv (q / 2 ^ w) (2 ^ w)
  have e3:q / 2 ^ r=q % 2 ^ w / 2 ^ r + 2 ^ (w - r) * (q / 2 ^ w):=by
    conv=>lhs; rw [<- e1,e0,Int.mul_assoc,Int.add_mul_ediv_left _ _ (by omega),<- e0]
  rw [e3]
  conv=>rhs; rw [<- e2,Int.mul_add,<- Int.mul_assoc (2 ^ (w - r)),Int.mul_comm (2 ^ (w - r)) (2 ^ w),Int.mul_assoc,<- Int.add_assoc,Int.add_mul_emod_self_left]
  rw [Int.mul_comm (2 ^ (w - r))]
theorem mod_bit {w r:Nat} (hr:r < w) (q:Int):q % 2 ^ w / 2 ^ r % 2=q / 2 ^ r % 2:=by
  have e1:=Int.emod_add_mul_ediv q (2 ^ w)
  have e0:(2:Int) ^ w=2 ^ r * (2 * 2 ^ (w - r - 1)):=by
    rw [Int.mul_comm 2,<- Int.pow_succ,<- Int.pow_add]; congr 1; omega
  have p1:=pw2_pos r
  conv=>rhs; rw [<- e1,e0,Int.mul_assoc,Int.add_mul_ediv_left _ _ (by omega),<- e0,Int.mul_assoc 2,Int.add_mul_emod_self_left]
noncomputable def bl (x:Int):Nat:=Builtin.Int.intBits x
theorem bl_iff {x:Int} (h:0 < x) {m:Nat}:bl x=m + 1 ↔ 2 ^ m<=x/\x < 2 ^ (m + 1):=by
  have h1:=intBits_le_iff (m:=m) (x:=x)
  have h2:=intBits_le_iff (m:=m + 1) (x:=x)
  have e:(x.natAbs:Int)=x:=by omega
  have c1:x.natAbs < 2 ^ m ↔ x < 2 ^ m:=by rw [pw2]; omega
  have c2:x.natAbs < 2 ^ (m + 1) ↔ x < 2 ^ (m + 1):=by rw [pw2]; omega
  rw [c1] at h1; rw [c2] at h2
  unfold bl
  constructor
  . intro q; exact ⟨by rw [q] at h1; omega,h2.mp (by omega)⟩
  . rintro ⟨a,b⟩
    have:=h2.mpr b
    have:¬ Builtin.Int.intBits x<=m:=λ q=>by have:=h1.mp q; omega
    omega
theorem bl_pos {x:Int} (h:0 < x):1<=bl x:=by
  have h1:=intBits_le_iff (m:=0) (x:=x)
  have:¬ x.natAbs < 2 ^ 0:=by simp; omega
  unfold bl
  omega
noncomputable def tzd (d:Int):Nat:=Builtin.Int.intBits (Builtin.bitAnd d (-d)) - 1
theorem tz512:∀ d:Nat,d < 512->0 < d->(d % 2 ^ tzd d=0/\d / 2 ^ tzd d % 2=1/\Builtin.Int.intBits (Builtin.bitAnd d (-(d:Int)))=tzd d + 1):=by
  have h:(List.range 512).all (λ d=>decide (d=0) || (decide (d % 2 ^ tzd d=0) && decide (d / 2 ^ tzd d % 2=1) && decide (Builtin.Int.intBits (Builtin.bitAnd d (-(d:Int)))=tzd d + 1)))=true:=by decide +kernel
  intro d hd h0
  have:=List.all_eq_true.mp h d (List.mem_range.mpr hd)
  simp only [Bool.or_eq_true,Bool.and_eq_true,decide_eq_true_eq] at this
  rcases this with q | q
  . omega
  . exact ⟨q.1.1,q.1.2,q.2⟩
noncomputable def Tz (x:Int) (t:Nat):Prop:=x % 2 ^ t=0/\x / 2 ^ t % 2=1
theorem Tz.lt {x:Int} {t m:Nat} (h:Tz x t) (hx:0 < x) (hm:x < 2 ^ m):t < m:=by
  rcases Nat.lt_or_ge t m with q | q
  . exact q
  . have:x / 2 ^ t=0:=Int.ediv_eq_zero_of_lt (by omega) (Int.lt_of_lt_of_le hm (pow_mono (by omega) q))
    have h2:=h.2
    rw [this] at h2
    simp at h2
theorem inv_alg {d f u u' v v' W:Int} (z1:v=f * u - W * v') (z2:u=2 - d * f - W * u'):d * v - 1=-((d * f - 1) * (d * f - 1)) - W * (d * v' + d * f * u'):=by grind
theorem ex_nat {w r:Nat} (h:r < w):(w:Int) - (r:Int)=((w - r:Nat):Int):=by omega
theorem gd_row {w s:Nat} (hB:(2:Int)<=2 ^ w) {x:Int} (hx:0<=x):gd (row (2 ^ w) x) (s + 1)=x / (2 ^ w) ^ s / 2 ^ w % 2 ^ w:=by
  rw [Int.ediv_ediv_of_nonneg (Int.le_of_lt (pow_pos' hB _)),<- Int.pow_succ]
  unfold gd
  split
  . exact ig_row hB _ x hx (by assumption)
  . have:row (2 ^ w) (x / (2 ^ w) ^ (s + 1))=[]:=by rw [<- row_drop hB _ x hx,List.drop_of_length_le (by omega)]
    rw [row_eq_nil hB (Int.ediv_nonneg hx (Int.le_of_lt (pow_pos' hB _)))] at this
    rw [this]; rfl
theorem shr_val {w n i:Nat} (hB:(2:Int)<=2 ^ w) (hr:n % w < w) {x:Int} (hx:0<=x) (hi:n / w + i < (row (2 ^ w) x).length) :
    Builtin.bitAnd (Builtin.bitOr (ig (row (2 ^ w) x) ((n / w + i:Nat):Int) / 2 ^ (n % w)) (gd (row (2 ^ w) x) (n / w + i + 1) * 2 ^ (w - n % w))) (1 * 2 ^ w - 1)=x / 2 ^ n / (2 ^ w) ^ i % 2 ^ w:=by
  have ps:=pow_split w n
  have g1:=ig_dg (dg_row hB x) hi
  have g2:=gd_dg hB (dg_row hB x) (n / w + i + 1)
  have l1:ig (row (2 ^ w) x) ((n / w + i:Nat):Int) / 2 ^ (n % w) < 2 ^ (w - n % w):=Int.ediv_lt_of_lt_mul (pw2_pos _) (by rw [<- Int.pow_add,Nat.sub_add_cancel (Nat.le_of_lt hr)]; exact g1.2)
  have hq0:0<=x / (2 ^ w) ^ (n / w + i):=Int.ediv_nonneg hx (Int.le_of_lt (pow_pos' hB _))
  have e3:x / (2 ^ w) ^ (n / w + i) / 2 ^ (n % w)=x / 2 ^ n / (2 ^ w) ^ i:=by
    rw [Int.ediv_ediv_of_nonneg (Int.le_of_lt (pow_pos' hB _)),Int.ediv_ediv_of_nonneg (Int.le_of_lt (pw2_pos n)),ps,Int.pow_add]
    congr 1
    rw [Int.mul_comm,<- Int.mul_assoc]
  rw [band_mask1,bor_add (Int.ediv_nonneg g1.1 (Int.le_of_lt (pw2_pos _))) l1 g2.1,ig_row hB _ x hx hi,gd_row hB hx,shr_dig hr hq0,e3]
theorem shr_snoc {B x:Int} (hB:2<=B) {f:List Int} {i:Nat} (hf:f.length=i) (hv:val B f=x % B ^ i):val B (f ++ [x / B ^ i % B])=x % B ^ (i + 1):=by
  rw [val_append,val_one,hf,hv,Int.pow_succ,emod_mul' (pow_pos' hB i) (Int.lt_of_lt_of_le (by decide) hB)]
theorem shr_end {w n:Nat} (hB:(2:Int)<=2 ^ w) {x:Int} (hx:0<=x):x / 2 ^ n % (2 ^ w) ^ (((row (2 ^ w) x).length:Int) - ((n / w:Nat):Int)).toNat=x / 2 ^ n:=by
  have hz0:0<=x / 2 ^ n:=Int.ediv_nonneg hx (Int.le_of_lt (pw2_pos n))
  refine Int.emod_eq_of_lt hz0 (Int.ediv_lt_of_lt_mul (pw2_pos n) ?_)
  have h1:=val_lt hB (dg_row hB x)
  rw [val_row hB x hx] at h1
  rw [pow_split w n]
  generalize n / w=s at *
  generalize n % w=r at *
  have h2:(2 ^ w:Int) ^ (row (2 ^ w) x).length<=(2 ^ w) ^ (s + (((row (2 ^ w) x).length:Int) - s).toNat):=pow_mono hB (by omega)
  rw [Int.pow_add] at h2
  have h3:(1:Int)<=2 ^ r:=pw2_pos r
  have h4:=Int.mul_le_mul_of_nonneg_left h3 (show (0:Int)<=(2 ^ w) ^ (((row (2 ^ w) x).length:Int) - s).toNat * (2 ^ w) ^ s from Int.mul_nonneg (Int.le_of_lt (pow_pos' hB _)) (Int.le_of_lt (pow_pos' hB _)))
  rw [Int.mul_one,Int.mul_assoc,Int.mul_comm ((2 ^ w) ^ s) (2 ^ r)] at h4
  rw [Int.mul_comm] at h2
  exact Int.lt_of_lt_of_le (Int.lt_of_lt_of_le h1 h2) h4
theorem sp_shift_right {G:Gd} (pg:PG G) {w:Nat} (hw:1<=w) (hw':w<=60) {x:Int} (hx:0<=x) (hx':x < 2 ^ 64) {n:Nat} (hn:n<=500) :
    Ca G 2 (fnv G "shift_right") [.il (row (2 ^ w) x),.int n,.int w] (·=.il (row (2 ^ w) (x / 2 ^ n))):=by
  have hB:=two_le hw
  have lx:=len64 hB hx hx'
  have hq:n / w<=500:=Nat.le_trans (Nat.div_le_self ..) hn
  have hr:n % w < w:=Nat.mod_lt _ hw
  have hwp:(0:Int) < w:=Int.ofNat_lt.mpr hw
  have smw:=Sm.nat hw' rfl
  have dx:=dg_row hB x
  have sv:=λ i=>shr_val (n:=n) (i:=i) hB hr hx
  have se:=shr_end (n:=n) hB hx
  refine Ca.of λ K hK=>vdef pg o_shift_right rfl ?_
  generalize row (2 ^ w) x=fx at *
  have s0:(0:Int)<=(n:Int) / (w:Int):=Int.natCast_nonneg (n / w)
  have s1:(n:Int) / (w:Int) < 2 ^ 62:=zs_62 hq rfl
  repeat' first | walk_at "z"
  intro ad
  repeat' first | walk_at "z"
  refine LpF.c3 (λ i (f:List Int) (d d2:SC)=>[.v (.il fx),.v (.int n),.v (.int w),.v (.int ((n / w:Nat):Int)),.v (.int ((n % w:Nat):Int)),.own ad (.il f),.v (.int (1 * 2 ^ w - 1)),d,d2])
    (λ i f _ _=>f.length=i) (λ _ f _ _=>Dg (2 ^ w) f) (λ i f _ _=>val (2 ^ w) f=x / 2 ^ n % (2 ^ w) ^ i) (λ _ _ _ _=>True) [] .un .un rfl rfl Dg.nil ?_ trivial ?_ ?_
  . rw [Int.pow_zero,Int.emod_one]; rfl
  . intro Q i f d d2 hQ hi hf hd hv _
    have hi':=from_lt hi
    have g1:=ig_dg dx hi'
    have g2:=gd_dg hB dx (n / w + i + 1)
    have hf6:=app_64 hf (Nat.le_trans (Nat.le_trans (Nat.le_add_left i (n / w)) (Nat.le_of_lt hi')) lx)
    have g3:=digit_64 hw' g2
    have s1':=nn_l hi'
    have s0':(0:Int)<=_:=nn_0 (a:=n / w) (b:=i)
    have s2:(0:Int)<=_:=nn_0 (a:=n / w + i) (b:=1)
    have hd':=dg_mod hB hd (x / 2 ^ n / (2 ^ w) ^ i)
    have hv':=shr_snoc hB hf hv
    have er:=ex_nat hr
    have hr':w - n % w<=100000:=Nat.le_trans (Nat.sub_le ..) (Nat.le_trans hw' (Nat.le_of_ble_eq_true rfl))
    have hQ:=hQ (f ++ [x / 2 ^ n / (2 ^ w) ^ i % 2 ^ w]) (.v (.int (n / w + i:Nat))) (.v (.int (gd fx (n / w + i + 1)))) (one_more _ hf) hd' hv' trivial
    rw [<- sv i hi'] at hQ
    repeat' first | walk_at "z"
    refine Jn.c0 (.ss []) (.int (gd fx (n / w + i + 1))) ?_ ?_
    . intro Q hQ
      repeat' first | walk_at "z"
      . rename_i h; exact gd_in h ▸ hQ
      . rename_i h; exact gd_out h ▸ hQ
    repeat' first | walk_at "z"
    exact Exists.intro (w - n % w) (And.intro er (And.intro hr' (And.intro g3 (And.intro hf6 hQ))))
  . intro f d d2 hf hd hv _
    have hv:=hv.trans se
    have hl:f.length<=1000:=by rw [hf]; omega
    repeat' first | walk_at "z" | refine Ca.eq (by apply sp_normal pg <;> walk_at "zs") (by exact rfl) ?_
    exact hv.symm ▸ hK
end N5
noncomputable section N6
theorem bit_in {w n:Nat} (hw:1<=w) {x:Int} (hx:0<=x) (h:n / w < (row (2 ^ w) x).length):Builtin.bitAnd (ig (row (2 ^ w) x) ((n / w:Nat):Int) / 2 ^ (n % w)) 1=x / 2 ^ n % 2:=by
  have hB:=two_le hw
  rw [bitAnd_m1,ig_row hB _ x hx h,mod_bit (Nat.mod_lt _ hw),Int.ediv_ediv_of_nonneg (Int.le_of_lt (pow_pos' hB _)),pow_split w n,Int.mul_comm]
theorem bit_out {w n:Nat} (hw:1<=w) {x:Int} (hx:0<=x) (h:(row (2 ^ w) x).length<=n / w):(0:Int)=x / 2 ^ n % 2:=by
  have hB:=two_le hw
  have e1:row (2 ^ w) (x / (2 ^ w) ^ (n / w))=[]:=by rw [<- row_drop hB _ x hx,List.drop_of_length_le h]
  rw [row_eq_nil hB (Int.ediv_nonneg hx (Int.le_of_lt (pow_pos' hB _)))] at e1
  rw [pow_split w n,Int.mul_comm,<- Int.ediv_ediv_of_nonneg (Int.le_of_lt (pow_pos' hB _)),e1,Int.zero_ediv]; rfl
theorem sp_bit {G:Gd} (pg:PG G) {w:Nat} (hw:1<=w) (hw':w<=60) {x:Int} (hx:0<=x) (hx':x < 2 ^ 64) {n:Nat} :
    Ca G 1 (fnv G "bit") [.il (row (2 ^ w) x),.int n,.int w] (·=.int (x / 2 ^ n % 2)):=by
  have hB:=two_le hw
  have lx:=len64 hB hx hx'
  have hwp:(0:Int) < w:=Int.ofNat_lt.mpr hw
  have smw:=Sm.nat hw' rfl
  have s0:(0:Int)<=(n:Int) / (w:Int):=Int.natCast_nonneg (n / w)
  refine Ca.of λ K hK=>vdef pg o_bit rfl ?_
  repeat' first | walk_at "Z"
  . rename_i h
    have h':n / w < (row (2 ^ w) x).length:=Int.ofNat_lt.mp h
    repeat' first | walk_at "z"
    exact K_eq (K:=K) hK (congrArg SV.int (bit_in hw hx h'))
  . rename_i h
    exact K_eq (K:=K) hK (congrArg SV.int (bit_out hw hx (Int.ofNat_le.mp (Int.not_lt.mp h))))
theorem bits_val {w:Nat} (hw:1<=w) {x:Int} (hx:0 < x):(((row (2 ^ w) x).length:Int) - 1) * (w:Int) + (Builtin.Int.intBits (ig (row (2 ^ w) x) (((row (2 ^ w) x).length - 1:Nat):Int)):Int)=(bl x:Int):=by
  have hB:=two_le hw
  have lp:=row_len_pos hB hx
  have hx0:=Int.le_of_lt hx
  obtain ⟨m,hm⟩:∃ m,(row (2 ^ w) x).length=m + 1:=⟨(row (2 ^ w) x).length - 1,by omega⟩
  have e1:ig (row (2 ^ w) x) (((row (2 ^ w) x).length - 1:Nat):Int)=x / (2 ^ w) ^ m:=by
    rw [hm,show m + 1 - 1=m from rfl,ig_row hB m x hx0 (by omega)]
    refine Int.emod_eq_of_lt (Int.ediv_nonneg hx0 (Int.le_of_lt (pow_pos' hB _))) (Int.ediv_lt_of_lt_mul (pow_pos' hB _) ?_)
    have:=val_lt hB (dg_row hB x)
    rw [val_row hB x hx0,hm,Int.pow_succ,Int.mul_comm] at this; exact this
  have e2:0 < x / (2 ^ w) ^ m:=by
    rcases row_ge hB hx0 with q | q
    . rw [q] at hm; simp at hm
    . rw [hm,show m + 1 - 1=m from rfl] at q
      exact Int.lt_of_lt_of_le Int.zero_lt_one ((Int.le_ediv_iff_mul_le (pow_pos' hB _)).mpr (by rw [Int.one_mul]; exact q))
  rw [e1,hm]
  obtain ⟨t,ht⟩:∃ t,bl (x / (2 ^ w) ^ m)=t + 1:=⟨bl (x / (2 ^ w) ^ m) - 1,by have:=bl_pos e2; omega⟩
  obtain ⟨h1,h2⟩:=(bl_iff e2).mp ht
  have e3:bl x=m * w + t + 1:=by
    refine (bl_iff hx).mpr ?_
    have p:=pow_pos' hB m
    have l1:2 ^ t * (2 ^ w) ^ m<=x:=(Int.le_ediv_iff_mul_le p).mp h1
    have l2:x < 2 ^ (t + 1) * (2 ^ w) ^ m:=(Int.ediv_lt_iff_lt_mul p).mp h2
    rw [<- Int.pow_mul,<- Int.pow_add] at l1 l2
    exact ⟨by rw [show m * w + t=t + w * m by rw [Nat.mul_comm,Nat.add_comm]]; exact l1,by rw [show m * w + t + 1=t + 1 + w * m by rw [Nat.mul_comm]; ac_rfl]; exact l2⟩
  rw [e3,show Builtin.Int.intBits (x / (2 ^ w) ^ m)=t + 1 from ht]
  push_cast
  rw [Int.add_sub_cancel,Int.add_assoc]
theorem Sm.len {l m:Nat} (h:l<=m) (e:Nat.ble m 1000000=true):Sm ((l:Int) - 1):=Sm.of (by omega) (by have:=Nat.le_trans h (Nat.le_of_ble_eq_true e); omega)
theorem sp_bits {G:Gd} (pg:PG G) {w:Nat} (hw:1<=w) (hw':w<=60) {x:Int} (hx:0<=x) (hx':x < 2 ^ 64) :
    Ca G 1 (fnv G "bits") [.il (row (2 ^ w) x),.int w] (·=.int (bl x)):=by
  have hB:=two_le hw
  have lx:=len64 hB hx hx'
  have smw:=Sm.nat hw' rfl
  have sml:=Sm.len lx rfl
  refine Ca.of λ K hK=>vdef pg o_bits rfl ?_
  repeat' first | walk_at "Z"
  . rename_i h
    have h0:=row_pos_of hx (Int.ne_of_gt h ∘ congrArg Int.ofNat)
    have hp:=Int.ofNat_lt.mp h
    repeat' first | walk_at "z"
    exact K_eq (K:=K) hK (congrArg SV.int (bits_val hw h0))
  . rename_i h
    have h0:=row_0_of hB hx (Nat.eq_zero_of_not_pos λ z=>h (Int.ofNat_lt.mpr z))
    exact K_eq (K:=K) hK (by rw [h0]; rfl)
theorem sub_add1 (a b:Nat):(a:Int) + ((b + 1:Nat):Int) - 1=((a + b:Nat):Int):=by omega
theorem trail_val {w i:Nat} (hw:1<=w) (hw':w<=9) {x:Int} (hx:0 < x) (hi:i < (row (2 ^ w) x).length) (hv:val (2 ^ w) ((row (2 ^ w) x).take i)=0) (h:0 < ig (row (2 ^ w) x) (i:Int)) :
    ∃ t:Nat,(i:Int) * (w:Int) + (Builtin.Int.intBits (Builtin.bitAnd (ig (row (2 ^ w) x) (i:Int)) (-ig (row (2 ^ w) x) (i:Int))):Int) - 1=(t:Int)/\Tz x t:=by
  have hB:=two_le hw
  have g1:=ig_dg (dg_row hB x) hi
  have g3:(2:Int) ^ w<=2 ^ 9:=pow_mono (by decide) hw'
  have e1:=ig_row hB i x (Int.le_of_lt hx) hi
  rw [row_take hB i x (Int.le_of_lt hx)] at hv
  generalize hdd:ig (row (2 ^ w) x) (i:Int)=dd at *
  obtain ⟨dn,rfl⟩:=Int.eq_ofNat_of_zero_le g1.1
  obtain ⟨t1,t2,t3⟩:=tz512 dn (by omega) (by omega)
  rw [t3]
  generalize tzd dn=td at *
  have htd:td < w:=by
    rcases Nat.lt_or_ge td w with q | q
    . exact q
    . have h1:(2:Int) ^ w<=2 ^ td:=pow_mono (by decide) q
      rw [pw2 td] at h1
      have:dn / 2 ^ td=0:=Nat.div_eq_of_lt (by omega)
      rw [this] at t2; simp at t2
  refine ⟨i * w + td,by rw [sub_add1 0 |> λ _=>Int.natCast_add (i * w) td,Int.natCast_mul]; omega,?_⟩
  have p:=pow_pos' hB i
  have ex:x=(2 ^ w) ^ i * (x / (2 ^ w) ^ i):=by have:=Int.emod_add_mul_ediv x ((2 ^ w) ^ i); omega
  have e3:(2:Int) ^ (i * w + td)=(2 ^ w) ^ i * 2 ^ td:=by rw [Int.pow_add,<- Int.pow_mul,Nat.mul_comm i w]
  generalize hq:x / (2 ^ w) ^ i=q at *
  constructor
  . have e4:q % 2 ^ td=0:=by
      have:(2:Int) ^ td ∣ 2 ^ w:=⟨2 ^ (w - td),by rw [<- Int.pow_add]; congr 1; omega⟩
      rw [<- Int.emod_emod_of_dvd q this,<- e1,pw2,<- Int.natCast_emod,t1]; rfl
    rw [e3,ex,Int.mul_emod_mul_of_pos _ _ p,e4,Int.mul_zero]
  . rw [e3,<- Int.ediv_ediv_of_nonneg (Int.le_of_lt p),hq,<- mod_bit htd,<- e1,pw2,<- Int.natCast_ediv]
    have:((dn / 2 ^ td:Nat):Int) % 2=((dn / 2 ^ td % 2:Nat):Int):=by simp
    rw [this,t2]; rfl
theorem sp_trailing {G:Gd} (pg:PG G) {w:Nat} (hw:1<=w) (hw':w<=9) {x:Int} (hx:0 < x) (hx':x < 2 ^ 64) :
    Ca G 1 (fnv G "trailing") [.il (row (2 ^ w) x),.int w] (λ v=>∃ t:Nat,v=.int t/\Tz x t):=by
  have hB:=two_le hw
  have lx:=len64 hB (Int.le_of_lt hx) hx'
  have dx:=dg_row hB x
  have vx:=val_row hB x (Int.le_of_lt hx)
  have tv:=λ i=>trail_val (i:=i) hw hw' hx
  have smw:=Sm.nat hw' rfl
  refine Ca.ofR λ K hK=>vdef pg o_trailing rfl ?_
  generalize row (2 ^ w) x=fx at *
  repeat' first | walk_at "z"
  refine LpF.c2 (λ i (d d2:SC)=>[.v (.il fx),.v (.int w),d,d2]) (λ i _ _=>val (2 ^ w) (fx.take i)=0) (λ _ _ _=>True) (λ _ _ _=>True) (λ _ _ _=>True) .un .un rfl rfl trivial trivial trivial ?_ ?_
  . intro Q i d d2 hQ hi hv _ _ _
    have g1:=ig_dg dx hi
    have smi:=Sm.nat (Nat.le_trans (Nat.le_of_lt hi) lx) rfl
    repeat' first | walk_at "z"
    . rename_i h
      obtain ⟨t,e,ht⟩:=tv i hi hv h
      exact hK _ ⟨t,congrArg SV.int e,ht⟩
    . rename_i h
      refine hQ _ _ ?_ trivial trivial trivial
      rw [val_take_succ hi,hv,Int.le_antisymm (Int.not_lt.mp h) g1.1,Int.mul_zero]; rfl
  . intro d d2 hv _ _ _
    rw [List.take_length,vx] at hv
    exact absurd hv (Int.ne_of_gt hx)
end N6
noncomputable section N7
theorem inv_start {w:Nat} (hw:3<=w) {d:Int} (hd:0<=d) (hd':d < 2 ^ w) (hodd:d % 2=1):(2:Int) ^ (min 3 w) ∣ d * (d % 2 ^ w) - 1:=by
  rw [Nat.min_eq_left hw,Int.emod_eq_of_lt hd hd']
  obtain ⟨m,rfl⟩:∃ m,d=2 * m + 1:=⟨d / 2,by omega⟩
  have:∃ j,m * (m + 1)=2 * j:=by
    have:m % 2=0\/m % 2=1:=by omega
    rcases this with q | q
    . exact ⟨m / 2 * (m + 1),by rw [<- Int.mul_assoc]; congr 1; omega⟩
    . exact ⟨m * ((m + 1) / 2),by rw [Int.mul_left_comm]; congr 1; omega⟩
  obtain ⟨j,hj⟩:=this
  refine ⟨j,?_⟩
  have:(2 * m + 1) * (2 * m + 1)=4 * (m * (m + 1)) + 1:=by grind
  rw [this,hj]; omega
theorem inv_turn {w s:Nat} {d f:Int} (hs:s < w) (hdiv:(2:Int) ^ (min s w) ∣ d * f - 1):(2:Int) ^ (min (2 * s) w) ∣ d * (f * ((2 - d * f) % 2 ^ w) % 2 ^ w) - 1:=by
  rw [Nat.min_eq_left (Nat.le_of_lt hs)] at hdiv
  obtain ⟨e,he⟩:=hdiv
  have hsq:((2:Int) ^ (min (2 * s) w)) ∣ (d * f - 1) * (d * f - 1):=by
    rw [he]
    refine Int.dvd_trans (b:=2 ^ (2 * s)) ⟨2 ^ (2 * s - min (2 * s) w),by rw [<- Int.pow_add]; congr 1; omega⟩ ⟨e * e,?_⟩
    rw [show 2 * s=s + s by omega,Int.pow_add,Int.mul_assoc,Int.mul_assoc,Int.mul_left_comm e]
  have hw2:((2:Int) ^ (min (2 * s) w)) ∣ 2 ^ w:=⟨2 ^ (w - min (2 * s) w),by rw [<- Int.pow_add]; congr 1; omega⟩
  have k1:=Int.emod_add_mul_ediv (2 - d * f) (2 ^ w)
  have k2:=Int.emod_add_mul_ediv (f * ((2 - d * f) % 2 ^ w)) (2 ^ w)
  generalize (2 - d * f) % 2 ^ w=u at *
  generalize (2 - d * f) / 2 ^ w=u' at *
  generalize f * u % 2 ^ w=v at *
  generalize f * u / 2 ^ w=v' at *
  rw [inv_alg (v:=v) (f:=f) (u:=u) (W:=2 ^ w) (v':=v') (d:=d) (u':=u') (by omega) (by omega)]
  exact Int.dvd_sub (Int.dvd_neg.mpr hsq) (Int.dvd_trans hw2 ⟨_,rfl⟩)
theorem inv_end {w s:Nat} (hw:1<=w) {d f:Int} (hs:w<=s) (hdiv:(2:Int) ^ (min s w) ∣ d * f - 1):d * f % 2 ^ w=1:=by
  rw [Nat.min_eq_right hs] at hdiv
  obtain ⟨e,he⟩:=hdiv
  rw [show d * f=1 + 2 ^ w * e by omega,Int.add_mul_emod_self_left]
  have:=two_le hw
  exact Int.emod_eq_of_lt (by decide) (by omega)
theorem mod_in {a b:Int} (hb:0 < b):0<=a % b/\a % b < b:=⟨Int.emod_nonneg _ (Int.ne_of_gt hb),Int.emod_lt_of_pos _ hb⟩
theorem Sm.in {a b c:Int} (h:0<=a/\a < b) (h2:b<=c) (h3:c<=2 ^ 200):Sm a:=Sm.of (by omega) (by omega)
theorem Sm.mod {a b:Int} (h:0 < b) (h2:b<=2 ^ 200):Sm (a % b):=(Sm.in (mod_in h) (Int.le_refl _) h2)
theorem sp_inverse_limb {G:Gd} (pg:PG G) {w:Nat} (hw:3<=w) (hw':w<=9) {d:Int} (hd:0<=d) (hd':d < 2 ^ w) (hodd:d % 2=1) :
    Ca G 1 (fnv G "inverse_limb") [.int d,.int w] (λ v=>∃ f:Int,v=.int f/\0<=f/\f < 2 ^ w/\d * f % 2 ^ w=1):=by
  have g3:(2:Int) ^ w<=2 ^ 9:=pow_mono (by decide) hw'
  have hp:=pw2_pos w
  have hm:=λ a=>mod_in (a:=a) hp
  have sd:=Sm.in ⟨hd,hd'⟩ g3 (by decide)
  have i0:=inv_start hw hd hd' hodd
  have e1:=Int.one_mul ((2:Int) ^ w)
  refine Ca.ofR λ K hK=>vdef pg o_inverse_limb rfl ?_
  have hw5:w<=100000:=zs_nat hw' rfl
  rw [<- e1] at hp
  repeat' first | walk_at "z"
  . rename_i h; omega
  repeat' first | walk_at "z"
  rw [e1] at hp
  refine LpW.c2 (λ (f:Int) (s:Nat)=>[.v (.int d),.v (.int w),.v (.int (2 ^ w)),.v (.int f),.v (.int s)]) (λ f _=>0<=f/\f < 2 ^ w) (λ _ s=>3<=s/\s<=20) (λ f s=>(2:Int) ^ (min s w) ∣ d * f - 1) (λ _ _=>True) (λ _ s=>w - s) (d % 2 ^ w) 3 ?_ (hm _) (by decide) i0 trivial ?_
  . show ([_,_,SC.v (.int (2 ^ w)),SC.v (.int (d % 2 ^ w)),_]:En)=[_,_,SC.v (.int (1 * 2 ^ w)),SC.v (.int (d % (1 * 2 ^ w))),_]
    rw [e1]; rfl
  intro Q f s hQ hf hs hdiv _
  have sf:=Sm.in hf g3 (by decide)
  have sm:=Sm.mod (a:=2 - d * f) hp (Int.le_trans g3 (by decide))
  have ss:=Sm.nat hs.2 rfl
  repeat' first | walk_at "z"
  . rename_i h
    have h:=Int.ofNat_lt.mp h
    exact hQ _ (2 * s) (Nat.sub_lt_sub_left h (by omega)) (hm _) (by omega) (inv_turn h hdiv) trivial
  . rename_i h
    exact hK _ ⟨f,rfl,hf.1,hf.2,inv_end (by omega) (Int.ofNat_le.mp (Int.not_lt.mp h)) hdiv⟩
theorem ge_0 {x y:Int}:(0<=(if x < y then -1 else if x=y then 0 else 1:Int)) ↔ y<=x:=by
  by_cases h:x < y
  . rw [if_pos h]; exact ⟨λ z=>absurd z (by decide),λ z=>absurd h (Int.not_lt.mpr z)⟩
  . rw [if_neg h]; exact ⟨λ _=>Int.not_lt.mp h,λ _=>by split <;> decide⟩
theorem dbl_sub {x m:Int} (h:m<=x * 2) (hx:x < m):x * 2 - m=x * 2 % m:=by
  have:=Int.emod_eq_of_lt (a:=x * 2 - m) (b:=m) (by omega) (by omega)
  rw [<- this,Int.sub_emod_right]
theorem sp_doubled_rest {G:Gd} (pg:PG G) {w:Nat} (hw:1<=w) (hw':w<=60) {x m:Int} (hx:0<=x) (hx':x < 2 ^ 60) (hm:0 < m) (hm':m < 2 ^ 60) (hxm:x < m) :
    Ca G 3 (fnv G "doubled_rest") [.il (row (2 ^ w) x),.il (row (2 ^ w) m),.int w] (·=.il (row (2 ^ w) (x * 2 % m))):=by
  have hB:=two_le hw
  refine Ca.of λ K hK=>vdef pg o_doubled_rest rfl ?_
  refine Ca.eq (sp_shift_left pg hw hw' hx (by omega) (n:=1) (by decide)) rfl ?_
  have e2:x * 2 ^ 1=x * 2:=rfl
  have x0:0<=x * 2:=by omega
  have x1:x * 2 < 2 ^ 64:=by omega
  refine Jn.c0 (.ss []) (.il (row (2 ^ w) (x * 2 % m))) ?_ hK
  intro Q hQ
  refine Ca.eq (sp_compare pg hB x0 (Int.le_of_lt hm) x1 (by omega)) rfl ?_
  refine Br.mk (λ h=>?_) (λ h=>?_)
  . have h:=ge_0.mp h
    exact Ca.eq (sp_sub pg hw (by omega) x0 x1 (Int.le_of_lt hm) h) rfl (dbl_sub h hxm ▸ hQ)
  . have h:=mt ge_0.mpr h
    rw [Int.emod_eq_of_lt x0 (Int.not_le.mp h)] at hQ
    exact hQ
theorem sp_taken_once {G:Gd} (pg:PG G) {w:Nat} (hw:1<=w) (hw':w<=60) {x m:Int} (hx:0<=x) (hx':x < 2 ^ 60) (hm:0 < m) (hm':m < 2 ^ 60) (hxm:x < 2 * m) :
    Ca G 3 (fnv G "taken_once") [.il (row (2 ^ w) x),.il (row (2 ^ w) m),.int w] (·=.il (row (2 ^ w) (if m<=x then x - m else x))):=by
  have hB:=two_le hw
  refine Ca.of λ K hK=>vdef pg o_taken_once rfl ?_
  refine Jn.dup ?_
  refine Ca.eq (sp_compare pg hB hx (Int.le_of_lt hm) (by omega) (by omega)) rfl ?_
  refine Br.mk (λ h=>?_) (λ h=>?_)
  . have h:=ge_0.mp h
    rw [if_pos h] at hK
    exact Ca.eq (sp_sub pg hw (by omega) hx (by omega) (Int.le_of_lt hm) h) rfl hK
  . rw [if_neg (mt ge_0.mpr h)] at hK
    exact hK
theorem pw_64 {w:Nat} (hw:w<=64):(2:Int) ^ w<=2 ^ 64:=pow_mono (by decide) hw
theorem Sm.pw {w:Nat} (hw:w<=64):Sm ((2:Int) ^ w):=Sm.in ⟨Int.le_of_lt (pw2_pos w),Int.lt_add_one_of_le (pw_64 hw)⟩ (Int.le_refl _) (by decide)
theorem sp_law_row {G:Gd} (pg:PG G) {w:Nat} (hw:1<=w) (hw':w<=64) {x:Int} (hx:0<=x) (hx':x < 2 ^ 64) :
    Ca G 1 (fnv G "_law_row") [.int x,.int w] (·=.il (row (2 ^ w) x)):=by
  have hB:=two_le hw
  have lx:=len64 hB hx hx'
  have hp:=pw2_pos w
  have sp:=Sm.pw hw'
  have hw5:w<=100000:=zs_nat hw' rfl
  refine Ca.of λ K hK=>vdef pg o_law_row rfl ?_
  repeat' first | walk_at "z"
  intro ad
  refine LpW.c2 (λ (y:Int) (f:List Int)=>[.v (.int y),.v (.int w),.own ad (.il f)]) (λ y _=>0<=y) (λ y f=>f ++ row (2 ^ w) y=row (2 ^ w) x) (λ _ _=>True) (λ _ _=>True) (λ y _=>(row (2 ^ w) y).length) x [] rfl hx rfl trivial trivial ?_
  intro Q y f hQ hy hf _ _
  have hlen:=congrArg List.length hf
  rw [List.length_append] at hlen
  have hl:f.length<=64:=Nat.le_trans (hlen ▸ Nat.le_add_right ..) lx
  repeat' first | walk_at "z"
  . rename_i h1
    refine hQ _ _ ?_ (Int.ediv_nonneg hy (Int.le_of_lt hp)) ?_ trivial trivial
    . show _ < (row (2 ^ w) y).length
      rw [row_len_succ hB h1]; exact Nat.lt_succ_self _
    . rw [<- hf,row_pos h1 hB,List.append_assoc]; rfl
  . rename_i h1
    rw [row_nil (Int.not_lt.mp h1),List.append_nil] at hf
    exact K_eq (K:=K) hK (congrArg SV.il hf)
theorem val_drop_in {w:Nat} (hB:(2:Int)<=2 ^ w) {x:Int} (hx:0<=x) (hx':x < 2 ^ 64) (j:Nat):0<=val (2 ^ w) ((row (2 ^ w) x).drop j)/\val (2 ^ w) ((row (2 ^ w) x).drop j) < 2 ^ 64:=by
  rw [row_drop hB j x hx,val_row hB _ (Int.ediv_nonneg hx (Int.le_of_lt (pow_pos' hB _)))]
  exact ⟨Int.ediv_nonneg hx (Int.le_of_lt (pow_pos' hB _)),Int.lt_of_le_of_lt (Int.ediv_le_self _ hx) hx'⟩
theorem drop_step {B:Int} {l:List Int} {i:Nat} (hi:i < l.length):val B (l.drop (l.length - (i + 1)))=val B (l.drop (l.length - i)) * B + ig l ((l.length - 1 - i:Nat):Int):=by
  rw [down_up',ig_drop (down_lt hi),down_up hi]
  show _ + B * _=_
  rw [Int.mul_comm,Int.add_comm]
theorem sp_law_number {G:Gd} (pg:PG G) {w:Nat} (hw:1<=w) (hw':w<=60) {x:Int} (hx:0<=x) (hx':x < 2 ^ 64) :
    Ca G 1 (fnv G "_law_number") [.il (row (2 ^ w) x),.int w] (·=.int x):=by
  have hB:=two_le hw
  have sp:=Sm.pw (w:=w) (Nat.le_trans hw' (by decide))
  have hw5:w<=100000:=zs_nat hw' rfl
  have vd:=val_drop_in hB hx hx'
  have vx:=val_row hB x hx
  refine Ca.of λ K hK=>vdef pg o_law_number rfl ?_
  generalize row (2 ^ w) x=fx at *
  refine LpF.c1 (λ i (d:SC)=>[.v (.il fx),.v (.int w),.v (.int (val (2 ^ w) (fx.drop (fx.length - i)))),d]) (λ _ _=>True) (λ _ _=>True) (λ _ _=>True) .un ?_ trivial trivial trivial ?_ ?_
  . rw [Nat.sub_zero,List.drop_length]; rfl
  . intro Q i d hQ hi _ _ _
    have sv:=Sm.in (vd (fx.length - i)) (Int.le_refl _) (by decide)
    repeat' first | walk_at "z"
    have hQ:=hQ (.v (.int (ig fx ((fx.length - 1 - i:Nat):Int)))) trivial trivial trivial
    rw [drop_step hi] at hQ
    exact hQ
  . intro d _ _ _
    rw [Nat.sub_self,List.drop_zero,vx]
    exact hK
theorem sp_law_mul {G:Gd} (pg:PG G) {w:Nat} (hw:1<=w) (hw':w<=60) {x y:Int} (hx:0<=x) (hx':x < 2 ^ 64) (hy:0<=y) (hy':y < 2 ^ 64) (hxy:x * y < 2 ^ 64) :
    Ca G 2 (fnv G "_law_mul") [.il (row (2 ^ w) x),.il (row (2 ^ w) y),.int w] (·=.il (row (2 ^ w) (x * y))):=by
  have sx:=Sm.in ⟨hx,hx'⟩ (Int.le_refl _) (by decide)
  have sy:=Sm.in ⟨hy,hy'⟩ (Int.le_refl _) (by decide)
  refine Ca.of λ K hK=>vdef pg o_law_mul rfl ?_
  refine Ca.eq (sp_law_number pg hw hw' hx hx') rfl (Ca.eq (sp_law_number pg hw hw' hy hy') rfl (And.intro sx (And.intro sy ?_)))
  exact Ca.eq (sp_law_row pg hw (Nat.le_trans hw' (by decide)) (Int.mul_nonneg hx hy) hxy) rfl hK
theorem sp_law_divrem {G:Gd} (pg:PG G) {w:Nat} (hw:1<=w) (hw':w<=60) {x y:Int} (hx:0<=x) (hx':x < 2 ^ 64) (hy:0 < y) (hy':y < 2 ^ 64) :
    Ca G 2 (fnv G "_law_divrem") [.il (row (2 ^ w) x),.il (row (2 ^ w) y),.int w] (·=.t2 (.il (row (2 ^ w) (x / y))) (.il (row (2 ^ w) (x % y)))):=by
  have hm:=mod_in (a:=x) hy
  have h1:0<=x / y:=Int.ediv_nonneg hx (Int.le_of_lt hy)
  have h2:=Int.lt_of_le_of_lt (Int.ediv_le_self y hx) hx'
  have sy:=Sm.in ⟨Int.le_of_lt hy,hy'⟩ (Int.le_refl _) (by decide)
  have hw6:w<=64:=Nat.le_trans hw' (by decide)
  refine Ca.of λ K hK=>vdef pg o_law_divrem rfl ?_
  refine Ca.eq (sp_law_number pg hw hw' hx hx') rfl (Ca.eq (sp_law_number pg hw hw' (Int.le_of_lt hy) hy') rfl (And.intro hy (And.intro sy ?_)))
  refine Ca.eq (sp_law_row pg hw hw6 h1 h2) rfl (And.intro hy ?_)
  exact Ca.eq (sp_law_row pg hw hw6 hm.1 (Int.lt_trans hm.2 hy')) rfl hK
end N7
noncomputable section N8
theorem K_eqB {K:SV->Prop} {a b:Bool} (hK:K (.bool b)) (e:a=b):K (.bool a):=e ▸ hK
theorem rest_step {w:Nat} (hw:1<=w) {d:Int} (hd:0 < d) {l:List Int} (dl:Dg (2 ^ w) l) {i:Nat} (hi:i < l.length) :
    Builtin.bitOr (val (2 ^ w) (l.drop (l.length - i)) % d * 2 ^ w) (ig l (l.length - 1 - i)) % d=val (2 ^ w) (l.drop (l.length - (i + 1))) % d:=by
  have g1:=ig_dg dl (down_lt hi)
  have m1:=mod_in (a:=val (2 ^ w) (l.drop (l.length - i))) hd
  rw [down_at hi,bor_comm,bor_add g1.1 g1.2 m1.1,drop_step hi,Int.add_comm,Int.add_emod,Int.mul_emod,Int.emod_emod,<- Int.mul_emod,<- Int.add_emod]
theorem abs_64 {a d:Int} (h:0<=a/\a < d) (hd:d < 2 ^ 60):a.natAbs < 2 ^ 64:=by omega
theorem sp_rest_small {G:Gd} (pg:PG G) {w:Nat} (hw:1<=w) (hw':w<=60) {x d:Int} (hx:0<=x) (hx':x < 2 ^ 64) (hd:0 < d) (hd':d < 2 ^ 60) :
    Ca G 1 (fnv G "rest_small") [.il (row (2 ^ w) x),.int d,.int w] (·=.int (x % d)):=by
  have hB:=two_le hw
  have lx:=len64 hB hx hx'
  have dx:=dg_row hB x
  have vx:=val_row hB x hx
  have hw5:w<=100000:=zs_nat hw' rfl
  refine Ca.of λ K hK=>vdef pg o_rest_small rfl ?_
  generalize row (2 ^ w) x=l at *
  repeat' first | walk_at "z"
  refine LpF.c0 (λ i=>[.v (.il l),.v (.int d),.v (.int w),.v (.int (val (2 ^ w) (l.drop (l.length - i)) % d)),lv .un (λ i=>l.length - 1 - i) i]) (λ _=>True) ?_ trivial ?_ ?_
  . rw [Nat.sub_zero,List.drop_length]; show ([_,_,_,SC.v (.int (0 % d)),_]:En)=_; rw [Int.zero_emod]; rfl
  . intro Q i hQ hi _
    have m1:=abs_64 (mod_in (a:=val (2 ^ w) (l.drop (l.length - i))) hd) hd'
    have hQ:=hQ trivial
    rw [<- rest_step hw hd dx hi] at hQ
    repeat' first | walk_at "z"
    exact hQ
  . intro _
    rw [Nat.sub_self,List.drop_zero,vx]
    exact hK
theorem sp_odd_part {G:Gd} (pg:PG G) {w:Nat} (hw:1<=w) (hw':w<=9) {x:Int} (hx:0 < x) (hx':x < 2 ^ 64) :
    Ca G 3 (fnv G "odd_part") [.il (row (2 ^ w) x),.int w] (λ v=>∃ t:Nat,v=.t2 (.int t) (.il (row (2 ^ w) (x / 2 ^ t)))/\Tz x t):=by
  refine Ca.ofR λ K hK=>vdef pg o_odd_part rfl ?_
  refine Ca.toL (sp_trailing pg hw hw' hx hx') rfl λ t ht=>?_
  have ht64:=ht.lt hx hx'
  exact Ca.eq (sp_shift_right pg hw (Nat.le_trans hw' (by decide)) (Int.le_of_lt hx) hx' (Nat.le_trans (Nat.le_of_lt ht64) (by decide))) rfl (hK _ ⟨t,rfl,ht⟩)
theorem row_is_one {w:Nat} (hw:1<=w) {x:Int} (hx:0<=x):row (2 ^ w) x=[1] ↔ x=1:=by
  have hB:=two_le hw
  constructor
  . intro h; have:=val_row hB x hx; rw [h,val_one] at this; exact this.symm
  . rintro rfl; exact row_one hB (by decide) (Int.lt_of_lt_of_le (by decide) hB)
theorem sp_check_odd {G:Gd} (pg:PG G) {w:Nat} (hw:1<=w) (hw':w<=60) {x:Int} (hx:1 < x) (hx':x < 2 ^ 64) (hodd:x % 2=1) :
    Ca G 2 (fnv G "check_odd") [.il (row (2 ^ w) x)] (·=.none):=by
  have h0:0<=x:=by omega
  have e1:=row_is_one hw h0
  refine Ca.of λ K hK=>vdef pg o_check_odd rfl (Jm.dup ?_)
  refine Ca.eq (sp_is_even pg hw h0 hx') rfl ?_
  refine Br.mk (λ h=>?_) (λ h=>?_)
  . have:=of_decide_eq_true h; omega
  . repeat' first | walk_at "z"
    . rename_i h; have:=e1.mp h; omega
    . exact hK
noncomputable def Cl (n d:Int):Prop:=∀ e,2<=e->e < d->n % e≠0
noncomputable def Pr (n:Int):Prop:=2<=n/\Cl n n
noncomputable def Lst (n l:Int):Prop:=Cl n l/\(l=n\/(2<=l/\l < n/\n % l=0))
theorem Cl.next {n d:Int} (h:Cl n d) (hd:2<=d) (hp:d=2\/d % 2=1) (h0:¬ n % d=0):Cl n (if d=2 then d + 1 else d + 2):=by
  intro e h5 h6
  rcases Int.lt_trichotomy e d with q | q | q
  . exact h e h5 q
  . rw [q]; exact h0
  . split at h6
    . omega
    . rename_i h7
      intro h8
      have he2:e % 2=0:=by omega
      refine h 2 (by omega) (by omega) ?_
      rw [<- Int.emod_emod_of_dvd n (show (2:Int) ∣ e from Int.dvd_of_emod_eq_zero he2),h8]; rfl
theorem Cl.all {n d:Int} (h:Cl n d) (hd:2<=d) (hn:¬ d * d<=n):Cl n n:=by
  intro e h5 h6 h7
  rcases Int.lt_or_le e d with q | q
  . exact h e h5 q h7
  . obtain ⟨c,hc⟩:=Int.dvd_of_emod_eq_zero h7
    have hc2:2<=c:=by
      rcases Int.lt_or_le c 2 with z | z
      . have:e * c<=e * 1:=Int.mul_le_mul_of_nonneg_left (by omega) (by omega)
        omega
      . exact z
    have hcd:c < d:=by
      rcases Int.lt_or_le c d with z | z
      . exact z
      . have h9:=Int.mul_le_mul q z (by omega) (by omega)
        omega
    exact h c hc2 hcd (by rw [hc]; exact Int.mul_emod_left ..)
theorem sq_lt {d n:Int} (h:2<=d) (h2:d * d<=n):d < n:=by
  have:d * 2<=d * d:=Int.mul_le_mul_of_nonneg_left h (by omega)
  omega
theorem sp_law_least {G:Gd} (pg:PG G) {n:Int} (hn:0<=n) (hn':n < 2 ^ 60) :
    Ca G 1 (fnv G "_law_least") [.int n] (λ v=>∃ l,v=.int l/\Lst n l):=by
  refine Ca.ofR λ K hK=>vdef pg o_law_least rfl ?_
  refine LpW.c1 (λ d:Int=>[.v (.int n),.v (.int d)]) (λ d=>2<=d/\d<=2 ^ 60 + 10) (λ d=>d=2\/d % 2=1) (λ d=>Cl n d) (λ d=>(2 * 2 ^ 60 + 10 - d).toNat) 2 rfl (by decide) (.inl rfl) (λ e h1 h2=>by omega) ?_
  intro Q d hQ hd hp hc
  have sd:=Sm.of (i:=d) (by omega) (by omega)
  have d0:0 < d:=by omega
  refine And.intro sd (And.intro sd (Br.mk (λ h3=>?_) λ h3=>?_))
  . have hlt:=sq_lt hd.1 h3
    refine Jm.dup (And.intro d0 (Br.mk (λ h4=>?_) λ h4=>?_))
    . exact hK _ ⟨d,rfl,hc,.inr ⟨hd.1,hlt,h4⟩⟩
    . refine Jn.ite (.ss []) _ _ (λ Q h1 h2=>Br.mk h1 h2) ?_
      exact hQ _ (by split <;> omega) (by split <;> omega) (by split <;> omega) (hc.next hd.1 hp h4)
  . exact hK _ ⟨n,rfl,hc.all hd.1 h3,.inl rfl⟩
theorem Lst.pr {n l:Int} (h:Lst n l) (hn:1 < n):l=n ↔ Pr n:=by
  constructor
  . rintro rfl; exact ⟨by omega,h.1⟩
  . intro p
    rcases h.2 with q | ⟨q1,q2,q3⟩
    . exact q
    . exact absurd q3 (p.2 l q1 q2)
open Classical in
theorem sp_law_is_prime {G:Gd} (pg:PG G) {n:Int} (hn:0<=n) (hn':n < 2 ^ 60) :
    Ca G 2 (fnv G "_law_is_prime") [.int n] (·=.bool (decide (Pr n))):=by
  refine Ca.of λ K hK=>vdef pg o_law_is_prime rfl ?_
  refine Br.mk (λ h1=>?_) (λ h1=>?_)
  . have h1:=of_decide_eq_true h1
    refine Ca.toL (sp_law_least pg hn hn') rfl λ l hl=>?_
    exact K_eqB (K:=K) hK (decide_eq_decide.mpr (hl.pr h1))
  . exact K_eqB (K:=K) hK (decide_eq_false λ p=>h1 (decide_eq_true (Int.lt_of_lt_of_le (by decide) p.1))).symm
theorem emul {a b n:Int}:a % n * (b % n) % n=a * b % n:=(Int.mul_emod a b n).symm
theorem emul_l {a b n:Int}:a % n * b % n=a * b % n:=by rw [Int.mul_emod,Int.emod_emod,<- Int.mul_emod]
theorem pow_emod (a n:Int):∀ e:Nat,(a % n) ^ e % n=a ^ e % n
  | 0=>by rw [Int.pow_zero,Int.pow_zero]
  | e + 1=>by rw [Int.pow_succ,Int.pow_succ,Int.mul_emod,pow_emod a n e,Int.emod_emod,<- Int.mul_emod]
theorem sq_turn {h s n:Int} {e:Int} (he:0 < e):(if e % 2=1 then h * s % n else h) * (s * s % n) ^ (e / 2).toNat % n=h * s ^ e.toNat % n:=by
  have e1:e.toNat=(e / 2).toNat + (e / 2).toNat + (e % 2).toNat:=by omega
  rw [Int.mul_emod,pow_emod,Int.mul_pow]
  split
  . rename_i h1
    rw [Int.emod_emod,<- Int.mul_emod,e1,h1,Int.pow_add,Int.pow_add,show (1:Int).toNat=1 from rfl,Int.pow_one]
    congr 1; grind
  . rename_i h1
    have h0:e % 2=0:=by omega
    rw [<- Int.mul_emod,e1,h0,Int.pow_add,Int.pow_add,show (0:Int).toNat=0 from rfl,Int.pow_zero]
    congr 1; grind
noncomputable def SPs (n b:Int) (s:Nat):Prop:=b % n=0\/b ^ ((n - 1) / 2 ^ s).toNat % n=1\/∃ j < s,b ^ (((n - 1) / 2 ^ s).toNat * 2 ^ j) % n=n - 1
theorem tz_halves {x d:Int} {s:Nat} (h:d * 2 ^ s=x) (ho:d % 2=1):Tz x s/\x / 2 ^ s=d:=by
  have p:=pw2_pos s
  have e:x / 2 ^ s=d:=by rw [<- h]; exact Int.mul_ediv_cancel _ (by omega)
  exact ⟨⟨by rw [<- h]; exact Int.mul_emod_left ..,by rw [e]; exact ho⟩,e⟩
end N8
noncomputable section N9
theorem half_tz {d n:Int} {s:Nat} (hd:0 < d) (h:d % 2=0) (e:d * 2 ^ s=n):0 < d / 2/\d / 2 * 2 ^ (s + 1)=n:=by
  refine ⟨by omega,?_⟩
  rw [Int.pow_succ,<- e,Int.mul_comm (2 ^ s) 2,<- Int.mul_assoc,Int.ediv_mul_cancel (Int.dvd_of_emod_eq_zero h)]
theorem toNat_half {d:Int} (hd:0 < d):(d / 2).toNat < d.toNat:=by omega
theorem odd_of {d:Int} (h:¬ d % 2=0):d % 2=1:=by omega
theorem sq_done {e:Int} (h0:0<=e) (h:¬ 0 < e):e.toNat=0:=by omega
theorem ite_in {a b n:Int} {c:Prop} [Decidable c] (h1:0<=a/\a < n) (h2:0<=b/\b < n):0<=(if c then a else b)/\(if c then a else b) < n:=by split <;> assumption
theorem sq_step (b n:Int) (d i:Nat):b ^ (d * 2 ^ i) % n * (b ^ (d * 2 ^ i) % n) % n=b ^ (d * 2 ^ (i + 1)) % n:=by
  rw [emul,<- Int.pow_add,Nat.pow_succ,<- Nat.mul_assoc,Nat.mul_two]
theorem mod_32 {a n:Int} (h:0<=a/\a < n) (hn:n < 2 ^ 32):Sm a:=Sm.in h (Int.le_of_lt hn) (by decide)
open Classical in
theorem sp_law_strong {G:Gd} (pg:PG G) {n b:Int} (hn:2 < n) (hn':n < 2 ^ 32) (hb:0<=b) (hb':b < 2 ^ 32) :
    Ca G 1 (fnv G "_law_strong") [.int n,.int b] (λ v=>∃ s,Tz (n - 1) s/\v=.bool (decide (SPs n b s))):=by
  have n0:0 < n:=by omega
  have hm:=λ a=>mod_in (a:=a) n0
  refine Ca.ofR λ K hK=>vdef pg o_law_strong rfl ?_
  refine LpW.c2 (λ (d:Int) (s:Nat)=>[.v (.int n),.v (.int b),.v (.int d),.v (.int s),.un,.un,.un,.un]) (λ d _=>0 < d) (λ d s=>d * 2 ^ s=n - 1) (λ _ _=>True) (λ _ _=>True) (λ d _=>d.toNat) (n - 1) 0 rfl (by omega) (by rw [Int.pow_zero,Int.mul_one]) trivial trivial ?_
  intro Q d s hQ hd hds _ _
  have s2:Sm 2:=Sm.of (by decide) (by decide)
  refine And.intro (by decide) (Br.mk (λ h=>?_) λ hodd=>?_)
  . repeat' first | walk_at "z"
    have h':=half_tz hd h hds
    exact hQ _ (s + 1) (toNat_half hd) h'.1 h'.2 trivial trivial
  obtain ⟨ht,hdq⟩:=tz_halves hds (odd_of hodd)
  have kt:SPs n b s->K (.bool true):=λ h=>hK _ ⟨s,ht,congrArg SV.bool (decide_eq_true h).symm⟩
  have kf:¬ SPs n b s->K (.bool false):=λ h=>hK _ ⟨s,ht,congrArg SV.bool (decide_eq_false h).symm⟩
  unfold SPs at kt kf
  rw [hdq] at kt kf
  clear hQ hK ht hdq hodd
  refine Jm.dup (And.intro n0 (Br.mk (λ h=>kt (.inl h)) λ h2=>?_))
  have d0:=Int.le_of_lt hd
  repeat' first | walk_at "z"
  refine LpW.c3 (λ (h s2 e:Int)=>[.v (.int n),.v (.int b),.v (.int d),.v (.int s),.v (.int h),.v (.int s2),.v (.int e),.un]) (λ h _ _=>0<=h/\h < n) (λ _ s2 _=>0<=s2/\s2 < n) (λ _ _ e=>0<=e) (λ h s2 e=>h * s2 ^ e.toNat % n=b ^ d.toNat % n) (λ _ _ _=>True) (λ _ _ e=>e.toNat) 1 (b % n) d rfl (by omega) (hm b) d0 (by rw [Int.one_mul,pow_emod]) trivial ?_
  intro Q h sq e hQ hh hs he hinv _
  have sh:=mod_32 hh hn'
  have ss:=mod_32 hs hn'
  refine Br.mk (λ h3=>?_) λ h3=>?_
  . refine Jn.ite (.ss []) (c:=e % 2=1) (h * sq % n) h (λ Q h1 h2=>?_) ?_
    . refine And.intro (by decide) (Br.mk (λ z=>And.intro sh (And.intro ss (And.intro n0 (h1 z)))) h2)
    repeat' first | walk_at "z"
    exact hQ _ _ _ (toNat_half h3) (ite_in (hm _) hh) (hm _) (Int.ediv_nonneg he (by decide)) ((sq_turn h3).trans hinv) trivial
  rw [sq_done he h3,Int.pow_zero,Int.mul_one,Int.emod_eq_of_lt hh.1 hh.2] at hinv
  refine Jm.dup (Br.mk (λ h4=>kt (.inr (.inl (hinv.symm.trans h4)))) λ h4=>?_)
  have kf:(∀ j,j < s->b ^ (d.toNat * 2 ^ j) % n≠n - 1)->K (.bool false):=λ hz=>kf (by
    rintro (q | q | ⟨j,hj,q⟩)
    . exact h2 q
    . exact h4 (hinv.trans q)
    . exact hz j hj q)
  have kt:∀ j,j < s->b ^ (d.toNat * 2 ^ j) % n=n - 1->K (.bool true):=λ j hj e=>kt (.inr (.inr ⟨j,hj,e⟩))
  have hs62:s < 2 ^ 62:=by
    have hx:d * 2 ^ s < 2 ^ 32:=by omega
    rcases Nat.lt_or_ge s 32 with z | z
    . omega
    . have h5:(2:Int) ^ 32<=2 ^ s:=pow_mono (by decide) z
      have:=Int.mul_le_mul_of_nonneg_right (show (1:Int)<=d from hd) (Int.le_of_lt (pw2_pos s))
      omega
  repeat' first | walk_at "z"
  refine LpF.c1 (λ i (c:SC)=>[.v (.int n),.v (.int b),.v (.int d),.v (.int s),.v (.int (b ^ (d.toNat * 2 ^ i) % n)),.v (.int sq),.v (.int e),c]) (λ i _=>∀ j,j < i->b ^ (d.toNat * 2 ^ j) % n≠n - 1) (λ _ _=>True) (λ _ _=>True) .un ?_ (λ j hj=>absurd hj (Nat.not_lt_zero j)) trivial trivial ?_ ?_
  . rw [Nat.pow_zero,Nat.mul_one,<- hinv]
  . intro Q i c hQ hi hno _ _
    have sb:=mod_32 (hm (b ^ (d.toNat * 2 ^ i))) hn'
    repeat' first | walk_at "z"
    . rename_i h5; exact kt i hi h5
    . rename_i h5
      have hQ:=hQ (.v (.int i)) (λ j hj=>(Nat.lt_succ_iff_lt_or_eq.mp hj).elim (hno j) λ z=>z ▸ h5) trivial trivial
      rw [<- sq_step] at hQ
      repeat' first | walk_at "z"
      exact hQ
  . intro c hno _ _
    exact kf hno
theorem fn_mul {G:Gd} (pg:PG G):IsFn G (fnv G "_law_mul"):=n_law_mul ▸ (d_law_mul pg).isFn.1
theorem fn_divrem {G:Gd} (pg:PG G):IsFn G (fnv G "_law_divrem"):=n_law_divrem ▸ (d_law_divrem pg).isFn.1
theorem sq_62 {x:Int} (hx:0<=x) (hx':x < 2 ^ 31):0<=x * x/\x * x < 2 ^ 64:=by
  have h2:x * x<=2 ^ 31 * 2 ^ 31:=Int.mul_le_mul (by omega) (by omega) hx (by omega)
  exact ⟨Int.mul_nonneg hx hx,by omega⟩
theorem sp_square_rest {G:Gd} (pg:PG G) {w:Nat} (hw:1<=w) (hw':w<=60) {x n:Int} (hx:0<=x) (hx':x < 2 ^ 31) (hn:0 < n) (hn':n < 2 ^ 60) :
    Ca G 3 (fnv G "square_rest") [.il (row (2 ^ w) x),.il (row (2 ^ w) n),.int w,.v (fnv G "_law_mul"),.v (fnv G "_law_divrem")] (·=.il (row (2 ^ w) (x * x % n))):=by
  have f1:=fn_mul pg
  have f2:=fn_divrem pg
  have h2:=sq_62 hx hx'
  refine Ca.of λ K hK=>vdef pg o_square_rest rfl ?_
  refine And.intro f2 (And.intro f1 (Ca.eq (sp_law_mul pg hw hw' hx (by omega) hx (by omega) h2.2) rfl ?_))
  refine Ca.eq (sp_law_divrem pg hw hw' h2.1 h2.2 hn (by omega)) rfl ?_
  repeat' first | walk_at "z"
  exact hK
theorem sign_1 {y n:Int} (h1:y < 0) (h2:(y.natAbs:Int) % n=0):y % n=0:=by
  have e1:y=-(y.natAbs:Int):=by omega
  rw [e1]
  exact Int.emod_eq_zero_of_dvd (Int.dvd_neg.mpr (Int.dvd_of_emod_eq_zero h2))
theorem sign_2 {y n:Int} (h1:y < 0) (hn:0 < n) (hne:(y.natAbs:Int) % n≠0):n - (y.natAbs:Int) % n=y % n:=by
  have e1:y=-(y.natAbs:Int):=by omega
  have m:=mod_in (a:=(y.natAbs:Int)) hn
  have e2:=Int.emod_add_mul_ediv (y.natAbs:Int) n
  generalize hr:(y.natAbs:Int) % n=r at *
  generalize hq:(y.natAbs:Int) / n=q at *
  have:y=(n - r) + n * (-q - 1):=by rw [Int.mul_sub,Int.mul_neg]; omega
  rw [this,Int.add_mul_emod_self_left,Int.emod_eq_of_lt (by omega) (by omega)]
theorem sign_3 {y:Int} (h:¬ y < 0):(y.natAbs:Int)=y:=by omega
theorem sp_signed_rest {G:Gd} (pg:PG G) {w:Nat} (hw:1<=w) (hw':w<=60) {y n:Int} (hy:y.natAbs < 2 ^ 60) (hn:0 < n) (hn':n < 2 ^ 60) :
    Ca G 3 (fnv G "signed_rest") [.int y,.il (row (2 ^ w) n),.int w,.v (fnv G "_law_divrem")] (·=.il (row (2 ^ w) (y % n))):=by
  have hB:=two_le hw
  have f2:=fn_divrem pg
  have m1:=mod_in (a:=(y.natAbs:Int)) hn
  have y0:(0:Int)<=y.natAbs:=Int.natCast_nonneg _
  have y1:(y.natAbs:Int) < 2 ^ 64:=by omega
  refine Ca.of λ K hK=>vdef pg o_signed_rest rfl ?_
  refine And.intro f2 (Ca.eq (sp_nat_of pg hw (by omega) y0 y1) rfl ?_)
  refine Ca.eq (sp_law_divrem pg hw hw' y0 y1 hn (by omega)) rfl ?_
  repeat' first | walk_at "z"
  refine Jn.dup (Br.mk (λ h1=>And.intro (Nat.zero_le _) (Br.mk (λ h2=>?_) λ h2=>?_)) λ h1=>?_)
  . have e:=(row_eq_nil hB m1.1).mp h2
    exact K_eq (K:=K) hK (by rw [e,sign_1 h1 e])
  . have e:=mt (row_eq_nil hB m1.1).mpr h2
    rw [<- sign_2 h1 hn e] at hK
    exact Ca.eq (sp_sub pg hw (by omega) (Int.le_of_lt hn) (by omega) m1.1 (Int.le_of_lt m1.2)) rfl hK
  . exact K_eq (K:=K) hK (by rw [sign_3 h1])
inductive JT:Int->Int->Int->Int->Prop
  | done (n s):JT 0 n s (if n=1 then s else 0)
  | even {a n s r}:0 < a->a % 2=0->JT (a / 2) n (if n % 8=3\/n % 8=5 then -s else s) r->JT a n s r
  | odd {a n s r}:0 < a->a % 2=1->JT (n % a) a (if n % 4=3/\a % 4=3 then -s else s) r->JT a n s r
end N9
noncomputable section N10
theorem even_lt {x:Int} (hx:0 < x) (h:x % 2=0):0 < x / 2/\(x / 2).toNat < x.toNat:=by omega
theorem mod_lt' {y x z:Int} (hx:0 < x) (h:x<=z):(y % x).toNat < z.toNat:=by
  have:=mod_in (a:=y) hx
  omega
theorem bit0_of {x:Int} (h:Builtin.bitAnd x 1=0):x % 2=0:=by rwa [bitAnd_m1] at h
theorem bit1_of {x:Int} (h:¬ Builtin.bitAnd x 1=0):x % 2=1:=by rw [bitAnd_m1] at h; omega
theorem m8_of {y:Int}:(Builtin.bitAnd y 7=3\/Builtin.bitAnd y 7=5) ↔ (y % 8=3\/y % 8=5):=by rw [bitAnd_m3]
theorem m4_of {y:Int}:Builtin.bitAnd y 3=3 ↔ y % 4=3:=by rw [bitAnd_m2]
theorem sp_jacobi_plain {G:Gd} (pg:PG G) {a n:Int} (hn:0 < n) :
    Ca G 1 (fnv G "jacobi_plain") [.int a,.int n] (λ v=>∃ r,v=.int r/\JT (a % n) n 1 r):=by
  refine Ca.ofR λ K hK=>vdef pg o_jacobi_plain rfl ?_
  refine And.intro hn ?_
  refine LpW.c3 (λ (x y s:Int)=>[.v (.int x),.v (.int y),.v (.int s)]) (λ x _ _=>0<=x) (λ _ y _=>0 < y) (λ x y s=>∀ r,JT x y s r->JT (a % n) n 1 r) (λ _ _ _=>True) (λ _ _ _=>True) (λ x _ _=>x.toNat) (a % n) n 1 rfl (mod_in hn).1 hn (λ _ h=>h) trivial trivial ?_
  intro Q x y s hQ hx hy hJ _ _
  refine Br.mk (λ h=>?_) λ h=>?_
  . refine LpW.c2 (λ (x2 s2:Int)=>[.v (.int x2),.v (.int y),.v (.int s2)]) (λ x2 _=>0 < x2/\x2<=x) (λ x2 s2=>∀ r,JT x2 y s2 r->JT (a % n) n 1 r) (λ _ _=>True) (λ _ _=>True) (λ x2 _=>x2.toNat) x s rfl ⟨h,Int.le_refl _⟩ hJ trivial trivial ?_
    intro Q2 x2 s2 hQ2 hx2 hJ2 _ _
    refine Br.mk (λ h2=>?_) λ h2=>?_
    . have h2:=bit0_of h2
      have h3:=even_lt hx2.1 h2
      refine Exists.intro 1 (And.intro rfl (Jn.ite (.ss []) (c:=y % 8=3\/y % 8=5) (-s2) s2 (λ Q h1 h2=>Br.mk (λ z=>h1 (m8_of.mp z)) λ z=>h2 (mt m8_of.mpr z)) ?_))
      exact hQ2 _ _ h3.2 ⟨h3.1,Int.le_trans (Int.ediv_le_self 2 (Int.le_of_lt hx2.1)) hx2.2⟩ (λ r z=>hJ2 r (.even hx2.1 h2 z)) trivial trivial
    . have h2:=bit1_of h2
      refine Jn.ite (.ss []) (c:=y % 4=3/\x2 % 4=3) (-s2) s2 (λ Q h1 h2=>Br.mk (λ z=>Br.mk (λ z2=>h1 ⟨m4_of.mp z,m4_of.mp z2⟩) λ z2=>h2 λ q=>z2 (m4_of.mpr q.2)) λ z=>h2 λ q=>z (m4_of.mpr q.1)) ?_
      exact And.intro hx2.1 (hQ _ _ _ (mod_lt' hx2.1 hx2.2) (mod_in hx2.1).1 hx2.1 (λ r z=>hJ2 r (.odd hx2.1 h2 z)) trivial trivial)
  . obtain rfl:x=0:=Int.le_antisymm (Int.not_lt.mp h) hx
    refine Jn.ite (.ss []) (c:=y=1) s 0 (λ Q h1 h2=>Br.mk h1 h2) ?_
    exact hK _ ⟨_,rfl,hJ _ (.done y s)⟩
inductive JD:Int->Int->Int->Int->Prop
  | zero (n s):JD 0 n s (if n=1 then 1 else 0)
  | even {d n s r}:0 < d->d % 2=0->JD (d / 2) n (if n % 8=3\/n % 8=5 then -s else s) r->JD d n s r
  | one (n s):JD 1 n s s
  | odd {d n s r}:1 < d->d % 2=1->JT (n % d % d) d 1 r->JD d n s ((if d % 4=3/\n % 4=3 then -s else s) * r)
noncomputable def JS (d n r:Int):Prop:=JD d.natAbs n (if d < 0 then (if n % 4=3 then -1 else 1) else 1) r
theorem JT.bound {a n s r:Int} (h:JT a n s r):r.natAbs<=s.natAbs:=by
  induction h with
  | done n s=>split <;> omega
  | even _ _ _ ih=>split at ih <;> omega
  | odd _ _ _ ih=>split at ih <;> omega
theorem mod8 {w:Nat} (hw:3<=w) (x:Int):x % 2 ^ w % 8=x % 8:=by
  obtain ⟨k,rfl⟩:=Nat.exists_eq_add_of_le hw
  rw [Int.pow_add]
  exact Int.emod_emod_of_dvd x ⟨2 ^ k,rfl⟩
theorem sgn_1 {d n:Int}:((if d < 0 then (if n % 4=3 then -1 else 1) else 1):Int).natAbs<=1:=by split <;> (try split) <;> decide
theorem sgn_n {c:Prop} [Decidable c] {s:Int} (h:s.natAbs<=1):(if c then -s else s).natAbs<=1:=by split <;> omega
theorem Sm.abs {i:Int} (h:i.natAbs<=1):Sm i:=Sm.of (by omega) (by omega)
theorem m4_8 {n:Int}:n % 8 % 4=3 ↔ n % 4=3:=by rw [Int.emod_emod_of_dvd n (show (4:Int) ∣ 8 from ⟨2,rfl⟩)]
theorem abs_neg {d:Int} (h:d < 0):-d=(d.natAbs:Int):=by omega
theorem abs_pos {d:Int} (h:¬ d < 0):d=(d.natAbs:Int):=by omega
theorem ig0_8 {w:Nat} (hw:3<=w) {n:Int} (hn:0 < n):Builtin.bitAnd (ig (row (2 ^ w) n) 0) 7=n % 8:=by
  rw [bitAnd_m3,ig_row0 (two_le (by omega)) hn,mod8 hw]
theorem sp_jacobi_small {G:Gd} (pg:PG G) {w:Nat} (hw:3<=w) (hw':w<=9) {d n:Int} (hd:d.natAbs < 2 ^ 59) (hn:0 < n) (hn':n < 2 ^ 60) :
    Ca G 2 (fnv G "jacobi_small") [.int d,.il (row (2 ^ w) n),.int w] (λ v=>∃ r,v=.int r/\JS d n r):=by
  have hw1:1<=w:=Nat.le_trans (by decide) hw
  have hB:=two_le hw1
  have ln:=len64 hB (Int.le_of_lt hn) (show n < 2 ^ 64 by omega)
  have lp:=Int.ofNat_lt.mpr (row_len_pos hB hn)
  have e0:=ig0_8 hw hn
  have e1:=row_is_one hw1 (Int.le_of_lt hn)
  have rs:=λ x (h0:1 < x) (h1:x < 2 ^ 60)=>sp_rest_small pg hw1 (by omega) (Int.le_of_lt hn) (by omega) (d:=x) (by omega) h1
  refine Ca.ofR λ K hK=>vdef pg o_jacobi_small rfl ?_
  generalize row (2 ^ w) n=fn at *
  refine And.intro (Int.le_refl _) (And.intro lp (And.intro (zs_nat ln rfl) ?_))
  refine Jm.c0 (.ss []) [.v (.int d),.v (.il fn),.v (.int w),.v (.int 1),.v (.int (n % 8))] True ?_ λ _=>?_
  . intro Q hQ
    refine Br.mk (λ h=>absurd (Int.ofNat_le.mpr hw) (Int.not_le.mpr h)) λ h=>?_
    rw [<- e0] at hQ
    exact hQ trivial
  refine Jm.c0 (.ss []) [.v (.int d.natAbs),.v (.il fn),.v (.int w),.v (.int (if d < 0 then (if n % 4=3 then -1 else 1) else 1)),.v (.int (n % 8))] True ?_ λ _=>?_
  . intro Q hQ
    refine Br.mk (λ h=>?_) λ h=>?_
    . refine Jn.ite (.ss []) (c:=n % 4=3) (-1) 1 (λ Q h1 h2=>Br.mk (λ z=>h1 (m4_8.mp (m4_of.mp z))) λ z=>h2 λ q=>z (m4_of.mpr (m4_8.mpr q))) ?_
      have hQ:=hQ trivial
      rw [if_pos h,<- abs_neg h] at hQ
      exact hQ
    . have hQ:=hQ trivial
      rw [if_neg h,<- abs_pos h] at hQ
      exact hQ
  have hJ0:∀ r,JD d.natAbs n (if d < 0 then (if n % 4=3 then -1 else 1) else 1) r->JS d n r:=λ r h=>h
  have hs0:=sgn_1 (d:=d) (n:=n)
  generalize ((if d < 0 then (if n % 4=3 then -1 else 1) else 1):Int)=s0 at *
  have hd0:0<=(d.natAbs:Int)/\(d.natAbs:Int) < 2 ^ 59:=⟨Int.natCast_nonneg _,by omega⟩
  generalize (d.natAbs:Int)=d0 at *
  refine LpW.c2 (λ (x s:Int)=>[.v (.int x),.v (.il fn),.v (.int w),.v (.int s),.v (.int (n % 8))]) (λ x _=>0<=x/\x < 2 ^ 59) (λ _ s=>s.natAbs<=1) (λ x s=>∀ r,JD x n s r->JS d n r) (λ _ _=>True) (λ x _=>x.toNat) d0 s0 rfl hd0 hs0 hJ0 trivial ?_
  intro Q x s hQ hx hs hJ _
  have fin:x=0\/x % 2=1->vs (Cf G (dN 46).scope ["d","n","w","sign","rest"] 1 999) (.ite (.cmp .Eq (.nm 0) (.int 0)) (.ret (.ite (.cmp .Eq (.nm 1) (.lst (.cons (.int 1) .nil))) (.int 1) (.int 0))) .nil (.ite (.and (.cmp .Eq (.bin .BitAnd (.nm 0) (.int 3)) (.int 3)) (.cmp .Eq (.bin .BitAnd (.nm 4) (.int 3)) (.int 3))) (.set 3 (.neg (.nm 3)) .nil) .nil (.ret (.ite (.cmp .Gt (.nm 0) (.int 1)) (.bin .Mult (.nm 3) (.call "jacobi_plain" (.cons (.call "rest_small" (.cons (.nm 1) (.cons (.nm 0) (.cons (.nm 2) .nil)))) (.cons (.nm 0) .nil)))) (.nm 3)))))
      [.v (.int x),.v (.il fn),.v (.int w),.v (.int s),.v (.int (n % 8))] (.ss []) (rN K) rC (rR K):=by
    intro hp
    refine Jm.dup (Br.mk (λ h=>?_) λ h=>?_)
    . subst h
      refine Jn.ite (.ss []) (c:=n=1) 1 0 (λ Q h1 h2=>And.intro (Nat.le_of_ble_eq_true rfl) (Br.mk (λ z=>h1 (e1.mp z)) λ z=>h2 (mt e1.mpr z))) ?_
      exact hK _ ⟨_,rfl,hJ _ (.zero n s)⟩
    have hx1:x % 2=1:=hp.resolve_left h
    refine Jm.c0 (.ss []) [.v (.int x),.v (.il fn),.v (.int w),.v (.int (if x % 4=3/\n % 4=3 then -s else s)),.v (.int (n % 8))] True ?_ λ _=>?_
    . intro Q hQ
      have hQ:=hQ trivial
      refine Br.mk (λ z=>Br.mk (λ z2=>?_) λ z2=>?_) λ z=>?_
      . rw [if_pos ⟨m4_of.mp z,m4_8.mp (m4_of.mp z2)⟩] at hQ; exact hQ
      . rw [if_neg λ q=>z2 (m4_of.mpr (m4_8.mpr q.2))] at hQ; exact hQ
      . rw [if_neg λ q=>z (m4_of.mpr q.1)] at hQ; exact hQ
    have hs1:=sgn_n (c:=x % 4=3/\n % 4=3) hs
    refine Jn.dup (Br.mk (λ z=>?_) λ z=>?_)
    . refine Ca.eq (rs x z (by omega)) rfl (Ca.toL (sp_jacobi_plain pg (by omega)) rfl λ r hr=>?_)
      have hb:=hr.bound
      exact And.intro (Sm.abs hs1) (And.intro (Sm.abs hb) (hK _ ⟨_,rfl,hJ _ (JD.odd z hx1 hr)⟩))
    . obtain rfl:x=1:=by omega
      exact hK _ ⟨_,rfl,hJ _ (.one n s)⟩
  refine Br.mk (λ h=>Br.mk (λ h2=>?_) λ h2=>?_) λ h=>?_
  . have h2:=bit0_of h2
    have h3:=even_lt h h2
    refine Exists.intro 1 (And.intro rfl (Jn.ite (.ss []) (c:=n % 8=3\/n % 8=5) (-s) s (λ Q h1 h2=>Br.mk h1 h2) ?_))
    exact hQ _ _ h3.2 ⟨Int.le_of_lt h3.1,Int.lt_of_le_of_lt (Int.ediv_le_self 2 hx.1) hx.2⟩ (sgn_n hs) (λ r z=>hJ r (.even h h2 z)) trivial
  . exact fin (.inr (bit1_of h2))
  . exact fin (.inl (Int.le_antisymm (Int.not_lt.mp h) hx.1))
end N10
noncomputable section N11
theorem root_step {x f:Int} (hf:0 < f) (hx:0<=x):x < ((f + x / f) / 2 + 1) * ((f + x / f) / 2 + 1):=by
  have e1:=Int.emod_add_mul_ediv x f
  have e2:=Int.emod_lt_of_pos x hf
  generalize hq:x / f=q at *
  have h1:f + q + 1<=2 * ((f + q) / 2 + 1):=by omega
  generalize (f + q) / 2 + 1=b at *
  have hq0:0<=q:=by rw [<- hq]; exact Int.ediv_nonneg hx (by omega)
  have h2:(f + q + 1) * (f + q + 1)<=(2 * b) * (2 * b):=Int.mul_le_mul h1 h1 (by omega) (by omega)
  have h3:0<=(f - (q + 1)) * (f - (q + 1)):=by
    rcases Int.le_total 0 (f - (q + 1)) with z | z
    . exact Int.mul_nonneg z z
    . have:=Int.mul_nonneg (show 0<=-(f - (q + 1)) by omega) (show 0<=-(f - (q + 1)) by omega)
      rw [Int.neg_mul_neg] at this; exact this
  have h4:(f + q + 1) * (f + q + 1)=(f - (q + 1)) * (f - (q + 1)) + 4 * (f * (q + 1)):=by grind
  have h5:f * (q + 1)=f * q + f:=by rw [Int.mul_add,Int.mul_one]
  have h6:(2 * b) * (2 * b)=4 * (b * b):=by grind
  omega
theorem root_done {x f:Int} (hf:0 < f) (h:f<=(f + x / f) / 2):f * f<=x:=by
  have h1:f<=x / f:=by omega
  have:=(Int.le_ediv_iff_mul_le hf).mp h1
  exact this
theorem root_start {x:Int} (hx:0 < x) (hx':x < 2 ^ 60):∃ sh:Nat,((bl x:Int) + 1) / 2=(sh:Int)/\sh<=31/\(0 < (2:Int) ^ sh/\(2:Int) ^ sh<=2 ^ 31)/\x < (2 ^ sh + 1) * (2 ^ sh + 1):=by
  obtain ⟨m,hm⟩:∃ m,bl x=m + 1:=⟨bl x - 1,by have:=bl_pos hx; omega⟩
  obtain ⟨h1,h2⟩:=(bl_iff hx).mp hm
  have hm60:m < 60:=by
    rcases Nat.lt_or_ge m 60 with z | z
    . exact z
    . have:=pow_mono (B:=2) (by decide) z; omega
  refine ⟨(bl x + 1) / 2,by omega,by omega,⟨pw2_pos _,pow_mono (by decide) (by omega)⟩,?_⟩
  have hpp:(2:Int) ^ bl x<=2 ^ ((bl x + 1) / 2) * 2 ^ ((bl x + 1) / 2):=by rw [<- Int.pow_add]; exact pow_mono (by decide) (by omega)
  rw [<- hm] at h2
  have hp0:=pw2_pos ((bl x + 1) / 2)
  generalize (2:Int) ^ ((bl x + 1) / 2)=p at *
  have:(p + 1) * (p + 1)=p * p + 2 * p + (1:Int):=by grind
  omega
theorem better_pos {x f:Int} (hx:0 < x) (rs:x < ((f + x / f) / 2 + 1) * ((f + x / f) / 2 + 1)) (h0:0<=(f + x / f) / 2):0 < (f + x / f) / 2:=by
  rcases Int.lt_or_eq_of_le h0 with z | z
  . exact z
  . rw [<- z] at rs; omega
theorem avg_le {x f:Int} (hx:0<=x) (hx':x < 2 ^ 60) (hf:0 < f/\f<=2 ^ 60):0<=x / f/\x / f < 2 ^ 64/\0<=f + x / f/\f + x / f < 2 ^ 64/\0<=(f + x / f) / 2/\(f + x / f) / 2 < 2 ^ 64/\(f + x / f) / 2<=2 ^ 60:=by
  have hq0:0<=x / f:=Int.ediv_nonneg hx (by omega)
  have hq1:x / f<=x:=Int.ediv_le_self _ hx
  omega
theorem sp_root_whole {G:Gd} (pg:PG G) {w:Nat} (hw:1<=w) (hw':w<=60) {x:Int} (hx:0<=x) (hx':x < 2 ^ 60) :
    Ca G 3 (fnv G "root_whole") [.il (row (2 ^ w) x),.int w,.v (fnv G "_law_divrem")] (λ v=>∃ r,v=.il (row (2 ^ w) r)/\0<=r/\r * r<=x/\x < (r + 1) * (r + 1)):=by
  have hB:=two_le hw
  have f2:=fn_divrem pg
  have hx64:x < 2 ^ 64:=by omega
  have hw64:w<=64:=Nat.le_trans hw' (by decide)
  have ez:=row_eq_nil hB hx
  refine Ca.ofR λ K hK=>vdef pg o_root_whole rfl (Jm.dup ?_)
  refine And.intro (Nat.zero_le _) (Br.mk (λ h=>?_) λ h=>?_)
  . obtain rfl:=ez.mp h
    exact And.intro (Nat.zero_le _) (hK _ ⟨0,by rw [row_zero]; rfl,by decide,by decide,by decide⟩)
  have hx0:0 < x:=Int.lt_iff_le_and_ne.mpr ⟨hx,λ e=>h (ez.mpr e.symm)⟩
  refine hid λ _ uQ=>?_
  obtain ⟨sh,es,hs,hp,hxp⟩:=root_start hx0 hx'
  refine uQ ?_
  refine And.intro (Nat.le_of_ble_eq_true rfl) ?_
  show kA1 _ _ _ (.il [1]) _
  rw [<- row_one hB (show (0:Int) < 1 by decide) (Int.lt_of_lt_of_le (by decide) hB)]
  refine Ca.eq (sp_bits pg hw hw' hx hx64) rfl (And.intro (by decide) (And.intro (Sm.of (by decide) (by decide)) ?_))
  show kA1 _ _ _ (.int (((bl x:Int) + 1) / 2)) _
  rw [es]
  refine Ca.eq (sp_shift_left pg hw hw' (x:=1) (by decide) (by decide) (n:=sh) (Nat.le_trans hs (by decide))) rfl ?_
  rw [Int.one_mul]
  refine LpW.c2 (λ (f:Int) (c:SC)=>[.v (.il (row (2 ^ w) x)),.v (.int w),.v (.v (fnv G "_law_divrem")),.v (.il (row (2 ^ w) f)),c]) (λ f _=>0 < f/\f<=2 ^ 60) (λ f _=>x < (f + 1) * (f + 1)) (λ _ _=>True) (λ _ _=>True) (λ f _=>f.toNat) (2 ^ sh) .un rfl ⟨hp.1,Int.le_trans hp.2 (by decide)⟩ hxp trivial trivial ?_
  intro Q f c hQ hf hxf _ _
  refine hid λ _ uQ=>?_
  obtain ⟨q0,q1,q2,q3,q4,q5,q6⟩:=avg_le hx hx' hf
  refine uQ ?_
  have rs:=root_step hf.1 hx
  have rd:=root_done (x:=x) hf.1
  refine Br.mk (λ _=>?_) λ z=>absurd rfl z
  refine And.intro f2 (Ca.eq (sp_law_divrem pg hw hw' hx hx64 hf.1 (by omega)) rfl ?_)
  refine And.intro (Nat.le_of_ble_eq_true rfl) ?_
  refine Ca.eq (sp_add pg hw hw64 (Int.le_of_lt hf.1) (by omega) q0 q1) rfl ?_
  refine Ca.eq (sp_shift_right pg hw hw' q2 q3 (n:=1) (by decide)) rfl ?_
  refine Jm.dup (Ca.eq (sp_compare pg hB q4 (Int.le_of_lt hf.1) q5 (by omega)) rfl (Br.mk (λ h2=>?_) λ h2=>?_))
  . exact hK _ ⟨f,rfl,Int.le_of_lt hf.1,rd (ge_0.mp h2),hxf⟩
  . have h2:=mt ge_0.mpr h2
    exact hQ _ _ (by omega) ⟨better_pos hx0 rs q4,q6⟩ rs trivial trivial
theorem sq_unique {x r s:Int} (hr:0<=r) (h1:r * r<=x) (h2:x < (r + 1) * (r + 1)) (hs:s * s=x):r * r=x:=by
  have key:∀ t:Int,0<=t->t * t=x->r * r=x:=by
    intro t ht e
    rcases Int.lt_trichotomy t r with z | z | z
    . have:=Int.mul_le_mul (show t<=r - 1 by omega) (show t<=r - 1 by omega) ht (by omega)
      have e2:(r - 1) * (r - 1)=r * r - 2 * r + 1:=by grind
      omega
    . rw [<- z]; exact e
    . have:=Int.mul_le_mul (show r + 1<=t by omega) (show r + 1<=t by omega) (by omega) ht
      omega
  rcases Int.le_total 0 s with z | z
  . exact key s z hs
  . exact key (-s) (by omega) (by rw [Int.neg_mul_neg]; exact hs)
noncomputable def IsSq (x:Int):Prop:=∃ s:Int,s * s=x
theorem root_60 {x r:Int} (h0:0<=r) (h1:r * r<=x) (hx:x < 2 ^ 60):r < 2 ^ 60:=by
  rcases Int.lt_or_le r (2 ^ 60) with z | z
  . exact z
  . have:=Int.mul_le_mul z z (by decide) h0; omega
open Classical in
theorem sp_is_square_row {G:Gd} (pg:PG G) {w:Nat} (hw:1<=w) (hw':w<=60) {x:Int} (hx:0<=x) (hx':x < 2 ^ 60) :
    Ca G 4 (fnv G "is_square_row") [.il (row (2 ^ w) x),.int w,.v (fnv G "_law_mul"),.v (fnv G "_law_divrem")] (·=.bool (decide (IsSq x))):=by
  have hB:=two_le hw
  have f1:=fn_mul pg
  refine Ca.of λ K hK=>vdef pg o_is_square_row rfl (Ca.toL (sp_root_whole pg hw hw' hx hx') rfl λ r hr=>?_)
  obtain ⟨h0,h1,h2⟩:=hr
  have hr:=root_60 h0 h1 hx'
  refine And.intro f1 (Ca.eq (sp_law_mul pg hw hw' h0 (by omega) h0 (by omega) (by omega)) rfl (K_eqB (K:=K) hK ?_))
  refine decide_eq_decide.mpr ⟨λ h=>⟨r,row_inj hB (Int.mul_nonneg h0 h0) hx h⟩,λ z0=>z0.elim λ s hs=>?_⟩
  rw [sq_unique h0 h1 h2 hs]
theorem JT.det {a n s r:Int} (h:JT a n s r):∀ {r'},JT a n s r'->r=r':=by
  induction h with
  | done n s =>
    intro r' h'
    cases h' with
    | done=>rfl
    | even h=>omega
    | odd h=>omega
  | even h1 h2 _ ih =>
    intro r' h'
    cases h' with
    | done=>omega
    | even _ _ h3=>exact ih h3
    | odd _ h3=>omega
  | odd h1 h2 _ ih =>
    intro r' h'
    cases h' with
    | done=>omega
    | even _ h3=>omega
    | odd _ _ h3=>exact ih h3
theorem JD.det {a n s r:Int} (h:JD a n s r):∀ {r'},JD a n s r'->r=r':=by
  induction h with
  | zero n s =>
    intro r' h'
    cases h' with
    | zero=>rfl
    | even h=>omega
    | odd h=>omega
  | even h1 h2 _ ih =>
    intro r' h'
    cases h' with
    | zero=>omega
    | even _ _ h3=>exact ih h3
    | one=>omega
    | odd _ h3=>omega
  | one n s =>
    intro r' h'
    cases h' with
    | even _ h3=>omega
    | one=>rfl
    | odd h=>omega
  | odd h1 h2 h3 =>
    intro r' h'
    cases h' with
    | zero=>omega
    | even _ h4=>omega
    | one=>omega
    | odd _ _ h4=>rw [h3.det h4]
theorem JS.det {d n r r':Int} (h:JS d n r) (h':JS d n r'):r=r':=JD.det h h'
inductive SF (n:Int):Nat->Int->Int->Prop
  | hit {d}:JS d n (-1)->SF n 0 d d
  | zero {d}:JS d n 0->n≠d.natAbs->SF n 0 d 0
  | next {m d s r}:JS d n s->s≠-1->(s=0->n=d.natAbs)->SF n m (if 0 < d then -d - 2 else 2 - d) r->SF n (m + 1) d r
theorem SF.m1 {n d s r:Int} {i:Nat} (h:SF n i d r) (hs:JS d n s) (h1:s=-1):r=d:=by
  subst h1
  cases h with
  | hit h=>rfl
  | zero h=>exact absurd (h.det hs) (by decide)
  | next h h2=>exact absurd (h.det hs) h2
theorem SF.z0 {n d s r:Int} {i:Nat} (h:SF n i d r) (hs:JS d n s) (h1:s=0) (h2:n≠d.natAbs):r=0:=by
  subst h1
  cases h with
  | hit h=>exact absurd (h.det hs) (by decide)
  | zero h=>rfl
  | next h h3 h4=>exact absurd (h4 (h.det hs)) h2
theorem SF.nx {n d s r:Int} {i:Nat} (h:SF n i d r) (hs:JS d n s) (h1:¬ s=-1) (h2:s=0->n=d.natAbs):∃ j,i=j + 1/\SF n j (if 0 < d then -d - 2 else 2 - d) r:=by
  cases h with
  | hit h=>exact absurd (h.det hs).symm h1
  | zero h h3=>exact absurd (h2 (h.det hs).symm) h3
  | @next i _ s' _ h h4 h5 h6=>exact ⟨i,rfl,h6⟩
theorem sf_bound {d:Int} {m j:Nat} (h:j + 1<=m/\d.natAbs + 2 * (j + 1)<=5 + 2 * m):j<=m/\(if 0 < d then -d - 2 else 2 - d).natAbs + 2 * j<=5 + 2 * m:=⟨Nat.le_of_succ_le h.1,by split <;> omega⟩
theorem sp_selfridge {G:Gd} (pg:PG G) {w:Nat} (hw:3<=w) (hw':w<=9) {n r:Int} {m:Nat} (hn:0 < n) (hn':n < 2 ^ 60) (hm:m<=100000) (hsf:SF n m 5 r) :
    Ca G 3 (fnv G "selfridge") [.il (row (2 ^ w) n),.int w] (·=.int r):=by
  have hw1:1<=w:=Nat.le_trans (by decide) hw
  have hw64:w<=64:=Nat.le_trans hw' (by decide)
  have hB:=two_le hw1
  refine Ca.of λ K hK=>vdef pg o_selfridge rfl ?_
  refine LpW.c3 (λ (d:Int) (c:SC) (i:Nat)=>[.v (.il (row (2 ^ w) n)),.v (.int w),.v (.int d),c]) (λ d _ i=>i<=m/\d.natAbs + 2 * i<=5 + 2 * m) (λ d _ i=>SF n i d r) (λ _ _ _=>True) (λ _ _ _=>True) (λ _ _ _=>True) (λ _ _ i=>i) 5 .un m rfl ⟨Nat.le_refl _,by simp⟩ hsf trivial trivial trivial ?_
  intro Q d c i hQ hd hsf _ _ _
  refine Br.mk (λ _=>?_) λ z=>absurd rfl z
  refine Ca.toL (sp_jacobi_small pg hw hw' (d:=d) (by omega) hn hn') rfl λ s hs=>?_
  have stp:¬ s=-1->(s=0->n=d.natAbs)->Q [.v (.il (row (2 ^ w) n)),.v (.int w),.v (.int (if 0 < d then -d - 2 else 2 - d)),.v (.int s)] (.ss []):=λ h1 h2=>by
    obtain ⟨j,rfl,h6⟩:=hsf.nx hs h1 h2
    exact hQ _ (.v (.int s)) j (Nat.lt_succ_self j) (sf_bound hd) h6 trivial trivial trivial
  refine Jm.dup (Br.mk (λ h1=>?_) λ h1=>?_)
  . exact K_eq (K:=K) hK (by rw [hsf.m1 hs h1])
  refine Jm.dup (Br.mk (λ h2=>?_) λ h2=>?_)
  . refine Ca.eq (sp_nat_of pg hw1 hw64 (Int.natCast_nonneg _) (by omega)) rfl (Br.mk (λ h3=>?_) λ h3=>?_)
    . have hnd:=row_inj hB (Int.le_of_lt hn) (Int.natCast_nonneg _) h3
      exact Jn.ite (.ss []) (c:=0 < d) (-d - 2) (2 - d) (λ Q h1 h2=>Br.mk h1 h2) (stp h1 λ _=>hnd)
    . exact K_eq (K:=K) hK (by rw [hsf.z0 hs h2 λ q=>h3 (by rw [<- q])])
  . exact Jn.ite (.ss []) (c:=0 < d) (-d - 2) (2 - d) (λ Q h1 h2=>Br.mk h1 h2) (stp h1 λ z=>absurd z h2)
end N11
noncomputable section N12
noncomputable def eu (d p:Int):Int:=if d ^ ((p - 1) / 2).toNat % p=p - 1/\2 < p then -1 else d ^ ((p - 1) / 2).toNat % p
inductive LG (d:Int):Int->Int->Prop
  | one {n}:n<=1->LG d n 1
  | step {n p r}:1 < n->Lst n p->LG d (n / p) r->LG d n (eu d p * r)
theorem eu_le {d p:Int} (hp:2<=p):(eu d p).natAbs<=p.natAbs:=by
  have h1:=mod_in (a:=d ^ ((p - 1) / 2).toNat) (b:=p) (by omega)
  unfold eu
  generalize d ^ ((p - 1) / 2).toNat % p=r at *
  split <;> omega
theorem Lst.dvd {n p:Int} (h:Lst n p) (hn:1 < n):2<=p/\p<=n/\n=p * (n / p):=by
  rcases h.2 with q | ⟨q1,q2,q3⟩
  . subst q; exact ⟨hn,Int.le_refl _,by rw [Int.ediv_self (by omega),Int.mul_one]⟩
  . exact ⟨q1,Int.le_of_lt q2,(Int.mul_ediv_cancel' (Int.dvd_of_emod_eq_zero q3)).symm⟩
theorem sign_x {x p n:Int} (hx:0 < x/\x<=n) (hp:2<=p) (e:x=p * (x / p)):0 < x / p/\x / p<=n/\(x / p).toNat < x.toNat:=by
  generalize x / p=y at *
  have h0:0 < y:=by
    rcases Int.lt_or_le 0 y with z | z
    . exact z
    . have:=Int.mul_le_mul_of_nonneg_left z (Int.le_trans (by decide) hp); omega
  have:=Int.mul_le_mul_of_nonneg_right hp (Int.le_of_lt h0)
  omega
theorem sign_f {f e x p n:Int} (h:(f.natAbs:Int) * x<=n) (he:e.natAbs<=p.natAbs) (hp:2<=p) (h0:0 < x / p) (ex:x=p * (x / p)):((f * e).natAbs:Int) * (x / p)<=n:=by
  generalize x / p=y at *
  have a1:(e.natAbs:Int) * y<=p * y:=Int.mul_le_mul_of_nonneg_right (by omega) (Int.le_of_lt h0)
  have a2:=Int.mul_le_mul_of_nonneg_left a1 (Int.natCast_nonneg f.natAbs)
  rw [<- ex] at a2
  rw [Int.natAbs_mul,Int.natCast_mul,Int.mul_assoc]
  exact Int.le_trans a2 h
theorem sign_sm {f x n:Int} (hx:0 < x) (h:(f.natAbs:Int) * x<=n) (hn:n < 2 ^ 32):Sm f:=by
  have:=Int.mul_le_mul_of_nonneg_left (show 1<=x from hx) (Int.natCast_nonneg f.natAbs)
  exact Sm.of (by omega) (by omega)
theorem Sm.nab {a p:Int} (h:a.natAbs<=p.natAbs) (hp:2<=p) (hn:p < 2 ^ 32):Sm a:=Sm.of (by omega) (by omega)
theorem eu_K {d p h:Int} {K:Int->Prop} (e:h=d ^ ((p - 1) / 2).toNat % p) (hK:K (eu d p)) :
    (h=p - 1->(2 < p->K (0 - 1))/\(¬ 2 < p->K h))/\(¬ h=p - 1->K h):=by
  unfold eu at hK
  rw [<- e] at hK
  refine ⟨λ h1=>⟨λ h2=>?_,λ h2=>?_⟩,λ h1=>?_⟩
  . rw [if_pos ⟨h1,h2⟩] at hK; exact hK
  . rwa [if_neg λ q=>h2 q.2] at hK
  . rwa [if_neg λ q=>h1 q.1] at hK
theorem sp_law_sign {G:Gd} (pg:PG G) {d n:Int} (hn:0 < n) (hn':n < 2 ^ 32) :
    Ca G 2 (fnv G "_law_sign") [.int d,.int n] (λ v=>∃ r,v=.int r/\LG d n r):=by
  refine Ca.ofR λ K hK=>vdef pg o_law_sign rfl ?_
  refine LpW.c4 (λ (x f:Int) (c e:SC × SC)=>[.v (.int d),.v (.int x),.v (.int f),c.1,c.2,e.1,e.2]) (λ x _ _ _=>0 < x/\x<=n) (λ x f _ _=>(f.natAbs:Int) * x<=n) (λ x f _ _=>∀ r,LG d x r->LG d n (f * r)) (λ _ _ _ _=>True) (λ _ _ _ _=>True) (λ _ _ _ _=>True) (λ x _ _ _=>x.toNat) n 1 (.un,.un) (.un,.un) rfl ⟨hn,Int.le_refl _⟩ (by rw [show ((1:Int).natAbs:Int)=1 from rfl,Int.one_mul]; exact Int.le_refl _) (λ r h=>by rw [Int.one_mul]; exact h) trivial trivial trivial ?_
  intro Q x f c e hQ hx hf hJ _ _ _
  refine Br.mk (λ h=>?_) λ h=>?_
  . refine Ca.to' (sp_law_least pg (Int.le_of_lt hx.1) (by omega)) rfl ?_
    intro _ zQ1
    refine hid λ _ uQ=>?_
    obtain ⟨p,rfl,hl⟩:=zQ1
    obtain ⟨p1,p2,p3⟩:=hl.dvd h
    have p0:0 < p:=Int.lt_of_lt_of_le (by decide) p1
    have p32:p < 2 ^ 32:=Int.lt_of_le_of_lt (Int.le_trans p2 hx.2) hn'
    have sp:=Sm.in ⟨Int.le_of_lt p0,p32⟩ (Int.le_refl _) (by decide)
    have s2:Sm 2:=Sm.of (by decide) (by decide)
    have hm:=λ a=>mod_in (a:=a) p0
    obtain ⟨x1,x2,x3⟩:=sign_x hx p1 p3
    refine uQ ?_
    have el:=eu_le (d:=d) p1
    have e0:0<=(p - 1) / 2:=by omega
    have hQ:=λ c e=>hQ (x / p) (f * eu d p) c e x3 ⟨x1,x2⟩ (sign_f hf el p1 x1 p3) (λ r hr=>by rw [Int.mul_assoc]; exact hJ _ (.step h hl hr)) trivial trivial trivial
    have sf:=sign_sm hx.1 hf hn'
    clear hJ hK
    have hQ:=λ h s2 e2 (e3:h=d ^ ((p - 1) / 2).toNat % p)=>eu_K (K:=λ z=>Sm z/\Q [.v (.int d),.v (.int (x / p)),.v (.int (f * z)),.v (.int p),.v (.int s2),.v (.int e2),.v (.int h)] (.ss [])) e3 ⟨Sm.nab el p1 p32,hQ (.v (.int p),.v (.int s2)) (.v (.int e2),.v (.int h))⟩
    repeat' first | walk_at "z"
    refine LpW.c3 (λ (h s2 e:Int)=>[.v (.int d),.v (.int (x / p)),.v (.int f),.v (.int p),.v (.int s2),.v (.int e),.v (.int h)]) (λ h _ _=>0<=h/\h < p) (λ _ s2 _=>0<=s2/\s2 < p) (λ _ _ e=>0<=e) (λ h s2 e=>h * s2 ^ e.toNat % p=d ^ ((p - 1) / 2).toNat % p) (λ _ _ _=>True) (λ _ _ e=>e.toNat) 1 (d % p) ((p - 1) / 2) rfl ⟨by decide,by omega⟩ (hm d) e0 (by rw [Int.one_mul,pow_emod]) trivial ?_
    intro Q2 h sq e hQ2 hh hs he hinv _
    have sh:=mod_32 hh p32
    have ss:=mod_32 hs p32
    refine Br.mk (λ h3=>?_) λ h3=>?_
    . refine Jn.ite (.ss []) (c:=e % 2=1) (h * sq % p) h (λ Q h1 h2=>?_) ?_
      . refine And.intro (by decide) (Br.mk (λ z=>And.intro sh (And.intro ss (And.intro p0 (h1 z)))) h2)
      repeat' first | walk_at "z"
      exact hQ2 _ _ _ (toNat_half h3) (ite_in (hm _) hh) (hm _) (Int.ediv_nonneg he (by decide)) ((sq_turn h3).trans hinv) trivial
    rw [sq_done he h3,Int.pow_zero,Int.mul_one,Int.emod_eq_of_lt hh.1 hh.2] at hinv
    obtain ⟨k1,k2⟩:=hQ h sq e hinv
    refine Jn.c1 (.ss []) (λ z=>.int z) (λ z=>Sm z/\Q [.v (.int d),.v (.int (x / p)),.v (.int (f * z)),.v (.int p),.v (.int sq),.v (.int e),.v (.int h)] (.ss [])) (λ Q hQ=>?_) λ z k=>And.intro sf k
    exact Br.mk (λ h1=>Br.mk (λ h2=>hQ _ ((k1 h1).1 h2)) λ h2=>hQ _ ((k1 h1).2 h2)) λ h1=>hQ _ (k2 h1)
  . have:=hJ 1 (.one (by omega))
    rw [Int.mul_one] at this
    exact hK _ ⟨f,rfl,this⟩
noncomputable def mkd (n:Nat):Nat->List Bool->List Bool
  | 0,bs=>bs
  | j + 1,bs=>(mkd n j bs).set (n * n + j * n) true
noncomputable def cnt (n:Nat):Nat:=(Builtin.Range.rangeSize ((n:Int) * n) 61 n).toNat
noncomputable def sv:Nat->List Bool × List Int
  | 0=>(List.replicate 61 false,[])
  | i + 1=>if (sv i).1.getD (i + 2) false then sv i else (mkd (i + 2) (cnt (i + 2)) (sv i).1,(sv i).2 ++ [((i + 2:Nat):Int)])
theorem mkd_s {n j:Nat} {bs:List Bool}:mkd n (j + 1) bs=(mkd n j bs).set (n * n + j * n) true:=rfl
theorem sv_s {i:Nat}:sv (i + 1)=if (sv i).1.getD (i + 2) false then sv i else (mkd (i + 2) (cnt (i + 2)) (sv i).1,(sv i).2 ++ [((i + 2:Nat):Int)]):=rfl
theorem mkd_len (n:Nat):∀ (j:Nat) (bs:List Bool),(mkd n j bs).length=bs.length
  | 0,_=>rfl
  | j + 1,bs=>by show List.length (List.set _ _ _)=_; rw [List.length_set,mkd_len n j bs]
theorem sv_len:∀ i,(sv i).1.length=61/\(sv i).2.length<=i
  | 0=>⟨rfl,Nat.le_refl _⟩
  | i + 1=>by
    have:=sv_len i
    rw [sv_s]
    split
    . exact ⟨this.1,Nat.le_succ_of_le this.2⟩
    . exact ⟨by rw [mkd_len]; exact this.1,by rw [List.length_append]; exact Nat.succ_le_succ this.2⟩
theorem cnt_ok:∀ n∈List.range 61,2<=n->Builtin.Range.small ((n:Int) * n) 61 n=true/\Builtin.Range.rangeSize ((n:Int) * n) 61 n=(cnt n:Int)/\∀ j∈List.range (cnt n),n * n + j * n<=60:=by decide +kernel
noncomputable def p60:List Int:=[2,3,5,7,11,13,17,19,23,29,31,37,41,43,47,53,59]
theorem sv_end:(sv 59).2=p60:=by decide +kernel
theorem sv_hit {i:Nat} (h:(sv i).1.getD (i + 2) false=true):sv (i + 1)=sv i:=if_pos h
theorem sv_new {i:Nat} (h:¬ (sv i).1.getD (i + 2) false=true):sv (i + 1)=(mkd (i + 2) (cnt (i + 2)) (sv i).1,(sv i).2 ++ [((i + 2:Nat):Int)]):=if_neg h
theorem idx_bool {bs:List Bool} {i:Nat} (h:i < bs.length) (hl:bs.length<=100000):idx (bs.map .bool) (i:Int)=some (V.bool (bs.getD i false)):=by
  refine idx_pos (Int.natCast_nonneg _) ?_ (by rw [List.length_map]; exact hl)
  rw [List.getElem?_map,Int.toNat_natCast,List.getD_eq_getElem?_getD,List.getElem?_eq_getElem h]; rfl
theorem two_add (i:Nat):(2:Int) + i=((i + 2:Nat):Int):=Int.add_comm 2 i
theorem mult_at (n j:Nat):(n:Int) * n + (j:Int) * n=((n * n + j * n:Nat):Int):=by rw [Int.natCast_add,Int.natCast_mul,Int.natCast_mul]
theorem sp_small_primes {G:Gd} (pg:PG G):Ca G 1 (fnv G "small_primes") [.int 60] (·=.il p60):=by
  refine Ca.of λ K hK=>vdef pg o_small_primes rfl ?_
  refine And.intro (Nat.le_of_ble_eq_true rfl) (And.intro (by decide) (And.intro (by decide) λ ac=>And.intro (Nat.zero_le _) λ af=>?_))
  refine And.intro (by decide) (And.intro (by decide) (And.intro (by decide) (And.intro (by decide) (Exists.intro 59 (And.intro rfl ?_)))))
  rw [<- sv_end] at hK
  refine LpF.c1 (λ i (c:SC)=>[.v (.int 60),.own ac (.vs ((sv i).1.map .bool)),.own af (.il (sv i).2),lv .un (λ i=>((i + 2:Nat):Int)) i,c]) (λ _ _=>True) (λ _ _=>True) (λ _ _=>True) .un ?_ trivial trivial trivial ?_ λ c _ _ _=>hK
  . exact congrArg (λ z=>[SC.v (.int 60),.own ac (.vs z),.own af (.il []),.un,.un]) (List.map_replicate ..)
  . intro Q i c hQ hi _ _ _
    have l1:=(sv_len i).1
    have l2:=(sv_len i).2
    have hi':i + 2 < 61:=Nat.add_lt_of_lt_sub hi
    show vs _ _ ([_,_,_,SC.v (.int (2 + (i:Int))),_]:En) _ _ _ _
    rw [two_add]
    refine Jm.dup (Exists.intro (.bool _) (And.intro (idx_bool (by rw [l1]; exact hi') (by rw [l1]; decide)) (Br.mk (λ h1=>?_) λ h1=>?_)))
    . have hQ:=hQ c trivial trivial trivial
      rw [sv_hit h1] at hQ
      exact hQ
    . obtain ⟨z1,z2,z3⟩:=cnt_ok (i + 2) (List.mem_range.mpr hi') (Nat.le_add_left ..)
      have hQ:=λ c=>hQ c trivial trivial trivial
      rw [sv_new h1] at hQ
      have sn:Sm ((i + 2:Nat):Int):=Sm.nat (Nat.le_of_lt hi') rfl
      refine And.intro (Nat.le_trans l2 (Nat.le_trans (Nat.le_of_lt hi) (by decide))) (And.intro sn (And.intro sn ?_))
      refine And.intro (by omega) (And.intro (by omega) (And.intro z1 (Exists.intro (cnt (i + 2)) (And.intro z2 ?_))))
      clear hK z1 z2
      generalize (sv i).1=bs at *
      refine LpF.c1 (λ j (c:SC)=>[.v (.int 60),.own ac (.vs ((mkd (i + 2) j bs).map .bool)),.own af (.il ((sv i).2 ++ [((i + 2:Nat):Int)])),.v (.int ((i + 2:Nat):Int)),c]) (λ _ _=>True) (λ _ _=>True) (λ _ _=>True) c rfl trivial trivial trivial ?_ λ c _ _ _=>hQ c
      intro Q j c hQ hj _ _ _
      have z4:=z3 j (List.mem_range.mpr hj)
      have hQ:=hQ (.v (.int (((i + 2) * (i + 2) + j * (i + 2):Nat):Int))) trivial trivial trivial
      rw [mkd_s,List.map_set] at hQ
      show vs _ _ ([_,_,_,_,SC.v (.int (((i + 2:Nat):Int) * ((i + 2:Nat):Int) + (j:Int) * ((i + 2:Nat):Int)))]:En) _ _ _ _
      rw [mult_at]
      have l3:((mkd (i + 2) j bs).map V.bool).length=61:=by rw [List.length_map,mkd_len,l1]
      exact And.intro (Int.natCast_nonneg _) (And.intro (by rw [l3]; exact Int.ofNat_lt.mpr (Nat.lt_succ_of_le z4)) (And.intro (by rw [l3]; decide) hQ))
noncomputable def tri (x:Int):List Int->SV
  | []=>.none
  | p :: r=>if x % p=0/\x≠p then .int p else tri x r
theorem tri_hit {x p:Int} {r:List Int} (h:x % p=0) (h2:¬ x=p):tri x (p :: r)=.int p:=if_pos ⟨h,h2⟩
theorem tri_no {x p:Int} {r:List Int} (h:¬ x % p=0\/x=p):tri x (p :: r)=tri x r:=if_neg λ q=>h.elim (λ z=>z q.1) q.2
theorem p60_at:∀ i:Nat,i < p60.length->2<=ig p60 i/\ig p60 i<=59:=by decide
theorem sp_trial {G:Gd} (pg:PG G) {w:Nat} (hw:1<=w) (hw':w<=60) {x:Int} (hx:0<=x) (hx':x < 2 ^ 60) :
    Ca G 2 (fnv G "trial") [.il (row (2 ^ w) x),.int w,.int 60] (·=tri x p60):=by
  have hB:=two_le hw
  refine Ca.of λ K hK=>vdef pg o_trial rfl (Ca.eq (sp_small_primes pg) rfl ?_)
  refine LpF.c1 (λ i (c:SC)=>[.v (.il (row (2 ^ w) x)),.v (.int w),.v (.int 60),c]) (λ i _=>tri x p60=tri x (p60.drop i)) (λ _ _=>True) (λ _ _=>True) .un rfl rfl trivial trivial ?_ λ c h _ _=>K_eq (K:=K) hK h.symm
  intro Q i c hQ hi ht _ _
  obtain ⟨hp,hp'⟩:=p60_at i hi
  have hQ:=λ c h=>hQ c h trivial trivial
  rw [ig_drop hi] at ht
  have p0:0 < ig p60 i:=Int.lt_of_lt_of_le (by decide) hp
  have kn:=λ h=>hQ (.v (.int (ig p60 i))) (ht.trans (tri_no h))
  refine Jm.dup (Ca.eq (sp_rest_small pg hw hw' hx (by omega) p0 (by omega)) rfl (Br.mk (λ h1=>?_) λ h1=>?_))
  . refine Ca.eq (sp_nat_of pg hw (Nat.le_trans hw' (by decide)) (Int.le_of_lt p0) (by omega)) rfl (Br.mk (λ h2=>?_) λ h2=>?_)
    . exact kn (.inr (row_inj hB hx (Int.le_of_lt p0) h2))
    . exact K_eq (K:=K) hK (by rw [ht,tri_hit h1 λ z=>h2 (by rw [z])])
  . exact kn (.inl h1)
structure Pw (G:Gd) (kt:Nat) (tv:V) (P:Int->List Int->Prop):Prop where
  fn:IsFn G tv
  mul:∀ a b f g,0<=a->0<=b->P a f->P b g->Ca G kt tv [.il f,.il g] (λ v=>∃ h,v=.il h/\P (a + b) h)
theorem gd_app {f:List (List Int)} {g:List Int} {j:Nat} (h:j < f.length):(f ++ [g]).getD j []=f.getD j []:=by
  rw [List.getD_eq_getElem?_getD,List.getD_eq_getElem?_getD,List.getElem?_append_left h]
theorem gd_last {f:List (List Int)} {g:List Int} {j:Nat} (h:f.length=j):(f ++ [g]).getD j []=g:=by
  rw [List.getD_eq_getElem?_getD,List.getElem?_append_right (Nat.le_of_eq h),h,Nat.sub_self]; rfl
noncomputable def OP (P:Int->List Int->Prop) (f:List (List Int)):Prop:=∀ j:Nat,j < f.length->P (2 * (j:Int) + 1) (f.getD j [])
theorem OP.app {P:Int->List Int->Prop} {f:List (List Int)} {g:List Int} (h:OP P f) (hg:P (2 * (f.length:Int) + 1) g):OP P (f ++ [g]):=λ j hj=>by
  rw [List.length_append] at hj
  rcases Nat.lt_succ_iff_lt_or_eq.mp hj with z | z
  . rw [gd_app z]; exact h j z
  . subst z; rw [gd_last rfl]; exact hg
theorem OP.one {P:Int->List Int->Prop} {g:List Int} (h:P 1 g):OP P [g]:=OP.app (f:=[]) (λ j h=>absurd h (Nat.not_lt_zero _)) h
theorem sp_odd_powers {G:Gd} (pg:PG G) {kt:Nat} {tv:V} {base:List Int} {P:Int->List Int->Prop} (pw:Pw G kt tv P) (hb:P 1 base) :
    Ca G (kt + 1) (fnv G "odd_powers") [.il base,.int 3,.v tv] (λ v=>∃ f,v=.rl f/\f.length=4/\OP P f):=by
  refine Ca.ofR λ K hK=>vdef pg o_odd_powers rfl ?_
  refine And.intro (Nat.le_of_ble_eq_true rfl) λ af=>And.intro pw.fn (Ca.toL (pw.mul 1 1 _ _ (by decide) (by decide) hb hb) (Nat.ble_self_eq_true kt) λ sq hsq=>?_)
  refine Exists.intro 2 (And.intro rfl (And.intro (by decide) (And.intro (by decide) (Exists.intro 3 (And.intro rfl (And.intro (by decide) ?_))))))
  refine LpF.c2 (λ i (f:List (List Int)) (c:SC)=>[.v (.il base),.v (.int 3),.v (.v tv),.own af (.rl f),.v (.il sq),c]) (λ i f _=>f.length=i + 1) (λ _ f _=>OP P f) (λ _ _ _=>True) (λ _ _ _=>True) [base] .un rfl rfl (OP.one hb) trivial trivial ?_ λ f c h1 h2 _ _=>hK _ ⟨f,rfl,h1,h2⟩
  intro Q i f c hQ hi hl ho _ _
  refine And.intro pw.fn (And.intro (by rw [hl]; exact Nat.succ_pos _) (And.intro (by omega) ?_))
  have h1:=ho (f.length - 1) (by omega)
  refine Ca.toL (pw.mul _ _ _ _ (by omega) (by decide) h1 hsq) (Nat.ble_self_eq_true kt) λ g hg=>?_
  exact And.intro (by omega) (hQ _ _ (by rw [List.length_append,hl]; rfl) (ho.app (by rw [show 2 * (f.length:Int) + 1=2 * ((f.length - 1:Nat):Int) + 1 + (1 + 1) by omega]; exact hg)) trivial trivial)
end N12
noncomputable section N13
theorem bit_step (q:Int) (i:Nat):2 * (q / 2 % 2 ^ i) + q % 2=q % 2 ^ (i + 1):=by
  have h1:=mod_in (a:=q / 2) (pw2_pos i)
  have h3:=mod_in (a:=q) (show (0:Int) < 2 by decide)
  have e1:=Int.emod_add_mul_ediv q 2
  have e2:=Int.emod_add_mul_ediv (q / 2) (2 ^ i)
  rw [Int.pow_succ,Int.mul_comm (2 ^ i) 2]
  generalize q / 2 / 2 ^ i=c at *
  generalize q / 2 % 2 ^ i=d at *
  generalize q % 2=r at *
  generalize q / 2=q2 at *
  generalize (2:Int) ^ i=b at *
  have e4:q=(2 * d + r) + 2 * b * c:=by rw [Int.mul_assoc]; omega
  rw [e4,Int.add_mul_emod_self_left,Int.emod_eq_of_lt (by omega) (by omega)]
theorem div_succ (x:Int) (j:Nat):x / 2 ^ (j + 1)=x / 2 ^ j / 2:=by rw [Int.pow_succ,Int.ediv_ediv_of_nonneg (Int.le_of_lt (pw2_pos j))]
theorem div_split (x:Int) (l m:Nat):x / 2 ^ l=x / 2 ^ (l + m) * 2 ^ m + x / 2 ^ l % 2 ^ m:=by
  rw [Int.pow_add,<- Int.ediv_ediv_of_nonneg (Int.le_of_lt (pw2_pos l)),Int.mul_comm]
  exact (Int.mul_ediv_add_emod _ _).symm
theorem win_step {x:Int} {t l i:Nat} (hl:l<=t) (hi:i < t - l + 1):2 * (x / 2 ^ (t + 1 - i) % 2 ^ i) + x / 2 ^ (t - i) % 2=x / 2 ^ (t + 1 - (i + 1)) % 2 ^ (i + 1):=by
  have:=bit_step (x / 2 ^ (t - i)) i
  rw [<- div_succ,show t - i + 1=t + 1 - i by omega] at this
  rw [Nat.succ_sub_succ]; exact this
theorem win_at {t l i:Nat} (hl:l<=t) (hi:i < t - l + 1):(t:Int) - i=((t - i:Nat):Int):=by omega
theorem win_8 {x:Int} {m:Nat} (hm:m<=3):0<=x % 2 ^ m/\x % 2 ^ m < 8:=by
  have:=mod_in (a:=x) (pw2_pos m)
  exact ⟨this.1,Int.lt_of_lt_of_le this.2 (pow_mono (B:=2) (by decide) hm)⟩
structure Win (x:Int) (t l m:Nat) (v:Int):Prop where
  v0:0<=v
  v8:v < 8
  odd:v % 2=1
  lm:l + m=t + 1
  m3:m<=3
  eq:x / 2 ^ l=x / 2 ^ (t + 1) * 2 ^ m + v
theorem win_end {x:Int} {t l:Nat} (hl:l<=t) (h2:t - l<=2) (hb:x / 2 ^ l % 2=1):Win x t l (t - l + 1) (x / 2 ^ (t + 1 - (t - l + 1)) % 2 ^ (t - l + 1)):=by
  have e:t + 1 - (t - l + 1)=l:=by omega
  have e2:l + (t - l + 1)=t + 1:=by omega
  have g:=win_8 (x:=x / 2 ^ l) (m:=t - l + 1) (by omega)
  have d:=div_split x l (t - l + 1)
  rw [e2] at d
  rw [e]
  exact ⟨g.1,g.2,(Int.emod_emod_of_dvd _ ⟨2 ^ (t - l),by rw [Int.pow_succ,Int.mul_comm]⟩).trans hb,e2,Nat.succ_le_succ h2,d⟩
theorem sp_bit_at {G:Gd} (pg:PG G) {w:Nat} (hw:1<=w) (hw':w<=60) {x:Int} (hx:0<=x) (hx':x < 2 ^ 64) {z:Int} {n:Nat} (e:z=n) :
    Ca G 1 (fnv G "bit") [.il (row (2 ^ w) x),.int z,.int w] (·=.int (x / 2 ^ n % 2)):=e ▸ sp_bit pg hw hw' hx hx'
theorem bit_1 {x:Int} (h:¬ x % 2=0):x % 2=1:=by omega
theorem win_up {x:Int} {t l:Nat} (hb:x / 2 ^ t % 2=1) (h:x / 2 ^ l % 2=0) (h1:l<=t/\t - l<=2):t - (l + 1) < t - l/\l + 1<=t/\t - (l + 1)<=2:=by
  have hlt:l≠t:=λ e=>by rw [e] at h; omega
  omega
theorem sp_window_at {G:Gd} (pg:PG G) {w:Nat} (hw:1<=w) (hw':w<=60) {x:Int} (hx:0<=x) (hx':x < 2 ^ 64) {t:Nat} (ht:t<=60) (hb:x / 2 ^ t % 2=1) :
    Ca G 2 (fnv G "window_at") [.il (row (2 ^ w) x),.int t,.int 3,.int w] (λ v=>∃ l m z,v=.t2 (.int z) (.int (m:Nat))/\Win x t l m z):=by
  refine Ca.ofR λ K hK=>vdef pg o_window_at rfl ?_
  have e0:max ((t:Int) - 3 + 1) 0=((t - 2:Nat):Int):=by omega
  show vs _ _ ([_,_,_,_,SC.v (.int (max ((t:Int) - 3 + 1) 0)),_,_]:En) _ _ _ _
  rw [e0]
  refine LpW.c1 (λ l:Nat=>[.v (.il (row (2 ^ w) x)),.v (.int t),.v (.int 3),.v (.int w),.v (.int l),.un,.un]) (λ l=>l<=t/\t - l<=2) (λ _=>True) (λ _=>True) (λ l=>t - l) (t - 2) rfl ⟨Nat.sub_le ..,by omega⟩ trivial trivial ?_
  intro Q l hQ hl _ _
  refine Ca.eq (sp_bit pg hw hw' hx hx') rfl (Br.mk (λ h=>?_) λ h=>?_)
  . have:=win_up hb h hl
    exact hQ (l + 1) this.1 this.2 trivial trivial
  have he:=win_end hl.1 hl.2 (bit_1 h)
  refine And.intro (by omega) (And.intro (by omega) (Exists.intro (t - l + 1) (And.intro (by omega) ?_)))
  refine LpF.c0 (λ i=>[.v (.il (row (2 ^ w) x)),.v (.int t),.v (.int 3),.v (.int w),.v (.int l),.v (.int (x / 2 ^ (t + 1 - i) % 2 ^ i)),lv .un (λ i=>(t:Int) - i) i]) (λ _=>True) ?_ trivial ?_ ?_
  . show ([_,_,_,_,_,SC.v (.int (x / 2 ^ (t + 1) % 2 ^ 0)),_]:En)=_
    rw [Int.pow_zero,Int.emod_one]; rfl
  . intro Q i hQ hi _
    have hQ:=hQ trivial
    rw [<- win_step hl.1 hi] at hQ
    have h8:=win_8 (x:=x / 2 ^ (t + 1 - i)) (m:=i) (by omega)
    exact And.intro (Sm.of (by decide) (by decide)) (And.intro (Sm.lt h8.1 h8.2 (by decide)) (Ca.eq (sp_bit_at pg hw hw' hx hx' (win_at hl.1 hi)) rfl hQ))
  . intro _
    exact K_eq (K:=K) (hK _ ⟨l,t - l + 1,_,rfl,he⟩) (by rw [show (t:Int) - l + 1=((t - l + 1:Nat):Int) by omega])
noncomputable def spt:Nat->Int
  | 0=>-1
  | s + 1=>s
theorem spt_pred (s:Nat):spt (s + 1) - 1=spt s:=by
  cases s with
  | zero=>rfl
  | succ s=>show ((s + 1:Nat):Int) - 1=s; omega
theorem spt_sub {t l m:Nat} (h:l + m=t + 1):(t:Int) - (m:Int)=spt l:=by
  cases l with
  | zero=>show _=(-1:Int); omega
  | succ l=>show _=(l:Int); omega
theorem bits_top {x:Int} (hx:0 < x) (hx':x < 2 ^ 60):∃ n:Nat,bl x=n + 1/\n < 60/\x / 2 ^ (n + 1)=0/\x / 2 ^ n % 2=1:=by
  obtain ⟨n,hn⟩:∃ m,bl x=m + 1:=⟨bl x - 1,by have:=bl_pos hx; omega⟩
  obtain ⟨g1,g2⟩:=(bl_iff hx).mp hn
  have htop:x / 2 ^ (n + 1)=0:=Int.ediv_eq_zero_of_lt (Int.le_of_lt hx) g2
  refine ⟨n,hn,?_,htop,?_⟩
  . rcases Nat.lt_or_ge n 60 with z | z
    . exact z
    . have:=pow_mono (B:=2) (by decide) z; omega
  . have e:=div_succ x n
    rw [htop] at e
    have:1<=x / 2 ^ n:=(Int.le_ediv_iff_mul_le (pw2_pos n)).mpr (by omega)
    omega
theorem half_dbl {x:Int} {s:Nat} (h:x / 2 ^ s % 2=0):x / 2 ^ s=x / 2 ^ (s + 1) + x / 2 ^ (s + 1):=by
  rw [div_succ]; omega
theorem pw_dbl (y:Int) (i:Nat):y * 2 ^ (i + 1)=y * 2 ^ i + y * 2 ^ i:=by rw [Int.pow_succ,<- Int.mul_assoc,Int.mul_comm _ 2,Int.two_mul]
theorem OP.at {P:Int->List Int->Prop} {f:List (List Int)} {v:Int} (h:OP P f) (hl:f.length=4) (v0:0<=v) (v8:v < 8) (ho:v % 2=1):0<=v / 2/\v / 2 < f.length/\P v (f.getD (v / 2).toNat []):=by
  have:=h (v / 2).toNat (by omega)
  have e:2 * ((v / 2).toNat:Int) + 1=v:=by omega
  rw [e] at this
  exact ⟨by omega,by omega,this⟩
noncomputable def BW (P:Int->List Int->Prop) (x:Int) (n s:Nat) (v:SV):Prop:=(s=n + 1/\v=.none)\/(s<=n/\∃ g,v=.il g/\P (x / 2 ^ s) g)
theorem BW.le {P:Int->List Int->Prop} {x:Int} {n s:Nat} {v:SV} (h:BW P x n s v):s<=n + 1:=h.elim (λ h=>Nat.le_of_eq h.1) λ h=>Nat.le_succ_of_le h.1
theorem BW.some {P:Int->List Int->Prop} {x:Int} {n s:Nat} {v:SV} (h:BW P x n s v) (hs:s≠n + 1):∃ g,v=.il g/\P (x / 2 ^ s) g:=h.elim (λ z=>absurd z.1 hs) λ z=>z.2
theorem bit0_ne {x:Int} {n s:Nat} (hn:x / 2 ^ n % 2=1) (h:x / 2 ^ s % 2=0):s + 1≠n + 1:=λ e=>by
  rw [Nat.succ.inj e,hn] at h; cases h
theorem win_le {t l m n:Nat} (h:l + m=t + 1) (hn:t + 1<=n + 1) (hm:1<=m):l<=n/\l < t + 1:=by omega
theorem m_pos {x v:Int} {t l m:Nat} (h:Win x t l m v):1<=m:=by
  rcases Nat.eq_zero_or_pos m with z | z
  . have e:=h.eq
    have e2:=h.lm
    subst z
    rw [Nat.add_zero] at e2
    rw [e2,Int.pow_zero,Int.mul_one] at e
    have:=h.odd
    rw [show v=0 by omega] at this
    cases this
  . exact z
theorem sp_by_windows {G:Gd} (pg:PG G) {kt w:Nat} (hkt:2<=kt) (hw:1<=w) (hw':w<=60) {x:Int} (hx:0<=x) (hx':x < 2 ^ 60) {tv:V} {base one:List Int} {P:Int->List Int->Prop} (pw:Pw G kt tv P) (hb:P 1 base) (h1:P 0 one) :
    Ca G (kt + 2) (fnv G "by_windows") [.il base,.il (row (2 ^ w) x),.int 3,.int w,.il one,.v tv] (λ v=>∃ g,v=.il g/\P x g):=by
  have hB:=two_le hw
  have ez:=row_eq_nil hB hx
  have x64:x < 2 ^ 64:=by omega
  have k1:Nat.ble 1 (kt + 1)=true:=Nat.ble_eq.mpr (by omega)
  have k2:Nat.ble 2 (kt + 1)=true:=Nat.ble_eq.mpr (by omega)
  have kk:Nat.ble kt (kt + 1)=true:=Nat.ble_eq.mpr (Nat.le_succ _)
  refine Ca.ofR λ K hK=>vdef pg o_by_windows rfl (Jm.dup (And.intro (Nat.zero_le _) (Br.mk (λ h=>?_) λ h=>?_)))
  . exact hK _ ⟨one,rfl,ez.mp h ▸ h1⟩
  have hx0:0 < x:=Int.lt_iff_le_and_ne.mpr ⟨hx,λ e=>h (ez.mpr e.symm)⟩
  clear h ez h1
  obtain ⟨n,hn,hn60,htop,htop1⟩:=bits_top hx0 hx'
  refine Ca.toL (sp_odd_powers pg pw hb) (Nat.ble_self_eq_true _) λ f hf=>?_
  obtain ⟨hfl,hop⟩:=hf
  have hop:∀ {v:Int},0<=v->v < 8->v % 2=1->_:=hop.at hfl
  have hfl:f.length<=100000:=by omega
  refine Ca.eq (sp_bits pg hw hw' hx x64) k1 ?_
  have ht:∀ s:Nat,0<=x / 2 ^ s:=λ s=>Int.ediv_nonneg hx (Int.le_of_lt (pw2_pos _))
  refine LpW.c3 (λ (s:Nat) (v:SV) (c:SC × SC × SC)=>[.v (.il base),.v (.il (row (2 ^ w) x)),.v (.int 3),.v (.int w),.v (.il one),.v (.v tv),.v (.rl f),.v v,.v (.int (spt s)),c.1,c.2.1,c.2.2]) (λ s v _=>BW P x n s v) (λ _ _ _=>True) (λ _ _ _=>True) (λ _ _ _=>True) (λ _ _ _=>True) (λ s _ _=>s) (n + 1) .none (.un,.un,.un) ?_ (.inl ⟨rfl,rfl⟩) trivial trivial trivial trivial ?_
  . exact congrArg (λ z=>[SC.v (.il base),.v (.il (row (2 ^ w) x)),.v (.int 3),.v (.int w),.v (.il one),.v (.v tv),.v (.rl f),.v .none,.v (.int z),.un,.un,.un]) (by rw [hn]; show (n:Int)=((n + 1:Nat):Int) - 1; omega)
  intro Q s v c hQ hv _ _ _ _
  have hQ:∀ s' v z (c1 c2 c3:SC),z=spt s'->s' < s->BW P x n s' v->Q [.v (.il base),.v (.il (row (2 ^ w) x)),.v (.int 3),.v (.int w),.v (.il one),.v (.v tv),.v (.rl f),.v v,.v (.int z),c1,c2,c3] (.ss []):=by
    rintro s' v _ c1 c2 c3 rfl h1 h2
    exact hQ s' v (c1,c2,c3) h1 h2 trivial trivial trivial trivial
  cases s with
  | zero =>
    obtain ⟨g,rfl,hg⟩:=hv.some (λ e=>Nat.succ_ne_zero n e.symm)
    rw [Int.pow_zero,Int.ediv_one] at hg
    exact Br.mk (λ h=>absurd (show (0:Int)<=-1 from h) (by decide)) λ _=>hK _ ⟨g,rfl,hg⟩
  | succ s =>
  have hs:=hv.le
  refine Br.mk (λ _=>Jm.dup (Ca.eq (sp_bit pg hw hw' hx x64 (n:=s)) k1 (Br.mk (λ h=>?_) λ h=>?_))) λ h=>absurd (Int.natCast_nonneg s) h
  . obtain ⟨g,rfl,hg⟩:=hv.some (bit0_ne htop1 h)
    refine And.intro pw.fn (Ca.toL (pw.mul _ _ _ _ (ht _) (ht _) hg hg) kk λ y hy=>?_)
    rw [<- half_dbl h] at hy
    exact hQ s (.il y) _ _ _ _ (spt_pred s) (Nat.lt_succ_self s) (.inr ⟨Nat.le_of_succ_le_succ hs,y,rfl,hy⟩)
  . refine Ca.to' (sp_window_at pg hw hw' hx x64 (t:=s) (by omega) (bit_1 h)) k2 ?_
    rintro _ ⟨l,m,z,rfl,hz⟩
    obtain ⟨i0,i1,hu⟩:=hop hz.v0 hz.v8 hz.odd
    have hl:=win_le hz.lm hs (m_pos hz)
    have zq:=hz.eq
    have z0:=hz.v0
    have hm:m < 2 ^ 62:=Nat.lt_of_le_of_lt hz.m3 (by decide)
    have hQ:=λ v c1 c2 c3 g (e:v=.il g) h1=>hQ l v _ c1 c2 c3 (spt_sub hz.lm) hl.2 (.inr ⟨hl.1,g,e,h1⟩)
    have s2:Sm 2:=Sm.of (by decide) (by decide)
    rcases hv with ⟨e,rfl⟩ | ⟨hne,g,rfl,hg⟩
    . refine Jm.dup (And.intro (by decide) (And.intro s2 (And.intro i0 (And.intro i1 (And.intro hfl ?_)))))
      exact hQ _ _ _ _ _ rfl (by rw [zq,e,htop,Int.zero_mul,Int.zero_add]; exact hu)
    . refine Jm.dup (Exists.intro m (And.intro rfl (And.intro hm ?_)))
      refine LpF.c2 (λ i (g:List Int) (d:SC)=>[.v (.il base),.v (.il (row (2 ^ w) x)),.v (.int 3),.v (.int w),.v (.il one),.v (.v tv),.v (.rl f),.v (.il g),.v (.int s),.v (.int z),.v (.int m),d]) (λ i g _=>P (x / 2 ^ (s + 1) * 2 ^ i) g) (λ _ _ _=>True) (λ _ _ _=>True) (λ _ _ _=>True) g c.2.2 rfl (by rw [Int.pow_zero,Int.mul_one]; exact hg) trivial trivial trivial ?_ ?_
      . intro Q i g d hQ _ hg _ _ _
        have hb0:=Int.mul_nonneg (ht (s + 1)) (Int.le_of_lt (pw2_pos i))
        refine And.intro pw.fn (Ca.toL (pw.mul _ _ _ _ hb0 hb0 hg hg) kk λ y hy=>?_)
        rw [<- pw_dbl] at hy
        exact hQ _ _ hy trivial trivial trivial
      . intro g d hg _ _ _
        have hb0:=Int.mul_nonneg (ht (s + 1)) (Int.le_of_lt (pw2_pos m))
        refine And.intro pw.fn (And.intro (by decide) (And.intro s2 (And.intro i0 (And.intro i1 (And.intro hfl (Ca.toL (pw.mul _ _ _ _ hb0 z0 hg hu) kk λ y hy=>?_))))))
        rw [<- zq] at hy
        exact hQ _ _ _ _ _ rfl hy
end N13
noncomputable section N14
section
variable {N:Nat} {ρ:En} {β:SL} {turn:Nat->En->SL->KN->Prop} {K:KN} {A B D E:Type}
theorem LpF.b3 (f:Nat->A->B->D->En) (g:A->SL) (I1 I2 I3 I4:Nat->A->B->D->Prop) (a:A) (b:B) (d:D) (h0:f 0 a b d=ρ) (hg:g a=β) (h1:I1 0 a b d) (h2:I2 0 a b d) (h3:I3 0 a b d) (h4:I4 0 a b d)
    (ht:∀ (Q:KN) i a b d,(∀ a b d,I1 (i + 1) a b d->I2 (i + 1) a b d->I3 (i + 1) a b d->I4 (i + 1) a b d->Q (f (i + 1) a b d) (g a))->i < N->I1 i a b d->I2 i a b d->I3 i a b d->I4 i a b d->turn i (f i a b d) (g a) Q)
    (hK:∀ a b d,I1 N a b d->I2 N a b d->I3 N a b d->I4 N a b d->K (f N a b d) (g a)):LpF N ρ β turn K:=by
  unfold LpF
  refine ⟨λ i r c=>∃ a b d,f i a b d=r/\g a=c/\I1 i a b d/\I2 i a b d/\I3 i a b d/\I4 i a b d,⟨a,b,d,h0,hg,h1,h2,h3,h4⟩,?_,?_⟩
  . intro i _ _ hi zQ4; refine hid λ _ uQ=>?_; obtain ⟨a,b,d,rfl,rfl,k1,k2,k3,k4⟩:=zQ4; refine uQ ?_; exact ht _ i a b d (λ a b d k1 k2 k3 k4=>⟨a,b,d,rfl,rfl,k1,k2,k3,k4⟩) hi k1 k2 k3 k4
  . intro _ _ zQ2; refine hid λ _ uQ=>?_; obtain ⟨a,b,d,rfl,rfl,k1,k2,k3,k4⟩:=zQ2; refine uQ ?_; exact hK a b d k1 k2 k3 k4
end
section
variable {ρ:En} {β:SL} {turn:En->SL->KN->Prop} {A B D E:Type}
theorem LpW.b3 (f:A->B->D->En) (g:A->SL) (I1 I2 I3 I4:A->B->D->Prop) (m:A->B->D->Nat) (a:A) (b:B) (d:D) (h0:f a b d=ρ) (hg:g a=β) (h1:I1 a b d) (h2:I2 a b d) (h3:I3 a b d) (h4:I4 a b d)
    (ht:∀ (Q:KN) a b d,(∀ a' b' d',m a' b' d' < m a b d->I1 a' b' d'->I2 a' b' d'->I3 a' b' d'->I4 a' b' d'->Q (f a' b' d') (g a'))->I1 a b d->I2 a b d->I3 a b d->I4 a b d->turn (f a b d) (g a) Q):LpW ρ β turn:=by
  unfold LpW
  refine ⟨λ n r c=>∃ a b d,f a b d=r/\g a=c/\n=m a b d/\I1 a b d/\I2 a b d/\I3 a b d/\I4 a b d,m a b d,⟨a,b,d,h0,hg,rfl,h1,h2,h3,h4⟩,?_⟩
  intro n _ _ zQ3
  refine hid λ _ uQ=>?_
  obtain ⟨a,b,d,rfl,rfl,rfl,k1,k2,k3,k4⟩:=zQ3
  refine uQ ?_
  exact ht _ a b d (λ a' b' d' hm k1 k2 k3 k4=>⟨_,hm,a',b',d',rfl,rfl,rfl,k1,k2,k3,k4⟩) k1 k2 k3 k4
end
theorem val_set {B:Int} {l:List Int} {i:Nat} (h:i < l.length) (d:Int):val B (l.set i d)=val B l + B ^ i * (d - ig l (i:Int)):=by
  induction l generalizing i with
  | nil=>exact absurd h (Nat.not_lt_zero _)
  | cons z l ih =>
    cases i with
    | zero=>show d + B * val B l=z + B * val B l + B ^ 0 * (d - z); rw [Int.pow_zero]; omega
    | succ i =>
      have:=ih (Nat.lt_of_succ_lt_succ h)
      show z + B * val B (l.set i d)=z + B * val B l + B ^ (i + 1) * (d - ig l (i:Int))
      rw [this,Int.mul_add,Int.pow_succ,Int.mul_comm (B ^ i) B,<- Int.mul_assoc,Int.add_assoc]
theorem dg_set {B:Int} {l:List Int} (h:Dg B l) (i:Nat) {d:Int} (h0:0<=d/\d < B):Dg B (l.set i d):=λ z hz=>by
  rcases List.mem_or_eq_of_mem_set hz with q | q
  . exact h z q
  . rw [q]; exact h0
theorem carry_row_step {B v c q T V0:Int} {s:Nat} (h:v + B ^ s * c=V0) (hT:c + q=T):v + B ^ s * (T % B - q) + B ^ (s + 1) * (T / B)=V0:=by
  have e1:=Int.emod_add_mul_ediv T B
  rw [Int.pow_succ,Int.add_assoc,Int.mul_assoc,<- Int.mul_add,<- h]
  congr 2
  omega
theorem put_step {w:Nat} {g:List Int} {c q V0:Int} {s:Nat} (hs:s < g.length) (h:val (2 ^ w) g + (2 ^ w) ^ s * c=V0) :
    val (2 ^ w) (g.set s (Builtin.bitAnd (c + ig g (s:Int)) (1 * 2 ^ w - 1))) + (2 ^ w) ^ (s + 1) * ((c + ig g (s:Int)) / 2 ^ w)=V0:=by
  rw [band_mask1,val_set hs]
  exact carry_row_step h rfl
theorem put_add {w:Nat} {g:List Int} {c q V0:Int} {s:Nat} (hs:s < g.length) (h:val (2 ^ w) g + (2 ^ w) ^ s * c=V0) :
    val (2 ^ w) (g.set s (Builtin.bitAnd (c + (ig g (s:Int) + q)) (1 * 2 ^ w - 1))) + (2 ^ w) ^ (s + 1) * ((c + (ig g (s:Int) + q)) / 2 ^ w)=V0 + (2 ^ w) ^ s * q:=by
  rw [band_mask1,val_set hs]
  refine carry_row_step (c:=c + q) (by rw [Int.mul_add,<- Int.add_assoc,h]) ?_
  omega
theorem put_dg {w:Nat} {g:List Int} (h:Dg (2 ^ w) g) (s:Nat) (x:Int):Dg (2 ^ w) (g.set s (Builtin.bitAnd x (1 * 2 ^ w - 1))):=by
  rw [band_mask1]; exact dg_set h s (mod_in (pw2_pos w))
theorem row_v {B M d limb V:Int} {t i:Nat}:V + limb * M * B ^ t + B ^ (t + i) * (d * limb)=V + limb * (M + B ^ i * d) * B ^ t:=by
  rw [Int.pow_add,Int.mul_add,Int.add_mul,Int.add_assoc]; ac_rfl
theorem row_carry {B c q d l:Int} (hc:0<=c/\c < B) (hq:0<=q/\q < B) (hd:0<=d/\d < B) (hl:0<=l/\l < B):0<=(c + (q + d * l)) / B/\(c + (q + d * l)) / B < B:=by
  have h0:0<=d * l:=Int.mul_nonneg hd.1 hl.1
  have h1:d * l<=(B - 1) * (B - 1):=Int.mul_le_mul (Int.le_sub_one_of_lt hd.2) (Int.le_sub_one_of_lt hl.2) hl.1 (Int.le_sub_one_of_lt (Int.lt_of_le_of_lt hc.1 hc.2))
  have h2:(B - 1) * (B - 1)=B * B - 2 * B + (1:Int):=by grind
  have hB:0 < B:=Int.lt_of_le_of_lt hc.1 hc.2
  exact ⟨Int.ediv_nonneg (by omega) (Int.le_of_lt hB),Int.ediv_lt_of_lt_mul hB (by omega)⟩
theorem row_more {B v c V:Int} {s l:Nat} (hB:2<=B) (hc:0 < c) (h0:0<=v) (h:v + B ^ s * c=V) (hV:V < B ^ l):s < l:=by
  rcases Nat.lt_or_ge s l with z | z
  . exact z
  . have h5:=pow_mono hB z
    have h6:=Int.mul_le_mul_of_nonneg_left (show 1<=c from hc) (Int.le_of_lt (pow_pos' hB s))
    omega
theorem pw_9 {w:Nat} (hw:w<=9):(2:Int) ^ w<=2 ^ 9:=pow_mono (by decide) hw
theorem Sm.dig {w:Nat} (hw:w<=9) {d:Int} (h:0<=d/\d < 2 ^ w):Sm d:=Sm.in h (pw_9 hw) (by decide)
theorem sp_add_row {G:Gd} (pg:PG G) {w:Nat} (hw:1<=w) (hw':w<=9) {m limb:Int} {f:List Int} {t:Nat} (hm:0<=m) (hl:0<=limb/\limb < 2 ^ w) (hf:Dg (2 ^ w) f) (hfl:f.length<=1000)
    (ht:t + (row (2 ^ w) m).length<=f.length) (hv:val (2 ^ w) f + limb * m * (2 ^ w) ^ t < (2 ^ w) ^ f.length) :
    CaIO G 1 (fnv G "add_row") (.il f) [.il (row (2 ^ w) m),.int limb,.int t,.int w] (λ r l=>r=.none/\∃ g:List Int,l=.il g/\g.length=f.length/\Dg (2 ^ w) g/\val (2 ^ w) g=val (2 ^ w) f + limb * m * (2 ^ w) ^ t):=by
  have hB:=two_le hw
  have dm:=dg_row hB m
  have vm:=val_row hB m hm
  have sl:=Sm.dig hw' hl
  have hB0:(0:Int) < 2 ^ w:=pw2_pos w
  have f1:f.length<=100000:=Nat.le_trans hfl (Nat.le_of_ble_eq_true rfl)
  have f2:f.length<=10000:=Nat.le_trans hfl (Nat.le_of_ble_eq_true rfl)
  refine CaIO.ofR λ K hK=>vdefIO pg o_add_row rfl λ ab=>?_
  generalize row (2 ^ w) m=fm at *
  repeat' first | walk_at "z"
  refine LpF.b3 (λ i (g:List Int) (c:Int) (o:SC)=>[.box ab,.v (.il fm),.v (.int limb),.v (.int ((t + i:Nat):Int)),.v (.int w),.v (.int c),.v (.int (1 * 2 ^ w - 1)),o]) .il (λ _ g _ _=>g.length=f.length) (λ _ g _ _=>Dg (2 ^ w) g) (λ _ _ c _=>0<=c/\c < 2 ^ w) (λ i g c _=>val (2 ^ w) g + (2 ^ w) ^ (t + i) * c=val (2 ^ w) f + limb * val (2 ^ w) (fm.take i) * (2 ^ w) ^ t) f 0 .un rfl rfl rfl hf ⟨Int.le_refl _,hB0⟩ ?_ ?_ ?_
  . show _=val (2 ^ w) f + limb * 0 * (2 ^ w) ^ t
    rw [Int.mul_zero,Int.mul_zero,Int.zero_mul]
  . intro Q i g c o hQ hi hgl hgd hc hgv
    have g1:=ig_dg dm hi
    have hs:t + i < g.length:=hgl ▸ Nat.lt_of_lt_of_le (Nat.add_lt_add_left hi t) ht
    have g2:=ig_dg hgd hs
    have sd:=Sm.dig hw' g1
    have hs':=nn_l hs
    have l1:g.length<=100000:=hgl ▸ f1
    have l2:g.length<=10000:=hgl ▸ f2
    refine And.intro nn_0 (And.intro hs' (And.intro l1 (And.intro sd (And.intro sl ?_))))
    refine And.intro rfl (And.intro nn_0 (And.intro hs' (And.intro l2 ?_)))
    refine Exists.intro w (And.intro rfl ?_)
    refine hQ _ _ _ (by rw [List.length_set]; exact hgl) (put_dg hgd _ _) (row_carry hc g2 g1 hl) ?_
    rw [val_take_succ hi,<- row_v]
    exact put_add hs hgv
  . intro g c o hgl hgd hc hgv
    rw [List.take_length,vm] at hgv
    refine LpW.b3 (λ (g:List Int) (c:Int) (s:Nat)=>[.box ab,.v (.il fm),.v (.int limb),.v (.int (s:Int)),.v (.int w),.v (.int c),.v (.int (1 * 2 ^ w - 1)),o]) .il (λ g _ _=>g.length=f.length) (λ g _ _=>Dg (2 ^ w) g) (λ _ c _=>0<=c/\c < 2 ^ w) (λ g c s=>val (2 ^ w) g + (2 ^ w) ^ s * c=val (2 ^ w) f + limb * m * (2 ^ w) ^ t) (λ _ _ s=>f.length - s) g c (t + fm.length) rfl rfl hgl hgd hc hgv ?_
    intro Q g c s hQ hgl hgd hc hgv
    refine Br.mk (λ hcp=>?_) λ hcp=>?_
    . have hs:=row_more hB hcp (val_nonneg hB hgd) hgv hv
      have hd:f.length - (s + 1) < f.length - s:=Nat.sub_succ_lt_self _ _ hs
      rw [<- hgl] at hs
      have g2:=ig_dg hgd hs
      have hs':=at_l hs
      refine And.intro (Int.natCast_nonneg _) (And.intro hs' (And.intro (hgl ▸ f1) ?_))
      refine And.intro rfl (And.intro (Int.natCast_nonneg _) (And.intro hs' (And.intro (hgl ▸ f2) ?_)))
      refine Exists.intro w (And.intro rfl ?_)
      exact hQ _ _ (s + 1) hd (by rw [List.length_set]; exact hgl) (put_dg hgd _ _) (carry_b hB hc g2) (put_step (q:=0) hs hgv)
    . obtain rfl:c=0:=Int.le_antisymm (Int.not_lt.mp hcp) hc.1
      rw [Int.mul_zero,Int.add_zero] at hgv
      exact And.intro rfl (hK _ _ ⟨rfl,g,rfl,hgl,hgd,hgv⟩)
end N14
noncomputable section N15
theorem low_zero {B:Int} (hB:2<=B) {f:List Int} (hfd:Dg B f) {i:Nat} (hi:i<=f.length) (h:B ^ i ∣ val B f):val B f=B ^ i * val B (f.drop i):=by
  have e:=val_append (B:=B) (f.take i) (f.drop i)
  rw [List.take_append_drop,List.length_take,Nat.min_eq_left hi] at e
  have h0:=val_nonneg hB (hfd.take i)
  have h1:=val_lt hB (hfd.take i)
  rw [List.length_take,Nat.min_eq_left hi] at h1
  have h2:B ^ i ∣ val B (f.take i):=(Int.dvd_iff_dvd_of_dvd_add (e ▸ h)).mpr (Int.dvd_mul_right ..)
  have h3:=Int.emod_eq_of_lt h0 h1
  rw [Int.emod_eq_zero_of_dvd h2] at h3
  rw [e,<- h3,Int.zero_add]
theorem redc_step {B m mi:Int} (hB:2<=B) (hinv:(1 + mi * m) % B=0) {f:List Int} (hfd:Dg B f) {i:Nat} (hi:i < f.length) (h:B ^ i ∣ val B f):B ^ (i + 1) ∣ val B f + (ig f (i:Int) * mi % B) * m * B ^ i:=by
  have e:=low_zero hB hfd (Nat.le_of_lt hi) h
  rw [ig_drop hi] at e
  have e2:val B (ig f (i:Int) :: f.drop (i + 1))=ig f (i:Int) + B * val B (f.drop (i + 1)):=rfl
  rw [e2] at e
  generalize ig f (i:Int)=d at *
  generalize val B (f.drop (i + 1))=Y at *
  have e3:=Int.emod_add_mul_ediv (d * mi) B
  generalize d * mi % B=l at *
  generalize d * mi / B=z at *
  obtain ⟨u,hu⟩:=Int.dvd_of_emod_eq_zero hinv
  have e4:l=d * mi - B * z:=by omega
  have e5:d * (1 + mi * m)=d * (B * u):=by rw [hu]
  refine ⟨Y + d * u - z * m,?_⟩
  rw [e,e4,Int.pow_succ,Int.mul_comm _ (B ^ i),Int.mul_assoc,<- Int.mul_add]
  congr 1
  grind
noncomputable abbrev RR (w:Nat) (m:Int):Int:=(2 ^ w) ^ (row (2 ^ w) m).length
structure MOk (w:Nat) (m mi:Int):Prop where
  hw:1<=w
  hw':w<=9
  odd:m % 2=1
  pos:1 < m
  lt:m < 2 ^ 17
  mi0:0<=mi
  mi1:mi < 2 ^ w
  inv:(1 + mi * m) % 2 ^ w=0
theorem m_len {w:Nat} {m:Int} (hw:1<=w) (hm:0<=m) (hm':m < 2 ^ 17):(row (2 ^ w) m).length<=17 :=
  len_row (two_le hw) hm (Int.lt_of_lt_of_le hm' (by rw [<- Int.pow_mul]; exact pow_mono (by decide) (Nat.le_mul_of_pos_left 17 hw)))
theorem row_pow {B m:Int} (hB:2<=B) (hm:0 < m):m < B ^ (row B m).length/\B ^ ((row B m).length - 1)<=m:=by
  have h:=val_lt hB (dg_row hB m)
  rw [val_row hB m (Int.le_of_lt hm)] at h
  refine ⟨h,?_⟩
  have:=val_ge hB (dg_row hB m) (nrm_row hB m) (λ e=>by have:=row_len_pos hB hm; rw [e] at this; exact absurd this (by decide))
  rwa [val_row hB m (Int.le_of_lt hm)] at this
theorem MOk.m0 {w:Nat} {m mi:Int} (h:MOk w m mi):0 < m:=Int.lt_of_lt_of_le (by decide) h.pos
theorem MOk.len {w:Nat} {m mi:Int} (h:MOk w m mi):(row (2 ^ w) m).length<=17:=m_len h.hw (Int.le_of_lt h.m0) h.lt
theorem MOk.ltR {w:Nat} {m mi:Int} (h:MOk w m mi):m < RR w m:=(row_pow (two_le h.hw) h.m0).1
theorem MOk.mR {w:Nat} {m mi:Int} (h:MOk w m mi):m * RR w m < 2 ^ 43:=by
  have h0:=row_len_pos (two_le h.hw) h.m0
  have h1:=(row_pow (two_le h.hw) h.m0).2
  have h9:=pw_9 h.hw'
  have hm:=h.lt
  have hp:=h.m0
  unfold RR
  generalize (row (2 ^ w) m).length=L at *
  obtain ⟨l,rfl⟩:∃ l,L=l + 1:=⟨L - 1,by omega⟩
  rw [Int.pow_succ]
  have a1:(2 ^ w:Int) ^ l * 2 ^ w<=m * 2 ^ 9:=Int.mul_le_mul h1 h9 (Int.le_of_lt (pw2_pos w)) (by omega)
  have a2:m * ((2 ^ w:Int) ^ l * 2 ^ w)<=m * (m * 2 ^ 9):=Int.mul_le_mul_of_nonneg_left a1 (by omega)
  have a3:m * (m * 2 ^ 9)<=(2 ^ 17 - 1) * ((2 ^ 17 - 1) * 2 ^ 9):=Int.mul_le_mul (by omega) (by omega) (by omega) (by decide)
  omega
theorem redc_q {B q l:Int} {i:Nat} (hB:2<=B) (hq:0<=q/\q < B ^ i) (hl:0<=l/\l < B):0<=q + l * B ^ i/\q + l * B ^ i < B ^ (i + 1):=by
  have h1:=Int.mul_nonneg hl.1 (Int.le_of_lt (pow_pos' hB i))
  have h2:(l + 1) * B ^ i<=B * B ^ i:=Int.mul_le_mul_of_nonneg_right hl.2 (Int.le_of_lt (pow_pos' hB i))
  rw [Int.add_mul,Int.one_mul,Int.mul_comm B] at h2
  rw [Int.pow_succ]
  omega
theorem redc_room {B q m a:Int} {i L:Nat} (hB:2<=B) (hq:q < B ^ i) (hi:i<=L) (ha:a < m * B ^ L) (hm0:0<=m) (hm:m < B ^ L):a + q * m < B ^ (2 * L + 1):=by
  have h0:=pow_mono hB hi
  have h7:q * m<=B ^ L * m:=Int.mul_le_mul_of_nonneg_right (by omega) hm0
  have h8:m * B ^ L<=B ^ L * B ^ L:=Int.mul_le_mul_of_nonneg_right (Int.le_of_lt hm) (Int.le_of_lt (pow_pos' hB L))
  have h9:B ^ L * B ^ L * 2<=B ^ L * B ^ L * B:=Int.mul_le_mul_of_nonneg_left hB (Int.mul_nonneg (Int.le_of_lt (pow_pos' hB L)) (Int.le_of_lt (pow_pos' hB L)))
  rw [Int.mul_comm (B ^ L) m] at h7
  rw [show 2 * L + 1=L + L + 1 by omega,Int.pow_succ,Int.pow_add]
  omega
theorem redc_v {V a q m l x:Int} (h:V=a + q * m):V + l * m * x=a + (q + l * x) * m:=by rw [h,Int.add_mul,Int.add_assoc]; ac_rfl
theorem redc_end {B a m q:Int} {f:List Int} {L:Nat} (hB:2<=B) (hd:Dg B f) (hl:L<=f.length) (hq:0<=q/\q < B ^ L) (ha:a < m * B ^ L) (hm:0 < m) (hv:val B f=a + q * m) (hdv:B ^ L ∣ val B f) :
    0<=val B (f.drop L)/\val B (f.drop L) < 2 * m/\val B (f.drop L) * B ^ L - a=q * m:=by
  have e:=low_zero hB hd hl hdv
  have hY0:=val_nonneg hB (hd.drop L)
  generalize val B (f.drop L)=Y at *
  rw [e,Int.mul_comm] at hv
  refine ⟨hY0,?_,by omega⟩
  have h7:q * m < B ^ L * m:=Int.mul_lt_mul_of_pos_right hq.2 hm
  rw [Int.mul_comm] at ha
  have h8:B ^ L * Y < B ^ L * (2 * m):=by rw [Int.mul_comm _ Y,Int.mul_comm 2 m,<- Int.mul_assoc]; omega
  exact Int.lt_of_mul_lt_mul_left h8 (Int.le_of_lt (pow_pos' hB L))
theorem once_in {Y m:Int} (h:0<=Y) (h2:Y < 2 * m):0<=(if m<=Y then Y - m else Y)/\(if m<=Y then Y - m else Y) < m:=by split <;> omega
theorem once_dvd {Y m R a q:Int} (h:Y * R - a=q * m):m ∣ (if m<=Y then Y - m else Y) * R - a:=by
  split
  . exact ⟨q - R,by rw [Int.sub_mul,Int.mul_sub,Int.mul_comm m q,<- h]; omega⟩
  . exact ⟨q,by rw [h,Int.mul_comm]⟩
theorem zeros_n {L l:Nat} (h:l<=2 * L):((2 * (L:Int) + 1 - (l:Int)).toNat)=2 * L + 1 - l:=by omega
theorem sp_redc {G:Gd} (pg:PG G) {C:Addr} (hM:IsCls G cM C) {w:Nat} {m mi a:Int} {one sq:SV} (ok:MOk w m mi) (ha:0<=a) (ha':a < m * RR w m) :
    Ca G 4 (fnv G "redc") [.il (row (2 ^ w) a),.mg C (.il (row (2 ^ w) m)) (.int mi) one sq,.int w] (λ v=>∃ r,v=.il (row (2 ^ w) r)/\0<=r/\r < m/\m ∣ r * RR w m - a):=by
  have hB:=two_le ok.hw
  have hw60:w<=60:=Nat.le_trans ok.hw' (by decide)
  have m0:=ok.m0
  have mr:=ok.mR
  have mlt:=ok.ltR
  have lm:=ok.len
  have m17:=ok.lt
  have a64:a < 2 ^ 64:=by omega
  have da:=dg_row hB a
  have va:=val_row hB a ha
  have smi:=Sm.dig ok.hw' ⟨ok.mi0,ok.mi1⟩
  have la:(row (2 ^ w) a).length<=2 * (row (2 ^ w) m).length:=len_row hB ha (by
    have:m * RR w m<=RR w m * RR w m:=Int.mul_le_mul_of_nonneg_right (Int.le_of_lt mlt) (Int.le_of_lt (pow_pos' hB _))
    rw [Nat.two_mul,Int.pow_add]; exact Int.lt_of_lt_of_le ha' this)
  unfold RR at *
  generalize hL:(row (2 ^ w) m).length=L at *
  refine Ca.ofR λ K hK=>vdef pg o_redc rfl ?_
  refine And.intro hM ?_
  refine And.intro (by rw [hL]; exact Nat.le_trans lm (Nat.le_of_ble_eq_true rfl)) ?_
  rw [hL]
  refine Jm.dup (Ca.eq (sp_lifted pg hB (Int.le_of_lt m0) (by omega) (n:=L) (Nat.le_trans lm (Nat.le_of_ble_eq_true rfl))) rfl ?_)
  refine Ca.eq (sp_compare pg hB ha (Int.mul_nonneg (Int.le_of_lt m0) (Int.le_of_lt (pow_pos' hB L))) a64 (by omega)) rfl (Br.mk (λ h=>absurd (ge_0.mp h) (by omega)) λ _=>?_)
  have sL:Sm (L:Int):=Sm.nat lm rfl
  refine And.intro (Nat.le_of_ble_eq_true rfl) (And.intro (Sm.of (by decide) (by decide)) (And.intro sL (And.intro (Nat.le_trans la (by omega)) (And.intro (by omega) (And.intro (by omega) (And.intro ?_ ?_))))))
  . rw [List.length_replicate]; omega
  intro ar
  refine Exists.intro w (And.intro rfl (And.intro (zs_nat ok.hw' rfl) (And.intro (by decide) ?_)))
  refine Exists.intro L (And.intro rfl (And.intro (by omega) ?_))
  rw [zeros_n la]
  refine LpF.c3 (λ i (f:List Int) (q:Int) (c:SC)=>[.v (.il (row (2 ^ w) a)),.v (.mg C (.il (row (2 ^ w) m)) (.int mi) one sq),.v (.int w),.v (.il (row (2 ^ w) m)),.v (.int L),.own ar (.il f),.v (.int (1 * 2 ^ w - 1)),c]) (λ _ f _ _=>f.length=2 * L + 1) (λ _ f _ _=>Dg (2 ^ w) f) (λ i _ q _=>0<=q/\q < (2 ^ w) ^ i) (λ i f q _=>val (2 ^ w) f=a + q * m/\(2 ^ w) ^ i ∣ val (2 ^ w) f)
    (row (2 ^ w) a ++ List.replicate (2 * L + 1 - (row (2 ^ w) a).length) 0) 0 .un rfl (by rw [List.length_append,List.length_replicate]; omega) (Dg.append.mpr ⟨da,dg_zeros hB _⟩) ⟨Int.le_refl _,by rw [Int.pow_zero]; decide⟩ ⟨by rw [val_append,va,val_zeros,Int.mul_zero,Int.zero_mul],⟨_,(Int.one_mul _).symm⟩⟩ ?_ ?_
  . intro Q i f q c hQ hi hfl hfd hq hv
    have hif:i < f.length:=by omega
    have g1:=ig_dg hfd hif
    have hst:=redc_step hB ok.inv hfd hif hv.2
    have lb:=mod_in (a:=ig f (i:Int) * mi) (pw2_pos w)
    have hq2:=redc_q hB hq lb
    have hv2:=redc_v (l:=ig f (i:Int) * mi % 2 ^ w) (x:=(2 ^ w) ^ i) hv.1
    refine And.intro (Int.natCast_nonneg _) (And.intro (at_l hif) (And.intro (by omega) (And.intro hM (And.intro (Sm.dig ok.hw' g1) (And.intro smi ?_)))))
    refine CaIO.to' (sp_add_row pg ok.hw ok.hw' (m:=m) (t:=i) (Int.le_of_lt m0) (by rw [band_mask1]; exact lb) hfd (by omega) (by omega) ?_) rfl ?_
    . rw [band_mask1,hv2,hfl]
      exact redc_room hB hq2.2 hi ha' (Int.le_of_lt m0) mlt
    rintro _ _ ⟨rfl,g,rfl,hgl,hgd,hgv⟩
    rw [band_mask1] at hgv
    exact hQ g _ (.v (.int i)) (hgl.trans hfl) hgd hq2 ⟨hgv.trans hv2,hgv ▸ hst⟩
  . intro f q c hfl hfd hq hv
    obtain ⟨y0,y1,y2⟩:=redc_end hB hfd (by omega) hq ha' m0 hv.1 hv.2
    refine And.intro (Int.natCast_nonneg _) (And.intro (by omega) (Ca.eq (sp_normal pg hB (by show (f.drop L).length<=_; rw [List.length_drop]; omega) (hfd.drop L)) rfl ?_))
    refine Ca.eq (sp_taken_once pg ok.hw hw60 y0 (Int.lt_trans y1 (by omega)) m0 (by omega) y1) rfl ?_
    exact hK _ ⟨_,rfl,(once_in y0 y1).1,(once_in y0 y1).2,once_dvd y2⟩
theorem two_cancel {m z:Int} (hm:m % 2=1) (h:m ∣ 2 * z):m ∣ z:=by
  obtain ⟨c,hc⟩:=h
  have:c % 2=0:=by
    rcases Int.emod_two_eq c with q | q
    . exact q
    . have h2:=Int.mul_emod m c 2
      rw [<- hc,hm,q] at h2
      omega
  obtain ⟨d,rfl⟩:=Int.dvd_of_emod_eq_zero this
  rw [Int.mul_left_comm] at hc
  exact ⟨d,Int.eq_of_mul_eq_mul_left (by decide) hc⟩
theorem pow_cancel {m z:Int} (hm:m % 2=1):∀ k:Nat,m ∣ 2 ^ k * z->m ∣ z
  | 0,h=>by rwa [Int.pow_zero,Int.one_mul] at h
  | k + 1,h=>by
    rw [Int.pow_succ,Int.mul_comm (2 ^ k),Int.mul_assoc] at h
    exact pow_cancel hm k (two_cancel hm h)
theorem rr_cancel {w:Nat} {m z:Int} (hm:m % 2=1) (h:m ∣ RR w m * z):m ∣ z:=by
  unfold RR at h
  rw [<- Int.pow_mul] at h
  exact pow_cancel hm _ h
noncomputable def Mg (w:Nat) (m X:Int) (f:List Int):Prop:=∃ r,f=row (2 ^ w) r/\0<=r/\r < m/\m ∣ r - X * RR w m
theorem MOk.mm {w:Nat} {m mi a b:Int} (h:MOk w m mi) (h0:0<=a) (ha:a < m) (hb:0<=b) (hb':b < m):0<=a * b/\a * b < m * RR w m/\a * b < 2 ^ 34:=by
  have h1:=h.ltR
  have h2:=h.lt
  have h3:a * b<=a * m:=Int.mul_le_mul_of_nonneg_left (Int.le_of_lt hb') h0
  have h4:a * m < m * m:=Int.mul_lt_mul_of_pos_right ha h.m0
  have h5:m * m<=m * RR w m:=Int.mul_le_mul_of_nonneg_left (Int.le_of_lt h1) (Int.le_of_lt h.m0)
  have h7:m * m<=2 ^ 17 * 2 ^ 17:=Int.mul_le_mul (Int.le_of_lt h2) (Int.le_of_lt h2) (Int.le_of_lt h.m0) (by decide)
  exact ⟨Int.mul_nonneg h0 hb,by omega,by omega⟩
theorem mg_mul {m a b r X Y R:Int} (ha:m ∣ a - X * R) (hb:m ∣ b - Y * R) (hr:m ∣ r * R - a * b):m ∣ R * (r - X * Y * R):=by
  obtain ⟨x,hx⟩:=ha
  obtain ⟨y,hy⟩:=hb
  obtain ⟨z,hz⟩:=hr
  have ea:a=X * R + m * x:=by omega
  have eb:b=Y * R + m * y:=by omega
  rw [ea,eb] at hz
  exact ⟨z + X * R * y + x * Y * R + m * x * y,by grind⟩
theorem x_64 {m:Int} {a:Int} (h:a < m) (hm:m < 2 ^ 17):a < 2 ^ 64:=by omega
theorem y_64 {a:Int} (h:a < 2 ^ 34):a < 2 ^ 64:=by omega
theorem sp_mont_mul {G:Gd} (pg:PG G) {C:Addr} (hM:IsCls G cM C) {w:Nat} {m mi:Int} (ok:MOk w m mi) {one sq:SV} {u v:List Int} {X Y:Int} (hu:Mg w m X u) (hv:Mg w m Y v) :
    Ca G 5 (fnv G "mont_mul") [.il u,.il v,.mg C (.il (row (2 ^ w) m)) (.int mi) one sq,.int w,.v (fnv G "_law_mul")] (λ v=>∃ f,v=.il f/\Mg w m (X * Y) f):=by
  refine hid λ _ uQ=>?_
  obtain ⟨a,rfl,a0,a1,a2⟩:=hu
  obtain ⟨b,rfl,b0,b1,b2⟩:=hv
  obtain ⟨c0,c1,c2⟩:=ok.mm a0 a1 b0 b1
  refine uQ ?_
  refine Ca.ofR λ K hK=>vdef pg o_mont_mul rfl (And.intro (fn_mul pg) ?_)
  refine Ca.eq (sp_law_mul pg ok.hw (Nat.le_trans ok.hw' (by decide)) a0 (x_64 a1 ok.lt) b0 (x_64 b1 ok.lt) (y_64 c2)) rfl ?_
  refine Ca.to' (sp_redc pg hM ok c0 c1) rfl ?_
  intro _ zQ1
  refine hid λ _ uQ=>?_
  obtain ⟨r,rfl,r0,r1,r2⟩:=zQ1
  refine uQ ?_
  exact hK _ ⟨_,rfl,r,rfl,r0,r1,rr_cancel (w:=w) ok.odd (mg_mul a2 b2 r2)⟩
theorem mg_to {m a r b R:Int} (hb:b=R * R % m) (hr:m ∣ r * R - a * b):m ∣ R * (r - a * R):=by
  have b2:=Int.emod_add_mul_ediv (R * R) m
  rw [<- hb] at b2
  obtain ⟨z,hz⟩:=hr
  generalize R * R / m=y at *
  have:b=R * R - m * y:=by omega
  rw [this] at hz
  exact ⟨z - a * y,by grind⟩
theorem sp_to_mont {G:Gd} (pg:PG G) {C:Addr} (hM:IsCls G cM C) {w:Nat} {m mi:Int} (ok:MOk w m mi) {one:SV} {a:Int} (a0:0<=a) (a1:a < m) :
    Ca G 5 (fnv G "to_mont") [.il (row (2 ^ w) a),.mg C (.il (row (2 ^ w) m)) (.int mi) one (.il (row (2 ^ w) (RR w m * RR w m % m))),.int w,.v (fnv G "_law_mul")] (λ v=>∃ f,v=.il f/\Mg w m a f):=by
  have hB:=two_le ok.hw
  have b01:=mod_in (a:=RR w m * RR w m) ok.m0
  obtain ⟨c0,c1,c2⟩:=ok.mm a0 a1 b01.1 b01.2
  have a64:=x_64 a1 ok.lt
  refine Ca.ofR λ K hK=>vdef pg o_to_mont rfl (Jm.dup (And.intro hM ?_))
  refine Ca.eq (sp_compare pg hB a0 (Int.le_of_lt ok.m0) a64 (Int.lt_trans ok.lt (by decide))) rfl (Br.mk (λ h=>absurd (ge_0.mp h) (Int.not_le.mpr a1)) λ _=>?_)
  refine And.intro (fn_mul pg) (And.intro hM (Ca.eq (sp_law_mul pg ok.hw (Nat.le_trans ok.hw' (by decide)) a0 a64 b01.1 (x_64 b01.2 ok.lt) (y_64 c2)) rfl ?_))
  refine Ca.toL (sp_redc pg hM ok c0 c1) rfl λ r hr=>?_
  obtain ⟨r0,r1,r2⟩:=hr
  exact hK _ ⟨_,rfl,r,rfl,r0,r1,rr_cancel (w:=w) ok.odd (mg_to rfl r2)⟩
theorem mg_from {m a r X R:Int} (ha:m ∣ a - X * R) (hr:m ∣ r * R - a):m ∣ R * (r - X):=by
  obtain ⟨x,hx⟩:=ha
  obtain ⟨z,hz⟩:=hr
  exact ⟨z + x,by rw [Int.mul_add,<- hx,<- hz,Int.mul_sub,Int.mul_comm R r,Int.mul_comm R X]; omega⟩
theorem mod_of {m r X:Int} (h0:0<=r) (h1:r < m) (h:m ∣ r - X):r=X % m:=by
  rw [<- Int.emod_eq_of_lt h0 h1]
  exact (Int.emod_emod_of_dvd r (Int.dvd_refl m)).symm.trans (by rw [Int.emod_emod_of_dvd _ (Int.dvd_refl m)]; exact Int.emod_eq_emod_iff_emod_sub_eq_zero.mpr (Int.emod_eq_zero_of_dvd h))
theorem sp_from_mont {G:Gd} (pg:PG G) {C:Addr} (hM:IsCls G cM C) {w:Nat} {m mi:Int} (ok:MOk w m mi) {one sq:SV} {u:List Int} {X:Int} (hu:Mg w m X u) :
    Ca G 5 (fnv G "from_mont") [.il u,.mg C (.il (row (2 ^ w) m)) (.int mi) one sq,.int w] (·=.il (row (2 ^ w) (X % m))):=by
  obtain ⟨a,rfl,a0,a1,a2⟩:=hu
  have c1:a < m * RR w m:=by
    have h2:m * 1<=m * RR w m:=Int.mul_le_mul_of_nonneg_left (pow_pos' (two_le ok.hw) _) (Int.le_of_lt ok.m0)
    rw [Int.mul_one] at h2
    exact Int.lt_of_lt_of_le a1 h2
  refine Ca.of λ K hK=>vdef pg o_from_mont rfl (Ca.toL (sp_redc pg hM ok a0 c1) rfl λ r hr=>?_)
  obtain ⟨r0,r1,r2⟩:=hr
  exact K_eq (K:=K) hK (by rw [<- mod_of r0 r1 (rr_cancel (w:=w) ok.odd (mg_from a2 r2))])
theorem dbl_mod (z m:Int):z % m * 2 % m=z * 2 % m:=emul_l
theorem dbl_pow (m:Int) (i:Nat):2 ^ i % m * 2 % m=2 ^ (i + 1) % m:=by rw [dbl_mod,<- Int.pow_succ]
theorem dbl_mul (R m:Int) (i:Nat):R * 2 ^ i % m * 2 % m=R * 2 ^ (i + 1) % m:=by rw [dbl_mod,Int.mul_assoc,<- Int.pow_succ]
theorem mi_inv {B m f:Int} (h:m % B * f % B=1):(1 + -f % B * m) % B=0:=by
  have e1:-f % B * m % B=-(m % B * f) % B:=by
    rw [emul_l,Int.neg_mul,Int.mul_comm f m,Int.neg_emod_eq_sub_emod,Int.neg_emod_eq_sub_emod (a:=m % B * f),Int.sub_emod,<- emul_l (a:=m),<- Int.sub_emod]
  rw [Int.add_emod,e1,<- Int.add_emod,<- Int.sub_eq_add_neg,Int.sub_emod,h]
  have:(1:Int) % B=1:=by rw [<- h,Int.emod_emod_of_dvd _ (Int.dvd_refl B)]
  rw [this,Int.sub_self,Int.zero_emod]
theorem len_w {w L:Nat} (hL:L<=17) (hw:w<=9):L * w<=200:=Nat.le_trans (Nat.mul_le_mul hL hw) (by decide)
theorem sp_mont_make {G:Gd} (pg:PG G) {C:Addr} (hM:IsCls G cM C) {w:Nat} (hw:3<=w) (hw':w<=9) {m:Int} (hm:1 < m) (hm':m < 2 ^ 17) (hodd:m % 2=1) :
    Ca G 4 (fnv G "mont_make") [.il (row (2 ^ w) m),.int w] (λ v=>∃ mi,v=.mg C (.il (row (2 ^ w) m)) (.int mi) (.il (row (2 ^ w) (RR w m % m))) (.il (row (2 ^ w) (RR w m * RR w m % m)))/\MOk w m mi):=by
  have hw1:1<=w:=Nat.le_trans (by decide) hw
  have hB:=two_le hw1
  have hw60:w<=60:=Nat.le_trans hw' (by decide)
  have m0:0 < m:=Int.lt_trans (by decide) hm
  have m60:m < 2 ^ 60:=Int.lt_trans hm' (by decide)
  have lm:=m_len hw1 (Int.le_of_lt m0) hm'
  have hR:RR w m=2 ^ ((row (2 ^ w) m).length * w):=by unfold RR; rw [<- Int.pow_mul,Nat.mul_comm]
  have hLn:=len_w lm hw'
  have l5:(row (2 ^ w) m).length<=100000:=zs_nat lm rfl
  have sl:Sm ((row (2 ^ w) m).length:Int):=Sm.nat lm rfl
  have sw:Sm (w:Int):=Sm.nat hw' rfl
  have hL62:(row (2 ^ w) m).length * w < 2 ^ 62:=Nat.lt_of_le_of_lt hLn (by decide)
  have e1:(1:Int) % m=1:=Int.emod_eq_of_lt (by decide) hm
  have mi:=λ a=>mod_in (a:=a) m0
  have m60':∀ a,a % m < 2 ^ 60:=λ a=>Int.lt_trans (mi a).2 m60
  refine Ca.ofR λ K hK=>vdef pg o_mont_make rfl ?_
  refine Jm.dup (Ca.eq (sp_is_even pg hw1 (Int.le_of_lt m0) (by omega)) rfl (Br.mk (λ h=>absurd (of_decide_eq_true h) (by omega)) λ _=>?_))
  refine Jn.c0 (.ss []) (.il (row (2 ^ w) (2 ^ 0 % m))) (λ Q hQ=>?_) ?_
  . refine And.intro (Nat.le_of_ble_eq_true rfl) (Br.mk (λ h=>?_) λ _=>And.intro (Nat.le_of_ble_eq_true rfl) ?_)
    . exact absurd ((row_is_one hw1 (Int.le_of_lt m0)).mp h) (Int.ne_of_gt hm)
    . rw [Int.pow_zero,e1,row_one hB (by decide) (Int.lt_of_lt_of_le (by decide) hB)] at hQ
      exact hQ
  refine And.intro l5 (And.intro sl (And.intro sw (Exists.intro ((row (2 ^ w) m).length * w) (And.intro (Int.natCast_mul ..).symm (And.intro hL62 ?_)))))
  refine LpF.c0 (λ i=>[.v (.il (row (2 ^ w) m)),.v (.int w),.v (.il (row (2 ^ w) (2 ^ i % m))),lv .un (λ i=>i) i,.un]) (λ _=>True) rfl trivial ?_ ?_
  . intro Q i hQ hi _
    exact Ca.eq (sp_doubled_rest pg hw1 hw60 (mi _).1 (m60' _) m0 m60 (mi _).2) rfl (dbl_pow m i ▸ hQ trivial)
  intro _
  rw [<- hR]
  refine And.intro l5 (And.intro sl (And.intro sw (Exists.intro ((row (2 ^ w) m).length * w) (And.intro (Int.natCast_mul ..).symm (And.intro hL62 ?_)))))
  refine LpF.c1 (λ i (c:SC)=>[.v (.il (row (2 ^ w) m)),.v (.int w),.v (.il (row (2 ^ w) (RR w m % m))),c,.v (.il (row (2 ^ w) (RR w m * 2 ^ i % m)))]) (λ _ _=>True) (λ _ _=>True) (λ _ _=>True) _ (by rw [Int.pow_zero,Int.mul_one]; rfl) trivial trivial trivial ?_ ?_
  . intro Q i c hQ hi _ _ _
    exact Ca.eq (sp_doubled_rest pg hw1 hw60 (mi _).1 (m60' _) m0 m60 (mi _).2) rfl (dbl_mul _ m i ▸ hQ (.v (.int i)) trivial trivial trivial)
  intro c _ _ _
  have q01:=mod_in (a:=m) (pw2_pos w)
  have q2:m % 2 ^ w % 2=1:=by
    obtain ⟨v,rfl⟩:∃ v,w=v + 1:=⟨w - 1,by omega⟩
    rw [Int.emod_emod_of_dvd _ ⟨2 ^ v,by rw [Int.pow_succ,Int.mul_comm]⟩]; exact hodd
  refine Exists.intro C (And.intro hM (And.intro (Nat.le_of_ble_eq_true rfl) ?_))
  refine And.intro (Int.le_refl _) (And.intro (at_l (row_len_pos hB m0)) (And.intro l5 ?_))
  refine Ca.toL (by rw [ig_row0 hB m0]; exact sp_inverse_limb pg hw hw' q01.1 q01.2 q2) rfl λ f hf=>?_
  obtain ⟨f0,f1,f2⟩:=hf
  refine Exists.intro w (And.intro rfl (And.intro (zs_nat hw' rfl) (And.intro (by decide) ?_)))
  refine hK _ ⟨_,by rw [<- hR],hw1,hw',hodd,hm,hm',?_,?_,?_⟩
  all_goals rw [band_mask1]
  . exact (mod_in (pw2_pos w)).1
  . exact (mod_in (pw2_pos w)).2
  . exact mi_inv f2
end N15
noncomputable section N16
noncomputable def nestDef (d:DefRec):Arguments × List Stmt × Scope × Pos:=match d.body with
  | .FunctionDef _ params body _ _ _ scope _ _ pos :: _=>(params,body,scope,pos)
  | _=>(⟨[],[],none,[],[],none,[]⟩,[],{ kind:=.function,names:=[],isGenerator:=false,isCoroutine:=false,more:=[] },default)
noncomputable def mtFi:FI:=⟨"mont_times.<locals>.multiplied",(nestDef (dN 34)).1,.stmts (nestDef (dN 34)).2.1,(nestDef (dN 34)).2.2.1,["w","told","mul"]⟩
theorem mt_frees:freesOf (nestDef (dN 34)).2.2.1=(["w","told","mul"]:List Str):=by kernel_rfl
structure MT (G:Gd):Prop where
  tab:∃ q,IsDefT G (dN 34) q/\q.pos=(nestDef (dN 34)).2.2.2/\q.qual = "mont_times.<locals>.multiplied"
theorem f_mont_times:fmOkC (dN 34).params (dN 34).scope ["told","w","mul"] ["multiplied"]=true:=by kernel_rfl
theorem f_mult:(parOk mtFi.params ["x","y"] && scoOk mtFi.scope && locOk mtFi.scope ["x","y"] .local && locOk mtFi.scope mtFi.frees .free && noCells mtFi.scope && decide ((["x","y"]:List Str) ++ mtFi.frees).Nodup)=true:=by kernel_rfl
theorem mult_body {G:Gd} (pg:PG G) {Φ:Fm} (hΦ:isGl Φ.scope "mont_mul" = true) {k:Nat} {ρ:Loc} {β:List V} {a b c d e:V} {K} (h1:(("x" : Str),Cell.val a)∈ρ) (h2:(("y" : Str),Cell.val b)∈ρ) (h3:(("told" : Str),Cell.ro c)∈ρ) (h4:(("w" : Str),Cell.ro d)∈ρ) (h5:(("mul" : Str),Cell.ro e)∈ρ)
    (h:Spec G k (fnv G "mont_mul") [a,b,c,d,e] λ v=>K (.ret v) ρ β) {p1 p2 p3 p4 p5 p6 p7 p8}:WSs G Φ k [.Return (some (.Call (.Name "mont_mul" p1) [.Name "x" p2,.Name "y" p3,.Name "told" p4,.Name "w" p5,.Name "mul" p6] [] p7)) p8] ρ β K :=
  WSs_cons (WS_ret (WE_fnI .c_mont_mul pg hΦ rfl (WL_cons (WE_name h1 (WL_cons (WE_name h2 (WL_cons (WE_ro h3 (WL_cons (WE_ro h4 (WL_cons (WE_ro h5 (WL_nil h)) rfl)) rfl)) rfl)) rfl)) rfl)))
theorem sp_multiplied {G:Gd} (pg:PG G) {C:Addr} (hM:IsCls G cM C) {w:Nat} {m mi:Int} (ok:MOk w m mi) {one sq:SV} {u v:List Int} {X Y:Int} (hu:Mg w m X u) (hv:Mg w m Y v) :
    Ca G 6 (.clo mtFi [.int w,(SV.mg C (.il (row (2 ^ w) m)) (.int mi) one sq).den,fnv G "_law_mul"]) [.il u,.il v] (λ v=>∃ f,v=.il f/\Mg w m (X * Y) f):=by
  have h:=f_mult
  simp only [Bool.and_eq_true,decide_eq_true_eq] at h
  refine hid λ _ uQ=>?_
  obtain ⟨⟨⟨⟨⟨h1,h2⟩,h3⟩,h4⟩,h5⟩,h6⟩:=h
  refine uQ ?_
  have hc:=sp_mont_mul pg hM ok (one:=one) (sq:=sq) hu hv
  unfold Ca at hc ⊢
  refine spec_clo (ps:=["x","y"]) (ls:=[]) (body:=(nestDef (dN 34)).2.1) rfl h1 h2 h3 h4 h5 h6 rfl ?_
  exact mult_body pg (by kernel_rfl) (.head _) (.tail _ (.head _)) (.tail _ (.tail _ (.tail _ (.head _)))) (.tail _ (.tail _ (.head _))) (.tail _ (.tail _ (.tail _ (.tail _ (.head _))))) hc
theorem sp_mont_times {G:Gd} (mt:MT G) {told wv mulv:SV}:Ca G 1 (fnv G "mont_times") [told,wv,mulv] (·=.v (.clo mtFi [wv.den,told.den,mulv.den])):=by
  refine hid λ _ uQ=>?_
  obtain ⟨q,hq,hpos,hqual⟩:=mt.tab
  refine uQ ?_
  unfold Ca
  rw [<- n_mont_times]
  refine specT_def hq f_mont_times rfl ?_
  simp only [List.map,List.zip_cons_cons,List.zip_nil_right,List.cons_append,List.nil_append]
  refine WSs_cons ?_
  refine WS_def (q:=q) (Xs:=[wv.den,told.den,mulv.den]) rfl rfl hq.1 hpos (by rw [hqual]; kernel_rfl) (by kernel_rfl) (ρ1:=[("told",.ro told.den),("w",.ro wv.den),("mul",.ro mulv.den),("multiplied",.un)]) ?_ (by kernel_rfl) rfl rfl (λ _=>rfl) ?_
  . show FreezeAll (freesOf (nestDef (dN 34)).2.2.1) _ _ _
    rw [mt_frees]
    exact .cons (.there .here) (.cons .here (.cons (.there (.there .here)) .nil))
  refine ⟨_,_,.there (.there (.there .here)),rfl,?_⟩
  refine seq_next (WSs_cons (WS_ret (WE_name (.tail _ (.tail _ (.tail _ (.head _)))) ?_)))
  refine ⟨_,?_,rfl⟩
  show V.clo _ _=V.clo _ _
  rw [hqual]
  rfl
end N16
noncomputable section N17
theorem nat_add {x y:Int} (hx:0<=x) (hy:0<=y):(x + y).toNat=x.toNat + y.toNat:=by omega
theorem mod_dvd (R m:Int):m ∣ R % m - R:=⟨-(R / m),by have:=Int.emod_add_mul_ediv R m; rw [Int.mul_neg]; omega⟩
theorem sp_power_mont {G:Gd} (pg:PG G) {C:Addr} (hM:IsCls G cM C) (mt:MT G) {w:Nat} (hw:3<=w) (hw':w<=9) {a e m:Int} (a0:0<=a) (a1:a < 2 ^ 60) (e0:0<=e) (e1:e < 2 ^ 60) (hm:1 < m) (hm':m < 2 ^ 17) (hodd:m % 2=1) :
    Ca G 9 (fnv G "power_mont") [.il (row (2 ^ w) a),.il (row (2 ^ w) e),.il (row (2 ^ w) m),.int w,.int 3,.v (fnv G "_law_mul"),.v (fnv G "_law_divrem")] (·=.il (row (2 ^ w) (a ^ e.toNat % m))):=by
  have hw1:1<=w:=Nat.le_trans (by decide) hw
  have m0:0 < m:=Int.lt_trans (by decide) hm
  have hw60:w<=60:=Nat.le_trans hw' (by decide)
  have b01:=mod_in (a:=a) m0
  refine Ca.of λ K hK=>vdef pg o_power_mont rfl (Ca.toL (sp_mont_make pg hM hw hw' hm hm' hodd) rfl λ mi ok=>?_)
  refine And.intro (fn_divrem pg) (Ca.eq (sp_law_divrem pg hw1 hw60 a0 (Int.lt_trans a1 (by decide)) m0 (Int.lt_trans hm' (by decide))) rfl ?_)
  refine And.intro (Nat.le_of_ble_eq_true rfl) (Ca.toL (sp_to_mont pg hM ok b01.1 b01.2) rfl λ base hbase=>?_)
  refine And.intro hM (Ca.eq (sp_mont_times mt) rfl ?_)
  refine Ca.to' (sp_by_windows pg (kt:=6) (P:=λ z f=>Mg w m ((a % m) ^ z.toNat) f) (by decide) hw1 hw60 e0 e1 ⟨trivial,?_⟩ ?_ ?_) rfl ?_
  . intro x y f g hx hy hf hg
    show Ca G 6 _ _ (λ v=>∃ h,v=.il h/\Mg w m ((a % m) ^ (x + y).toNat) h)
    rw [nat_add hx hy,Int.pow_add]
    exact sp_multiplied pg hM ok hf hg
  . show Mg w m ((a % m) ^ 1) base
    rw [Int.pow_succ,Int.pow_zero,Int.one_mul]; exact hbase
  . refine ⟨_,rfl,(mod_in m0).1,(mod_in m0).2,?_⟩
    show m ∣ RR w m % m - (a % m) ^ 0 * RR w m
    rw [Int.pow_zero,Int.one_mul]
    exact mod_dvd ..
  rintro _ ⟨found,rfl,hfound⟩
  exact Ca.eq (sp_from_mont pg hM ok hfound) rfl (K_eq (K:=K) hK (by rw [pow_emod]))
noncomputable def rowsOf (w:Nat) (n b:Int) (d s:Nat):List (List Int):=(List.range s).map λ i=>row (2 ^ w) (b ^ (d * 2 ^ i) % n)
theorem rowsOf_succ (w:Nat) (n b:Int) (d s:Nat):rowsOf w n b d (s + 1)=rowsOf w n b d s ++ [row (2 ^ w) (b ^ (d * 2 ^ s) % n)]:=by
  unfold rowsOf; rw [List.range_succ,List.map_append]; rfl
theorem rowsOf_len (w:Nat) (n b:Int) (d s:Nat):(rowsOf w n b d s).length=s:=by unfold rowsOf; rw [List.length_map,List.length_range]
theorem rowsOf_at (w:Nat) (n b:Int) (d s:Nat):(rowsOf w n b d (s + 1)).getD ((rowsOf w n b d (s + 1)).length - 1) []=row (2 ^ w) (b ^ (d * 2 ^ s) % n):=by
  rw [rowsOf_len,rowsOf_succ]; exact gd_last (rowsOf_len ..)
theorem rowsOf_one (w:Nat) (n b:Int) (d:Nat):[row (2 ^ w) (b ^ d % n)]=rowsOf w n b d 1:=by
  rw [rowsOf_succ,Nat.pow_zero,Nat.mul_one]; rfl
theorem tz_pos {n:Int} {s:Nat} (h:Tz (n - 1) s) (hodd:n % 2=1):∃ t,s=t + 1:=by
  cases s with
  | zero=>have:=h.2; rw [Int.pow_zero,Int.ediv_one] at this; omega
  | succ t=>exact ⟨t,rfl⟩
theorem sp_strong_rows {G:Gd} (pg:PG G) {C:Addr} (hM:IsCls G cM C) (mt:MT G) {w:Nat} (hw:3<=w) (hw':w<=9) {n b:Int} (b0:0<=b) (b1:b < 2 ^ 60) (hn:1 < n) (hn':n < 2 ^ 17) (hodd:n % 2=1) :
    Ca G 10 (fnv G "strong_rows") [.il (row (2 ^ w) n),.il (row (2 ^ w) b),.int w,.v (fnv G "_law_mul"),.v (fnv G "_law_divrem")] (λ v=>∃ s,(1<=s/\s<=17)/\Tz (n - 1) s/\v=.rl (rowsOf w n b ((n - 1) / 2 ^ s).toNat s)):=by
  have hw1:1<=w:=Nat.le_trans (by decide) hw
  have hw60:w<=60:=Nat.le_trans hw' (by decide)
  have n0:0 < n:=Int.lt_trans (by decide) hn
  have n1:0 < n - 1:=by omega
  have n2:n - 1 < 2 ^ 64:=by omega
  have b2:(1:Int) < 2 ^ w:=Int.lt_of_lt_of_le (by decide) (two_le hw1)
  refine Ca.ofR λ K hK=>vdef pg o_strong_rows rfl ?_
  refine Ca.eq (sp_sub_limb pg hw1 (Nat.le_trans hw' (by decide)) (Int.le_of_lt n0) (by omega) (by decide) b2 (Int.le_of_lt hn)) rfl ?_
  refine Ca.toL (sp_odd_part pg hw1 hw' n1 n2) rfl λ s hs=>?_
  have hs2:s < 17:=hs.lt n1 (by omega)
  have d0:0<=(n - 1) / 2 ^ s:=Int.ediv_nonneg (Int.le_of_lt n1) (Int.le_of_lt (pw2_pos s))
  have d1:(n - 1) / 2 ^ s < 2 ^ 60:=Int.lt_of_le_of_lt (Int.ediv_le_self _ (Int.le_of_lt n1)) (by omega)
  refine Ca.eq (sp_power_mont pg hM mt hw hw' b0 b1 d0 d1 hn hn' hodd) rfl ?_
  obtain ⟨t,rfl⟩:=tz_pos hs hodd
  have hK:=hK _ ⟨_,⟨Nat.succ_pos t,Nat.le_of_lt hs2⟩,hs,rfl⟩
  generalize ((n - 1) / 2 ^ (t + 1)).toNat=d at *
  refine And.intro (Nat.le_of_ble_eq_true rfl) λ af=>?_
  refine Exists.intro t (And.intro (by omega) (And.intro (by omega) ?_))
  have hm:=λ a=>mod_in (a:=a) n0
  have n31:∀ a,a % n < 2 ^ 31:=λ a=>Int.lt_trans (hm a).2 (Int.lt_trans hn' (by decide))
  refine LpF.c2 (λ i (f:List (List Int)) (c:SC)=>[.v (.il (row (2 ^ w) n)),.v (.il (row (2 ^ w) b)),.v (.int w),.v (.v (fnv G "_law_mul")),.v (.v (fnv G "_law_divrem")),.v (.int ((t + 1:Nat):Int)),.v (.il (row (2 ^ w) ((n - 1) / 2 ^ (t + 1)))),.own af (.rl f),c]) (λ i f _=>f=rowsOf w n b d (i + 1)) (λ _ _ _=>True) (λ _ _ _=>True) (λ _ _ _=>True) _ .un rfl (rowsOf_one ..) trivial trivial trivial ?_ ?_
  . intro Q i f c hQ hi hf _ _ _
    have hl:f.length=i + 1:=hf ▸ rowsOf_len ..
    have hl2:f.length<=1000:=by omega
    refine And.intro (by rw [hl]; exact Nat.succ_pos i) (And.intro (Nat.le_trans hl2 (Nat.le_of_ble_eq_true rfl)) ?_)
    refine Ca.eq (by rw [hf,rowsOf_at]; exact sp_square_rest pg hw1 hw60 (hm _).1 (n31 _) n0 (Int.lt_trans hn' (by decide))) rfl ?_
    refine And.intro hl2 (hQ _ _ ?_ trivial trivial trivial)
    rw [hf,rowsOf_succ w n b d (i + 1),<- sq_step]
  . intro f c hf _ _ _
    exact K_eq (K:=K) hK (by rw [hf]; rfl)
theorem tz_ex:∀ {x:Int},0 < x->∃ s,Tz x s:=by
  have:∀ (k:Nat) (x:Int),0 < x->x.toNat<=k->∃ s,Tz x s:=by
    intro k
    induction k with
    | zero=>intro x hx hk; omega
    | succ k ih =>
      intro x hx hk
      rcases Int.emod_two_eq x with q | q
      . obtain ⟨s,h1,h2⟩:=ih (x / 2) (by omega) (by omega)
        refine ⟨s + 1,?_,?_⟩
        . obtain ⟨c,hc⟩:=Int.dvd_of_emod_eq_zero h1
          refine Int.emod_eq_zero_of_dvd ⟨c,?_⟩
          rw [Int.pow_succ,Int.mul_comm (2 ^ s),Int.mul_assoc,<- hc]; omega
        . rw [Int.pow_succ,Int.mul_comm,<- Int.ediv_ediv_of_nonneg (by decide)]; exact h2
      . exact ⟨0,by rw [Int.pow_zero,Int.emod_one],by rw [Int.pow_zero,Int.ediv_one]; exact q⟩
  exact λ {x} hx=>this x.toNat x hx (Nat.le_refl _)
theorem rowsOf_0 {w:Nat} {n b:Int} {d s:Nat} (hs:1<=s):(rowsOf w n b d s).getD 0 []=row (2 ^ w) (b ^ d % n):=by
  unfold rowsOf
  rw [List.getD_eq_getElem?_getD,List.getElem?_map,List.getElem?_range hs]
  show row (2 ^ w) (b ^ (d * 1) % n)=_
  rw [Nat.mul_one]
theorem rowsOf_in {w:Nat} (hw:1<=w) {n b z:Int} {d s:Nat} (hn:0 < n) (hz:0<=z):row (2 ^ w) z∈rowsOf w n b d s ↔ ∃ j < s,b ^ (d * 2 ^ j) % n=z:=by
  unfold rowsOf
  rw [List.mem_map]
  constructor
  . rintro ⟨j,hj,e⟩
    exact ⟨j,List.mem_range.mp hj,row_inj (two_le hw) (mod_in hn).1 hz e⟩
  . rintro ⟨j,hj,e⟩
    exact ⟨j,List.mem_range.mpr hj,by rw [e]⟩
open Classical in
theorem sp_strong_probable {G:Gd} (pg:PG G) {C:Addr} (hM:IsCls G cM C) (mt:MT G) {w:Nat} (hw:3<=w) (hw':w<=9) {n b:Int} (b0:0<=b) (b1:b < 2 ^ 60) (hn:1 < n) (hn':n < 2 ^ 17) (hodd:n % 2=1) :
    Ca G 11 (fnv G "strong_probable") [.il (row (2 ^ w) n),.il (row (2 ^ w) b),.int w,.v (fnv G "_law_mul"),.v (fnv G "_law_divrem")] (λ v=>∃ s,Tz (n - 1) s/\v=.bool (decide (SPs n b s))):=by
  have hw1:1<=w:=Nat.le_trans (by decide) hw
  have hw60:w<=60:=Nat.le_trans hw' (by decide)
  have hB:=two_le hw1
  have n0:0 < n:=Int.lt_trans (by decide) hn
  have n64:n < 2 ^ 64:=Int.lt_trans hn' (by decide)
  have b2:(1:Int) < 2 ^ w:=Int.lt_of_lt_of_le (by decide) hB
  have n1:0 < n - 1:=by omega
  refine Ca.ofR λ K hK=>vdef pg o_strong_probable rfl (Ca.eq (sp_check_odd pg hw1 hw60 hn n64 hodd) rfl ?_)
  refine Jm.dup (And.intro (fn_divrem pg) (Ca.eq (sp_law_divrem pg hw1 hw60 b0 (Int.lt_trans b1 (by decide)) n0 n64) rfl ?_))
  refine And.intro (Nat.le_of_ble_eq_true rfl) (And.intro (Nat.zero_le _) (Br.mk (λ h=>?_) λ h=>?_))
  . obtain ⟨s,hs⟩:=tz_ex n1
    exact hK _ ⟨s,hs,congrArg SV.bool (decide_eq_true (.inl ((row_eq_nil hB (mod_in n0).1).mp h))).symm⟩
  have h:=λ z=>h ((row_eq_nil hB (mod_in n0).1).mpr z)
  refine Ca.to' (sp_strong_rows pg hM mt hw hw' b0 b1 hn hn' hodd) rfl ?_
  rintro _ ⟨s,hs1,hs,rfl⟩
  have hK:=hK _ ⟨s,hs,rfl⟩
  unfold SPs at hK
  have l1:=rowsOf_len w n b ((n - 1) / 2 ^ s).toNat s
  have g0:=rowsOf_0 (w:=w) (n:=n) (b:=b) (d:=((n - 1) / 2 ^ s).toNat) hs1.1
  have gi:=rowsOf_in hw1 (b:=b) (d:=((n - 1) / 2 ^ s).toNat) (s:=s) n0 (Int.le_of_lt n1)
  generalize ((n - 1) / 2 ^ s).toNat=d at *
  generalize rowsOf w n b d s=f at *
  refine Ca.eq (sp_sub_limb pg hw1 (Nat.le_trans hw' (by decide)) (Int.le_of_lt n0) n64 (by decide) b2 (Int.le_of_lt hn)) rfl ?_
  refine And.intro (Int.le_refl _) (And.intro (by omega) (And.intro (by omega) (And.intro (Nat.le_of_ble_eq_true rfl) ?_)))
  have e1:f.getD 0 []=[1] ↔ b ^ d % n=1:=by rw [g0]; exact row_is_one hw1 (mod_in n0).1
  refine Br.mk (λ h1=>?_) λ h1=>?_
  . exact K_eq (K:=K) hK (congrArg SV.bool (@decide_eq_true _ (Classical.propDecidable _) (.inr (.inl (e1.mp (of_decide_eq_true h1))))).symm)
  . have h1:=λ z=>h1 (decide_eq_true (e1.mpr z))
    exact K_eqB (K:=K) hK (decide_eq_decide.mpr (gi.trans ⟨λ z=>.inr (.inr z),λ z=>z.elim (λ q=>absurd q h) λ z=>z.elim (λ q=>absurd q h1) id⟩))
end N17
noncomputable section N18
noncomputable def ir_plus:IS:=(.set 3 (.call "add" (.cons (.nm 1) (.cons (.nm 2) (.cons (.fR 0 1) .nil)))) (.ret (.ite (.cmp .GtE (.call "compare" (.cons (.nm 3) (.cons (.fR 0 0) .nil))) (.int 0)) (.call "sub" (.cons (.nm 3) (.cons (.fR 0 0) (.cons (.fR 0 1) .nil)))) (.nm 3))))
theorem o_plus:MOkF "plus" ["self","x","y"] ["found"] [] ir_plus:=⟨by kernel_rfl,⟨by kernel_rfl,by kernel_rfl⟩⟩
noncomputable def ir_minus:IS:=(.ret (.ite (.cmp .GtE (.call "compare" (.cons (.nm 1) (.cons (.nm 2) .nil))) (.int 0)) (.call "sub" (.cons (.nm 1) (.cons (.nm 2) (.cons (.fR 0 1) .nil)))) (.call "sub" (.cons (.call "add" (.cons (.nm 1) (.cons (.fR 0 0) (.cons (.fR 0 1) .nil)))) (.cons (.nm 2) (.cons (.fR 0 1) .nil))))))
theorem o_minus:MOkF "minus" ["self","x","y"] [] [] ir_minus:=⟨by kernel_rfl,⟨by kernel_rfl,by kernel_rfl⟩⟩
noncomputable def ir_product:IS:=(.ret (.idx (.cR 0 3 (.cons (.cR 0 2 (.cons (.nm 1) (.cons (.nm 2) (.cons (.fR 0 1) .nil)))) (.cons (.fR 0 0) (.cons (.fR 0 1) .nil)))) (.int 1)))
theorem o_product:MOkF "product" ["self","x","y"] [] [] ir_product:=⟨by kernel_rfl,⟨by kernel_rfl,by kernel_rfl⟩⟩
noncomputable def ir_half:IS:=(.ret (.call "shift_right" (.cons (.ite (.call "is_even" (.cons (.nm 1) .nil)) (.nm 1) (.call "add" (.cons (.nm 1) (.cons (.fR 0 0) (.cons (.fR 0 1) .nil))))) (.cons (.int 1) (.cons (.fR 0 1) .nil)))))
theorem o_half:MOkF "half" ["self","x"] [] [] ir_half:=⟨by kernel_rfl,⟨by kernel_rfl,by kernel_rfl⟩⟩
structure NOk (w n:Nat):Prop where
  hw:3<=w
  hw':w<=9
  pos:1 < n
  lt:n < 2 ^ 17
theorem NOk.w1 {w n:Nat} (h:NOk w n):1<=w:=Nat.le_trans (by decide) h.hw
theorem NOk.w60 {w n:Nat} (h:NOk w n):w<=60:=Nat.le_trans h.hw' (by decide)
theorem NOk.w64 {w n:Nat} (h:NOk w n):w<=64:=Nat.le_trans h.hw' (by decide)
theorem NOk.n0 {w n:Nat} (h:NOk w n):0 < n:=Nat.lt_trans (by decide) h.pos
theorem NOk.i0 {w n:Nat} (h:NOk w n):(0:Int) < n:=Int.ofNat_lt.mpr h.n0
theorem NOk.n64 {w n:Nat} (h:NOk w n):(n:Int) < 2 ^ 64:=Int.ofNat_lt.mpr (Nat.lt_trans h.lt (by decide))
theorem NOk.n60 {w n:Nat} (h:NOk w n):(n:Int) < 2 ^ 60:=Int.ofNat_lt.mpr (Nat.lt_trans h.lt (by decide))
theorem NOk.x64 {w n x:Nat} (h:NOk w n) (hx:x < n):(x:Int) < 2 ^ 64:=Int.ofNat_lt.mpr (Nat.lt_trans hx (Nat.lt_trans h.lt (by decide)))
theorem NOk.a64 {w n x y:Nat} (h:NOk w n) (hx:x < n) (hy:y < 2 ^ 17):(x:Int) + (y:Int) < 2 ^ 64:=Int.ofNat_lt.mpr (Nat.lt_of_lt_of_le (Nat.add_lt_add (Nat.lt_trans hx h.lt) hy) (by decide))
theorem NOk.mul {w n x y:Nat} (h:NOk w n) (hx:x < n) (hy:y < n):(x:Int) * (y:Int) < 2 ^ 64:=by
  have:x * y<=2 ^ 17 * 2 ^ 17:=Nat.mul_le_mul (Nat.le_of_lt (Nat.lt_trans hx h.lt)) (Nat.le_of_lt (Nat.lt_trans hy h.lt))
  rw [<- Int.natCast_mul]
  exact Int.ofNat_lt.mpr (Nat.lt_of_le_of_lt this (by decide))
theorem nn (x:Nat):(0:Int)<=x:=Int.natCast_nonneg x
noncomputable abbrev rS (w x:Nat):SV:=.il (row (2 ^ w) (x:Int))
noncomputable abbrev rgS (G:Gd) (C:Addr) (w n:Nat):SV:=.rg C (rS w n) (.int w) (.v (fnv G "_law_mul")) (.v (fnv G "_law_divrem"))
noncomputable def hlfN (n x:Nat):Nat:=if x % 2=0 then x / 2 else (x + n) / 2
theorem rS_of {w x:Nat} {z:Int} (h:z=x):SV.il (row (2 ^ w) z)=rS w x:=by rw [h]
section
variable {G:Gd} (pg:PG G) {C:Addr} (hR:IsCls G cR C) {w n x y:Nat} (ok:NOk w n) (hx:x < n) (hy:y < n)
include pg hR ok hx
theorem sp_half:CaM G 3 C "half" [rgS G C w n,rS w x] (·=rS w (hlfN n x)):=by
  refine CaM.of λ K hK=>vdefM pg o_half rfl ?_
  have e:hlfN n x=(if x % 2=0 then x else x + n) / 2:=by unfold hlfN; split <;> rfl
  have h64:(((if x % 2=0 then x else x + n:Nat)):Int) < 2 ^ 64:=by
    split
    . exact ok.x64 hx
    . exact ok.a64 hx ok.lt
  rw [e] at hK
  refine Jn.c0 (.ss []) (rS w (if x % 2=0 then x else x + n)) (λ Q hQ=>?_) ?_
  . refine Ca.eq (sp_is_even pg ok.w1 (nn x) (ok.x64 hx)) rfl (Br.mk (λ h=>?_) λ h=>?_)
    . have h:(x:Int) % 2=0:=of_decide_eq_true h
      rw [if_pos (show x % 2=0 by omega)] at hQ; exact hQ
    . have h:¬ (x:Int) % 2=0:=λ z=>h (decide_eq_true z)
      rw [if_neg (show ¬ x % 2=0 by omega)] at hQ
      exact And.intro hR (And.intro hR (Ca.eq (sp_add pg ok.w1 ok.w64 (nn x) (ok.x64 hx) (nn n) ok.n64) rfl hQ))
  . exact And.intro hR (Ca.eq (sp_shift_right pg ok.w1 ok.w60 (nn _) h64 (n:=1) (by decide)) rfl (K_eq (K:=K) hK (rS_of (by rw [Int.pow_one]; rfl))))
include hy
theorem sp_plus:CaM G 3 C "plus" [rgS G C w n,rS w x,rS w y] (·=rS w ((x + y) % n)):=by
  have x64:=ok.x64 hx
  have s64:=ok.a64 hx (Nat.lt_trans hy ok.lt)
  have hB:=two_le ok.w1
  refine CaM.of λ K hK=>vdefM pg o_plus rfl (And.intro hR (Ca.eq (sp_add pg ok.w1 ok.w64 (nn x) x64 (nn y) (ok.x64 hy)) rfl (Jn.dup (And.intro hR ?_))))
  refine Ca.eq (sp_compare pg hB (nn (x + y)) (nn n) s64 ok.n64) rfl (Br.mk (λ h=>?_) λ h=>?_)
  . have h:=ge_0.mp h
    refine And.intro hR (And.intro hR (Ca.eq (sp_sub pg ok.w1 ok.w64 (nn (x + y)) s64 (nn n) h) rfl (K_eq (K:=K) hK (rS_of ?_))))
    rw [Int.natCast_emod,<- Int.sub_emod_right,Int.emod_eq_of_lt (by omega) (by omega)]; rfl
  . have h:=mt ge_0.mpr h
    exact K_eq (K:=K) hK (rS_of (by rw [Nat.mod_eq_of_lt (by omega)]; rfl))
theorem sp_minus:CaM G 3 C "minus" [rgS G C w n,rS w x,rS w y] (·=rS w ((x + n - y) % n)):=by
  have x64:=ok.x64 hx
  have hB:=two_le ok.w1
  refine CaM.of λ K hK=>vdefM pg o_minus rfl (Jn.dup ?_)
  refine Ca.eq (sp_compare pg hB (nn x) (nn y) x64 (ok.x64 hy)) rfl (Br.mk (λ h=>?_) λ h=>?_)
  . have h:=ge_0.mp h
    refine And.intro hR (Ca.eq (sp_sub pg ok.w1 ok.w64 (nn x) x64 (nn y) h) rfl (K_eq (K:=K) hK (rS_of ?_)))
    rw [show x + n - y=x - y + n by omega,Nat.add_mod_right,Nat.mod_eq_of_lt (by omega)]; omega
  . have h:=mt ge_0.mpr h
    refine And.intro hR (And.intro hR (Ca.eq (sp_add pg ok.w1 ok.w64 (nn x) x64 (nn n) ok.n64) rfl (And.intro hR (Ca.eq (sp_sub pg ok.w1 ok.w64 (nn (x + n)) (ok.a64 hx ok.lt) (nn y) (by omega)) rfl (K_eq (K:=K) hK (rS_of ?_))))))
    rw [Nat.mod_eq_of_lt (by omega)]; omega
theorem sp_product:CaM G 3 C "product" [rgS G C w n,rS w x,rS w y] (·=rS w (x * y % n)):=by
  have x64:=ok.x64 hx
  refine CaM.of λ K hK=>vdefM pg o_product rfl (And.intro hR (And.intro (fn_divrem pg) (And.intro hR (And.intro (fn_mul pg) (And.intro hR ?_)))))
  refine Ca.eq (sp_law_mul pg ok.w1 ok.w60 (nn x) x64 (nn y) (ok.x64 hy) (ok.mul hx hy)) rfl ?_
  refine And.intro hR (And.intro hR (Ca.eq (sp_law_divrem pg ok.w1 ok.w60 (nn (x * y)) (ok.mul hx hy) ok.i0 ok.n64) rfl ?_))
  exact And.intro (Nat.le_of_ble_eq_true rfl) hK
end
noncomputable abbrev St:=Nat × Nat × Nat
noncomputable def dblN (n:Nat) (s:St):St:=(s.1 * s.2.1 % n,(s.2.1 * s.2.1 % n + n - (s.2.2 + s.2.2) % n) % n,s.2.2 * s.2.2 % n)
noncomputable def incN (n p d q:Nat) (s:St):St:=(hlfN n ((p * s.1 % n + s.2.1) % n),hlfN n ((d * s.1 % n + p * s.2.1 % n) % n),s.2.2 * q % n)
noncomputable def lrN (n p d q m t:Nat):Nat->St
  | 0=>(1 % n,p,q)
  | i + 1=>if m / 2 ^ (t - 1 - i) % 2=1 then incN n p d q (dblN n (lrN n p d q m t i)) else dblN n (lrN n p d q m t i)
theorem lrN_s {n p d q m t i:Nat}:lrN n p d q m t (i + 1)=if m / 2 ^ (t - 1 - i) % 2=1 then incN n p d q (dblN n (lrN n p d q m t i)) else dblN n (lrN n p d q m t i):=rfl
noncomputable def StOk (n:Nat) (s:St):Prop:=s.1 < n/\s.2.1 < n/\s.2.2 < n
theorem hlf_lt {n x:Nat} (h:x < n) (ho:n % 2=1):hlfN n x < n:=by
  unfold hlfN; split <;> omega
theorem dbl_ok {n:Nat} {s:St} (h:0 < n):StOk n (dblN n s):=⟨Nat.mod_lt _ h,Nat.mod_lt _ h,Nat.mod_lt _ h⟩
theorem inc_ok {n p d q:Nat} {s:St} (h:0 < n) (ho:n % 2=1):StOk n (incN n p d q s):=⟨hlf_lt (Nat.mod_lt _ h) ho,hlf_lt (Nat.mod_lt _ h) ho,Nat.mod_lt _ h⟩
theorem lr_ok {n p d q m t:Nat} (h:0 < n) (ho:n % 2=1) (hp:p < n) (hq:q < n):∀ i,StOk n (lrN n p d q m t i)
  | 0=>⟨Nat.mod_lt _ h,hp,hq⟩
  | i + 1=>by
    rw [lrN_s]
    split
    . exact inc_ok h ho
    . exact dbl_ok h
theorem nat_bit (m j:Nat):(m:Int) / 2 ^ j % 2=((m / 2 ^ j % 2:Nat):Int):=by
  rw [Int.natCast_emod,Int.natCast_ediv,Int.natCast_pow]; rfl
theorem bl_60 {m t:Nat} (hm0:0 < m) (hm:(m:Int) < 2 ^ 60) (ht:bl m=t + 1):t < 60:=by
  have h:=((bl_iff (show (0:Int) < m by omega)).mp ht).1
  rcases Nat.lt_or_ge t 60 with z | z
  . exact z
  . have:=pow_mono (B:=2) (by decide) z; omega
theorem lr_at {b t i:Nat} (h:b=t + 1) (hi:i < t):(b:Int) - 2 - i=((t - 1 - i:Nat):Int):=by omega
theorem lr_n {b t:Nat} (h:b=t + 1):(b:Int) - 2=-1 + (t:Int):=by omega
theorem sp_one_rest {G:Gd} (pg:PG G) {w n:Nat} (ok:NOk w n):Ca G 2 (fnv G "_law_divrem") [.il [1],rS w n,.int w] (·=.t2 (.il (row (2 ^ w) (1 / n))) (rS w (1 % n))):=by
  have hB:=two_le ok.w1
  rw [<- row_one hB (show (0:Int) < 1 by decide) (Int.lt_of_lt_of_le (by decide) hB)]
  exact sp_law_divrem pg ok.w1 ok.w60 (x:=1) (by decide) (by decide) ok.i0 ok.n64
theorem sp_lucas_rows {G:Gd} (pg:PG G) {C:Addr} (hR:IsCls G cR C) {w n p d q m t:Nat} (ok:NOk w n) (ho:n % 2=1) (hp:p < n) (hd:d < n) (hq:q < n) (hm:(m:Int) < 2 ^ 60) (hm0:0 < m) (ht:bl m=t + 1) :
    Ca G 4 (fnv G "lucas_rows") [rgS G C w n,rS w p,rS w d,rS w q,rS w m] (·=.t3 (rS w (lrN n p d q m t t).1) (rS w (lrN n p d q m t t).2.1) (rS w (lrN n p d q m t t).2.2)):=by
  have n0:=ok.n0
  have hB:=two_le ok.w1
  have ht60:=bl_60 hm0 hm ht
  have m64:(m:Int) < 2 ^ 64:=Int.lt_trans hm (by decide)
  have lo:=λ i=>lr_ok (m:=m) (t:=t) (d:=d) n0 ho hp hq i
  have md:=λ a=>Nat.mod_lt a n0
  refine Ca.of λ K hK=>vdef pg o_lucas_rows rfl ?_
  refine And.intro hR (And.intro (fn_divrem pg) (And.intro (Nat.le_of_ble_eq_true rfl) (And.intro hR (And.intro hR ?_))))
  refine Ca.eq (sp_one_rest pg ok) rfl ?_
  refine And.intro (Nat.le_of_ble_eq_true rfl) (And.intro hR (Ca.eq (sp_bits pg ok.w1 ok.w60 (nn m) m64) rfl ?_))
  refine And.intro (Int.le_refl _) (And.intro (by omega) (Exists.intro t (And.intro (lr_n ht) ?_)))
  refine LpF.c2 (λ i (s:St) (c:SC × SC)=>[.v (rgS G C w n),.v (rS w p),.v (rS w d),.v (rS w q),.v (rS w m),.v (rS w s.1),.v (rS w s.2.1),.v (rS w s.2.2),c.1,c.2]) (λ i s _=>s=lrN n p d q m t i) (λ _ _ _=>True) (λ _ _ _=>True) (λ _ _ _=>True) (1 % n,p,q) (.un,.un) rfl rfl trivial trivial trivial ?_ ?_
  . intro Q i s c hQ hi hs _ _ _
    have hQ:=λ s' c1 c2 (e:s'=lrN n p d q m t (i + 1))=>hQ s' (c1,c2) e trivial trivial trivial
    obtain ⟨o1,o2,o3⟩:=hs ▸ lo i
    rw [lrN_s,<- hs] at hQ
    clear hs lo hK
    refine And.intro hR (CaM.eq (sp_product pg hR ok o1 o2) rfl ?_)
    refine And.intro hR (And.intro hR (CaM.eq (sp_product pg hR ok o2 o2) rfl ?_))
    refine And.intro hR (CaM.eq (sp_plus pg hR ok o3 o3) rfl ?_)
    refine CaM.eq (sp_minus pg hR ok (md _) (md _)) rfl ?_
    refine And.intro hR (CaM.eq (sp_product pg hR ok o3 o3) rfl ?_)
    refine Jm.dup (And.intro hR (Ca.eq (sp_bit_at pg ok.w1 ok.w60 (nn m) m64 (lr_at ht hi)) rfl (Br.mk (λ h=>?_) λ h=>?_)))
    . rw [nat_bit] at h
      rw [if_pos (Int.ofNat.inj h)] at hQ
      refine And.intro hR (And.intro hR (And.intro hR (CaM.eq (sp_product pg hR ok hp (md _)) rfl ?_)))
      refine CaM.eq (sp_plus pg hR ok (md _) (md _)) rfl (CaM.eq (sp_half pg hR ok (md _)) rfl ?_)
      refine And.intro hR (And.intro hR (And.intro hR (CaM.eq (sp_product pg hR ok hd (md _)) rfl ?_)))
      refine And.intro hR (CaM.eq (sp_product pg hR ok hp (md _)) rfl ?_)
      refine CaM.eq (sp_plus pg hR ok (md _) (md _)) rfl (CaM.eq (sp_half pg hR ok (md _)) rfl ?_)
      refine And.intro hR (CaM.eq (sp_product pg hR ok (md _) hq) rfl ?_)
      exact hQ _ _ _ rfl
    . rw [nat_bit] at h
      rw [if_neg λ z=>h (congrArg Int.ofNat z)] at hQ
      exact hQ _ _ _ rfl
  . intro s c hs _ _ _
    rw [<- hs] at hK
    exact hK
end N18
noncomputable section N19
theorem K_t {K:SV->Prop} {p:Prop} {i:Decidable p} (hK:K (.bool (@decide p i))) (h:p):K (.bool true):=by rwa [@decide_eq_true p i h] at hK
theorem K_f {K:SV->Prop} {p:Prop} {i:Decidable p} (hK:K (.bool (@decide p i))) (h:¬ p):K (.bool false):=by rwa [@decide_eq_false p i h] at hK
theorem K_iff {K:SV->Prop} {p q:Prop} {i:Decidable p} {j:Decidable q} (hK:K (.bool (@decide p i))) (h:q ↔ p):K (.bool (@decide q j)):=by rwa [@decide_eq_decide p q i j |>.mpr h.symm] at hK
noncomputable def lucN (n:Nat) (r:Int) (m t:Nat):St:=lrN n (1 % n) (r % n).toNat ((1 - r) / 4 % n).toNat m t t
noncomputable def svN (n:Nat):Nat->Nat × Nat->Nat × Nat
  | 0,x=>x
  | j + 1,x=>(((svN n j x).1 * (svN n j x).1 % n + n - ((svN n j x).2 + (svN n j x).2) % n) % n,(svN n j x).2 * (svN n j x).2 % n)
theorem svN_s {n j:Nat} {x:Nat × Nat}:svN n (j + 1) x=(((svN n j x).1 * (svN n j x).1 % n + n - ((svN n j x).2 + (svN n j x).2) % n) % n,(svN n j x).2 * (svN n j x).2 % n):=rfl
theorem sv_ok {n:Nat} {x:Nat × Nat} (h:0 < n) (h1:x.1 < n) (h2:x.2 < n):∀ j,(svN n j x).1 < n/\(svN n j x).2 < n
  | 0=>⟨h1,h2⟩
  | j + 1=>⟨Nat.mod_lt _ h,Nat.mod_lt _ h⟩
theorem Tz.not_lt {x:Int} {s t:Nat} (h:Tz x s) (h':Tz x t) (hlt:s < t):False:=by
  obtain ⟨c,hc⟩:=Int.dvd_of_emod_eq_zero h'.1
  obtain ⟨d,rfl⟩:∃ d,t=s + (d + 1):=⟨t - s - 1,by omega⟩
  have:=h.2
  rw [hc,Int.pow_add,Int.mul_assoc,Int.mul_ediv_cancel_left _ (Int.ne_of_gt (pw2_pos s)),Int.pow_succ,Int.mul_comm (2 ^ d),Int.mul_assoc,Int.mul_emod_right] at this
  cases this
theorem Tz.unique {x:Int} {s t:Nat} (h:Tz x s) (h':Tz x t):s=t:=by
  rcases Nat.lt_trichotomy s t with z | z | z
  . exact (h.not_lt h' z).elim
  . exact z
  . exact (h'.not_lt h z).elim
theorem SF.bound {n:Int} {m:Nat} {d r:Int} (h:SF n m d r):r.natAbs<=d.natAbs + 2 * m:=by
  induction h with
  | hit=>exact Nat.le_add_right ..
  | zero=>exact Nat.zero_le _
  | next h1 h2 h3 h4 ih=>split at ih <;> omega
theorem SF.r60 {n:Int} {m:Nat} {r:Int} (h:SF n m 5 r) (hm:m<=100000):r.natAbs < 2 ^ 60/\((1 - r) / 4).natAbs < 2 ^ 60:=by
  have:=h.bound
  omega
theorem toN_lt {z:Int} {n:Nat} (h:(0:Int) < n):(z % n).toNat < n:=by
  have:=mod_in (a:=z) h
  omega
theorem sp_signedN {G:Gd} (pg:PG G) {w n:Nat} (ok:NOk w n) {y:Int} (hy:y.natAbs < 2 ^ 60) :
    Ca G 3 (fnv G "signed_rest") [.int y,rS w n,.int w,.v (fnv G "_law_divrem")] (·=rS w (y % n).toNat):=by
  unfold rS
  rw [Int.toNat_of_nonneg (mod_in ok.i0).1]
  exact sp_signed_rest pg ok.w1 ok.w60 hy ok.i0 ok.n60
theorem one_toN {n:Nat}:((1:Int) % n).toNat=1 % n:=by rw [show (1:Int) % n=((1 % n:Nat):Int) from (Int.natCast_emod 1 n).symm]; rfl
theorem up_one {n:Nat} (h:n < 2 ^ 17):(n:Int) + 1 < 2 ^ 60/\(n:Int) + 1 < 2 ^ 64:=by omega
theorem rS_nil {w x:Nat} (hw:1<=w):row (2 ^ w) (x:Int)=[] ↔ x=0:=(row_eq_nil (two_le hw) (nn x)).trans ⟨Int.ofNat.inj,congrArg Int.ofNat⟩
open Classical in
theorem sp_lucas_probable {G:Gd} (pg:PG G) {C:Addr} (hR:IsCls G cR C) {w n mm t:Nat} {r:Int} (ok:NOk w n) (ho:n % 2=1) (hmm:mm<=100000) (hsf:¬ IsSq n->SF n mm 5 r) (ht:bl ((n:Int) + 1)=t + 1) :
    Ca G 5 (fnv G "lucas_probable") [rS w n,.int w,.v (fnv G "_law_mul"),.v (fnv G "_law_divrem")] (·=.bool (decide (¬ IsSq n/\r≠0/\(lucN n r (n + 1) t).1=0))):=by
  have hn1:(1:Int) < n:=Int.ofNat_lt.mpr ok.pos
  have ho':(n:Int) % 2=1:=by omega
  have b2:(1:Int) < 2 ^ w:=Int.lt_of_lt_of_le (by decide) (two_le ok.w1)
  obtain ⟨u60,u64⟩:=up_one ok.lt
  refine Ca.of λ K hK=>vdef pg o_lucas_probable rfl (Ca.eq (sp_check_odd pg ok.w1 ok.w60 hn1 ok.n64 ho') rfl ?_)
  refine Jm.dup (Ca.eq (sp_is_square_row pg ok.w1 ok.w60 (nn n) ok.n60) rfl (Br.mk (λ h=>?_) λ h=>?_))
  . exact K_f (K:=K) hK λ z=>z.1 (of_decide_eq_true h)
  have hns:¬ IsSq n:=λ z=>h (decide_eq_true z)
  have hsf:=hsf hns
  obtain ⟨r1,r2⟩:=hsf.r60 hmm
  refine Ca.eq (sp_selfridge pg ok.hw ok.hw' ok.i0 ok.n60 hmm hsf) rfl (Jm.dup (Br.mk (λ hr=>?_) λ hr=>?_))
  . exact K_f (K:=K) hK λ z=>z.2.1 hr
  clear hsf h
  refine Exists.intro C (And.intro hR (And.intro (Nat.le_of_ble_eq_true rfl) ?_))
  refine Ca.eq (sp_signedN pg ok (y:=1) (by decide)) rfl ?_
  refine And.intro (by decide) (And.intro (Sm.of (by decide) (by decide)) (Ca.eq (sp_signedN pg ok r2) rfl ?_))
  refine Ca.eq (sp_signedN pg ok r1) rfl (Ca.eq (sp_add_limb pg ok.w1 ok.w64 (nn n) ok.n64 (by decide) b2) rfl ?_)
  refine Ca.eq (sp_lucas_rows pg hR ok ho (toN_lt ok.i0) (toN_lt ok.i0) (toN_lt ok.i0) (m:=n + 1) u60 (Nat.succ_pos n) ht) rfl ?_
  rw [one_toN]
  refine And.intro (Nat.le_of_ble_eq_true rfl) (And.intro (Nat.zero_le _) (K_iff (K:=K) hK ?_))
  exact ((rS_nil ok.w1).trans ⟨λ z=>⟨hns,hr,z⟩,λ z=>z.2.2⟩)
noncomputable def SLuc (n:Nat) (x:St) (s:Nat):Prop:=x.1=0\/∃ j < s,(svN n j x.2).1=0
theorem odd_at {n s:Nat} (hn:n < 2 ^ 17) (hs:Tz ((n:Int) + 1) s):((n:Int) + 1) / 2 ^ s=(((n + 1) / 2 ^ s:Nat):Int)/\0 < (n + 1) / 2 ^ s/\(((n + 1) / 2 ^ s:Nat):Int) < 2 ^ 60/\s < 18:=by
  have od2:((n:Int) + 1) / 2 ^ s=(((n + 1) / 2 ^ s:Nat):Int):=by rw [Int.natCast_ediv,Int.natCast_pow]; rfl
  have od4:(n + 1) / 2 ^ s<=n + 1:=Nat.div_le_self ..
  have h2:=hs.2
  rw [od2] at h2
  have hs18:s < 18:=hs.lt (by omega) (by omega)
  generalize (n + 1) / 2 ^ s=m at *
  exact ⟨od2,by omega,by omega,hs18⟩
open Classical in
theorem sp_strong_lucas {G:Gd} (pg:PG G) {C:Addr} (hR:IsCls G cR C) {w n mm:Nat} {r:Int} (ok:NOk w n) (ho:n % 2=1) (hmm:mm<=100000) (hsf:¬ IsSq n->SF n mm 5 r) :
    Ca G 5 (fnv G "strong_lucas") [rS w n,.int w,.v (fnv G "_law_mul"),.v (fnv G "_law_divrem")] (λ v=>∃ s t:Nat,Tz ((n:Int) + 1) s/\bl (((n + 1) / 2 ^ s:Nat):Int)=t + 1/\v=.bool (decide (¬ IsSq n/\r≠0/\SLuc n (lucN n r ((n + 1) / 2 ^ s) t) s))):=by
  have hn1:(1:Int) < n:=Int.ofNat_lt.mpr ok.pos
  have ho':(n:Int) % 2=1:=by omega
  have b2:(1:Int) < 2 ^ w:=Int.lt_of_lt_of_le (by decide) (two_le ok.w1)
  refine hid λ _ uQ=>?_
  obtain ⟨u60,u64⟩:=up_one ok.lt
  have u0:(0:Int) < (n:Int) + 1:=by omega
  obtain ⟨s,hs⟩:=tz_ex u0
  obtain ⟨od2,od3,od4,hs18⟩:=odd_at ok.lt hs
  obtain ⟨t,ht⟩:∃ t,bl (((n + 1) / 2 ^ s:Nat):Int)=t + 1:=⟨bl (((n + 1) / 2 ^ s:Nat):Int) - 1,(Nat.sub_add_cancel (bl_pos (Int.natCast_pos.mpr od3))).symm⟩
  refine uQ ?_
  refine Ca.ofR λ K hK=>?_
  have hK:=hK _ ⟨s,t,hs,ht,rfl⟩
  refine vdef pg o_strong_lucas rfl (Ca.eq (sp_check_odd pg ok.w1 ok.w60 hn1 ok.n64 ho') rfl ?_)
  refine Jm.dup (Ca.eq (sp_is_square_row pg ok.w1 ok.w60 (nn n) ok.n60) rfl (Br.mk (λ h=>?_) λ h=>?_))
  . exact K_f (K:=K) hK λ z=>z.1 (of_decide_eq_true h)
  have hns:¬ IsSq n:=λ z=>h (decide_eq_true z)
  have hsf:=hsf hns
  obtain ⟨r1,r2⟩:=hsf.r60 hmm
  refine Ca.eq (sp_selfridge pg ok.hw ok.hw' ok.i0 ok.n60 hmm hsf) rfl (Jm.dup (Br.mk (λ hr=>?_) λ hr=>?_))
  . exact K_f (K:=K) hK λ z=>z.2.1 hr
  clear hsf h
  refine Exists.intro C (And.intro hR (And.intro (Nat.le_of_ble_eq_true rfl) ?_))
  refine Ca.eq (sp_signedN pg ok (y:=1) (by decide)) rfl ?_
  refine And.intro (by decide) (And.intro (Sm.of (by decide) (by decide)) (Ca.eq (sp_signedN pg ok r2) rfl ?_))
  refine Ca.eq (sp_add_limb pg ok.w1 ok.w64 (nn n) ok.n64 (by decide) b2) rfl ?_
  refine Ca.toL (sp_odd_part pg ok.w1 ok.hw' u0 u64) rfl λ s' hs'=>?_
  obtain rfl:=hs.unique hs'
  rw [od2]
  refine Ca.eq (sp_signedN pg ok r1) rfl ?_
  refine Ca.eq (sp_lucas_rows pg hR ok ho (toN_lt ok.i0) (toN_lt ok.i0) (toN_lt ok.i0) od4 od3 ht) rfl ?_
  have hX:=lr_ok (p:=1 % n) (m:=(n + 1) / 2 ^ s) (t:=t) (d:=(r % n).toNat) ok.n0 ho (Nat.mod_lt 1 ok.n0) (toN_lt (z:=(1 - r) / 4) ok.i0) t
  rw [one_toN]
  unfold lucN SLuc at hK
  generalize lrN n (1 % n) (r % n).toNat ((1 - r) / 4 % n).toNat ((n + 1) / 2 ^ s) t t=X at *
  obtain ⟨x1,x2,x3⟩:=hX
  have kt:(X.1=0\/∃ j < s,(svN n j X.2).1=0)->K (.bool true):=λ z=>K_t (K:=K) hK ⟨hns,hr,z⟩
  refine Jm.dup (And.intro (Nat.zero_le _) (Br.mk (λ h0=>kt (.inl ((rS_nil ok.w1).mp h0))) λ h0=>?_))
  refine Exists.intro s (And.intro rfl (And.intro (Nat.lt_trans hs18 (by decide)) ?_))
  have hso:=sv_ok ok.n0 x2 x3
  have md:=λ a=>Nat.mod_lt a ok.n0
  refine LpF.c2 (λ i (x:Nat × Nat) (c:SC)=>[.v (rS w n),.v (.int w),.v (.v (fnv G "_law_mul")),.v (.v (fnv G "_law_divrem")),.v (.int r),.v (rgS G C w n),.v (rS w (1 % n)),.v (rS w ((1 - r) / 4 % n).toNat),.v (.int s),.v (rS w ((n + 1) / 2 ^ s)),.v (rS w X.1),.v (rS w x.1),.v (rS w x.2),c]) (λ i x _=>x=svN n i X.2) (λ i _ _=>∀ j < i,(svN n j X.2).1≠0) (λ _ _ _=>True) (λ _ _ _=>True) X.2 .un rfl rfl (λ j hj=>absurd hj (Nat.not_lt_zero j)) trivial trivial ?_ ?_
  . intro Q i x c hQ hi hx hj _ _
    obtain ⟨y1,y2⟩:=hx ▸ hso i
    refine Jm.dup (And.intro (Nat.zero_le _) (Br.mk (λ h1=>kt (.inr ⟨i,hi,hx ▸ (rS_nil ok.w1).mp h1⟩)) λ h1=>?_))
    have h1:=λ z=>h1 ((rS_nil ok.w1).mpr z)
    have hQ:=λ x' c (e:x'=svN n (i + 1) X.2)=>hQ x' c e (λ j hj2=>(Nat.lt_succ_iff_lt_or_eq.mp hj2).elim (hj j) λ z=>z ▸ hx ▸ h1) trivial trivial
    rw [svN_s,<- hx] at hQ
    refine And.intro hR (And.intro hR (CaM.eq (sp_product pg hR ok y1 y1) rfl ?_))
    refine And.intro hR (CaM.eq (sp_plus pg hR ok y2 y2) rfl ?_)
    refine CaM.eq (sp_minus pg hR ok (md _) (md _)) rfl ?_
    refine And.intro hR (CaM.eq (sp_product pg hR ok y2 y2) rfl ?_)
    exact hQ _ _ rfl
  . intro x c _ hj _ _
    refine K_f (K:=K) hK ?_
    rintro ⟨_,_,z | ⟨j,hj2,z⟩⟩
    . exact h0 ((rS_nil ok.w1).mpr z)
    . exact hj j hj2 z
end N19
noncomputable section N20
structure FOkC (i:Nat) (x:Str) (ps ls mu:List Str) (ir:IS):Prop where
  nm:(dN i).name=x
  fm:fmOkC (dN i).params (dN i).scope ps ls=true
  ir:Fits ⟨ps ++ ls,(dN i).scope,999⟩ ir (dN i).body
  ix:i∈fIdx
noncomputable abbrev CfC (G:Gd) (sc:Scope) (ks:List Str) (cd:Value × Str) (k:Nat):Cx':=⟨G,⟨sc,ks,true,some cd⟩,k,999⟩
theorem vdefC {G:Gd} (pg:PG G) {k:Nat} {K:SV->Prop} {i:Nat} {x:Str} {ps ls mu:List Str} {ir:IS} (hf:FOkC i x ps ls mu ir) {as:List SV} (hl:as.length=ps.length)
    (h:∀ cd,vs (CfC G (dN i).scope (ps ++ ls) cd k) ir (en0 as ls) (.ss []) (rN K) rC (rR K)):Ca G (k + 1) (fnv G x) as K:=by
  unfold Ca
  rw [<- hf.nm]
  refine specC_def (pg.d hf.ix) hf.fm (by rw [List.length_map,hl]) λ cd=>?_
  have r:=sn_fit (C:=CfC G (dN i).scope (ps ++ ls) (cd,(dN i).name ++ ".<locals>.") k) pg rfl hf.ir (en0 as ls) (.ss []) _ _ _
    ⟨by rw [en0_len,hl]; exact List.length_append.symm,λ _ _ h=>(en0_nobox h).elim⟩ (h _)
  rw [<- en0_den _ _ _ hl]
  refine WSs.mono r λ f ρ1 β1 z0=>z0.elim λ ρ z0=>z0.elim λ β z0=>z0.elim λ e1 z0=>z0.elim λ e2 z0=>z0.elim λ fit k=>?_
  cases f with
  | next=>exact ⟨.none,rfl,k⟩
  | ret x=>exact k
  | reto a xs=>exact k.2
  | _=>exact k.elim
noncomputable def lastRet (l:List Stmt):Expr:=sk 0 (l.getLastD (.Pass default))
noncomputable def ir_is_probable:IS:=(.ite (.cmp .In (.nm 0) (.t2 (.lst .nil) (.lst (.cons (.int 1) .nil)))) (.ret (.bool false)) .nil (.ite (.cmp .Lt (.call "compare" (.cons (.nm 0) (.cons (.call "nat_of" (.cons (.bin .Mult .gsm .gsm) (.cons (.nm 1) .nil))) .nil))) (.int 0)) (.ret (.cmp .Is (.call "trial" (.cons (.nm 0) (.cons (.nm 1) (.cons .gsm .nil)))) .none)) .nil (.ite (.or (.cmp .IsNot (.call "trial" (.cons (.nm 0) (.cons (.nm 1) (.cons .gsm .nil)))) .none) (.not (.call "strong_probable" (.cons (.nm 0) (.cons (.call "nat_of" (.cons (.int 2) (.cons (.nm 1) .nil))) (.cons (.nm 1) (.cons (.nm 3) (.cons (.nm 4) .nil)))))))) (.ret (.bool false)) .nil (.ite (.not (.call "strong_lucas" (.cons (.nm 0) (.cons (.nm 1) (.cons (.nm 3) (.cons (.nm 4) .nil)))))) (.ret (.bool false)) .nil (.ret (.raw (lastRet (dN 56).body)))))))
theorem o_is_probable:FOkC 56 "is_probable" ["n","w","bases","mul","divrem"] [] [] ir_is_probable:=⟨by kernel_rfl,by kernel_rfl,⟨by kernel_rfl,by kernel_rfl⟩,by decide⟩
structure IPH (x:Nat) (bs:List Int):Prop where
  small:2<=x->x < 3600->(tri x p60=.none ↔ Pr x)
  big:3600<=x->x % 2=1/\((tri x p60≠.none/\¬ Pr x)\/(tri x p60=.none/\¬ Pr x/\∀ s,Tz ((x:Int) - 1) s->¬ SPs x 2 s) \/
    (tri x p60=.none/\Pr x/\(∀ s b,Tz ((x:Int) - 1) s->b∈2 :: bs->SPs x b s)/\¬ IsSq x/\∃ (mm:Nat) (r:Int),mm<=100000/\SF x mm 5 r/\r≠0/\∀ s t:Nat,Tz ((x:Int) + 1) s->bl (((x + 1) / 2 ^ s:Nat):Int)=t + 1->SLuc x (lucN x r ((x + 1) / 2 ^ s) t) s))
theorem tri_cases (x:Int):∀ l:List Int,tri x l=.none\/∃ p,tri x l=.int p
  | []=>.inl rfl
  | p :: r=>by
    by_cases h:x % p=0/\x≠p
    . exact .inr ⟨p,if_pos h⟩
    . rw [show tri x (p :: r)=tri x r from if_neg h]; exact tri_cases x r
theorem tri_isNone (x:Int) (l:List Int):(tri x l).den.isNone=true ↔ tri x l=.none:=by
  rcases tri_cases x l with e | ⟨p,e⟩ <;> rw [e]
  . exact ⟨λ _=>rfl,λ _=>rfl⟩
  . exact ⟨λ h=>Bool.noConfusion h,λ h=>SV.noConfusion h⟩
theorem row_01 {w x:Nat} (hw:1<=w):(row (2 ^ w) (x:Int)=[]\/row (2 ^ w) (x:Int)=[1]) ↔ x < 2:=by
  rw [rS_nil hw,row_is_one hw (nn x)]
  omega
theorem cmp3_lt {x y:Int}:(if x < y then -1 else if x=y then 0 else 1:Int) < 0 ↔ x < y:=by
  constructor
  . intro h; rcases Int.lt_or_le x y with z | z
    . exact z
    . exact absurd h (not_lt_m z)
  . intro h; rw [if_pos h]; decide
theorem str_call {G:Gd} (pg:PG G) {Φ:Fm} (hΦ:isGl Φ.scope "strong_probable" = true) {k:Nat} {ρ:Loc} {β:List V} {a b c d e:V} {K} (h1:(("n" : Str),Cell.ro a)∈ρ) (h2:(("base" : Str),Cell.val b)∈ρ) (h3:(("w" : Str),Cell.ro c)∈ρ) (h4:(("mul" : Str),Cell.ro d)∈ρ) (h5:(("divrem" : Str),Cell.ro e)∈ρ)
    (h:Spec G k (fnv G "strong_probable") [a,b,c,d,e] λ v=>K v β) {p1 p2 p3 p4 p5 p6 p7}:WE G Φ k (.Call (.Name "strong_probable" p1) [.Name "n" p2,.Name "base" p3,.Name "w" p4,.Name "mul" p5,.Name "divrem" p6] [] p7) ρ β K :=
  WE_fnI .c_strong_probable pg hΦ rfl (WL_cons (WE_ro h1 (WL_cons (WE_name h2 (WL_cons (WE_ro h3 (WL_cons (WE_ro h4 (WL_cons (WE_ro h5 (WL_nil h)) rfl)) rfl)) rfl)) rfl)) rfl)
theorem all_true (n:Nat):(List.replicate n true).all id=true:=by
  rw [List.all_eq_true]; intro x h; exact List.eq_of_mem_replicate h
noncomputable def rowsS (w:Nat) (bs:List Int):SV:=.rl (bs.map (row (2 ^ w)))
open Classical in
theorem all_strong {G:Gd} (pg:PG G) {C:Addr} (hM:IsCls G cM C) (mt:MT G) {w x:Nat} {bs:List Int} (hw:3<=w) (hw':w<=9) (hbs:∀ b∈bs,0<=b/\b < 2 ^ 60) (hbl:bs.length<=1000) (hx1:(1:Int) < x) (hx17:(x:Int) < 2 ^ 17) (hodd':(x:Int) % 2=1)
    (hsb:∀ (s:Nat) (b:Int),Tz ((x:Int) - 1) s->b∈2 :: bs->SPs (x:Int) b s) {cd:Value × Str} {F:SV->SL->Prop} (hK:F (.bool true) (.ss [])) :
    WE G (CfC G (dN 56).scope ((["n","w","bases","mul","divrem"]:List Str) ++ []) cd 11).Φ 11 (lastRet (dN 56).body) [("n",.val (rS w x).den),("w",.val (.int w)),("bases",.val (.list ((bs.map (row (2 ^ w))).map IL))),("mul",.val (fnv G "_law_mul")),("divrem",.val (fnv G "_law_divrem"))] [] (LE F):=by
  refine WE_all pg (by kernel_rfl) rfl ?_
  refine WE_comp ["n","w","mul","divrem"] [(rS w x).den,.int w,fnv G "_law_mul",fnv G "_law_divrem"] rfl (by kernel_rfl) ⟨.head _,.tail _ (.head _),.tail _ (.tail _ (.tail _ (.head _))),.tail _ (.tail _ (.tail _ (.tail _ (.head _)))),trivial⟩ ?_
  refine WI_list (WE_name (.tail _ (.tail _ (.head _))) ⟨_,rfl,by rw [List.length_map,List.length_map]; exact Nat.le_trans hbl (by decide),λ i ρ ys=>∃ c:Cell,c.isRo=false/\ρ=([("base",c),("n",.ro (rS w x).den),("w",.ro (.int w)),("mul",.ro (fnv G "_law_mul")),("divrem",.ro (fnv G "_law_divrem"))]:Loc)/\ys=List.replicate i (.bool true),⟨.un,rfl,rfl,rfl⟩,?_,?_⟩)
  . rintro i y ρ1 ys hy ⟨c,hc,rfl,rfl⟩
    rw [List.map_map,List.getElem?_map] at hy
    obtain ⟨b,hb,rfl⟩:=Option.map_eq_some_iff.mp hy
    have hb:=List.mem_of_getElem? hb
    obtain ⟨b0,b1⟩:=hbs b hb
    refine ⟨c,_,.here,hc,?_⟩
    have hc:=sp_strong_probable pg hM mt hw hw' (n:=x) b0 b1 hx1 hx17 hodd'
    unfold Ca at hc
    refine str_call pg (by kernel_rfl) (.tail _ (.head _)) (.head _) (.tail _ (.tail _ (.head _))) (.tail _ (.tail _ (.tail _ (.head _)))) (.tail _ (.tail _ (.tail _ (.tail _ (.head _))))) (hc.mono ?_)
    rintro _ ⟨_,rfl,s',hs',rfl⟩
    rw [decide_eq_true (hsb s' b hs' (.tail _ hb))]
    exact ⟨rfl,.val (IL (row (2 ^ w) b)),rfl,rfl,List.replicate_succ'.symm⟩
  . rintro ρ1 ys ⟨c,hc,rfl,rfl⟩
    refine ⟨List.replicate bs.length true,by rw [List.length_map,List.length_map,List.map_replicate],?_⟩
    rw [all_true]
    exact ⟨.bool true,.ss [],rfl,rfl,hK⟩
open Classical in
theorem sp_is_probable {G:Gd} (pg:PG G) {C CR:Addr} (hM:IsCls G cM C) (hR:IsCls G cR CR) (mt:MT G) {w x:Nat} {bs:List Int} (hw:3<=w) (hw':w<=9) (hx:x < 2 ^ 17) (hbs:∀ b∈bs,0<=b/\b < 2 ^ 60) (hbl:bs.length<=1000) (ih:IPH x bs) :
    Ca G 12 (fnv G "is_probable") [rS w x,.int w,rowsS w bs,.v (fnv G "_law_mul"),.v (fnv G "_law_divrem")] (·=.bool (decide (Pr x))):=by
  have hw1:1<=w:=Nat.le_trans (by decide) hw
  have hw60:w<=60:=Nat.le_trans hw' (by decide)
  have hw64:w<=64:=Nat.le_trans hw' (by decide)
  have hB:=two_le hw1
  have x60:(x:Int) < 2 ^ 60:=Int.ofNat_lt.mpr (Nat.lt_trans hx (by decide))
  have x64:(x:Int) < 2 ^ 64:=Int.ofNat_lt.mpr (Nat.lt_trans hx (by decide))
  have s60:Sm 60:=Sm.of (by decide) (by decide)
  have str:=sp_trial pg hw1 hw60 (nn x) x60
  refine Ca.of λ K hK=>vdefC pg o_is_probable rfl λ cd=>?_
  refine Jm.dup (And.intro (Nat.zero_le _) (And.intro (Nat.le_of_ble_eq_true rfl) (Br.mk (λ h=>?_) λ h=>?_)))
  . have:=(row_01 hw1).mp h
    exact K_f (K:=K) hK λ z=>absurd z.1 (by omega)
  have hx2:2<=x:=Nat.le_of_not_lt λ z=>h ((row_01 hw1).mpr z)
  clear h
  refine Jm.dup (And.intro s60 (And.intro s60 (Ca.eq (sp_nat_of pg hw1 hw64 (x:=3600) (by decide) (by decide)) rfl (Ca.eq (sp_compare pg hB (nn x) (by decide) x64 (by decide)) rfl (Br.mk (λ h=>?_) λ h=>?_)))))
  . have hlt:x < 3600:=Int.ofNat_lt.mp (cmp3_lt.mp h)
    refine Ca.eq str rfl (K_eqB (K:=K) hK ?_)
    rw [Bool.eq_iff_iff,decide_eq_true_iff,tri_isNone]
    exact ih.small hx2 hlt
  have hge:3600<=x:=Nat.le_of_not_lt λ z=>h (cmp3_lt.mpr (Int.ofNat_lt.mpr z))
  obtain ⟨hodd,hc⟩:=ih.big hge
  clear h ih
  rcases hc with ⟨h1,h2⟩ | hc
  . obtain ⟨p,e⟩:=(tri_cases x p60).resolve_left h1
    rw [e] at str
    exact Jm.dup (Ca.eq str rfl (K_f (K:=K) hK h2))
  have hn:tri x p60=.none:=hc.elim (·.1) (·.1)
  rw [hn] at str
  have ok:NOk w x:=⟨hw,hw',hx2,hx⟩
  have hodd':(x:Int) % 2=1:=by omega
  have hx17:(x:Int) < 2 ^ 17:=Int.ofNat_lt.mpr hx
  have hx1:(1:Int) < x:=Int.ofNat_lt.mpr hx2
  refine Jm.dup (Ca.eq str rfl (Ca.eq (sp_nat_of pg hw1 hw64 (x:=2) (by decide) (by decide)) rfl (Ca.toR (sp_strong_probable pg hM mt hw hw' (b:=2) (by decide) (by decide) hx1 hx17 hodd') rfl λ s hs=>?_)))
  rcases hc with ⟨_,h2,h3⟩ | ⟨_,hpr,hsb,hns,mm,r,hmm,hsf,hr,hsl⟩
  . exact Br.mk (λ h=>absurd (of_decide_eq_true h) (h3 s hs)) λ _=>K_f (K:=K) hK h2
  refine Br.mk (λ _=>?_) λ h=>absurd (decide_eq_true (hsb s 2 hs (.head _))) h
  refine Jm.dup (Ca.to' (sp_strong_lucas pg hR ok hodd hmm λ _=>hsf) rfl ?_)
  rintro _ ⟨s2,t,hs2,ht2,rfl⟩
  refine Br.mk (λ _=>?_) λ h=>absurd (decide_eq_true ⟨hns,hr,hsl s2 t hs2 ht2⟩) h
  have hK:=K_t (K:=K) hK hpr
  exact all_strong pg hM mt hw hw' hbs hbl hx1 hx17 hodd' hsb hK
end N20
noncomputable section N21
noncomputable def stAt (l:List Stmt) (n:Nat):Stmt:=l.getD n (.Pass default)
noncomputable def whB (t:Stmt):List Stmt:=sb t
noncomputable def nbx:SC->Bool
  | .box _=>false
  | _=>true
theorem raw_next {C:Cx'} {S:SS} {n:Nat} {N c:KN} {R:KR} {ρ1:Loc} (ρ':En) (h0:ρ1=loc C.Φ.keys ρ') (hl:ρ'.length=n) (hb:ρ'.all nbx=true) (hk:S ρ' (.ss []) N c R):hRaw C S n N c R .next ρ1 [] :=
  ⟨ρ',.ss [],h0,rfl,hl,And.intro (λ i a (e:ρ'[i]?=some (.box a))=>Bool.noConfusion (List.all_eq_true.mp hb _ (List.mem_of_getElem? e))) hk⟩
noncomputable def ir_next_prime:IS:=(.ite (.cmp .Lt (.call "compare" (.cons (.nm 0) (.cons (.call "nat_of" (.cons (.int 2) (.cons (.nm 1) .nil))) .nil))) (.int 0)) (.ret (.call "nat_of" (.cons (.int 2) (.cons (.nm 1) .nil)))) .nil (.set 4 (.call "add_limb" (.cons (.nm 0) (.cons (.ite (.call "is_even" (.cons (.nm 0) .nil)) (.int 1) (.int 2)) (.cons (.nm 1) .nil)))) (.raw (stAt (dN 57).body 2) (.raw (stAt (dN 57).body 3) (.whl (.bool true) (.set 7 (.bool false) (.forE 8 9 (.nm 5) (.set 7 (.or (.nm 7) (.and (.cmp .Eq (.idx (.nm 6) (.nm 8)) (.int 0)) (.cmp .NotEq (.nm 4) (.call "nat_of" (.cons (.nm 9) (.cons (.nm 1) .nil)))))) .nil) (.ite (.and (.not (.nm 7)) (.call "is_probable" (.cons (.nm 4) (.cons (.nm 1) (.cons (.lst .nil) (.cons (.nm 2) (.cons (.nm 3) .nil))))))) (.ret (.nm 4)) .nil (.set 4 (.call "add" (.cons (.nm 4) (.cons (.call "nat_of" (.cons (.int 2) (.cons (.nm 1) .nil))) (.cons (.nm 1) .nil)))) (.raw (stAt (whB (stAt (dN 57).body 4)) 4) .nil))))) .nil)))))
theorem o_next_prime:FOkC 57 "next_prime" ["n","w","mul","divrem"] ["found","some","rests","is_crossed","at","p"] [] ir_next_prime:=⟨by kernel_rfl,by kernel_rfl,⟨by kernel_rfl,by kernel_rfl⟩,by decide⟩
noncomputable def p59:List Int:=[3,5,7,11,13,17,19,23,29,31,37,41,43,47,53,59]
theorem p59_at:∀ i:Nat,i < p59.length->3<=ig p59 i/\ig p59 i<=59:=by decide
theorem p60_flt:(p60.filter λ p=>decide (2 < p))=p59:=by decide
theorem ig_of {l:List Int} {i:Nat} {z:Int} (h:l[i]?=some z):i < l.length/\ig l i=z:=by
  obtain ⟨hi,e⟩:=List.getElem?_eq_some_iff.mp h
  exact ⟨hi,(ig_at hi).trans e⟩
noncomputable def rst (f:Nat):List Int:=p59.map λ p=>(f:Int) % p
theorem rst_at {f i:Nat} (hi:i < p59.length):ig (rst f) (i:Int)=(f:Int) % ig p59 i:=by
  rw [ig_at (by rw [rst,List.length_map]; exact hi),ig_at hi]
  exact List.getElem_map ..
theorem WE_ms {G:Gd} {Φ:Fm} {k:Nat} {ρ:Loc} {β:List V} {p:Pos} {K} (pg:PG G) (hx:isGl Φ.scope "MOST_SMALL" = true) (h:K (.int 60) β):WE G Φ k (.Name "MOST_SMALL" p) ρ β K :=
  let ⟨_,e⟩:=pg.small; WE_globint e (isGl_mem hx) h
section
variable {G:Gd} (pg:PG G) {k:Nat} {cd:Value × Str} {a b c d e f x1 x2 x3:V} {K:Fl->Loc->List V->Prop}
include pg
noncomputable abbrev np57 (k:Nat) (G:Gd) (cd:Value × Str) (st:Stmt) (ρ:Loc) (K:Fl->Loc->List V->Prop):Prop:=WS G ⟨(dN 57).scope,["n","w","mul","divrem","found","some","rests","is_crossed","at","p"],true,some cd⟩ k st ρ [] K
theorem np_some (h:K .next [("n",.val a),("w",.val b),("mul",.val c),("divrem",.val d),("found",.val f),("some",.val (IL p59)),("rests",.un),("is_crossed",.un),("at",.un),("p",.un)] []) :
    np57 (k + 1) G cd (stAt (dN 57).body 2) [("n",.val a),("w",.val b),("mul",.val c),("divrem",.val d),("found",.val f),("some",.un),("rests",.un),("is_crossed",.un),("at",.un),("p",.un)] K:=by
  have sp:=sp_small_primes pg
  unfold Ca at sp
  refine WS_comp [] [] rfl (by kernel_rfl) trivial (λ env eo=>swaps_local eo (by kernel_rfl)) ?_
  refine WI_list (WE_fnI .c_small_primes pg (by kernel_rfl) rfl (WL_cons (WE_ms pg (by kernel_rfl) (WL_nil (Spec.mono (sp.le (Nat.le_add_left 1 k)) ?_))) rfl))
  rintro _ ⟨_,rfl,rfl⟩
  refine ⟨_,rfl,by decide,λ i ρ ys=>∃ c:Cell,c.isRo=false/\ρ=([("p",c)]:Loc)/\ys=((p60.take i).filter λ p=>decide (2 < p)).map .int,⟨.un,rfl,rfl,rfl⟩,?_,?_⟩
  . rintro i y ρ1 ys hy ⟨c,hc,rfl,rfl⟩
    rw [List.getElem?_map] at hy
    obtain ⟨z,hz,rfl⟩:=Option.map_eq_some_iff.mp hy
    obtain ⟨hi,hz'⟩:=ig_of hz
    refine ⟨c,_,.here,hc,?_⟩
    have ht:=ig_take hi
    rw [hz'] at ht
    refine WT_gt rfl (WE_name (.head _) (WE_int (int2_cmp (λ h=>?_) λ h=>?_)))
    . refine ⟨rfl,WE_name (.head _) ⟨rfl,.val (.int z),rfl,rfl,?_⟩⟩
      rw [ht,List.filter_append,List.map_append,List.filter_cons_of_pos (p:=λ p=>decide (2 < p)) (decide_eq_true h)]; rfl
    . refine ⟨rfl,.val (.int z),rfl,rfl,?_⟩
      rw [ht,List.filter_append,List.map_append,List.filter_cons_of_neg (p:=λ p=>decide (2 < p)) (λ z=>h (of_decide_eq_true z))]; exact (List.append_nil _).symm
  rintro ρ1 ys ⟨c,hc,rfl,rfl⟩
  have hfl:((p60.take (p60.map V.int).length).filter λ p=>decide (2 < p))=p59:=by rw [List.length_map,List.take_length,p60_flt]
  rw [hfl]
  exact ⟨_,_,.there (.there (.there (.there (.there .here)))),rfl,h⟩
theorem np_rests {w n:Nat} (ok:NOk w n) (h:K .next [("n",.val a),("w",.val (.int w)),("mul",.val c),("divrem",.val d),("found",.val (rS w n).den),("some",.val (IL p59)),("rests",.val (IL (rst n))),("is_crossed",.un),("at",.un),("p",.un)] []) :
    np57 (k + 1) G cd (stAt (dN 57).body 3) [("n",.val a),("w",.val (.int w)),("mul",.val c),("divrem",.val d),("found",.val (rS w n).den),("some",.val (IL p59)),("rests",.un),("is_crossed",.un),("at",.un),("p",.un)] K:=by
  refine WS_assignC (WE_comp ["found","w"] [(rS w n).den,.int w] rfl (by kernel_rfl) ⟨.tail _ (.tail _ (.tail _ (.tail _ (.head _)))),.tail _ (.head _),trivial⟩ ?_) (λ env eo=>swaps_cell eo (by kernel_rfl)) rfl
  refine WI_list (WE_name (.tail _ (.tail _ (.tail _ (.tail _ (.tail _ (.head _)))))) ⟨_,rfl,by decide,λ i ρ ys=>∃ c:Cell,c.isRo=false/\ρ=([("p",c),("found",.ro (rS w n).den),("w",.ro (.int w))]:Loc)/\ys=((p59.take i).map λ p=>(n:Int) % p).map .int,⟨.un,rfl,rfl,rfl⟩,?_,?_⟩)
  . rintro i y ρ1 ys hy ⟨c,hc,rfl,rfl⟩
    rw [List.getElem?_map] at hy
    obtain ⟨z,hz,rfl⟩:=Option.map_eq_some_iff.mp hy
    obtain ⟨hi,hz'⟩:=ig_of hz
    obtain ⟨hp3,hp59⟩:=p59_at i hi
    have ht:=ig_take hi
    rw [hz'] at hp3 hp59 ht
    refine ⟨c,_,.here,hc,?_⟩
    have sp:=sp_rest_small pg ok.w1 ok.w60 (nn n) ok.n64 (d:=z) (by omega) (by omega)
    unfold Ca at sp
    refine WE_fnI .c_rest_small pg (by kernel_rfl) rfl (WL_cons (WE_ro (.tail _ (.head _)) (WL_cons (WE_name (.head _) (WL_cons (WE_ro (.tail _ (.tail _ (.head _))) (WL_nil (Spec.mono (sp.le (Nat.le_add_left 1 k)) ?_))) rfl)) rfl)) rfl)
    rintro _ ⟨_,rfl,rfl⟩
    refine ⟨rfl,.val (.int z),rfl,rfl,?_⟩
    rw [ht,List.map_append,List.map_append]; rfl
  rintro ρ1 ys ⟨c,hc,rfl,rfl⟩
  rw [List.length_map,List.take_length]
  exact ⟨_,_,.there (.there (.there (.there (.there (.there .here))))),rfl,h⟩
theorem np_turn {f:Nat} (h:K .next [("n",.val a),("w",.val b),("mul",.val c),("divrem",.val d),("found",.val e),("some",.val (IL p59)),("rests",.val (IL (rst (f + 2)))),("is_crossed",.val x1),("at",.val x2),("p",.val x3)] []) :
    np57 k G cd (stAt (whB (stAt (dN 57).body 4)) 4) [("n",.val a),("w",.val b),("mul",.val c),("divrem",.val d),("found",.val e),("some",.val (IL p59)),("rests",.val (IL (rst f))),("is_crossed",.val x1),("at",.val x2),("p",.val x3)] K:=by
  refine WS_assignC (WE_compE (xs2:=["at","p"]) ["rests"] [IL (rst f)] rfl (by kernel_rfl) ⟨.tail _ (.tail _ (.tail _ (.tail _ (.tail _ (.tail _ (.head _)))))),trivial⟩ (isGl_mem (by kernel_rfl)) (pg_enum pg).1 (pg_enum pg).2 rfl ⟨[(_,_),(_,_)],rfl,rfl⟩ rfl ?_) (λ env eo=>swaps_cell eo (by kernel_rfl)) rfl
  refine WE_name (.tail _ (.tail _ (.tail _ (.tail _ (.tail _ (.head _)))))) ⟨_,rfl,by decide,λ i ρ ys=>∃ c1 c2:Cell,c1.isRo=false/\c2.isRo=false/\ρ=([("at",c1),("p",c2),("rests",.ro (IL (rst f)))]:Loc)/\ys=((p59.take i).map λ p=>((f + 2:Nat):Int) % p).map .int,⟨.un,.un,rfl,rfl,rfl,rfl⟩,?_,?_⟩
  . intro i y ρ1 ys hy zQ5
    refine hid λ _ uQ=>?_
    obtain ⟨c1,c2,hc1,hc2,rfl,rfl⟩:=zQ5
    rw [List.getElem?_map] at hy
    obtain ⟨z,hz,rfl⟩:=Option.map_eq_some_iff.mp hy
    obtain ⟨hi,hz'⟩:=ig_of hz
    obtain ⟨hp3,hp59⟩:=p59_at i hi
    refine uQ ?_
    have ht:=ig_take hi
    have hig:=rst_at (f:=f) hi
    rw [hz'] at hp3 hp59 ht hig
    refine ⟨_,.cons .here hc1 (.cons (.there .here) hc2 .nil),?_⟩
    refine WE_mod (WE_add (WE_subi (WE_ro (.tail _ (.tail _ (.head _))) (WE_name (.head _) (subi_ok (Int.natCast_nonneg _) (Int.ofNat_lt.mpr hi) (Nat.le_of_ble_eq_true rfl) ?_))) rfl))
    refine WE_int (int2_ok (WE_name (.tail _ (.head _)) (int2_ok ⟨by omega,rfl,.val (.int i),.val (.int z),rfl,rfl,rfl,?_⟩)))
    rw [hig,ht,List.map_append,List.map_append,Int.emod_add_emod]; rfl
  intro ρ1 ys zQ2
  refine hid λ _ uQ=>?_
  obtain ⟨c1,c2,hc1,hc2,rfl,rfl⟩:=zQ2
  refine uQ ?_
  rw [List.length_map,List.take_length]
  exact ⟨_,_,.there (.there (.there (.there (.there (.there .here))))),rfl,h⟩
end
noncomputable def crs (f:Int) (l:List Int):Bool:=l.any λ p=>decide (f % p=0) && decide (f≠p)
theorem crs_turn {f:Int} {i:Nat} (hi:i < p59.length):crs f (p59.take (i + 1))=(crs f (p59.take i) || (decide (f % ig p59 i=0) && decide (f≠ig p59 i))):=by
  unfold crs; rw [ig_take hi,List.any_append]
  exact congrArg _ (Bool.or_false _)
structure NPH (x y:Nat):Prop where
  gt:x < y
  lt:y < 2 ^ 17 - 1
  pr:Pr y
  no:∀ z:Nat,x < z->z < y->¬ Pr z
  ip:∀ z:Nat,x < z->z<=y->z % 2=1->IPH z []
theorem Ca.no {G:Gd} {k:Nat} {f:V} {a b c d:SV} {K:SV->Prop} (h:Ca G k f [a,b,.rl [],c,d] K):Ca G k f [a,b,.il [],c,d] K:=by unfold Ca at h ⊢; exact h
theorem crs_not {f y:Nat} (hf:2 < f) (pr:Pr y) (z:crs f p59=true):f≠y:=λ e=>by
  unfold crs at z
  obtain ⟨p,hp,q⟩:=List.any_eq_true.mp z
  rw [Bool.and_eq_true,decide_eq_true_eq,decide_eq_true_eq] at q
  have hp3:3<=p:=by
    have:∀ p∈p59,(3:Int)<=p:=by decide
    exact this p hp
  have hpf:p < f:=by
    rcases Int.lt_trichotomy p f with z | z | z
    . exact z
    . exact absurd z.symm q.2
    . have:=Int.emod_eq_of_lt (a:=(f:Int)) (b:=p) (Int.natCast_nonneg f) z
      omega
  exact pr.2 p (by omega) (by rw [<- e]; exact hpf) (by rw [<- e]; exact q.1)
theorem np_first (x:Nat):∃ f:Nat,(x:Int) + (if x % 2=0 then 1 else 2)=(f:Int)/\f % 2=1/\x < f/\f<=x + 2/\(x % 2=0->f=x + 1):=by
  by_cases h:x % 2=0
  . exact ⟨x + 1,by rw [if_pos h]; rfl,by omega,by omega,by omega,λ _=>rfl⟩
  . exact ⟨x + 2,by rw [if_neg h]; rfl,by omega,by omega,by omega,λ z=>absurd z h⟩
theorem np_le {x y f:Nat} (fo:f % 2=1) (fx:x < f) (fx2:f<=x + 2) (h:x % 2=0->f=x + 1) (yo:y % 2=1) (gt:x < y):f<=y:=by omega
theorem np_2 {f y:Nat} (fo:f % 2=1) (yo:y % 2=1) (fy:f<=y) (h:f≠y):(f + 2) % 2=1/\f + 2<=y/\y - (f + 2) < y - f:=by omega
open Classical in
theorem sp_next_prime {G:Gd} (pg:PG G) {C CR:Addr} (hM:IsCls G cM C) (hR:IsCls G cR CR) (mt:MT G) {w x y:Nat} (hw:3<=w) (hw':w<=9) (hx:x < 2 ^ 16) (hy:2<=x->NPH x y) (hy2:x < 2->y=2) :
    Ca G 13 (fnv G "next_prime") [rS w x,.int w,.v (fnv G "_law_mul"),.v (fnv G "_law_divrem")] (·=rS w y):=by
  have hw1:1<=w:=Nat.le_trans (by decide) hw
  have hw60:w<=60:=Nat.le_trans hw' (by decide)
  have hw64:w<=64:=Nat.le_trans hw' (by decide)
  have hB:=two_le hw1
  have hB9:(2:Int) ^ 3<=2 ^ w:=pow_mono (by decide) hw
  have x64:(x:Int) < 2 ^ 64:=Int.ofNat_lt.mpr (Nat.lt_trans hx (by decide))
  have s2:=sp_nat_of pg hw1 hw64 (x:=2) (by decide) (by decide)
  refine Ca.of λ K hK=>vdefC pg o_next_prime rfl λ cd=>?_
  refine Jm.dup (Ca.eq s2 rfl (Ca.eq (sp_compare pg hB (nn x) (by decide) x64 (by decide)) rfl (Br.mk (λ h=>?_) λ h=>?_)))
  . rw [hy2 (Int.ofNat_lt.mp (cmp3_lt.mp h))] at hK
    exact Ca.eq s2 rfl hK
  have hx2:2<=x:=Nat.le_of_not_lt λ z=>h (cmp3_lt.mpr (Int.ofNat_lt.mpr z))
  clear h
  refine hid λ _ uQ=>?_
  obtain ⟨gt,lt,pr,no,ip⟩:=hy hx2
  have yo:y % 2=1:=by
    have:=pr.2 2 (by decide) (by omega)
    omega
  obtain ⟨f0,hf0,fo,fx,fx2,fe⟩:=np_first x
  refine uQ ?_
  have f0y:=np_le fo fx fx2 fe yo gt
  have l2:(0:Int)<=(if x % 2=0 then 1 else 2)/\(if x % 2=0 then 1 else 2) < (2:Int) ^ w:=by split <;> omega
  have ok:∀ f:Nat,x < f->f<=y->NOk w f:=λ f h1 h2=>⟨hw,hw',by omega,by omega⟩
  refine Jn.c0 (.ss []) (.int (if x % 2=0 then 1 else 2)) (λ Q hQ=>?_) (Ca.eq (sp_add_limb pg hw1 hw64 (nn x) x64 l2.1 l2.2) rfl ?_)
  . refine Ca.eq (sp_is_even pg hw1 (nn x) x64) rfl (Br.mk (λ h=>?_) λ h=>?_)
    . have h:(x:Int) % 2=0:=of_decide_eq_true h
      rw [if_pos (show x % 2=0 by omega)] at hQ; exact hQ
    . have h:¬ (x:Int) % 2=0:=λ z=>h (decide_eq_true z)
      rw [if_neg (show ¬ x % 2=0 by omega)] at hQ; exact hQ
  rw [hf0]
  clear hf0 l2 fe fx2 hy hy2
  refine np_some (k:=11) pg (raw_next [.v (rS w x),.v (.int w),.v (.v (fnv G "_law_mul")),.v (.v (fnv G "_law_divrem")),.v (rS w f0),.v (.il p59),.un,.un,.un,.un] rfl rfl rfl ?_)
  refine np_rests (k:=11) pg (ok f0 fx f0y) (raw_next [.v (rS w x),.v (.int w),.v (.v (fnv G "_law_mul")),.v (.v (fnv G "_law_divrem")),.v (rS w f0),.v (.il p59),.v (.il (rst f0)),.un,.un,.un] rfl rfl rfl ?_)
  refine LpW.c2 (λ (f:Nat) (c:SC × SC × SC)=>[.v (rS w x),.v (.int w),.v (.v (fnv G "_law_mul")),.v (.v (fnv G "_law_divrem")),.v (rS w f),.v (.il p59),.v (.il (rst f)),c.1,c.2.1,c.2.2]) (λ f _=>f % 2=1) (λ f _=>x < f) (λ f _=>f<=y) (λ _ _=>True) (λ f _=>y - f) f0 (.un,.un,.un) rfl fo fx f0y trivial ?_
  clear fo fx f0y
  intro Q f c hQ fo fx fy _
  have okf:=ok f fx fy
  have hQ:=λ (h:f≠y) (x1 x2 x3:SC)=>hQ (f + 2) (x1,x2,x3) (np_2 fo yo fy h).2.2 (np_2 fo yo fy h).1 (Nat.lt_add_right 2 fx) (np_2 fo yo fy h).2.1 trivial
  refine Br.mk (λ _=>?_) λ z=>absurd rfl z
  refine LpF.c1 (λ i (c:SC × SC)=>[.v (rS w x),.v (.int w),.v (.v (fnv G "_law_mul")),.v (.v (fnv G "_law_divrem")),.v (rS w f),.v (.il p59),.v (.il (rst f)),.v (.bool (crs f (p59.take i))),lv c.1 (λ i=>i) i,lv c.2 (λ i=>ig p59 i) i]) (λ _ _=>True) (λ _ _=>True) (λ _ _=>True) c.2 rfl trivial trivial trivial ?_ ?_
  . intro Q i c hQ hi _ _ _
    obtain ⟨hp3,hp59⟩:=p59_at i hi
    have hQ:=hQ c trivial trivial trivial
    rw [crs_turn hi] at hQ
    have hig:=rst_at (f:=f) hi
    have kk:∀ b,b=(crs f (p59.take i) || (decide ((f:Int) % ig p59 i=0) && decide ((f:Int)≠ig p59 i)))->Q [.v (rS w x),.v (.int w),.v (.v (fnv G "_law_mul")),.v (.v (fnv G "_law_divrem")),.v (rS w f),.v (.il p59),.v (.il (rst f)),.v (.bool b),.v (.int i),.v (.int (ig p59 i))] (.ss []):=λ b e=>e ▸ hQ
    clear hQ
    refine Br.mk (λ q1=>kk _ (by rw [q1]; rfl)) λ q1=>?_
    have q1:=Bool.eq_false_iff.mpr q1
    refine And.intro (Int.natCast_nonneg _) (And.intro (Int.ofNat_lt.mpr hi) (And.intro (Nat.le_of_ble_eq_true rfl) (Br.mk (λ q2=>?_) λ q2=>?_)))
    . refine Ca.eq (sp_nat_of pg hw1 hw64 (x:=ig p59 i) (by omega) (by omega)) rfl (kk _ ?_)
      rw [q1,<- hig,q2,Bool.false_or,Bool.true_and]
      exact decide_eq_decide.mpr ⟨λ z e=>z (by rw [e]),λ z e=>z (row_inj hB (nn f) (by omega) e)⟩
    . refine kk _ ?_
      rw [q1,<- hig,Bool.eq_false_iff.mpr q2]; rfl
  intro c _ _ _
  show vs _ _ ([_,_,_,_,_,_,_,SC.v (.bool (crs f (p59.take p59.length))),_,_]:En) _ _ _ _
  rw [List.take_length]
  refine Jm.c0 (.ss []) [.v (rS w x),.v (.int w),.v (.v (fnv G "_law_mul")),.v (.v (fnv G "_law_divrem")),.v (rS w f),.v (.il p59),.v (.il (rst f)),.v (.bool (crs f p59)),.v (.int (15:Nat)),.v (.int (ig p59 (15:Nat)))] (f≠y) (λ Q' hQ'=>?_) λ h=>?_
  . refine Br.mk (λ q=>hQ' (crs_not (by omega) pr q)) λ q=>?_
    refine And.intro (Nat.zero_le _) (Ca.eq (sp_is_probable (bs:=[]) pg hM hR mt hw hw' (x:=f) (by omega) (λ b hb=>nomatch hb) (Nat.zero_le _) (ip f fx fy fo)).no rfl (Br.mk (λ q=>?_) λ q=>?_))
    . have q:=of_decide_eq_true q
      refine K_eq (K:=K) hK ?_
      rcases Nat.lt_or_ge f y with z | z
      . exact absurd q (no f fx z)
      . rw [Nat.le_antisymm fy z]
    . exact hQ' λ e=>q (decide_eq_true (e ▸ pr))
  . exact Ca.eq s2 rfl (Ca.eq (sp_add pg hw1 hw64 (nn f) okf.n64 (y:=2) (by decide) (by decide)) rfl (np_turn (k:=12) (cd:=cd) pg (raw_next [.v (rS w x),.v (.int w),.v (.v (fnv G "_law_mul")),.v (.v (fnv G "_law_divrem")),.v (rS w (f + 2)),.v (.il p59),.v (.il (rst (f + 2))),.v (.bool (crs f p59)),.v (.int (15:Nat)),.v (.int (ig p59 (15:Nat)))] rfl rfl rfl (hQ h _ _ _))))
end N21
noncomputable section N22
noncomputable def BxS (β:SL):Prop:=∃ (c:Int) (s:List Int) (t:Int),β=.ss [.int c,.il s,.int t]/\-1<=c/\s.length<=24/\0<=t/\t < 2 ^ 64
theorem bx_next {c:Int} {s:List Int} {t:Int} (hc:-1<=c) (hs:s.length<=24) (h:0<=t/\t < 2 ^ 64):BxS (.ss [.int (c + 1),.il s,.int t]):=⟨_,_,_,rfl,by omega,hs,h.1,h.2⟩
theorem len_3:([SV.none,.none,.none]:List SV).length<=1000:=Nat.le_of_ble_eq_true rfl
theorem sp_law_draw {G:Gd} (pg:PG G) {β:SL} {m:Int} (hm:0 < m) (hm':m < 2 ^ 40) (hb:BxS β):CaIO G 1 (fnv G "_law_draw") β [.int m] (λ r l=>∃ i,r=.int i/\(0<=i/\i < m)/\BxS l):=by
  obtain ⟨c,s,t,rfl,hc,hs,ht⟩:=hb
  have hi:=λ a=>mod_in (a:=a) hm
  have l5:s.length<=100000:=zs_nat hs rfl
  have st:=Sm.of (i:=t) (by omega) (by omega)
  have c1:0<=c + 1:=by omega
  refine CaIO.ofR λ K hK=>vdefIO pg o_law_draw rfl λ ab=>?_
  refine And.intro rfl (And.intro len_3 (And.intro (Nat.le_of_ble_eq_true rfl) (And.intro (Nat.le_of_ble_eq_true rfl) ?_)))
  refine Jm.dup (And.intro len_3 (And.intro len_3 (And.intro l5 (Br.mk (λ h=>?_) λ h=>?_))))
  . exact And.intro len_3 (And.intro len_3 (And.intro c1 (And.intro h (And.intro l5 (And.intro hm (And.intro rfl (hK _ _ ⟨_,rfl,hi _,bx_next hc hs ht⟩)))))))
  refine And.intro rfl (And.intro len_3 (And.intro st (And.intro (Sm.of (by decide) (by decide)) (And.intro len_3 ?_))))
  refine Exists.intro 64 (And.intro rfl (And.intro (by decide) (And.intro (by decide) (And.intro (by decide) (And.intro (Nat.le_of_ble_eq_true rfl) (And.intro (Nat.le_of_ble_eq_true rfl) ?_))))))
  have ht2:=mod_in (a:=t * 6364136223846793005 + 1442695040888963407 + (c + 1)) (b:=2 ^ 64) (by decide)
  refine Jn.dup (Exists.intro 40 (And.intro rfl (And.intro (by decide) (And.intro (by decide) (Br.mk (λ h=>?_) λ h=>absurd hm' h)))))
  refine And.intro len_3 (Exists.intro 16 (And.intro rfl (And.intro (by decide) (And.intro (by decide) (And.intro (by decide) (And.intro (Sm.of (by decide) (by decide)) (And.intro hm (And.intro rfl ?_))))))))
  exact hK _ _ ⟨_,rfl,hi _,bx_next hc hs ht2⟩
theorem draw {G:Gd} (pg:PG G) {k:Nat} {β:SL} {m:Int} {K:SV->SL->Prop} (h0:0 < m) (h1:m < 2 ^ 40) (hb:BxS β) (l:Nat.ble 1 k=true) (h:∀ i β',0<=i/\i < m->BxS β'->K (.int i) β'):CaIO G k (fnv G "_law_draw") β [.int m] K :=
  (sp_law_draw pg h0 h1 hb).to' l λ r l z0=>z0.elim λ i z0=>z0.elim λ e z0=>z0.elim λ a b=>e ▸ h i l a b
inductive Dn:Nat->Prop
  | sq (a:Nat) (h:a < 100):Dn ((3 + 2 * a) * (3 + 2 * a))
  | pr (a b:Nat) (h:a < 100) (h':b < 100):Dn ((3 + 2 * a) * (3 + 2 * b))
  | nr (j:Nat) (h:j < 6):Dn (3599 + 2 * j)
  | an (j:Nat) (h:j < 6000):Dn (3 + 2 * j)
theorem toN {i:Int} {m:Nat} (h:0<=i/\i < m):∃ n:Nat,i=n/\n < m:=⟨i.toNat,by omega,by omega⟩
theorem sp_law_drawn {G:Gd} (pg:PG G) {β:SL} (hb:BxS β):CaIO G 2 (fnv G "_law_drawn") β [] (λ r l=>(∃ n:Nat,r=.int n/\Dn n)/\BxS l):=by
  have s2:Sm 2:=Sm.of (by decide) (by decide)
  refine CaIO.ofR λ K hK=>vdefIO pg o_law_drawn rfl λ ab=>?_
  refine draw pg (by decide) (by decide) hb rfl λ form β hf hb=>?_
  refine draw pg (by decide) (by decide) hb rfl λ i β hi hb=>?_
  obtain ⟨i,rfl,h1⟩:=toN (m:=100) hi
  have si:Sm (i:Int):=Sm.nat (b:=100) (Nat.le_of_lt h1) rfl
  have sf:Sm (3 + 2 * (i:Int)):=Sm.of (by omega) (by omega)
  refine And.intro s2 (And.intro si ?_)
  refine Jm.dup (Br.mk (λ _=>And.intro sf (And.intro sf (And.intro rfl (hK _ _ ⟨⟨_,rfl,.sq i h1⟩,hb⟩)))) λ _=>?_)
  refine Jm.dup (Br.mk (λ _=>draw pg (by decide) (by decide) hb rfl λ j β hj hb=>?_) λ _=>?_)
  . obtain ⟨j,rfl,h2⟩:=toN (m:=100) hj
    exact And.intro s2 (And.intro (Sm.nat (b:=100) (Nat.le_of_lt h2) rfl) (And.intro sf (And.intro (Sm.of (by omega) (by omega)) (And.intro rfl (hK _ _ ⟨⟨_,rfl,.pr i j h1 h2⟩,hb⟩)))))
  refine Jm.dup (Br.mk (λ _=>draw pg (by decide) (by decide) hb rfl λ j β hj hb=>?_) λ _=>?_)
  . obtain ⟨j,rfl,h2⟩:=toN (m:=6) hj
    exact And.intro s2 (And.intro (Sm.nat (b:=6) (Nat.le_of_lt h2) rfl) (And.intro rfl (hK _ _ ⟨⟨_,rfl,.nr j h2⟩,hb⟩)))
  refine Jn.c1 β (λ z:Nat=>.int z) (λ z=>0 < z/\z<=6000) (λ Q hQ=>Br.mk (λ _=>hQ 6000 (by decide)) λ _=>hQ 200 (by decide)) ?_
  intro z hz
  refine draw pg (by omega) (by omega) hb rfl λ j β hj hb=>?_
  obtain ⟨j,rfl,h2⟩:=toN hj
  exact And.intro s2 (And.intro (Sm.nat (Nat.le_trans (Nat.le_of_lt h2) hz.2) rfl) (And.intro rfl (hK _ _ ⟨⟨_,rfl,.an j (Nat.lt_of_lt_of_le h2 hz.2)⟩,hb⟩)))
end N22
noncomputable section N23
theorem f_law_box:fmOk (dN 64).params (dN 64).scope ["script","many"] ["box","cell"]=true:=by kernel_rfl
theorem sub3_1 {X Y Z:V} {P:V->Prop} (h:P Y):SubO [X,Y,Z] (.int 1) P:=⟨1,Y,rfl,by kernel_rfl,h⟩
theorem sub3_2 {X Y Z:V} {P:V->Prop} (h:P Z):SubO [X,Y,Z] (.int 2) P:=⟨2,Z,rfl,by kernel_rfl,h⟩
theorem sp_law_box {G:Gd} (pg:PG G) {k:Nat} {s:List Int} (hs:s.length<=1000):SpecO G (k + 1) (fnv G "_law_box") [IL s,.int 24] (λ xs=>∃ β,xs=β.den/\BxS β):=by
  rw [<- n_law_box]
  refine specO_def (pg.d (by decide)) f_law_box rfl ?_
  have hS':(s.take (Int.toNat 24)).length<=24:=by rw [List.length_take]; exact Nat.min_le_left _ _
  refine WSs_cons (WS_assign (WR_list (WL_cons (WE_usub (WE_int (int1_ok (WL_cons ?_ rfl)))) rfl)) rfl rfl)
  refine WE_comp [] [] rfl (by kernel_rfl) trivial (WI_list (WE_uptoI (WE_name (.head _) (WE_name (.tail _ (.head _)) (up_ok (by decide) (Nat.le_trans hs (by decide)) ?_)))))
  generalize s.take (Int.toNat 24)=S at *
  refine ⟨_,rfl,by rw [List.length_map]; omega,λ i ρ ys=>∃ c:Cell,c.isRo=false/\ρ=([("cell",c)]:Loc)/\ys=(S.take i).map .int,⟨.un,rfl,rfl,rfl⟩,?_,?_⟩
  . rintro i y ρ1 ys hy ⟨c,hc,rfl,rfl⟩
    rw [List.getElem?_map] at hy
    obtain ⟨z,hz,rfl⟩:=Option.map_eq_some_iff.mp hy
    obtain ⟨hi,hz'⟩:=ig_of hz
    refine ⟨c,_,.here,hc,WE_toint pg (by kernel_rfl) rfl (WE_name (.head _) ⟨z,rfl,rfl,.val (.int z),rfl,rfl,?_⟩)⟩
    rw [ig_take hi,hz',List.map_append]; rfl
  rintro ρ1 ys ⟨c,hc,rfl,rfl⟩
  rw [List.length_map,List.take_length]
  refine WL_cons (WE_int (WL_nil ⟨Nat.le_of_ble_eq_true rfl,λ ad=>⟨_,_,.there (.there .here),rfl,?_⟩⟩)) rfl
  refine WSs_cons (WS_forL rfl (WE_subo (.tail _ (.tail _ (.head _))) rfl (WE_int (sub3_1 ⟨S,rfl,λ i ρ β=>∃ (c:Cell) (t:Int),c.isRo=false/\ρ=([("script",.val (IL s)),("many",.val (.int 24)),("box",.own ad [.int (-1),IL S,.int t]),("cell",c)]:Loc)/\β=[]/\0<=t/\t < 2 ^ 64,⟨.un,7,rfl,rfl,rfl,by decide,by decide⟩,?_,?_⟩))))
  . rintro i ρ1 β1 hi ⟨c,t,hc,rfl,rfl,h0,h1⟩
    refine ⟨c,_,.there (.there (.there .here)),hc,WSs_cons (WS_setown (.tail _ (.tail _ (.head _))) ?_ rfl)⟩
    refine WE_mod (WE_add (WE_mul (WE_subo (.tail _ (.tail _ (.head _))) rfl (WE_int (sub3_2 (WE_int (int2_ok ⟨Sm.of (by omega) (by omega),Sm.of (by decide) (by decide),?_⟩)))))))
    refine WE_absI pg (by kernel_rfl) rfl (WE_name (.tail _ (.tail _ (.tail _ (.head _)))) (int1_ok (int2_ok ?_)))
    refine WE_pow (WE_int (WE_int (int2_ok ⟨by decide,by decide,by decide,int2_ok ⟨by decide,?_⟩⟩)))
    have:=mod_in (a:=t * 31 + (ig S (i:Int)).natAbs) (b:=2 ^ Int.toNat 64) (by decide)
    refine WE_int ⟨2,_,rfl,by decide,by simp,by simp,.there (.there .here),WSs_nil ⟨_,_,rfl,rfl,rfl,this.1,this.2⟩⟩
  . rintro ρ1 β1 ⟨c,t,hc,rfl,rfl,h0,h1⟩
    exact WSs_cons (WS_reto (.tail _ (.tail _ (.head _))) ⟨.ss [.int (-1),.il S,.int t],rfl,_,_,_,rfl,by decide,hS',h0,h1⟩)
end N23
noncomputable section N24
section
variable {G:Gd} {Φ:Fm} {k:Nat} {ρ ρ':Loc} {β:List V} {C:Addr}
theorem WSX_raiseS {x st:Str} {kd:Nat} {np cpos pos q:Pos} (hx:isGl Φ.scope x=true) (hC:IsExc G x C):WSX G Φ k (.Raise (some (.Call (.Name x np) [.Constant (.str st) kd q] [] cpos)) none pos) ρ β C :=
  λ A env g s Q E rm eo iv kk=>by
    have he:starEach [Expr.Constant (.str st) kd q] env=(false,eval (.Constant (.str st) kd q) env) :: starEach [] env:=starEach_cons rfl
    refine hid λ _ uQ=>?_
    obtain ⟨tl,N,nm,q1,bs,hdct,sn,sub,ab,col,dd,k0,k1,k2,k3,k5,mN,hCo,hN,hni,T⟩:=hC.own.obj
    refine uQ ?_
    have FB:=PySem.F.excBase_Exception
    refine wpAny_Raise_call_subU (C:=C) (nm:=nm) (q:=q1) (N:=N) (bs:=bs) (bm:=tl) (hdct:=hdct) (sn:=sn) (sub:=sub) (ab:=ab) (col:=col) (dd:=dd) (k0:=k0) (k1:=k1) (k2:=k2) (k3:=k3) (k5:=k5)
      FB (by decide) FB (mN:=mN) (T.hasType FB.hasBase) rm.hd (by rw [he]; rfl) hni (load_glob eo iv.ok (isGl_mem hx) hC.bound ⟨rfl,?_⟩)
    have hw:wpAny (model G.prog G.w) A (spliced (backTo cpos (starEach [Expr.Constant (.str st) kd q] env))) (λ vs s₂=>vs.length<=sizeLine/\(∀ b o,G.gh.get? b=some o->s₂.heap.get? b=some o)/\∀ h' e,Heap.MadeExcOf s₂.heap h' e (.ref C) vs->E (.ref e) { s₂ with heap:=h' }) E s:=by
      rw [he]
      refine args_cons (Constant_str ?_) rfl
      refine args_nil ?_
      refine ⟨by rw [sizeLine_eq]; exact Nat.le_of_ble_eq_true rfl,λ b o e=>iv.ok.sub b o (iv.ok.gnd b o e),λ h' e hm=>?_⟩
      obtain ⟨l,hl,hf⟩:=rm.fr
      exact kk e h' _ l hl (.inr ⟨s.heap,g,_,iv.ok,hf,hm⟩)
    rw [he] at hw ⊢
    exact Calls.evalArgs_plain (wpAny_mono hw (λ vs s₂ h₂=>⟨rfl,h₂.1,h₂.2.1 _ _ hCo,hN.keeps h₂.2.1,T.keeps h₂.2.1,h₂.2.2⟩) λ _ _ y=>y)
end
theorem specX_check_odd {G:Gd} (pg:PG G) {C:Addr} (hC:IsExc G "OutOfRange" C) {k w:Nat} (hw:1<=w) {x:Int} (hx:1 < x) (hx':x < 2 ^ 64) (hev:x % 2=0) :
    SpecX G (k + 2) (fnv G "check_odd") [IL (row (2 ^ w) x)] C:=by
  have sp:=sp_is_even pg hw (Int.le_of_lt (Int.lt_trans (by decide) hx)) hx'
  unfold Ca at sp
  rw [<- n_check_odd]
  refine specX_def (d_check_odd pg) o_check_odd.fm rfl ?_
  refine WSsX_here (WSX_if ?_)
  refine WT_or (WT_blC (WE_fnI .c_is_even pg (by kernel_rfl) rfl (WL_cons (WE_name (.head _) (WL_nil ((sp.le (Nat.le_add_left 1 k)).mono ?_))) rfl)))
  rintro _ ⟨_,rfl,rfl⟩
  refine ⟨_,rfl,λ _=>WSsX_here (WSX_raiseS (by kernel_rfl) hC),λ h=>?_⟩
  exact absurd hev (of_decide_eq_false h)
theorem specX_strong_probable {G:Gd} (pg:PG G) {C:Addr} (hC:IsExc G "OutOfRange" C) {k w:Nat} (hw:1<=w) {x:Int} {u v t a:V} (hx:1 < x) (hx':x < 2 ^ 64) (hev:x % 2=0) :
    SpecX G (k + 3) (fnv G "strong_probable") [IL (row (2 ^ w) x),u,v,t,a] C:=by
  rw [<- n_strong_probable]
  refine specX_def (d_strong_probable pg) o_strong_probable.fm rfl ?_
  refine WSsX_here (WSX_expr (WEX_call (WE_fnv (d_check_odd pg) n_check_odd (by kernel_rfl) ⟨?_,?_⟩) rfl))
  . exact n_check_odd ▸ (d_check_odd pg).isFn.1
  . exact WL_cons (WE_name (.head _) (WL_nil (specX_check_odd pg hC hw hx hx' hev))) rfl
end N24
noncomputable section N25
theorem wp_execs_app {M:Model} {Γ:PySem.Ctx} {env:Env} {rest:List Stmt} {post:Flow->Pos->Shared->Prop} {exc:Value->Pos->Shared->Prop}:∀ (l:List Stmt) (p:Pos) (s:Shared),
    Sem.wp M Γ (execs l env) (λ f p' s'=>match f with | .next=>Sem.wp M Γ (execs rest env) post exc p' s' | f=>post f p' s') exc p s->Sem.wp M Γ (execs (l ++ rest) env) post exc p s
  | [],p,s,h=>by rw [execs_nil,Sem.wp_pure'] at h; exact h
  | st :: l,p,s,h=>by
    rw [execs_cons,Sem.wp_bind'] at h
    rw [List.cons_append,execs_cons,Sem.wp_bind']
    refine Sem.wp_mono M Γ _ (λ f p' s' h'=>?_) (λ _ _ _ h'=>h') _ _ h
    cases f with
    | next=>exact wp_execs_app l p' s' h'
    | _=>rw [Sem.wp_pure'] at h' ⊢; exact h'
theorem wpAny_execs_app {M:Model} {A:Around} {env:Env} {l rest:List Stmt} {Q:Flow->Shared->Prop} {E:Value->Shared->Prop} {s:Shared}
    (h:wpAny M A (execs l env) (λ f s'=>match f with | .next=>wpAny M A (execs rest env) Q E s' | f=>Q f s') E s):wpAny M A (execs (l ++ rest) env) Q E s:=λ Γ p hΓ=>by
  refine wp_execs_app l p s (Sem.wp_mono M Γ _ (λ f p' s' h'=>?_) (λ _ _ _ h'=>h') _ _ (h Γ p hΓ))
  cases f <;> first | exact h' Γ p' hΓ | exact h'
theorem vTl {G:Gd} (pg:PG G) {k bx:Nat} {sc:Scope} {ks:List Str} {cd:Option (Value × Str)} (n:Nat) (body:List Stmt) {ir:IS} (hir:Fits ⟨ks,sc,bx⟩ ir (body.take n)) {ρ:En} {β:SL} (hl:ρ.length=ks.length) (hb:∀ i a,ρ[i]?=some (.box a)->i=bx)
    (h:vs ⟨G,⟨sc,ks,true,cd⟩,k,bx⟩ ir ρ β (λ ρ β=>WSsT G ⟨sc,ks,true,cd⟩ k (body.drop n) (loc ks ρ) β.den) rC (λ s _ _=>s=.bool true)):WSsT G ⟨sc,ks,true,cd⟩ k body (loc ks ρ) β.den:=by
  have r:=sn_fit (C:=⟨G,⟨sc,ks,true,cd⟩,k,bx⟩) pg rfl hir ρ β _ _ _ ⟨hl,hb⟩ h
  rw [show body=body.take n ++ body.drop n from (List.take_append_drop n body).symm]
  intro A env g s Q E rm eo iv kk
  refine wpAny_execs_app (r A env g s _ E rm eo iv λ fl f ρ1 β1 g1 h1 tk1 hk iv1 fr st1 mg1=>?_)
  obtain ⟨ρ,β,e1,e2,fit,k⟩:=hk
  subst e1 e2
  cases f with
  | next =>
    refine FlRep.next_e fr ?_
    exact k A env g1 _ Q E (rm.step st1) eo iv1 λ h' tk t=>kk h' tk t
  | ret x =>
    obtain ⟨s,rfl,rfl⟩:=k
    cases fl <;> first | exact fr.elim | skip
    rename_i v
    have:v=.bool true:=by cases (show Rep _ v _ from fr); rfl
    subst this
    exact kk h1 tk1 iv1.ok.tl
  | reto a xs=>obtain ⟨_,s,e,rfl⟩:=k; cases e
  | _=>exact k.elim
theorem specTlB_def {G:Gd} {k:Nat} {d:DefRec} {q:TabI} {x:Str} {ps ls:List Str} {xs ys:List V} (hd:IsDefT G d q) (fm:fmOkC d.params d.scope (x :: ps) ls=true) (hx:d.scope.names.lookup x=some .local) (hl:ys.length=ps.length)
    (h:∀ a,WSsT G ⟨d.scope,x :: ps ++ ls,true,some (.ref q.c,d.name ++ ".<locals>.")⟩ k d.body ((x,.box a) :: (ps.zip (ys.map .val) ++ ls.map (·,.un))) xs):SpecTlB G (k + 1) (fnv G d.name) xs ys :=
  λ A g s f bx vs ws n Q E rm ok rf rs ea la ga kk=>by
    refine hid λ _ uQ=>?_
    obtain ⟨_,a,o,pm,doc,e1,e2,e3,e4⟩:=hd
    refine uQ ?_
    obtain rfl:=rf.fnv_inv e1
    have old:∀ b o,G.gh.get? b=some o->s.heap.get? b=some o:=λ b o e=>ok.sub b o (ok.gnd b o e)
    have no:=addrsAll_none (vs:=ys)
    refine enterCR (Φ:=⟨d.scope,x :: ps ++ ls,true,some (.ref q.c,d.name ++ ".<locals>.")⟩) (β:=xs) (cs:=.box bx :: ys.map .val) (λ fl s'=>fl=.ret (.bool true)/\∃ h' tk,s'=at_ s h' tk/\Tl G h') rm ok (old _ _ e2) e3 (fmOkC_parts fm) (e4.keeps old) ⟨⟨rfl,ga,ws,n,ea,la⟩,.vals rs⟩ (by rw [List.length_cons,List.length_cons,rs.length,hl])
      (by rw [List.flatMap_cons,no]; exact List.nodup_cons.mpr ⟨nofun,.nil⟩) rfl (λ env h1 rm1 eo iv grow mutE tk1 Q' E' hq=>h bx (A.deeper env) env g _ Q' E' rm1 eo iv λ h' tk t=>hq _ _ ⟨rfl,h',tk,rfl,t⟩) ?_
    intro fl s' zQ2
    refine hid λ _ uQ=>?_
    obtain ⟨rfl,h',tk,rfl,t⟩:=zQ2
    refine uQ ?_
    exact kk h' tk t
noncomputable def lamOf (d:DefRec):Arguments × Expr × Scope × Pos:=by
  refine PySem.Expr.casesOn (motive_1:=λ _=>Arguments × Expr × Scope × Pos) (kd 1 (lastRet d.body)) (Lambda:=λ params body scope pl=>(params,body,scope,pl)) ?_ ?_ ?_ ?_ ?_ ?_ ?_ ?_ ?_ ?_ ?_ ?_ ?_ ?_ ?_ ?_ ?_ ?_ ?_ ?_ ?_ ?_ ?_ ?_ ?_ ?_
  all_goals (intros; exact (⟨[],[],none,[],[],none,[]⟩,.Name "" default,{ kind:=.function,names:=[],isGenerator:=false,isCoroutine:=false,more:=[] },default))
structure TT (G:Gd):Prop where
  tab:∃ q,IsDefT G (dN 71) q/\q.pos=(lamOf (dN 71)).2.2.2/\q.qual = "_law_tests_right.<locals>.<lambda>"
noncomputable def ltFi:FI:=⟨"_law_tests_right.<locals>.<lambda>",(lamOf (dN 71)).1,.expr (lamOf (dN 71)).2.1,(lamOf (dN 71)).2.2.1,["w","n"]⟩
theorem lt_frees:freesOf (lamOf (dN 71)).2.2.1=(["w","n"]:List Str):=by kernel_rfl
theorem f_lt:(parOk ltFi.params [] && scoOk ltFi.scope && locOk ltFi.scope ltFi.frees .free && noCells ltFi.scope && decide ltFi.frees.Nodup)=true:=by kernel_rfl
theorem specX_lt {G:Gd} (pg:PG G) {C:Addr} (hC:IsExc G "OutOfRange" C) {k w:Nat} (hw:1<=w) (hw':w<=60) {n:Int} (hn:0 < n) (hn':n < 2 ^ 60) (ho:n % 2=1):SpecX G (k + 4) (.clo ltFi [.int w,.int n]) [] C:=by
  have h:=f_lt
  simp only [Bool.and_eq_true,decide_eq_true_eq] at h
  refine hid λ _ uQ=>?_
  obtain ⟨⟨⟨⟨h1,h2⟩,h3⟩,h4⟩,h5⟩:=h
  refine uQ ?_
  have sp:=sp_law_row pg hw (Nat.le_trans hw' (by decide)) (x:=n + 1) (by omega) (by omega)
  unfold Ca at sp
  refine specX_lam rfl h1 h2 h3 h4 h5 ?_
  show WEX G ⟨ltFi.scope,["w","n"],false,none⟩ (k + 3) _ [("w",.ro (.int w)),("n",.ro (.int n))] [] C
  refine WEX_call (WE_fnv (d_strong_probable pg) n_strong_probable (by kernel_rfl) ⟨?_,?_⟩) rfl
  . exact n_strong_probable ▸ (d_strong_probable pg).isFn.1
  refine WL_cons (WE_fnI .c_law_row pg (by kernel_rfl) rfl (WL_cons (WE_add (WE_ro (.tail _ (.head _)) (WE_int (int2_ok (WL_cons (WE_ro (.head _) (WL_nil ((sp.le (Nat.le_add_left 1 (k + 2))).mono ?_))) rfl))))) rfl)) rfl
  rintro _ ⟨_,rfl,rfl⟩
  refine WL_cons (WE_list (WL_cons (WE_int (WL_nil ⟨Nat.le_of_ble_eq_true rfl,?_⟩)) rfl)) rfl
  refine WL_cons (WE_ro (.head _) (WL_cons (WE_fnvI .c_law_mul pg (by kernel_rfl) (WL_cons (WE_fnvI .c_law_divrem pg (by kernel_rfl) (WL_nil ?_)) rfl)) rfl)) rfl
  exact specX_strong_probable pg hC hw (x:=n + 1) (by omega) (by omega) (by omega)
theorem specTl_refused {G:Gd} (pg:PG G) {C:Addr} (hC:IsExc G "OutOfRange" C) {k:Nat} {fv:V} (hf:IsFn G fv) (h:SpecX G k fv [] C):SpecTl G (k + 1) (fnv G "_law_refused") [fv]:=by
  rw [<- n_law_refused]
  exact specTl_try (ps:=[]) (d_law_refused pg) (f := "work") (x := "OutOfRange") (by kernel_rfl) hf h hC (isGl_mem (by kernel_rfl)) rfl
end N25
noncomputable section N26
open Classical in
structure NP (n mm:Nat) (r:Int):Prop where
  mmle:mm<=100000
  sf:¬ IsSq n->SF n mm 5 r
  luc:Pr n->¬ IsSq n/\r≠0/\(∀ t:Nat,bl ((n:Int) + 1)=t + 1->(lucN n r (n + 1) t).1=0)/\∀ s t:Nat,Tz ((n:Int) + 1) s->bl (((n + 1) / 2 ^ s:Nat):Int)=t + 1->SLuc n (lucN n r ((n + 1) / 2 ^ s) t) s
section
variable {G:Gd} {Φ:Fm} {k:Nat} {ρ:Loc} {β:List V}
theorem SpecTl.le {f:V} {xs:List V} {k':Nat} (h:SpecTl G k f xs) (l:k<=k'):SpecTl G k' f xs :=
  λ A g s fv vs Q E rm ok rf rs kk=>h A g s fv vs Q E (rm.le l) ok rf rs kk
theorem SpecTlB.le {f:V} {xs ys:List V} {k':Nat} (h:SpecTlB G k f xs ys) (l:k<=k'):SpecTlB G k' f xs ys :=
  λ A g s fv a vs ws n Q E rm ok rf rs ea la ga kk=>h A g s fv a vs ws n Q E (rm.le l) ok rf rs ea la ga kk
end
theorem f_law_tests_right:fmOkC (dN 71).params (dN 71).scope ("box" :: ["n","row","w"]) ["base","is_prime","work","passed","is_root_whole"]=true:=by kernel_rfl
noncomputable def ir_tests:IS:=(.set2 4 5 (.io "_law_draw" (.cons (.int 300) .nil)) (.call "_law_is_prime" (.cons (.nm 1) .nil)) (.ite (.cmp .NotEq (.call "strong_probable" (.cons (.nm 2) (.cons (.call "_law_row" (.cons (.nm 4) (.cons (.nm 3) .nil))) (.cons (.nm 3) (.cons (.gf "_law_mul") (.cons (.gf "_law_divrem") .nil)))))) (.call "_law_strong" (.cons (.nm 1) (.cons (.nm 4) .nil)))) (.ret (.bool false)) .nil (.set 6 (.idx (.lst (.cons (.gf "lucas_probable") (.cons (.gf "strong_lucas") .nil))) (.io "_law_draw" (.cons (.int 2) .nil))) (.set 7 (.calv 6 (.cons (.nm 2) (.cons (.nm 3) (.cons (.gf "_law_mul") (.cons (.gf "_law_divrem") .nil))))) (.set 8 (.call "is_square_row" (.cons (.nm 2) (.cons (.nm 3) (.cons (.gf "_law_mul") (.cons (.gf "_law_divrem") .nil))))) (.ite (.or (.and (.nm 5) (.not (.nm 7))) (.and (.nm 8) (.nm 7))) (.ret (.bool false)) .nil .nil))))))
theorem o_tests:Fits ⟨["box","n","row","w","base","is_prime","work","passed","is_root_whole"],(dN 71).scope,0⟩ ir_tests ((dN 71).body.take 6):=⟨by kernel_rfl,by kernel_rfl⟩
theorem bl_ex {z:Int} (h:0 < z):∃ t:Nat,bl z=t + 1:=⟨bl z - 1,(Nat.sub_add_cancel (bl_pos h)).symm⟩
open Classical in
theorem work_ok {G:Gd} (pg:PG G) {CR:Addr} (hR:IsCls G cR CR) {w n mm:Nat} {r:Int} (nok:NOk w n) (ho:n % 2=1) (np:NP n mm r) {i:Int} (hi:0<=i/\i < 2) :
    ∃ wv,idx [fnv G "lucas_probable",fnv G "strong_lucas"] i=some wv/\IsFn G wv/\Ca G 5 wv [rS w n,.int w,.v (fnv G "_law_mul"),.v (fnv G "_law_divrem")] (λ v=>∃ c,v=.bool c/\(Pr n->c=true)/\(IsSq n->c=false)):=by
  rcases (show i=0\/i=1 by omega) with rfl | rfl
  . obtain ⟨t,ht⟩:=bl_ex (z:=(n:Int) + 1) (by omega)
    refine ⟨_,rfl,n_lucas_probable ▸ (d_lucas_probable pg).isFn.1,(sp_lucas_probable pg hR nok ho np.mmle np.sf ht).to' rfl ?_⟩
    rintro v rfl
    exact ⟨_,rfl,λ h=>decide_eq_true ⟨(np.luc h).1,(np.luc h).2.1,(np.luc h).2.2.1 t ht⟩,λ h=>decide_eq_false λ z=>z.1 h⟩
  . refine ⟨_,rfl,n_strong_lucas ▸ (d_strong_lucas pg).isFn.1,(sp_strong_lucas pg hR nok ho np.mmle np.sf).to' rfl ?_⟩
    rintro v ⟨s,t,hs,ht,rfl⟩
    exact ⟨_,rfl,λ h=>decide_eq_true ⟨(np.luc h).1,(np.luc h).2.1,(np.luc h).2.2.2 s t hs ht⟩,λ h=>decide_eq_false λ z=>z.1 h⟩
open Classical in
theorem specTlB_tests_right {G:Gd} (pg:PG G) {CE C CR:Addr} (hE:IsExc G "OutOfRange" CE) (hM:IsCls G cM C) (hR:IsCls G cR CR) (mt:MT G) (tt:TT G) {w n mm:Nat} {r:Int} {β:SL} (hw:5<=w) (hw':w<=9) (hn:3<=n) (hn':n < 2 ^ 16) (ho:n % 2=1) (np:NP n mm r) (hb:BxS β) :
    SpecTlB G 13 (fnv G "_law_tests_right") β.den [.int n,(rS w n).den,.int w]:=by
  obtain ⟨q,hq,hpos,hqual⟩:=tt.tab
  have nok:NOk w n:=⟨Nat.le_trans (by decide) hw,hw',by omega,by omega⟩
  have ho':(n:Int) % 2=1:=by omega
  have hn1:(1:Int) < n:=by omega
  have hn2:(2:Int) < n:=by omega
  have h17:(n:Int) < 2 ^ 17:=Int.ofNat_lt.mpr nok.lt
  have h32:(n:Int) < 2 ^ 32:=Int.lt_trans h17 (by decide)
  rw [<- n_law_tests_right]
  refine specTlB_def hq f_law_tests_right (by kernel_rfl) rfl λ ab=>?_
  refine vTl pg 6 (dN 71).body (ρ:=.box ab :: en0 [.int n,rS w n,.int w] ["base","is_prime","work","passed","is_root_whole"]) (bx:=0) o_tests rfl (λ j _ h=>by
    cases j with
    | zero=>rfl
    | succ j=>exact (en0_nobox h).elim) ?_
  refine draw pg (by decide) (by decide) hb rfl λ b β hb0 hb=>Ca.eq (sp_law_is_prime pg (nn n) nok.n60) rfl ?_
  have hb60:b < 2 ^ 60:=by omega
  refine Jm.dup (Ca.eq (sp_law_row pg nok.w1 nok.w64 hb0.1 (Int.lt_trans hb60 (by decide))) rfl ?_)
  refine Ca.toR (sp_strong_probable pg hM mt nok.hw hw' hb0.1 hb60 hn1 h17 ho') rfl λ s hs=>?_
  refine Ca.toR (sp_law_strong pg hn2 h32 hb0.1 (by omega)) rfl λ s' hs'=>?_
  obtain rfl:=hs.unique hs'
  refine Br.mk (λ _=>?_) λ z=>absurd rfl z
  refine And.intro (Nat.le_of_ble_eq_true rfl) (draw pg (by decide) (by decide) hb rfl λ i β hi hb=>?_)
  obtain ⟨wv,hwv,hfn,hspec⟩:=work_ok pg hR nok ho np hi
  refine Exists.intro (.v wv) (And.intro hwv (And.intro hfn (Ca.to' hspec rfl ?_)))
  rintro _ ⟨c,rfl,hc1,hc2⟩
  refine Ca.eq (sp_is_square_row pg nok.w1 nok.w60 (nn n) nok.n60) rfl ?_
  refine Jm.c0 β [.box ab,.v (.int n),.v (rS w n),.v (.int w),.v (.int b),.v (.bool (decide (Pr n))),.v (.v wv),.v (.bool c),.v (.bool (decide (IsSq n)))] True (λ Q hQ=>?_) λ _=>?_
  . refine Br.mk (λ h1=>Br.mk (λ h2=>?_) λ h2=>absurd (hc1 (of_decide_eq_true h1)) h2) λ h1=>?_
    . exact Br.mk (λ h3=>Br.mk (λ h4=>absurd (hc2 (of_decide_eq_true h3)) (by rw [h4]; exact Bool.noConfusion)) λ h4=>hQ trivial) λ h3=>hQ trivial
    . exact Br.mk (λ h3=>Br.mk (λ h4=>absurd (hc2 (of_decide_eq_true h3)) (by rw [h4]; exact Bool.noConfusion)) λ h4=>hQ trivial) λ h3=>hQ trivial
  obtain ⟨hlf,af,ea,eb⟩:=(d_law_refused pg).isFn
  refine WSsT_retlam (q:=q) (Xs:=[.int w,.int n]) (fa:=af) (ρ':=[("box",.box ab),("n",.ro (.int n)),("row",.val (rS w n).den),("w",.ro (.int w)),("base",.val (.int b)),("is_prime",.val (.bool (decide (Pr n)))),("work",.val wv),("passed",.val (.bool c)),("is_root_whole",.val (.bool (decide (IsSq n))))]) rfl rfl hq.1 hpos (by rw [hqual]; kernel_rfl) ?_ (by kernel_rfl) (λ _=>rfl) ea (isGl_mem (by kernel_rfl)) (eb ▸ hlf) ?_
  . show FreezeAll (freesOf (lamOf (dN 71)).2.2.1) _ _ _
    rw [lt_frees]
    exact .cons (.there (.there (.there .here))) (.cons (.there .here) .nil)
  . rw [hqual]
    have h1:=specTl_refused pg hE (by trivial) (specX_lt pg hE (k:=0) (w:=w) (n:=n) nok.w1 nok.w60 nok.i0 nok.n60 ho')
    rw [<- n_law_refused,eb] at h1
    show SpecTl G 12 _ [.clo ⟨_,(lamOf (dN 71)).1,.expr (lamOf (dN 71)).2.1,(lamOf (dN 71)).2.2.1,freesOf (lamOf (dN 71)).2.2.1⟩ _]
    rw [lt_frees]
    exact h1.le (by decide)
end N26
noncomputable section N27
noncomputable def cmpL (e:Expr):Expr:=kd 0 (kd 1 e)
noncomputable def notT (t:Stmt):Expr:=kd 0 (sk 0 t)
noncomputable def ir_signs:IS:=(.set2 4 5 (.bin .Sub (.io "_law_draw" (.cons (.int 120) .nil)) (.int 60)) (.io "_law_draw" (.cons (.int 4000) .nil)) (.ite (.or (.cmp .NotEq (.call "jacobi_small" (.cons (.nm 4) (.cons (.nm 2) (.cons (.nm 3) .nil)))) (.call "_law_sign" (.cons (.nm 4) (.cons (.nm 1) .nil)))) (.cmp .NotEq (.call "rest_small" (.cons (.nm 2) (.cons (.bin .Add (.int 61) (.nm 4)) (.cons (.nm 3) .nil)))) (.bin .Mod (.nm 1) (.bin .Add (.int 61) (.nm 4))))) (.ret (.bool false)) .nil (.set 6 (.call "_law_number" (.cons (.call "root_whole" (.cons (.nm 2) (.cons (.nm 3) (.cons (.gf "_law_divrem") .nil)))) (.cons (.nm 3) .nil))) (.ite (.not (.raw (notT (stAt (dN 72).body 3)))) (.ret (.bool false)) .nil (.ite (.cmp .NotEq (.call "is_square_row" (.cons (.nm 2) (.cons (.nm 3) (.cons (.gf "_law_mul") (.cons (.gf "_law_divrem") .nil))))) (.cmp .Eq (.bin .Mult (.nm 6) (.nm 6)) (.nm 1))) (.ret (.bool false)) .nil (.set 7 (.call "_law_number" (.cons (.call "next_prime" (.cons (.call "_law_row" (.cons (.nm 5) (.cons (.nm 3) .nil))) (.cons (.nm 3) (.cons (.gf "_law_mul") (.cons (.gf "_law_divrem") .nil))))) (.cons (.nm 3) .nil))) (.ret (.and (.cmp .Gt (.nm 7) (.nm 5)) (.cmp .Eq (.raw (cmpL (lastRet (dN 72).body))) (.lst (.cons (.nm 7) .nil)))))))))))
theorem o_signs:FOk 72 "_law_signs_right" ("box" :: ["n","row","w"]) ["number","start","root","later"] ["box"] 0 ir_signs:=⟨by kernel_rfl,by kernel_rfl,⟨by kernel_rfl,by kernel_rfl⟩,by decide⟩
section
variable {G:Gd} {Φ:Fm} {k:Nat} {ρ:Loc} {β:List V}
theorem sg_between {Kt Kf} {r n:Int} (h1:(("root" : Str),Cell.val (.int r))∈ρ) (h2:(("n" : Str),Cell.val (.int n))∈ρ) (sr:Sm r) (sr1:Sm (r + 1)) (hl:r * r<=n) (hh:n < (r + 1) * (r + 1)) (hk:Kt β):WT G Φ k (notT (stAt (dN 72).body 3)) ρ β Kt Kf:=by
  refine WT_chain (WE_mul (WE_name h1 (WE_name h1 (int2_ok ⟨sr,sr,WE_name h2 ⟨_,cmp_le G _ _,λ z=>absurd hl (of_decide_eq_false z),λ _=>?_⟩⟩)))) rfl
  exact WE_mul (WE_add (WE_name h1 (WE_int (int2_ok (WE_add (WE_name h1 (WE_int (int2_ok (int2_ok ⟨sr1,sr1,_,cmp_lt G _ _,λ _=>hk,λ z=>absurd hh (of_decide_eq_false z)⟩)))))))))
open Classical in
theorem sg_comp (pg:PG G) {K} {x y:Nat} (hΦ:Φ.scope=(dN 72).scope) (hpl:Φ.plain=true) (h1:(("start" : Str),Cell.val (.int x))∈ρ) (h2:(("later" : Str),Cell.val (.int y))∈ρ) (hxy:x < y) (hyl:y < 10000) (hyp:Pr y) (hyn:∀ z:Nat,x < z->z < y->¬ Pr z) (hk:K (IL [(y:Int)]) β) :
    WE G Φ (k + 2) (cmpL (lastRet (dN 72).body)) ρ β K:=by
  obtain ⟨sc,ks,pl,cd⟩:=Φ
  obtain rfl:sc=_:=hΦ
  refine WE_comp [] [] hpl (by kernel_rfl) trivial ?_
  refine WI_range pg (by kernel_rfl) rfl (WL_cons (WE_add (WE_name h1 (WE_int (int2_ok (WL_cons (WE_add (WE_name h2 (WE_int (int2_ok (WL_nil ⟨_,_,_,.two (by omega) (by omega) (by omega) (by omega),?_⟩))))) rfl))))) rfl)
  have hm:((y:Int) + 1 - (x + 1)).toNat=y - x:=by omega
  rw [hm]
  have hat:∀ i:Nat,i < y - x->(rng ((x:Int) + 1) 1 (y - x))[i]?=some (.int ((x + 1 + i:Nat):Int)):=λ i hi=>by
    rw [rng_get,if_pos hi,Int.mul_one]; rfl
  have hln:(rng ((x:Int) + 1) 1 (y - x)).length=y - x:=rng_length ..
  refine ⟨by rw [hln]; omega,λ i ρ ys=>∃ c:Cell,c.isRo=false/\ρ=([("one",c)]:Loc)/\ys=if i < y - x then [] else [.int y],⟨.un,rfl,rfl,by rw [if_pos (by omega)]⟩,?_,?_⟩
  . rintro i v ρ1 ys hv ⟨c,hc,rfl,rfl⟩
    have hi:i < y - x:=by
      have:=(List.getElem?_eq_some_iff.mp hv).1
      rwa [hln] at this
    rw [hat i hi] at hv
    obtain rfl:=Option.some.inj hv
    refine ⟨c,_,.here,hc,?_⟩
    have sp:=sp_law_is_prime pg (nn (x + 1 + i)) (show ((x + 1 + i:Nat):Int) < 2 ^ 60 by omega)
    unfold Ca at sp
    refine WT_blC (WE_fnI .c_law_is_prime pg (by kernel_rfl) rfl (WL_cons (WE_name (.head _) (WL_nil ((sp.le (Nat.le_add_left 2 k)).mono ?_))) rfl))
    rintro _ ⟨_,rfl,rfl⟩
    refine ⟨_,rfl,λ h=>⟨rfl,WE_name (.head _) ⟨rfl,.val (.int ((x + 1 + i:Nat):Int)),rfl,rfl,?_⟩⟩,λ h=>⟨rfl,.val (.int ((x + 1 + i:Nat):Int)),rfl,rfl,?_⟩⟩
    . have hpr:Pr ((x + 1 + i:Nat):Int):=of_decide_eq_true h
      have hiy:x + 1 + i=y:=by
        rcases Nat.lt_or_ge (x + 1 + i) y with z | z
        . exact absurd hpr (hyn _ (by omega) z)
        . omega
      rw [if_pos hi,if_neg (by omega),hiy]; rfl
    . have hpr:¬ Pr ((x + 1 + i:Nat):Int):=of_decide_eq_false h
      have hiy:x + 1 + i≠y:=λ e=>hpr (e ▸ hyp)
      rw [if_pos hi,if_pos (by omega)]
  rintro ρ1 ys ⟨c,hc,rfl,rfl⟩
  rw [hln,if_neg (by omega)]
  exact hk
end
theorem root_9 {t n:Int} (t0:0<=t) (h:t * t<=n) (hn:n < 2 ^ 16):t < 2 ^ 9:=by
  rcases Int.lt_or_le t (2 ^ 9) with z | z
  . exact z
  . have:=Int.mul_le_mul z z (by decide) t0; omega
theorem np_y {x y:Nat} (hx:x < 4000) (hy5:y < 5000) (hy:2<=x->NPH x y) (hy2:x < 2->y=2):x < y/\y < 10000/\Pr y/\∀ z:Nat,x < z->z < y->¬ Pr z:=by
  by_cases z:2<=x
  . exact ⟨(hy z).gt,by omega,(hy z).pr,(hy z).no⟩
  . obtain rfl:=hy2 (by omega)
    exact ⟨by omega,by decide,⟨by decide,λ e h1 h2=>by omega⟩,λ z h1 h2 h=>by have:=h.1; omega⟩
open Classical in
theorem sp_law_signs_right {G:Gd} (pg:PG G) {C CR:Addr} (hM:IsCls G cM C) (hR:IsCls G cR CR) (mt:MT G) {w n:Nat} {β:SL} (hw:5<=w) (hw':w<=9) (hn:3<=n) (hn':n < 2 ^ 16) (ho:n % 2=1)
    (hj:∀ d r s:Int,-60<=d->d < 60->JS d n r->LG d n s->r=s) (hp:∀ x:Nat,x < 4000->∃ y:Nat,y < 5000/\(2<=x->NPH x y)/\(x < 2->y=2)) (hb:BxS β) :
    CaIO G 14 (fnv G "_law_signs_right") β [.int n,rS w n,.int w] (λ v b=>v=.bool true):=by
  have nok:NOk w n:=⟨Nat.le_trans (by decide) hw,hw',by omega,by omega⟩
  have n0:=nok.i0
  have n16:(n:Int) < 2 ^ 16:=Int.ofNat_lt.mpr hn'
  have n32:(n:Int) < 2 ^ 32:=Int.lt_trans n16 (by decide)
  refine CaIO.ofR λ K hK=>vdefIO pg o_signs rfl λ ab=>?_
  refine draw pg (by decide) (by decide) hb rfl λ d β hd hb=>draw pg (by decide) (by decide) hb rfl λ x β hx hb=>?_
  obtain ⟨x,rfl,hx4⟩:=toN (m:=4000) hx
  refine Jm.dup (Ca.toL (sp_jacobi_small pg nok.hw hw' (d:=d - 60) (by omega) n0 nok.n60) rfl λ r1 hr1=>?_)
  refine Ca.toL (sp_law_sign pg (d:=d - 60) n0 n32) rfl λ r2 hr2=>?_
  obtain rfl:=hj _ _ _ (by omega) (by omega) hr1 hr2
  have d61:0 < 61 + (d - 60):=by omega
  refine Br.mk (λ _=>Ca.eq (sp_rest_small pg nok.w1 nok.w60 (nn n) nok.n64 d61 (by omega)) rfl (And.intro d61 (Br.mk (λ _=>?_) λ z=>absurd rfl z))) λ z=>absurd rfl z
  clear hr1 hr2 hj d61
  refine Ca.to' (sp_root_whole pg nok.w1 nok.w60 (nn n) nok.n60) rfl ?_
  intro _ zQ1
  refine hid λ _ uQ=>?_
  obtain ⟨t,rfl,t0,t1,t2⟩:=zQ1
  refine uQ ?_
  have tb:=root_9 t0 t1 n16
  have st:=Sm.in ⟨t0,tb⟩ (Int.le_refl _) (by decide)
  refine Ca.eq (sp_law_number pg nok.w1 nok.w60 t0 (Int.lt_trans tb (by decide))) rfl ?_
  refine Jm.dup (sg_between (.tail _ (.tail _ (.tail _ (.tail _ (.tail _ (.tail _ (.head _))))))) (.tail _ (.head _)) st (Sm.of (by omega) (by omega)) t1 t2 ⟨β,rfl,?_⟩)
  have hsq:IsSq n ↔ t * t=n:=⟨λ z0=>z0.elim λ u hu=>sq_unique t0 t1 t2 hu,λ h=>⟨t,h⟩⟩
  refine Jm.dup (Ca.eq (sp_is_square_row pg nok.w1 nok.w60 (nn n) nok.n60) rfl (And.intro st (And.intro st (Br.mk (λ _=>?_) λ z=>absurd (decide_eq_decide.mpr hsq) z))))
  refine hid λ _ uQ=>?_
  obtain ⟨y,hy5,hy,hy2⟩:=hp x hx4
  obtain ⟨hxy,hyl,hyp,hyn⟩:=np_y hx4 hy5 hy hy2
  refine uQ ?_
  have x64:(x:Int) < 2 ^ 64:=by omega
  have y64:(y:Int) < 2 ^ 64:=by omega
  refine Ca.eq (sp_law_row pg nok.w1 nok.w64 (nn x) x64) rfl (Ca.eq (sp_next_prime pg hM hR mt (x:=x) nok.hw hw' (Nat.lt_trans hx4 (by decide)) hy hy2) rfl (Ca.eq (sp_law_number pg nok.w1 nok.w60 (nn y) y64) rfl ?_))
  refine Br.mk (λ _=>?_) λ z=>absurd (decide_eq_true (Int.ofNat_lt.mpr hxy)) z
  refine sg_comp (k:=11) pg rfl rfl (.tail _ (.tail _ (.tail _ (.tail _ (.tail _ (.head _)))))) (.tail _ (.tail _ (.tail _ (.tail _ (.tail _ (.tail _ (.tail _ (.head _)))))))) hxy hyl hyp hyn ⟨.il [(y:Int)],β,rfl,rfl,?_⟩
  refine And.intro (Nat.le_of_ble_eq_true rfl) (And.intro rfl (hK _ _ ?_))
  rw [decide_eq_true rfl]
end N27
noncomputable section N28
section
variable {G:Gd} {Φ:Fm} {k:Nat} {ρ ρ':Loc} {β:List V}
theorem specTl_def {d:DefRec} {ps ls:List Str} {xs:List V} (hd:IsDef G d) (fm:fmOk d.params d.scope ps ls=true) (hl:xs.length=ps.length)
    (h:WSsT G ⟨d.scope,ps ++ ls,true,none⟩ k d.body (ps.zip (xs.map .val) ++ ls.map (·,.un)) []):SpecTl G (k + 1) (fnv G d.name) xs :=
  λ A g s f vs Q E rm ok rf rs kk=>by
    obtain ⟨a,o,pm,cd,doc,e1,e2,e3,e4⟩:=hd
    obtain rfl:=rf.fnv_inv e1
    have old:∀ b o,G.gh.get? b=some o->s.heap.get? b=some o:=λ b o e=>ok.sub b o (ok.gnd b o e)
    refine enterR (Φ:=⟨d.scope,ps ++ ls,true,none⟩) (β:=[]) (Xs:=[]) (cs:=xs.map .val) (λ fl s'=>fl=.ret (.bool true)/\∃ h' tk,s'=at_ s h' tk/\Tl G h') (λ _ _ _=>False) rm ok (old _ _ e2) e3 (fmOk_parts fm) (e4.keeps old) (.vals rs) (by rw [rs.length,hl]) (by rw [addrsAll_none]; exact .nil) .nil (by rw [List.append_nil]; rfl) ?_ ?_ (λ _ _ _ z=>z.elim)
    . intro env h1 rm1 eo iv grow hcl mutE tk1 Q' E' hq _
      exact h (A.deeper env) env g _ Q' E' rm1 eo (by simpa using iv) λ h' tk t=>hq _ _ ⟨rfl,h',tk,rfl,t⟩
    . rintro fl s' ⟨rfl,h',tk,rfl,t⟩
      exact kk h' tk t
theorem WSsT_box {x:Str} {a:Addr} {xs:List V} {st:List Stmt} (hset:SetAt x (.box a) ρ (.own a xs) ρ') (hnb:∀ p∈ρ,∀ b,p.2≠.box b) (h:WSsT G Φ k st ρ' xs):WSsT G Φ k st ρ β :=
  λ A env g s Q E rm eo iv kk=>by
    have hm:=hset.mem_old
    refine hid λ _ uQ=>?_
    obtain ⟨m,hn,hc⟩:=iv.ns
    obtain ⟨hsl,vs,n,ea,la⟩:=hc _ hm
    refine uQ ?_
    have ndk:(ρ.map (·.1)).Nodup:=by rw [iv.keys]; exact eo.nodup
    have mg:∀ b,Mut env ρ' b->Mut env ρ b:=λ b hb=>by
      rcases hb with rfl | ⟨p,hp,z⟩
      . exact .inl rfl
      . rcases hset.of_mem ndk p hp with rfl | ⟨q,hne⟩
        . exact .inr ⟨_,hm,z⟩
        . exact .inr ⟨p,q,z⟩
    have iv':Inv G Φ env ρ' xs g s.heap:=by
      refine ⟨iv.ok,⟨m,hn,λ p hp=>?_⟩,λ b hb=>iv.off b (mg b hb),hset.keys.trans iv.keys,(hset.addrs_same rfl) ▸ iv.apart⟩
      rcases hset.of_mem ndk p hp with rfl | ⟨q,_⟩
      . exact ⟨hsl,vs,n,ea,la⟩
      . have:=hc p q
        have nb:=hnb p q
        obtain ⟨y,c⟩:=p
        cases c with
        | box b=>exact absurd rfl (nb b)
        | _=>exact this
    exact h A env _ s Q E rm eo iv' kk
theorem WSsT_if {t:Expr} {a rest:List Stmt} {pos:Pos} (h:WT G Φ k t ρ β (λ β1=>WSsT G Φ k a ρ β1) (λ β1=>WSsT G Φ k rest ρ β1)):WSsT G Φ k (.If t a [] pos :: rest) ρ β :=
  λ A env g s Q E rm eo iv kk=>wpAny_execs_cons (wpAny_If (h A env g s _ E rm eo iv λ c β1 g1 h1 tk1 ht hf iv1 st1=>by
    cases c with
    | true=>exact ht rfl A env g1 _ _ E (rm.step st1) eo iv1 λ h' tk t=>kk h' tk t
    | false=>exact wpAny_execs_nil (hf rfl A env g1 _ _ E (rm.step st1) eo iv1 λ h' tk t=>kk h' tk t)))
end
open Classical in
structure AllP (n:Nat):Prop where
  tri:∀ l:Int,Lst n l->tri n p60=if l<=60/\l < n then .int l else .none
  ip:∀ b:Int,0<=b->b < 300->IPH n [b]
  ip0:IPH n []
  np:∃ (mm:Nat) (r:Int),NP n mm r
  js:∀ d r s:Int,-60<=d->d < 60->JS d n r->LG d n s->r=s
theorem Dn.lt {n:Nat} (h:Dn n):3<=n/\n<=40401/\n % 2=1:=by
  have od:∀ a b:Nat,a < 100->b < 100->3<=(3 + 2 * a) * (3 + 2 * b)/\(3 + 2 * a) * (3 + 2 * b)<=40401/\(3 + 2 * a) * (3 + 2 * b) % 2=1:=λ a b ha hb =>
    ⟨Nat.le_trans (by decide) (Nat.mul_le_mul (Nat.le_add_right 3 (2 * a)) (Nat.le_add_right 3 (2 * b))),Nat.mul_le_mul (show 3 + 2 * a<=201 by omega) (show 3 + 2 * b<=201 by omega),by rw [Nat.mul_mod,Nat.add_mul_mod_self_left,Nat.add_mul_mod_self_left]⟩
  cases h with
  | sq a h=>exact od a a h h
  | pr a b h g=>exact od a b h g
  | nr j h=>omega
  | an j h=>omega
theorem pr_nat {n:Nat}:Pr n ↔ 2<=n/\∀ e:Nat,e < n->2<=e->n % e≠0:=by
  constructor
  . rintro ⟨h,c⟩
    exact ⟨Int.ofNat_le.mp h,λ e h1 h2 h3=>c e (Int.ofNat_le.mpr h2) (Int.ofNat_lt.mpr h1) (by rw [<- Int.natCast_emod,h3]; rfl)⟩
  . rintro ⟨h,c⟩
    refine ⟨Int.ofNat_le.mpr h,λ e h1 h2 h3=>?_⟩
    obtain ⟨e,rfl⟩:=Int.eq_ofNat_of_zero_le (Int.le_trans (by decide) h1)
    exact c e (Int.ofNat_lt.mp h2) (Int.ofNat_le.mp h1) (Int.ofNat.inj ((Int.natCast_emod n e).trans h3))
theorem p60_pr:∀ i:Nat,i < 61->(Pr i ↔ (i:Int)∈p60):=by
  have:∀ i:Nat,i < 61->((2<=i/\∀ e:Nat,e < i->2<=e->i % e≠0) ↔ (i:Int)∈p60):=by decide +kernel
  intro i hi
  rw [pr_nat]
  exact this i hi
theorem p60_all:((List.range 61).map λ i:Nat=>(i:Int)).filter (λ z=>decide (z∈p60))=p60:=by decide
theorem f_law:fmOk (dN 73).params (dN 73).scope ["script"] ["box","w","n","form","row","least","few"]=true:=by kernel_rfl
noncomputable def neqR (s:Stmt):Expr:=kd 1 (sk 0 s)
noncomputable abbrev ksL:List Str:=["script","box","w","n","form","row","least","few"]
noncomputable def ir_law1:IS:=(.set3 2 3 4 (.bin .Add (.int 5) (.io "_law_draw" (.cons (.int 5) .nil))) (.io "_law_drawn" .nil) (.io "_law_draw" (.cons (.int 3) .nil)) (.set2 5 6 (.call "_law_row" (.cons (.nm 3) (.cons (.nm 2) .nil))) (.call "_law_least" (.cons (.nm 3) .nil)) (.ite (.cmp .NotEq (.call "trial" (.cons (.nm 5) (.cons (.nm 2) (.cons (.int 60) .nil)))) (.ite (.and (.cmp .LtE (.nm 6) (.int 60)) (.cmp .Lt (.nm 6) (.nm 3))) (.nm 6) .none)) (.ret (.bool false)) .nil (.ite (.cmp .Eq (.nm 4) (.int 0)) (.set 7 (.ite (.cmp .Eq (.io "_law_draw" (.cons (.int 2) .nil)) (.int 0)) (.lst (.cons (.call "_law_row" (.cons (.io "_law_draw" (.cons (.int 300) .nil)) (.cons (.nm 2) .nil))) .nil)) (.lst .nil)) (.ret (.cmp .Eq (.call "is_probable" (.cons (.nm 5) (.cons (.nm 2) (.cons (.nm 7) (.cons (.gf "_law_mul") (.cons (.gf "_law_divrem") .nil)))))) (.call "_law_is_prime" (.cons (.nm 3) .nil))))) .nil .nil))))
theorem o_law1:Fits ⟨ksL,(dN 73).scope,1⟩ ir_law1 (((dN 73).body.drop 1).take 4):=⟨by kernel_rfl,by kernel_rfl⟩
noncomputable def ir_law2:IS:=(.ite (.cmp .NotEq (.call "small_primes" (.cons (.int 60) .nil)) (.raw (neqR (stAt (dN 73).body 6)))) (.ret (.bool false)) .nil (.ret (.io "_law_signs_right" (.cons (.nm 3) (.cons (.nm 5) (.cons (.nm 2) .nil))))))
theorem o_law2:Fits ⟨ksL,(dN 73).scope,1⟩ ir_law2 (((dN 73).body.drop 6).take 2):=⟨by kernel_rfl,by kernel_rfl⟩
theorem tri_ne {a b:SV} {A B:Prop} (e:a=b) (hc:b=.none\/∃ i,b=.int i) (h:B):vNe a b A B:=by
  subst e
  rcases hc with rfl | ⟨i,rfl⟩
  . exact h
  . exact Br.mk (λ _=>h) λ z=>absurd rfl z
open Classical in
theorem sg_primes {G:Gd} (pg:PG G) {Φ:Fm} {k:Nat} {ρ:Loc} {β:List V} {K} (hΦ:Φ.scope=(dN 73).scope) (hpl:Φ.plain=true) (hk:K (IL p60) β):WE G Φ (k + 2) (neqR (stAt (dN 73).body 6)) ρ β K:=by
  obtain ⟨sc,ks,pl,cd⟩:=Φ
  obtain rfl:sc=_:=hΦ
  refine WE_comp [] [] hpl (by kernel_rfl) trivial ?_
  refine WI_range pg (by kernel_rfl) rfl (WL_cons (WE_int (WL_nil ⟨_,_,_,.one (n:=61) (by decide),?_⟩)) rfl)
  have hat:∀ i:Nat,i < 61->(rng 0 1 61)[i]?=some (.int (i:Int)):=λ i hi=>by
    rw [rng_get,if_pos hi,Int.mul_one,Int.zero_add]
  have hln:(rng 0 1 61).length=61:=rng_length ..
  refine ⟨by rw [hln]; decide,λ i ρ ys=>∃ c:Cell,c.isRo=false/\ρ=([("one",c)]:Loc)/\ys=((((List.range i).map λ i:Nat=>(i:Int)).filter λ z=>decide (z∈p60)).map .int),⟨.un,rfl,rfl,rfl⟩,?_,?_⟩
  . rintro i v ρ1 ys hv ⟨c,hc,rfl,rfl⟩
    have hi:i < 61:=by
      have:=(List.getElem?_eq_some_iff.mp hv).1
      rwa [hln] at this
    rw [hat i hi] at hv
    obtain rfl:=Option.some.inj hv
    have hpi:=p60_pr i hi
    refine ⟨c,_,.here,hc,?_⟩
    have sp:=sp_law_is_prime pg (nn i) (show (i:Int) < 2 ^ 60 by omega)
    unfold Ca at sp
    refine WT_blC (WE_fnI .c_law_is_prime pg (by kernel_rfl) rfl (WL_cons (WE_name (.head _) (WL_nil ((sp.le (Nat.le_add_left 2 k)).mono ?_))) rfl))
    rintro _ ⟨_,rfl,rfl⟩
    refine ⟨_,rfl,λ h=>⟨rfl,WE_name (.head _) ⟨rfl,.val (.int (i:Int)),rfl,rfl,?_⟩⟩,λ h=>⟨rfl,.val (.int (i:Int)),rfl,rfl,?_⟩⟩
    . have:=hpi.mp (of_decide_eq_true h)
      rw [List.range_succ,List.map_append,List.filter_append,List.map_append,List.map_singleton,List.filter_cons_of_pos (p:=λ z=>decide (z∈p60)) (decide_eq_true this)]; rfl
    . have:¬ (i:Int)∈p60:=λ z=>of_decide_eq_false h (hpi.mpr z)
      rw [List.range_succ,List.map_append,List.filter_append,List.map_append,List.map_singleton,List.filter_cons_of_neg (p:=λ z=>decide (z∈p60)) (λ z=>this (of_decide_eq_true z))]; exact (List.append_nil _).symm
  rintro ρ1 ys ⟨c,hc,rfl,rfl⟩
  rw [hln,p60_all]
  exact hk
open Classical in
theorem specTl_law {G:Gd} (pg:PG G) {CE C CR:Addr} (hE:IsExc G "OutOfRange" CE) (hM:IsCls G cM C) (hR:IsCls G cR CR) (mt:MT G) (tt:TT G) (hall:∀ n,Dn n->AllP n) (hp:∀ x:Nat,x < 4000->∃ y:Nat,y < 5000/\(2<=x->NPH x y)/\(x < 2->y=2)) {s:List Int} (hs:s.length<=1000) :
    SpecTl G 15 (fnv G "law") [IL s]:=by
  rw [<- n_law]
  refine specTl_def (d_law pg) f_law rfl ?_
  refine WSsT_cons (WS_assign (WR_fno (pg.d (by decide)) n_law_box (by kernel_rfl) rfl (WL_cons (WE_name (.head _) (WL_cons (WE_int (WL_nil ((sp_law_box (k:=13) pg hs).mono ?_))) rfl)) rfl)) rfl rfl)
  rintro bx ⟨β,rfl,hb⟩ ab
  refine ⟨_,_,.there .here,rfl,?_⟩
  refine WSsT_box (ρ':=loc ksL [.v (.il s),.box ab,.un,.un,.un,.un,.un,.un]) (.there .here) (λ p hp b h=>?_) ?_
  . have:([("script",.val (IL s)),("box",.own ab β.den),("w",.un),("n",.un),("form",.un),("row",.un),("least",.un),("few",.un)]:Loc).all (λ p=>match p.2 with | .box _=>false | _=>true)=true:=rfl
    have:=List.all_eq_true.mp this p hp
    rw [h] at this; cases this
  have nb:∀ {ρ:En} {i:Nat} {a:Addr},(ρ.set 1 .un).all nbx=true->ρ[i]?=some (.box a)->i=1:=λ {ρ i a} h e=>by
    rcases Nat.decEq i 1 with z | z
    . have:(ρ.set 1 .un)[i]?=some (.box a):=by rw [List.getElem?_set_ne (λ q=>z q.symm)]; exact e
      exact Bool.noConfusion (List.all_eq_true.mp h _ (List.mem_of_getElem? this))
    . exact z
  refine vTl pg 4 ((dN 73).body.drop 1) (bx:=1) o_law1 rfl (λ i a=>nb rfl) ?_
  refine draw pg (by decide) (by decide) hb rfl λ i β hi hb=>?_
  refine CaIO.to' (sp_law_drawn pg hb) rfl ?_
  rintro _ β ⟨⟨n,rfl,hn⟩,hb⟩
  refine draw pg (by decide) (by decide) hb rfl λ form β hf hb=>?_
  obtain ⟨w,hw⟩:∃ w:Nat,5 + i=(w:Int):=⟨(5 + i).toNat,by omega⟩
  have hw5:5<=w:=by omega
  have hw9:w<=9:=by omega
  show vs _ _ ([_,_,SC.v (.int (5 + i)),_,_,_,_,_]:En) _ _ _ _
  rw [hw]
  clear hw hi
  have ap:=hall n hn
  obtain ⟨n3,nl,no⟩:=hn.lt
  have hn17:n < 2 ^ 17:=by omega
  have hn16:n < 2 ^ 16:=by omega
  have nok:NOk w n:=⟨Nat.le_trans (by decide) hw5,hw9,by omega,hn17⟩
  refine Ca.eq (sp_law_row pg nok.w1 nok.w64 (nn n) nok.n64) rfl (Ca.toL (sp_law_least pg (nn n) nok.n60) rfl λ l hl=>?_)
  have str:=sp_trial pg nok.w1 nok.w60 (nn n) nok.n60
  rw [ap.tri l hl] at str
  refine Jm.c0 β [.v (.il s),.box ab,.v (.int w),.v (.int n),.v (.int form),.v (rS w n),.v (.int l),.un] True (λ Q hQ=>Ca.eq str rfl (Jn.c0 β (if l<=60/\l < n then .int l else .none) (λ Q2 hQ2=>?_) (tri_ne rfl ?_ (hQ trivial)))) λ _=>?_
  . refine Br.mk (λ h1=>Br.mk (λ h2=>?_) λ h2=>?_) λ h1=>?_
    . rw [if_pos ⟨h1,h2⟩] at hQ2; exact hQ2
    . rw [if_neg λ z=>h2 z.2] at hQ2; exact hQ2
    . rw [if_neg λ z=>h1 z.1] at hQ2; exact hQ2
  . split
    . exact .inr ⟨_,rfl⟩
    . exact .inl rfl
  clear str hl hn
  have ipT:∀ {c:Bool},(SV.bool (c == c))=.bool true:=λ {c}=>congrArg SV.bool (beq_self_eq_true c)
  refine Jm.dup (Br.mk (λ _=>?_) λ _=>?_)
  . refine Jn.dup (draw pg (by decide) (by decide) hb rfl λ b β hb2 hb=>Br.mk (λ _=>draw pg (by decide) (by decide) hb rfl λ b β hb3 hb=>?_) λ _=>?_)
    . refine Ca.eq (sp_law_row pg nok.w1 nok.w64 hb3.1 (by omega)) rfl (And.intro (Nat.le_of_ble_eq_true rfl) ?_)
      refine Ca.eq (sp_is_probable pg hM hR mt (bs:=[b]) nok.hw hw9 hn17 (λ z hz=>by rw [List.mem_singleton] at hz; omega) (Nat.le_of_ble_eq_true rfl) (ap.ip b hb3.1 hb3.2)) rfl ?_
      exact Ca.eq (sp_law_is_prime pg (nn n) nok.n60) rfl ipT
    . refine And.intro (Nat.zero_le _) ?_
      refine Ca.eq (sp_is_probable pg hM hR mt (bs:=[]) nok.hw hw9 hn17 (λ z hz=>nomatch hz) (by decide) ap.ip0).no rfl ?_
      exact Ca.eq (sp_law_is_prime pg (nn n) nok.n60) rfl ipT
  obtain ⟨mm,r,np⟩:=ap.np
  refine WSsT_if (WT_eq rfl (WE_name (.tail _ (.tail _ (.tail _ (.tail _ (.head _))))) (WE_int (int2_cmp (λ _=>?_) λ _=>?_))))
  . refine WSsT_retbox (.tail _ (.head _)) (WE_fnv (d_law_tests_right pg) n_law_tests_right (by kernel_rfl) ⟨n_law_tests_right ▸ (d_law_tests_right pg).isFn.1,?_⟩) rfl
    exact WL_cons (WE_name (.tail _ (.tail _ (.tail _ (.head _)))) (WL_cons (WE_name (.tail _ (.tail _ (.tail _ (.tail _ (.tail _ (.head _)))))) (WL_cons (WE_name (.tail _ (.tail _ (.head _))) (WL_nil ((specTlB_tests_right pg hE hM hR mt tt hw5 hw9 n3 hn16 no np hb).le (by decide)))) rfl)) rfl)) rfl
  refine vTl pg 2 ((dN 73).body.drop 6) (bx:=1) (ρ:=[.v (.il s),.box ab,.v (.int w),.v (.int n),.v (.int form),.v (rS w n),.v (.int l),.un]) o_law2 rfl (λ i a=>nb rfl) ?_
  refine Jm.dup (Ca.eq (sp_small_primes pg) rfl (sg_primes (k:=12) pg rfl rfl ⟨.il p60,β,rfl,rfl,Br.mk (λ _=>?_) λ z=>absurd rfl z⟩))
  exact CaIO.to' (sp_law_signs_right pg hM hR mt hw5 hw9 n3 hn16 no ap.js hp hb) rfl λ s b h=>h
end N28
noncomputable section H5
section
variable {h:Heap} {tabs:List (Addr × Addr)} (hT:TabsAt tabs h)
include hT
theorem func_ghost {f:Addr} {o:Obj} {fd:FuncData} (e:h.get? f=some o) (d:o.data=.func fd):(ghostOf h tabs).get? f=some o :=
  ghost_get hT e λ k=>by rw [k] at d; cases d
theorem codeRec_ghost {cd:Value} {q:Str} (x:h.CodeRec cd q):(ghostOf h tabs).CodeRec cd q:=by
  refine hid λ _ uQ=>?_
  obtain ⟨c,o,vs,t,e,g,d,z⟩:=x
  refine uQ ?_
  refine ⟨c,o,vs,t,e,ghost_get hT g λ k=>?_,d,z⟩
  rw [k] at d; cases d; cases z
theorem cls_ghost {C N:Addr} {mN:Str->Option Value} (x:ClsAt h C N mN):ClsAt (ghostOf h tabs) C N mN :=
  ⟨x.obj.imp λ nm=>Exists.imp λ q=>Exists.imp λ bs=>Exists.imp λ sn=>Exists.imp λ sub=>Exists.imp λ col=>Exists.imp λ dd=>Exists.imp λ k0=>Exists.imp λ k1=>Exists.imp λ k2=>Exists.imp λ k3=>Exists.imp λ k5=>λ e=>ghost_get hT e nofun,ghost_ns hT x.ns⟩
theorem plain_ghost {c:ClsRec} {C N:Addr} {mN:Str->Option Value} (x:PlainAt h c C N mN):PlainAt (ghostOf h tabs) c C N mN:=by
  refine ⟨cls_ghost hT x.cls,x.quiet,λ m hm=>?_⟩
  refine hid λ _ uQ=>?_
  obtain ⟨f,o,pm,cd,doc,h1,h2,h3,h4,h5⟩:=x.meths m hm
  refine uQ ?_
  exact ⟨f,o,pm,cd,doc,h1,func_ghost hT h2 h4,h3,h4,codeRec_ghost hT h5⟩
theorem tail_ghost {bm tl:List Value} (x:OwnTailQ h bm tl):OwnTailQ (ghostOf h tabs) bm tl:=by
  induction x with
  | base=>exact .base
  | own hA hN hq _ ih=>exact .own (ghost_get hT hA nofun) (ghost_ns hT hN) hq ih
theorem exc_ghost {x:Str} {C:Addr} {bm:List Value} {n:String} {mg:Str->Option Value} (e:OwnClsQ x C bm n mg h):OwnClsQ x C bm n mg (ghostOf h tabs) :=
  ⟨e.bound,e.obj.imp λ bm=>Exists.imp λ N=>Exists.imp λ nm=>Exists.imp λ q=>Exists.imp λ bs=>Exists.imp λ hd=>Exists.imp λ sn=>Exists.imp λ sub=>Exists.imp λ ab=>Exists.imp λ col=>Exists.imp λ dd=>Exists.imp λ k0=>Exists.imp λ k1=>Exists.imp λ k2=>Exists.imp λ k3=>Exists.imp λ k5=>Exists.imp λ mN=>λ h=>⟨ghost_get hT h.1 nofun,ghost_ns hT h.2.1,h.2.2.1,tail_ghost hT h.2.2.2⟩⟩
theorem bmain_ghost {mg:Str->Option Value} (x:∃ bm ob,mg "__builtins__" = some (.ref bm)/\bm≠builtinsNs/\h.get? bm=some ob/\ob.cls=.type "module" /\ ob.dict=some builtinsNs/\ob.data=.plain) :
    ∃ bm ob,mg "__builtins__" = some (.ref bm)/\bm≠builtinsNs/\(ghostOf h tabs).get? bm=some ob/\ob.cls=.type "module" /\ ob.dict=some builtinsNs/\ob.data=.plain:=by
  refine hid λ _ uQ=>?_
  obtain ⟨bm,ob,a1,a2,a3,a4,r⟩:=x
  refine uQ ?_
  exact ⟨bm,ob,a1,a2,ghost_get hT a3 (λ q=>by rw [q] at a4; cases a4),a4,r⟩
end
theorem two_of {α:Type} {R:α->Prop} {x y:α} (hx:R x) (hy:R y):∀ q∈[x,y],R q:=List.forall_mem_cons.mpr ⟨hx,List.forall_mem_cons.mpr ⟨hy,List.forall_mem_nil _⟩⟩
section
variable {w:World} {s₀:Shared} {mg mb:Str->Option Value} {h:Heap} {q q':TabI}
noncomputable abbrev tb2 (q q':TabI):List (Addr × Addr):=[(q.c,q.P),(q'.c,q'.P)]
theorem tb2_at (t:TabFn mg h "mont_times" q.c q.P) (t':TabFn mg h "_law_tests_right" q'.c q'.P):TabsAt (tb2 q q') h:=by
  refine hid λ _ uQ=>?_
  obtain ⟨_,_,_,_,_,_,_,i,a⟩:=t
  obtain ⟨_,_,_,_,_,_,_,i',a'⟩:=t'
  refine uQ ?_
  exact two_of (R:=λ q:Addr × Addr=>CodeHd h q.1 q.2/\h.get? q.2=some (tabObj #[])) ⟨CodeHd.of i a,a.2⟩ ⟨CodeHd.of i' a',a'.2⟩
theorem inj2 (ne:q.P≠q'.P):∀ x∈[q,q'],∀ y∈[q,q'],x.P=y.P->x=y :=
  two_of (R:=λ x=>∀ y∈[q,q'],x.P=y.P->x=y) (two_of (R:=λ y=>q.P=y.P->q=y) (λ _=>rfl) λ e=>absurd e ne) (two_of (R:=λ y=>q'.P=y.P->q'=y) (λ e=>absurd e.symm ne) λ _=>rfl)
noncomputable def theGd (w:World) (T:Top vw (looseW vw []) (ExcName.means s₀.heap) mg mb h) (hT:TabsAt (tb2 q q') h) (ne:q.P≠q'.P):Gd where
  prog:=prg
  w:=w
  K:=[]
  gh:=ghostOf h (tb2 q q')
  mg:=mg
  mb:=mb
  kin:=λ a o e=>by cases e
  ng:=ghost_ns hT T.g
  nb:=ghost_ns hT T.b
  nolim:=T.nolimit.elim λ mc a=>⟨mc,ghost_ns hT a.1,a.2⟩
  blt:=T.builtins
  bmain:=bmain_ghost hT T.bmain
  tabs:=[q,q']
  codes:=two_of (R:=λ x:TabI=>CodeHd (ghostOf h (tb2 q q')) x.c x.P) (ghost_code hT).1 (ghost_code hT).2.1
  tabOff:=two_of (R:=λ x:TabI=>(ghostOf h (tb2 q q')).get? x.P=none) (hideAll_none _ (.head _)) (hideAll_none _ (.tail _ (.head _)))
  tabInj:=inj2 ne
variable (T:Top vw (looseW vw []) (ExcName.means s₀.heap) mg mb h) (hT:TabsAt (tb2 q q') h) (ne:q.P≠q'.P)
theorem gd_def {d:DefRec} (hd:d∈recsOf vw):IsDef (theGd w T hT ne) d:=by
  refine hid λ _ uQ=>?_
  obtain ⟨a,o,pm,cd,doc,h1,h2,h3,h4⟩:=T.fn d hd
  refine uQ ?_
  exact ⟨a,o,pm,cd,doc,h1,func_ghost hT h2 h3,h3,codeRec_ghost hT h4⟩
theorem gd_defT {d:DefRec} (hd:d∈recsOf vw) {x:TabI} (hq:x∈[q,q']) (t:TabFn mg h d.name x.c x.P):IsDefT (theGd w T hT ne) d x:=by
  refine hid λ _ uQ=>?_
  obtain ⟨a,o,pm,cd,doc,h1,h2,h3,h4⟩:=T.fn d hd
  obtain ⟨a',o',fd,e1,e2,e3,e4,_,_⟩:=t
  refine uQ ?_
  cases Option.some.inj (h1.symm.trans e1)
  cases Option.some.inj (h2.symm.trans e2)
  cases h3.symm.trans e3
  cases e4
  exact ⟨hq,a,o,pm,doc,h1,func_ghost hT h2 h3,h3,codeRec_ghost hT h4⟩
include T in
theorem gd_small:∃ t,mg "MOST_SMALL" = some (.int 60 t):=by
  obtain ⟨v,h1,h2⟩:=T.const "MOST_SMALL" (.int 60) (by kernel_rfl)
  generalize he:PyData.int 60=d at h2
  cases h2 h with
  | int i t=>cases he; exact ⟨t,h1⟩
  | _=>cases he
noncomputable def freeB (x:Str):Bool:=!startupNames.contains x && !(looseW vw []).contains x && !((recsOf vw).map (·.name)).contains x && !((litsOf vw).map (·.1)).contains x && !((clssOf vw (looseW vw [])).map (·.name)).contains x
theorem free_all:(["len","range","abs","max","int","all","enumerate","reversed"]:List Str).all freeB=true:=by kernel_rfl
theorem not_in {l:List Str} {x:Str} (e:(!l.contains x)=true):x ∉ l:=λ m=>by rw [List.contains_iff_mem.mpr m] at e; cases e
include T in
theorem gd_free (x:Str) (hx:x∈(["len","range","abs","max","int","all","enumerate","reversed"]:List Str)):mg x=none:=by
  have k:=List.all_eq_true.mp free_all x hx
  have k1:=Bool.and_eq_true_iff.mp k
  have k2:=Bool.and_eq_true_iff.mp k1.1
  have k3:=Bool.and_eq_true_iff.mp k2.1
  have k4:=Bool.and_eq_true_iff.mp k3.1
  exact T.free x (not_in k4.1) (not_in k4.2) (not_in k3.2) (not_in k2.2) (not_in k1.2)
theorem gd_cls {c:ClsRec} (hc:c∈plainsOf vw []) (X:TopE vw [] mg h):∃ C,IsCls (theGd w T hT ne) c C:=by
  obtain ⟨C,N,mN,h1,h2⟩:=X c hc
  exact ⟨C,h1,N,mN,plain_ghost hT h2.ofCmp⟩
theorem gd_pg:PG (theGd w T hT ne):=⟨λ d hd=>gd_def T hT ne hd,gd_free T,gd_small T⟩
end
end H5
noncomputable section O1
theorem Cl.mono {n d d':Int} (h:Cl n d) (l:d'<=d):Cl n d':=λ e h1 h2=>h e h1 (Int.lt_of_lt_of_le h2 l)
theorem Cl.succ {n d:Int} (h:Cl n d) (h0:n % d≠0):Cl n (d + 1):=λ e h1 h2=>by
  rcases Int.lt_or_eq_of_le (Int.le_of_lt_add_one h2) with q | q
  . exact h e h1 q
  . exact q ▸ h0
theorem lst_from {n:Int}:∀ (k:Nat) (d:Int),2<=d->n<=d + k->Cl n d->∃ l,Lst n l
  | 0,d,hd,hn,h=>⟨n,h.mono (by omega),.inl rfl⟩
  | k + 1,d,hd,hn,h=>by
    rcases Int.lt_or_le d n with q | q
    . by_cases h0:n % d=0
      . exact ⟨d,h,.inr ⟨hd,q,h0⟩⟩
      . exact lst_from k (d + 1) (by omega) (by omega) (h.succ h0)
    . exact ⟨n,h.mono q,.inl rfl⟩
theorem lst_ex (n:Int):∃ l,Lst n l:=lst_from (n - 2).toNat 2 (Int.le_refl _) (by omega) λ e h1 h2=>by omega
theorem Lst.sq {n l:Int} (h:Lst n l) (hl:l < n) (hn:0 < n):2<=l/\n % l=0/\l * l<=n:=by
  rcases h.2 with q | ⟨h1,h2,h3⟩
  . omega
  . refine ⟨h1,h3,?_⟩
    obtain ⟨m,hm⟩:=Int.dvd_of_emod_eq_zero h3
    have hm0:0 < m:=Int.lt_of_mul_lt_mul_left (a:=l) (by rw [Int.mul_zero,<- hm]; exact hn) (by omega)
    rcases Int.lt_or_le m l with q | q
    . refine absurd (?_:n % m=0) (h.1 m ?_ q)
      . rw [hm]; exact Int.mul_emod_left l m
      . rcases Int.lt_or_le m 2 with z | z
        . have:m=1:=by omega
          rw [this] at hm; omega
        . exact z
    . rw [hm]; exact Int.mul_le_mul_of_nonneg_left q (by omega)
theorem Lst.ispr {n l:Int} (h:Lst n l) (hl:¬ l < n) (hn:2<=n):Pr n:=by
  rcases h.2 with q | ⟨h1,h2,h3⟩
  . exact ⟨hn,q ▸ h.1⟩
  . exact absurd h2 hl
theorem Lst.prime {n l:Int} (h:Lst n l) (hl:l < n) (hn:0 < n):Pr l:=by
  have hs:=h.sq hl hn
  refine ⟨hs.1,λ e h1 h2 h3=>h.1 e h1 h2 ?_⟩
  exact Int.emod_eq_zero_of_dvd (Int.dvd_trans (Int.dvd_of_emod_eq_zero h3) (Int.dvd_of_emod_eq_zero hs.2.1))
theorem tri_none {n:Int}:∀ {L:List Int},(∀ p∈L,n % p=0->n=p)->tri n L=.none
  | [],_=>rfl
  | p :: L,h=>by
    rw [tri_no (if z:n % p=0 then .inr (h p (.head _) z) else .inl z)]
    exact tri_none λ q hq=>h q (.tail _ hq)
theorem tri_some {n l:Int} (h0:n % l=0) (hne:n≠l):∀ {L:List Int},l∈L->L.Pairwise (· < ·)->(∀ p∈L,p < l->n % p≠0)->tri n L=.int l
  | [],h,_,_=>nomatch h
  | p :: L,h,hs,hc=>by
    rcases List.mem_cons.mp h with e | h
    . subst e; exact tri_hit h0 hne
    . have hp:=(List.pairwise_cons.mp hs).1 l h
      rw [tri_no (.inl (hc p (.head _) hp))]
      exact tri_some h0 hne h (List.pairwise_cons.mp hs).2 λ q hq=>hc q (.tail _ hq)
theorem p60_range:∀ p∈p60,2<=p/\p<=59:=by decide
theorem p60_sorted:p60.Pairwise (· < ·):=by decide
theorem pr_p60 {l:Int} (h:Pr l) (hl:l<=60):l∈p60:=by
  obtain ⟨i,rfl⟩:=Int.eq_ofNat_of_zero_le (Int.le_trans (by decide) h.1)
  exact (p60_pr i (by omega)).mp h
theorem tri_law {n l:Int} (hn:2<=n) (h:Lst n l):tri n p60=if l<=60/\l < n then .int l else .none:=by
  split
  . rename_i hl
    have hs:=h.sq hl.2 (by omega)
    exact tri_some hs.2.1 (by omega) (pr_p60 (h.prime hl.2 (by omega)) hl.1) p60_sorted λ p hp hlt=>h.1 p (p60_range p hp).1 hlt
  . rename_i hl
    refine tri_none λ p hp h0=>?_
    have hr:=p60_range p hp
    have hle:p<=n:=Int.le_of_dvd (by omega) (Int.dvd_of_emod_eq_zero h0)
    rcases Int.lt_or_eq_of_le hle with q | q
    . rcases Int.lt_or_le p l with z | z
      . exact absurd h0 (h.1 p hr.1 z)
      . exact absurd ⟨by omega,by omega⟩ hl
    . exact q.symm
theorem tri_pr {n:Int} (hn:2<=n) (p:Pr n):tri n p60=.none:=by
  rw [tri_law hn (l:=n) ⟨p.2,.inl rfl⟩,if_neg λ z=>Int.lt_irrefl _ z.2]
theorem tri_small {n:Int} (hn:2<=n) (hn':n < 3600):tri n p60=.none ↔ Pr n:=by
  refine ⟨λ e=>?_,tri_pr hn⟩
  obtain ⟨l,h⟩:=lst_ex n
  rw [tri_law hn h] at e
  by_cases hl:l < n
  . have hs:=h.sq hl (by omega)
    have:l<=60:=by
      rcases Int.lt_or_le 60 l with q | q
      . have:=Int.mul_le_mul (Int.le_of_lt q) (Int.le_of_lt q) (by decide) (by omega)
        omega
      . exact q
    rw [if_pos ⟨this,hl⟩] at e; cases e
  . exact h.ispr hl hn
end O1
noncomputable section O2
noncomputable def chs:Nat->Nat->Nat
  | _,0=>1
  | 0,_ + 1=>0
  | n + 1,k + 1=>chs n k + chs n (k + 1)
theorem chs_gt:∀ n k:Nat,n < k->chs n k=0
  | _,0,h=>absurd h (Nat.not_lt_zero _)
  | 0,_ + 1,_=>rfl
  | n + 1,k + 1,h=>by show chs n k + chs n (k + 1)=0; rw [chs_gt n k (Nat.lt_of_succ_lt_succ h),chs_gt n (k + 1) (Nat.lt_of_succ_lt h)]
theorem chs_self:∀ n:Nat,chs n n=1
  | 0=>rfl
  | n + 1=>by show chs n n + chs n (n + 1)=1; rw [chs_self n,chs_gt n (n + 1) (Nat.lt_succ_self n)]
theorem chs_zero:∀ n:Nat,chs n 0=1
  | 0=>rfl
  | _ + 1=>rfl
theorem chs_abs:∀ n k:Nat,(k + 1) * chs (n + 1) (k + 1)=(n + 1) * chs n k
  | 0,0=>rfl
  | 0,k + 1=>by show (k + 1 + 1) * (chs 0 (k + 1) + chs 0 (k + 1 + 1))=_; rfl
  | n + 1,0=>by
    have:=chs_abs n 0
    show (0 + 1) * (chs (n + 1) 0 + chs (n + 1) (0 + 1))=(n + 1 + 1) * chs (n + 1) 0
    rw [Nat.mul_add,this,chs_zero,chs_zero]; omega
  | n + 1,k + 1=>by
    have h1:=chs_abs n k
    have h2:=chs_abs n (k + 1)
    have e:chs (n + 1) (k + 1)=chs n k + chs n (k + 1):=rfl
    show (k + 1 + 1) * (chs (n + 1) (k + 1) + chs (n + 1) (k + 1 + 1))=(n + 1 + 1) * chs (n + 1) (k + 1)
    rw [Nat.mul_add,h2,Nat.add_mul (k + 1) 1,h1,Nat.add_mul (n + 1) 1,e,Nat.mul_add (n + 1)]; omega
noncomputable def bino (n a:Nat):Nat->Nat
  | 0=>0
  | m + 1=>bino n a m + chs n m * a ^ m
theorem bino_succ (n a:Nat):∀ m,bino (n + 1) a (m + 1)=bino n a (m + 1) + a * bino n a m
  | 0=>by show 0 + chs (n + 1) 0 * a ^ 0=0 + chs n 0 * a ^ 0 + a * 0; rw [chs_zero,chs_zero,Nat.mul_zero]; rfl
  | m + 1=>by
    have e:chs (n + 1) (m + 1)=chs n m + chs n (m + 1):=rfl
    show bino (n + 1) a (m + 1) + chs (n + 1) (m + 1) * a ^ (m + 1)=bino n a (m + 1) + chs n (m + 1) * a ^ (m + 1) + a * (bino n a m + chs n m * a ^ m)
    have e2:a * (chs n m * a ^ m)=chs n m * (a ^ m * a):=by rw [Nat.mul_left_comm,Nat.mul_comm a]
    rw [bino_succ n a m,e,Nat.add_mul,Nat.mul_add,e2,Nat.pow_succ]; omega
theorem bino_pow (a:Nat):∀ n,(a + 1) ^ n=bino n a (n + 1)
  | 0=>by show 1=0 + 1 * 1; rfl
  | n + 1=>by
    have h:bino n a (n + 1 + 1)=bino n a (n + 1):=by show bino n a (n + 1) + chs n (n + 1) * a ^ (n + 1)=_; rw [chs_gt n (n + 1) (Nat.lt_succ_self n),Nat.zero_mul]; rfl
    rw [Nat.pow_succ,bino_pow a n,bino_succ,h,Nat.mul_add,Nat.mul_one,Nat.mul_comm a,Nat.add_comm]
noncomputable def PrN (p:Nat):Prop:=2<=p/\∀ e,2<=e->e < p->p % e≠0
theorem PrN.of {p:Nat} (h:Pr p):PrN p:=⟨(pr_nat.mp h).1,λ e h1 h2=>(pr_nat.mp h).2 e h2 h1⟩
theorem PrN.cop {p k:Nat} (h:PrN p) (hk:¬ p ∣ k):Nat.Coprime p k:=by
  have h1:=Nat.gcd_dvd_left p k
  have h2:=Nat.gcd_dvd_right p k
  unfold Nat.Coprime
  have h0:0 < p:=Nat.lt_of_lt_of_le (by decide) h.1
  have hle:=Nat.le_of_dvd h0 h1
  have hpos:=Nat.gcd_pos_of_pos_left k h0
  generalize Nat.gcd p k=g at *
  rcases Nat.lt_or_ge g 2 with q | q
  . omega
  . rcases Nat.lt_or_eq_of_le hle with z | z
    . exact absurd (Nat.mod_eq_zero_of_dvd h1) (h.2 g q z)
    . exact absurd (z ▸ h2) hk
theorem PrN.mul {p x y:Nat} (h:PrN p) (hd:p ∣ x * y):p ∣ x\/p ∣ y:=by
  by_cases q:p ∣ x
  . exact .inl q
  . exact .inr ((h.cop q).dvd_of_dvd_mul_left hd)
theorem PrN.chs {p k:Nat} (h:PrN p) (h0:0 < k) (hk:k < p):p ∣ chs p k:=by
  obtain ⟨n,rfl⟩:∃ n,p=n + 1:=⟨p - 1,by have:=h.1; omega⟩
  obtain ⟨j,rfl⟩:∃ j,k=j + 1:=⟨k - 1,by omega⟩
  refine (h.mul (x:=j + 1) (chs_abs n j ▸ Nat.dvd_mul_right ..)).resolve_left λ z=>?_
  have:=Nat.le_of_dvd h0 z
  omega
theorem PrN.bino {p a:Nat} (h:PrN p):∀ m,m < p->bino p a (m + 1) % p=1
  | 0,_=>by show (0 + Internal.chs p 0 * a ^ 0) % p=1; rw [chs_zero]; exact Nat.mod_eq_of_lt h.1
  | m + 1,hm=>by
    show (Internal.bino p a (m + 1) + Internal.chs p (m + 1) * a ^ (m + 1)) % p=1
    obtain ⟨c,hc⟩:=h.chs (Nat.succ_pos m) hm
    rw [hc,Nat.mul_assoc,Nat.add_mul_mod_self_left,PrN.bino h m (Nat.lt_of_succ_lt hm)]
theorem PrN.fermat {p:Nat} (h:PrN p):∀ a,a ^ p % p=a % p
  | 0=>by rw [Nat.zero_pow (Nat.lt_of_lt_of_le (by decide) h.1)]
  | a + 1=>by
    obtain ⟨n,rfl⟩:∃ n,p=n + 1:=⟨p - 1,by have:=h.1; omega⟩
    rw [bino_pow]
    show (Internal.bino (n + 1) a (n + 1) + Internal.chs (n + 1) (n + 1) * a ^ (n + 1)) % (n + 1)=_
    rw [chs_self,Nat.one_mul,Nat.add_mod,h.bino n (Nat.lt_succ_self n),PrN.fermat h a,Nat.add_comm a 1,Nat.add_mod 1 a,Nat.mod_eq_of_lt (show 1 < n + 1 from h.1)]
theorem PrN.mulI {p:Nat} (h:PrN p) {x y:Int} (hd:(p:Int) ∣ x * y):(p:Int) ∣ x\/(p:Int) ∣ y:=by
  rw [Int.ofNat_dvd_left,Int.natAbs_mul] at hd
  exact (h.mul hd).imp Int.ofNat_dvd_left.mpr Int.ofNat_dvd_left.mpr
theorem PrN.fermatI {p b:Nat} (h:PrN p) (hb:¬ (p:Int) ∣ b):(p:Int) ∣ (b:Int) ^ (p - 1) - 1:=by
  have e:(b:Int) * ((b:Int) ^ (p - 1) - 1)=((b ^ p:Nat):Int) - b:=by
    obtain ⟨n,hn⟩:∃ n,p=n + 1:=⟨p - 1,by have:=h.1; omega⟩
    rw [hn,Int.natCast_pow,Int.pow_succ,Nat.add_sub_cancel,Int.mul_sub,Int.mul_one,Int.mul_comm]
  refine (h.mulI (x:=b) (e ▸ ?_)).resolve_left hb
  refine Int.dvd_of_emod_eq_zero (Int.emod_eq_emod_iff_emod_sub_eq_zero.mp ?_)
  have:=h.fermat b
  rw [<- Int.natCast_emod,<- Int.natCast_emod,this]
theorem sq_chain {p:Nat} (h:PrN p) {b:Int} {d:Nat}:∀ s:Nat,(p:Int) ∣ b ^ (d * 2 ^ s) - 1->(p:Int) ∣ b ^ d - 1\/∃ j < s,(p:Int) ∣ b ^ (d * 2 ^ j) + 1
  | 0,hd=>.inl (by rwa [Nat.pow_zero,Nat.mul_one] at hd)
  | s + 1,hd=>by
    have e:b ^ (d * 2 ^ (s + 1)) - 1=(b ^ (d * 2 ^ s) - 1) * (b ^ (d * 2 ^ s) + 1):=by
      rw [Nat.pow_succ,<- Nat.mul_assoc,Int.pow_mul (n:=d * 2 ^ s) (m:=2)]
      generalize b ^ (d * 2 ^ s)=y
      rw [Int.pow_succ,Int.pow_succ,Int.pow_zero,Int.one_mul,Int.sub_mul,Int.mul_add]; omega
    rw [e] at hd
    rcases h.mulI hd with q | q
    . exact (sq_chain h s q).imp id λ z0=>z0.elim λ j z0=>z0.elim λ hj z=>⟨j,Nat.lt_succ_of_lt hj,z⟩
    . exact .inr ⟨s,Nat.lt_succ_self s,q⟩
theorem sub_mod {p y:Int} (hp:2<=p) (h:p ∣ y - 1):y % p=1:=by
  obtain ⟨c,hc⟩:=h
  rw [show y=1 + p * c by omega,Int.add_mul_emod_self_left]
  exact Int.emod_eq_of_lt (by decide) (by omega)
theorem add_mod' {p y:Int} (hp:2<=p) (h:p ∣ y + 1):y % p=p - 1:=by
  obtain ⟨c,hc⟩:=h
  rw [show y=(p - 1) + p * (c - 1) by rw [Int.mul_sub]; omega,Int.add_mul_emod_self_left]
  exact Int.emod_eq_of_lt (by omega) (by omega)
theorem pr_strong {p:Nat} (h:Pr p) {b:Int} (hb:0<=b) {s:Nat} (hs:Tz ((p:Int) - 1) s):SPs p b s:=by
  obtain ⟨b,rfl⟩:=Int.eq_ofNat_of_zero_le hb
  have hp:=PrN.of h
  by_cases hd:(p:Int) ∣ b
  . exact .inl (Int.emod_eq_zero_of_dvd hd)
  obtain ⟨d,hdd⟩:∃ d:Nat,((p:Int) - 1) / 2 ^ s=d:=⟨_,(Int.toNat_of_nonneg (Int.ediv_nonneg (by have:=h.1; omega) (Int.le_of_lt (pw2_pos s)))).symm⟩
  have e:p - 1=d * 2 ^ s:=by
    have h1:=Int.mul_ediv_cancel' (Int.dvd_of_emod_eq_zero hs.1)
    rw [hdd] at h1
    have h2:((d * 2 ^ s:Nat):Int)=(p:Int) - 1:=by rw [Int.natCast_mul,Int.natCast_pow,Int.mul_comm]; exact h1
    have:=h.1
    omega
  have hf:=hp.fermatI hd
  rw [e] at hf
  rcases sq_chain hp s hf with q | ⟨j,hj,q⟩
  . exact .inr (.inl (by rw [hdd]; exact sub_mod h.1 q))
  . exact .inr (.inr ⟨j,hj,by rw [hdd]; exact add_mod' h.1 q⟩)
end O2
noncomputable section O3
noncomputable def allN (f:Nat->Bool) (n:Nat):Bool:=Nat.rec true (λ i ih=>f i && ih) n
theorem allN_cut {f:Nat->Bool} {a b:Nat} (ha:allN f a=true) (hb:allN (λ i=>f (a + i)) b=true):allN f (a + b)=true:=by
  induction b with
  | zero=>exact ha
  | succ b ih =>
    have h:(f (a + b) && allN (λ i=>f (a + i)) b)=true:=hb
    show (f (a + b) && allN f (a + b))=true
    rw [Bool.and_eq_true] at h ⊢
    exact ⟨h.1,ih h.2⟩
theorem allN_at {f:Nat->Bool}:∀ {n:Nat},allN f n=true->∀ i,i < n->f i=true
  | 0,_,_,hi=>absurd hi (Nat.not_lt_zero _)
  | n + 1,h,i,hi=>by
    have h:(f n && allN f n)=true:=h
    rw [Bool.and_eq_true] at h
    rcases Nat.lt_or_eq_of_le (Nat.le_of_lt_succ hi) with q | q
    . exact allN_at h.2 i q
    . exact q ▸ h.1
noncomputable def tzB (x s:Nat):Bool:=Nat.beq (x % 2 ^ s) 0 && Nat.beq (x / 2 ^ s % 2) 1
theorem tzB_of {x s:Nat} (h:Tz (x:Int) s):tzB x s=true:=by
  have h1:x % 2 ^ s=0:=by have:=h.1; rw [show (2:Int) ^ s=((2 ^ s:Nat):Int) by rw [Int.natCast_pow]; rfl,<- Int.natCast_emod] at this; exact Int.ofNat.inj this
  have h2:x / 2 ^ s % 2=1:=by have:=h.2; rw [show (2:Int) ^ s=((2 ^ s:Nat):Int) by rw [Int.natCast_pow]; rfl,<- Int.natCast_ediv] at this; exact Int.ofNat.inj ((Int.natCast_emod _ 2).trans this)
  unfold tzB
  rw [h1,h2]; rfl
theorem beqT {a b:Nat} (h:a=b):Nat.beq a b=true:=h ▸ Nat.beq_refl a
noncomputable def anyN (f:Nat->Bool) (n:Nat):Bool:=Nat.rec false (λ i ih=>f i || ih) n
theorem anyN_of {f:Nat->Bool}:∀ {n i:Nat},i < n->f i=true->anyN f n=true
  | 0,_,hi,_=>absurd hi (Nat.not_lt_zero _)
  | n + 1,i,hi,h=>by
    show (f n || anyN f n)=true
    rcases Nat.lt_or_eq_of_le (Nat.le_of_lt_succ hi) with q | q
    . rw [anyN_of q h,Bool.or_true]
    . rw [<- q,h]; rfl
theorem anyN_ex {f:Nat->Bool}:∀ {n:Nat},anyN f n=true->∃ i,i < n/\f i=true
  | 0,h=>nomatch h
  | n + 1,h=>by
    have h:(f n || anyN f n)=true:=h
    rw [Bool.or_eq_true] at h
    rcases h with q | q
    . exact ⟨n,Nat.lt_succ_self n,q⟩
    . obtain ⟨i,hi,z⟩:=anyN_ex q
      exact ⟨i,Nat.lt_succ_of_lt hi,z⟩
noncomputable def spB (x s:Nat):Bool:=Nat.beq (2 ^ ((x - 1) / 2 ^ s) % x) 1 || anyN (λ j=>Nat.beq (2 ^ ((x - 1) / 2 ^ s * 2 ^ j) % x) (x - 1)) s
noncomputable def chk2 (x:Nat):Bool:=allN (λ s=>!(tzB (x - 1) s && spB x s)) 18
theorem pow2_mod (x k:Nat):(2:Int) ^ k % x=((2 ^ k % x:Nat):Int):=by rw [Int.natCast_emod,Int.natCast_pow]; rfl
theorem chk2_ok {x:Nat} (h3:3<=x) (hx:x < 2 ^ 17) (h:chk2 x=true) {s:Nat} (hs:Tz ((x:Int) - 1) s):¬ SPs x 2 s:=by
  have e:(x:Int) - 1=((x - 1:Nat):Int):=by omega
  have hs18:s < 18:=Tz.lt (m:=18) hs (by omega) (by omega)
  have hb:=allN_at h s hs18
  rw [e] at hs
  rw [tzB_of hs,Bool.true_and,Bool.not_eq_true'] at hb
  have ed:(((x:Int) - 1) / 2 ^ s).toNat=(x - 1) / 2 ^ s:=by
    rw [e,show (2:Int) ^ s=((2 ^ s:Nat):Int) by rw [Int.natCast_pow]; rfl,<- Int.natCast_ediv,Int.toNat_natCast]
  unfold spB at hb
  rw [Bool.or_eq_false_iff] at hb
  unfold SPs
  rw [ed]
  rintro (q | q | ⟨j,hj,q⟩)
  . have:(2:Int) % x=2:=Int.emod_eq_of_lt (by decide) (by omega)
    rw [this] at q; cases q
  . rw [pow2_mod] at q
    rw [beqT (Int.ofNat.inj q)] at hb
    exact Bool.noConfusion hb.1
  . rw [pow2_mod,e] at q
    have:=anyN_of (f:=λ j=>Nat.beq (2 ^ ((x - 1) / 2 ^ s * 2 ^ j) % x) (x - 1)) hj (beqT (Int.ofNat.inj q))
    rw [this] at hb; exact Bool.noConfusion hb.2
end O3
noncomputable section O4
noncomputable def p60N:List Nat:=[2,3,5,7,11,13,17,19,23,29,31,37,41,43,47,53,59]
theorem p60_N:p60=p60N.map λ n:Nat=>(n:Int):=by decide
noncomputable def smD (x:Nat):Bool:=p60N.any λ p=>Nat.beq (x % p) 0
theorem tri_eq_none {x:Int}:∀ {L:List Int},tri x L=.none->∀ p∈L,x % p=0->x=p
  | [],_,_,h,_=>nomatch h
  | q :: L,h,p,hp,h0=>by
    by_cases hq:x % q=0/\x≠q
    . rw [tri_hit hq.1 hq.2] at h; cases h
    . rw [show tri x (q :: L)=tri x L from if_neg hq] at h
      rcases List.mem_cons.mp hp with e | hp
      . subst e; exact Classical.byContradiction λ z=>hq ⟨h0,z⟩
      . exact tri_eq_none h p hp h0
theorem no_small {x:Nat} (hx:60<=x) (h:tri x p60=.none):smD x=false:=by
  refine Bool.eq_false_iff.mpr λ z=>?_
  obtain ⟨p,hp,h0⟩:=List.any_eq_true.mp z
  have hm:(p:Int)∈p60:=by rw [p60_N]; exact List.mem_map_of_mem (f:=λ n:Nat=>(n:Int)) hp
  have e:=tri_eq_none h p hm (by rw [<- Int.natCast_emod,Nat.eq_of_beq_eq_true h0]; rfl)
  have:=(p60_range p hm).2
  omega
theorem odd_ix {x c:Nat} (h:c<=x) (hc:c % 2=1) (hx:x % 2=1):∃ i,x=c + 2 * i:=⟨(x - c) / 2,by omega⟩
theorem le_sq {l n:Int} (h:l * l<=n) {c:Int} (hc:0<=c) (hn:n < c * c):l < c:=by
  rcases Int.lt_or_le l c with q | q
  . exact q
  . exact absurd (Int.lt_of_lt_of_le (Int.lt_of_le_of_lt h hn) (Int.mul_le_mul q q hc (Int.le_trans hc q))) (Int.lt_irrefl _)
theorem dvd_odd {m x:Nat} (h:x % m=0) (ho:x % 2=1):m % 2=1:=(Nat.mod_two_eq_zero_or_one m).resolve_left λ q=>by
  have:=Nat.mod_eq_zero_of_dvd (Nat.dvd_trans (Nat.dvd_of_mod_eq_zero q) (Nat.dvd_of_mod_eq_zero h))
  rw [this] at ho; cases ho
noncomputable def midP (x:Nat):Bool:=allN (λ i=>!Nat.beq (x % (61 + 2 * i)) 0) 25
theorem midP_pr {x:Nat} (h0:3600<=x) (hx:x < 12003) (ho:x % 2=1) (ht:tri x p60=.none) (h:midP x=true):Pr x:=by
  obtain ⟨l,hl⟩:=lst_ex x
  by_cases hlt:l < x
  . have hs:=hl.sq hlt (by omega)
    rw [tri_law (by omega) hl] at ht
    have h60:60 < l:=by
      rcases Int.lt_or_le 60 l with q | q
      . exact q
      . rw [if_pos ⟨q,hlt⟩] at ht; cases ht
    have h110:=le_sq hs.2.2 (c:=110) (by decide) (Int.lt_of_lt_of_le (Int.ofNat_lt.mpr hx) (by decide))
    obtain ⟨m,rfl⟩:=Int.eq_ofNat_of_zero_le (Int.le_trans (by decide) hs.1)
    have hd:x % m=0:=Int.ofNat.inj ((Int.natCast_emod x m).trans hs.2.1)
    obtain ⟨i,rfl⟩:=odd_ix (c:=61) (Int.ofNat_lt.mp h60) rfl (dvd_odd hd ho)
    have h111:=Int.ofNat_lt.mp h110
    have:=allN_at h i (by omega)
    rw [beqT hd] at this
    cases this
  . exact hl.ispr hlt (by omega)
noncomputable def okX (x:Nat):Bool:=smD x || (midP x || chk2 x)
theorem okX_all:allN (λ i=>okX (3601 + 2 * i)) 4201=true:=by decide +kernel
theorem okX_at {x:Nat} (h0:3600<=x) (hx:x < 12003) (ho:x % 2=1):okX x=true:=by
  obtain ⟨i,rfl⟩:=odd_ix (c:=3601) (by omega) rfl ho
  exact allN_at okX_all i (by omega)
noncomputable def okP (a:Nat):Bool:=smD (3 + 2 * a) || allN (λ b=>smD (3 + 2 * b) || chk2 ((3 + 2 * a) * (3 + 2 * b))) 100
theorem okP_all:allN okP 100=true:=by decide +kernel
theorem smD_mul {x y:Nat} (h:smD x=true):smD (x * y)=true:=by
  obtain ⟨p,hp,h0⟩:=List.any_eq_true.mp h
  exact List.any_eq_true.mpr ⟨p,hp,beqT (by rw [Nat.mul_mod,Nat.eq_of_beq_eq_true h0,Nat.zero_mul,Nat.zero_mod])⟩
theorem pr_not_sq {x:Nat} (h:Pr x):¬ IsSq x:=λ z0=>z0.elim λ s hs=>by
  obtain ⟨m,hm⟩:∃ m:Nat,m * m=x:=⟨s.natAbs,by have:=congrArg Int.natAbs hs; rwa [Int.natAbs_mul,Int.natAbs_natCast] at this⟩
  have hp:=PrN.of h
  have h2:=hp.1
  have m2:2<=m:=by
    rcases Nat.lt_or_ge m 2 with q | q
    . have:=Nat.mul_le_mul (Nat.le_of_lt_succ q) (Nat.le_of_lt_succ q); omega
    . exact q
  have:=Nat.mul_lt_mul_of_pos_left (show 1 < m from m2) (show 0 < m by omega)
  exact hp.2 m m2 (by omega) (by rw [<- hm]; exact Nat.mul_mod_left ..)
noncomputable def LucP (x:Nat):Prop:=∃ (mm:Nat) (r:Int),mm<=100000/\SF x mm 5 r/\r≠0/\∀ s t:Nat,Tz ((x:Int) + 1) s->bl (((x + 1) / 2 ^ s:Nat):Int)=t + 1->SLuc x (lucN x r ((x + 1) / 2 ^ s) t) s
theorem iph_of {x:Nat} {bs:List Int} (h17:x < 2 ^ 17) (ho:x % 2=1) (hb:∀ b∈bs,0<=b) (hc:3600<=x->tri x p60=.none->¬ Pr x->chk2 x=true) (hl:3600<=x->Pr x->LucP x):IPH x bs:=by
  refine ⟨λ h2 h3=>tri_small (by omega) (by omega),λ h=>⟨ho,?_⟩⟩
  rcases Classical.em (tri x p60=.none) with ht | ht
  . rcases Classical.em (Pr x) with hp | hp
    . refine .inr (.inr ⟨ht,hp,λ s b hs hm=>pr_strong hp ?_ hs,pr_not_sq hp,hl h hp⟩)
      rcases List.mem_cons.mp hm with e | hm
      . rw [e]; decide
      . exact hb b hm
    . exact .inr (.inl ⟨ht,hp,λ s hs=>chk2_ok (by omega) h17 (hc h ht hp) hs⟩)
  . exact .inl ⟨ht,λ p=>ht (tri_pr (by omega) p)⟩
theorem chk_lt {x:Nat} (h0:3600<=x) (hx:x < 12003) (ho:x % 2=1) (ht:tri x p60=.none) (hp:¬ Pr x):chk2 x=true:=by
  have h:=okX_at h0 hx ho
  unfold okX at h
  rw [no_small (by omega) ht,Bool.false_or,Bool.or_eq_true] at h
  exact h.resolve_left λ z=>hp (midP_pr h0 hx ho ht z)
theorem chk_pr {a b:Nat} (ha:a < 100) (hb:b < 100) (h0:3600<=(3 + 2 * a) * (3 + 2 * b)) (ht:tri ((3 + 2 * a) * (3 + 2 * b):Nat) p60=.none):chk2 ((3 + 2 * a) * (3 + 2 * b))=true:=by
  have hn:=no_small (by omega) ht
  have h:=allN_at okP_all a ha
  unfold okP at h
  have h1:smD (3 + 2 * a)=false:=Bool.eq_false_iff.mpr λ z=>by rw [smD_mul z] at hn; cases hn
  have h2:smD (3 + 2 * b)=false:=Bool.eq_false_iff.mpr λ z=>by rw [Nat.mul_comm,smD_mul z] at hn; cases hn
  rw [h1,Bool.false_or] at h
  have:=allN_at h b hb
  rwa [h2,Bool.false_or] at this
end O4
noncomputable section O5
noncomputable def b8 (n:Nat):Bool:=Nat.beq (n % 8) 3 || Nat.beq (n % 8) 5
noncomputable def b44 (n a:Nat):Bool:=Nat.beq (n % 4) 3 && Nat.beq (a % 4) 3
theorem beqF {a b:Nat} (h:¬ a=b):Nat.beq a b=false:=Bool.eq_false_iff.mpr λ z=>h (Nat.eq_of_beq_eq_true z)
theorem b8_if (n:Nat) (s:Int):(if (n:Int) % 8=3\/(n:Int) % 8=5 then -s else s)=bif b8 n then -s else s:=by
  unfold b8
  by_cases h:n % 8=3
  . rw [beqT h,if_pos (.inl (by omega))]; rfl
  . by_cases h2:n % 8=5
    . rw [beqF h,beqT h2,if_pos (.inr (by omega))]; rfl
    . rw [beqF h,beqF h2,if_neg (by omega)]; rfl
theorem b44_if (n a:Nat) (s:Int):(if (n:Int) % 4=3/\(a:Int) % 4=3 then -s else s)=bif b44 n a then -s else s:=by
  unfold b44
  by_cases h:n % 4=3
  . by_cases h2:a % 4=3
    . rw [beqT h,beqT h2,if_pos ⟨by omega,by omega⟩]; rfl
    . rw [beqF h2,Bool.and_false,if_neg (by omega)]; rfl
  . rw [beqF h,if_neg (by omega)]; rfl
noncomputable def jtF:Nat->Nat->Nat->Int->Option Int
  | 0,_,_,_=>none
  | k + 1,a,n,s=>bif Nat.beq a 0 then some (bif Nat.beq n 1 then s else 0) else bif Nat.beq (a % 2) 0 then jtF k (a / 2) n (bif b8 n then -s else s) else jtF k (n % a) a (bif b44 n a then -s else s)
theorem jtF_ok:∀ {k a n:Nat} {s r:Int},jtF k a n s=some r->JT a n s r
  | 0,_,_,_,_,h=>nomatch h
  | k + 1,a,n,s,r,h=>by
    change (bif _ then _ else _)=_ at h
    cases h0:Nat.beq a 0 with
    | true =>
      rw [h0] at h
      obtain rfl:=Nat.eq_of_beq_eq_true h0
      have e:r=if (n:Int)=1 then s else 0:=by
        rw [<- Option.some.inj h]
        by_cases h1:n=1
        . rw [beqT h1,if_pos (by omega)]; rfl
        . rw [beqF h1,if_neg (by omega)]; rfl
      rw [e]; exact .done _ _
    | false =>
      have ha:0 < a:=Nat.pos_of_ne_zero λ z=>by rw [z] at h0; cases h0
      rw [h0] at h
      cases h1:Nat.beq (a % 2) 0 with
      | true =>
        rw [h1] at h
        have h2:=Nat.eq_of_beq_eq_true h1
        have:=jtF_ok (k:=k) h
        exact .even (by omega) (by omega) (by rw [b8_if]; exact this)
      | false =>
        rw [h1] at h
        have h2:a % 2=1:=(Nat.mod_two_eq_zero_or_one a).resolve_left λ z=>by rw [z] at h1; cases h1
        have:=jtF_ok (k:=k) h
        exact .odd (by omega) (by omega) (by rw [b44_if]; exact this)
noncomputable def jdF:Nat->Nat->Nat->Int->Option Int
  | 0,_,_,_=>none
  | k + 1,d,n,s=>bif Nat.beq d 0 then some (bif Nat.beq n 1 then 1 else 0) else bif Nat.beq (d % 2) 0 then jdF k (d / 2) n (bif b8 n then -s else s) else bif Nat.beq d 1 then some s else
    (jtF 20 (n % d) d 1).map λ r=>(bif b44 d n then -s else s) * r
theorem jdF_ok:∀ {k d n:Nat} {s r:Int},jdF k d n s=some r->JD d n s r
  | 0,_,_,_,_,h=>nomatch h
  | k + 1,d,n,s,r,h=>by
    change (bif _ then _ else _)=_ at h
    cases h0:Nat.beq d 0 with
    | true =>
      rw [h0] at h
      obtain rfl:=Nat.eq_of_beq_eq_true h0
      have e:r=if (n:Int)=1 then 1 else 0:=by
        rw [<- Option.some.inj h]
        by_cases h1:n=1
        . rw [beqT h1,if_pos (by omega)]; rfl
        . rw [beqF h1,if_neg (by omega)]; rfl
      rw [e]; exact .zero _ _
    | false =>
      have hd:0 < d:=Nat.pos_of_ne_zero λ z=>by rw [z] at h0; cases h0
      rw [h0] at h
      cases h1:Nat.beq (d % 2) 0 with
      | true =>
        rw [h1] at h
        have h2:=Nat.eq_of_beq_eq_true h1
        have:=jdF_ok (k:=k) h
        exact .even (by omega) (by omega) (by rw [b8_if]; exact this)
      | false =>
        rw [h1] at h
        have h2:d % 2=1:=(Nat.mod_two_eq_zero_or_one d).resolve_left λ z=>by rw [z] at h1; cases h1
        cases h3:Nat.beq d 1 with
        | true =>
          rw [h3] at h
          obtain rfl:=Nat.eq_of_beq_eq_true h3
          obtain rfl:=Option.some.inj h
          exact .one _ _
        | false =>
          rw [h3] at h
          have h4:1 < d:=by
            rcases Nat.lt_or_eq_of_le hd with q | q
            . exact q
            . rw [<- q] at h3; cases h3
          obtain ⟨r',hr,e⟩:=Option.map_eq_some_iff.mp h
          have:=jtF_ok hr
          rw [<- e,<- b44_if]
          exact .odd (by omega) (by omega) (by rw [<- Int.natCast_emod,<- Int.natCast_emod,Nat.mod_mod]; exact this)
noncomputable def sg0 (d:Int) (n:Nat):Int:=match d with
  | .ofNat _=>1
  | .negSucc _=>bif Nat.beq (n % 4) 3 then -1 else 1
noncomputable def jsF (d:Int) (n:Nat):Option Int:=jdF 8 d.natAbs n (sg0 d n)
theorem jsF_ok {d r:Int} {n:Nat} (h:jsF d n=some r):JS d n r:=by
  have e:sg0 d n=if d < 0 then (if (n:Int) % 4=3 then -1 else 1) else 1:=by
    cases d with
    | ofNat m=>rw [if_neg (show ¬ Int.ofNat m < 0 from Int.not_lt.mpr (Int.natCast_nonneg m))]; rfl
    | negSucc m =>
      rw [if_pos (Int.negSucc_lt_zero m)]
      show (bif Nat.beq (n % 4) 3 then -1 else 1)=_
      by_cases h:n % 4=3
      . rw [beqT h,if_pos (by omega)]; rfl
      . rw [beqF h,if_neg (by omega)]; rfl
  unfold JS
  rw [<- e]
  exact jdF_ok h
noncomputable def nextD (d:Int):Int:=match d with
  | .ofNat 0=>2
  | .ofNat (m + 1)=>.negSucc (m + 2)
  | .negSucc m=>.ofNat (m + 3)
theorem nextD_eq (d:Int):nextD d=if 0 < d then -d - 2 else 2 - d:=by
  cases d with
  | ofNat m=>cases m with
    | zero=>rfl
    | succ m=>rw [if_pos (by show (0:Int) < ((m + 1:Nat):Int); omega)]; show Int.negSucc (m + 2)=-((m + 1:Nat):Int) - 2; omega
  | negSucc m=>rw [if_neg (by omega)]; show ((m + 3:Nat):Int)=2 - Int.negSucc m; omega
noncomputable def isM (s:Int):Bool:=match s with
  | .negSucc 0=>true
  | _=>false
noncomputable def isZ (s:Int):Bool:=match s with
  | .ofNat 0=>true
  | _=>false
theorem isM_eq {s:Int}:isM s=true ↔ s=-1:=by
  constructor
  . intro h; cases s with
    | ofNat m=>cases h
    | negSucc m=>cases m with
      | zero=>rfl
      | succ m=>cases h
  . rintro rfl; rfl
theorem isZ_eq {s:Int}:isZ s=true ↔ s=0:=by
  constructor
  . intro h; cases s with
    | ofNat m=>cases m with
      | zero=>rfl
      | succ m=>cases h
    | negSucc m=>cases h
  . rintro rfl; rfl
noncomputable def sfF:Nat->Int->Nat->Option (Nat × Int)
  | 0,_,_=>none
  | k + 1,d,n=>(jsF d n).bind λ s=>bif isM s then some (0,d) else bif isZ s && !Nat.beq n d.natAbs then some (0,0) else (sfF k (nextD d) n).map λ x=>(x.1 + 1,x.2)
theorem sfF_ok:∀ {k:Nat} {d:Int} {n m:Nat} {r:Int},sfF k d n=some (m,r)->m < k/\SF n m d r
  | 0,_,_,_,_,h=>nomatch h
  | k + 1,d,n,m,r,h=>by
    obtain ⟨s,hs,h⟩:=Option.bind_eq_some_iff.mp h
    have hj:=jsF_ok hs
    cases h1:isM s with
    | true =>
      rw [h1] at h
      obtain ⟨rfl,rfl⟩:=Prod.mk.inj (Option.some.inj h)
      exact ⟨Nat.succ_pos k,.hit (isM_eq.mp h1 ▸ hj)⟩
    | false =>
      rw [h1] at h
      have hm:s≠-1:=λ z=>by rw [isM_eq.mpr z] at h1; cases h1
      cases h2:isZ s && !Nat.beq n d.natAbs with
      | true =>
        rw [h2] at h
        obtain ⟨rfl,rfl⟩:=Prod.mk.inj (Option.some.inj h)
        rw [Bool.and_eq_true,Bool.not_eq_true'] at h2
        exact ⟨Nat.succ_pos k,.zero (isZ_eq.mp h2.1 ▸ hj) λ z=>by rw [beqT (Int.ofNat.inj z)] at h2; exact Bool.noConfusion h2.2⟩
      | false =>
        rw [h2] at h
        obtain ⟨⟨m',r'⟩,hx,e⟩:=Option.map_eq_some_iff.mp h
        obtain ⟨rfl,rfl⟩:=Prod.mk.inj e
        have ih:=sfF_ok hx
        refine ⟨Nat.succ_lt_succ ih.1,.next hj hm (λ z=>?_) (by rw [<- nextD_eq]; exact ih.2)⟩
        rw [isZ_eq.mpr z,Bool.true_and,Bool.not_eq_false'] at h2
        rw [Nat.eq_of_beq_eq_true h2]
end O5
noncomputable section O6
noncomputable def prB (n:Nat):Bool:=(p60N.all λ p=>!Nat.beq (n % p) 0 || Nat.beq n p) && allN (λ i=>!Nat.beq (n % (61 + 2 * i)) 0 || Nat.beq n (61 + 2 * i)) 25
theorem PrN.eq_of {n p:Nat} (h:PrN n) (hp:2<=p) (h0:n % p=0):n=p:=by
  have hle:=Nat.le_of_dvd (Nat.lt_of_lt_of_le (by decide) h.1) (Nat.dvd_of_mod_eq_zero h0)
  rcases Nat.lt_or_eq_of_le hle with q | q
  . exact absurd h0 (h.2 p hp q)
  . exact q.symm
theorem allN_of {f:Nat->Bool} (h:∀ i,f i=true):∀ n,allN f n=true
  | 0=>rfl
  | n + 1=>by show (f n && allN f n)=true; rw [h n,allN_of h n]; rfl
theorem PrN.bt {n p:Nat} (h:PrN n) (hp:2<=p):(!Nat.beq (n % p) 0 || Nat.beq n p)=true:=by
  by_cases q:n % p=0
  . rw [beqT (h.eq_of hp q),Bool.or_true]
  . rw [beqF q]; rfl
theorem p60N_ge:∀ p∈p60N,2<=p:=by decide
theorem prB_of {n:Nat} (h:PrN n):prB n=true:=by
  unfold prB
  rw [Bool.and_eq_true]
  exact ⟨List.all_eq_true.mpr λ p hp=>h.bt (p60N_ge p hp),allN_of (λ i=>h.bt (by omega)) 25⟩
noncomputable def slB (n:Nat) (x:St) (s:Nat):Bool:=Nat.beq x.1 0 || anyN (λ j=>Nat.beq (svN n j x.2).1 0) s
theorem slB_ok {n s:Nat} {x:St} (h:slB n x s=true):SLuc n x s:=by
  unfold slB at h
  rw [Bool.or_eq_true] at h
  rcases h with q | q
  . exact .inl (Nat.eq_of_beq_eq_true q)
  . obtain ⟨j,hj,z⟩:=anyN_ex q
    exact .inr ⟨j,hj,Nat.eq_of_beq_eq_true z⟩
noncomputable def lucB (n:Nat) (r:Int):Bool:=!isZ r && (Nat.beq (lucN n r (n + 1) (bl ((n:Int) + 1) - 1)).1 0 && allN (λ s=>!tzB (n + 1) s || slB n (lucN n r ((n + 1) / 2 ^ s) (bl (((n + 1) / 2 ^ s:Nat):Int) - 1)) s) 18)
noncomputable def sqB (n:Nat):Bool:=anyN (λ s=>Nat.beq (s * s) n) 202
theorem sqB_ok {n:Nat} (h:sqB n=true):IsSq n:=by
  obtain ⟨s,_,z⟩:=anyN_ex h
  exact ⟨s,by rw [<- Int.natCast_mul,Nat.eq_of_beq_eq_true z]⟩
theorem lucB_ok {n:Nat} {r:Int} (h17:n < 2 ^ 17) (h:lucB n r=true):r≠0/\(∀ t:Nat,bl ((n:Int) + 1)=t + 1->(lucN n r (n + 1) t).1=0)/\∀ s t:Nat,Tz ((n:Int) + 1) s->bl (((n + 1) / 2 ^ s:Nat):Int)=t + 1->SLuc n (lucN n r ((n + 1) / 2 ^ s) t) s:=by
  unfold lucB at h
  rw [Bool.and_eq_true,Bool.and_eq_true,Bool.not_eq_true'] at h
  refine ⟨λ z=>by rw [z] at h; exact Bool.noConfusion h.1,λ t ht=>?_,λ s t hs ht=>?_⟩
  . have:=Nat.eq_of_beq_eq_true h.2.1
    rw [ht] at this; exact this
  . have hs18:s < 18:=hs.lt (m:=18) (by omega) (by omega)
    have:=allN_at h.2.2 s hs18
    rw [show tzB (n + 1) s=true from tzB_of hs,ht] at this
    exact slB_ok this
noncomputable def npB (n:Nat):Bool:=match sfF 60 5 n with
  | none=>sqB n
  | some (_,r)=>!prB n || lucB n r
theorem npB_ok {n:Nat} (h17:n < 2 ^ 17) (h:npB n=true):∃ (mm:Nat) (r:Int),NP n mm r:=by
  unfold npB at h
  cases e:sfF 60 5 n with
  | none =>
    rw [e] at h
    exact ⟨0,0,by decide,λ z=>absurd (sqB_ok h) z,λ p=>absurd (sqB_ok h) (pr_not_sq p)⟩
  | some x =>
    obtain ⟨m,r⟩:=x
    rw [e] at h
    have hs:=sfF_ok e
    refine ⟨m,r,Nat.le_of_lt (Nat.lt_of_lt_of_le hs.1 (by decide)),λ _=>hs.2,λ p=>?_⟩
    have h:(!prB n || lucB n r)=true:=h
    rw [prB_of (PrN.of p)] at h
    exact ⟨pr_not_sq p,lucB_ok h17 h⟩
theorem np_a:allN (λ i=>npB (3 + 2 * i)) 2000=true:=by decide +kernel
theorem np_b:allN (λ i=>npB (3 + 2 * (2000 + i))) 1500=true:=by decide +kernel
theorem np_c:allN (λ i=>npB (3 + 2 * (3500 + i))) 1300=true:=by decide +kernel
theorem np_d:allN (λ i=>npB (3 + 2 * (4800 + i))) 1201=true:=by decide +kernel
theorem np_all:allN (λ i=>npB (3 + 2 * i)) 6001=true:=allN_cut (f:=λ i=>npB (3 + 2 * i)) (a:=4800) (b:=1201) (allN_cut (f:=λ i=>npB (3 + 2 * i)) (a:=3500) (b:=1300) (allN_cut (f:=λ i=>npB (3 + 2 * i)) (a:=2000) (b:=1500) np_a np_b) np_c) np_d
noncomputable def spB2 (a b:Nat):Bool:=match sfF 60 5 ((3 + 2 * a) * (3 + 2 * b)) with
  | none=>sqB ((3 + 2 * a) * (3 + 2 * b))
  | some _=>true
theorem npp_all:allN (λ a=>allN (λ b=>spB2 a b) (a + 1)) 100=true:=by decide +kernel
theorem mul_not_pr {x y:Nat} (hx:2<=x) (hy:2<=y):¬ Pr (x * y:Nat):=λ p=>by
  have h:=(PrN.of p).eq_of hx (Nat.mul_mod_right x y)
  have:=Nat.mul_le_mul_left x hy
  omega
theorem npp {a b:Nat} (ha:a < 100) (hb:b < 100):∃ (mm:Nat) (r:Int),NP ((3 + 2 * a) * (3 + 2 * b)) mm r:=by
  have key:∀ a b,a < 100->b<=a->∃ (mm:Nat) (r:Int),NP ((3 + 2 * a) * (3 + 2 * b)) mm r:=λ a b ha hba=>by
    have h:=allN_at (allN_at npp_all a ha) b (Nat.lt_succ_of_le hba)
    unfold spB2 at h
    have np:=mul_not_pr (x:=3 + 2 * a) (y:=3 + 2 * b) (by omega) (by omega)
    cases e:sfF 60 5 ((3 + 2 * a) * (3 + 2 * b)) with
    | none =>
      rw [e] at h
      exact ⟨0,0,by decide,λ z=>absurd (sqB_ok h) z,λ p=>absurd p np⟩
    | some x =>
      obtain ⟨m,r⟩:=x
      have hs:=sfF_ok e
      exact ⟨m,r,Nat.le_of_lt (Nat.lt_of_lt_of_le hs.1 (by decide)),λ _=>hs.2,λ p=>absurd p np⟩
  rcases Nat.le_total b a with q | q
  . exact key a b ha q
  . rw [Nat.mul_comm]; exact key b a hb q
theorem np_lt {n:Nat} (h0:3<=n) (h:n < 12005) (ho:n % 2=1):∃ (mm:Nat) (r:Int),NP n mm r:=by
  obtain ⟨i,rfl⟩:=odd_ix h0 rfl ho
  exact npB_ok (by omega) (allN_at np_all i (by omega))
theorem luc_lt {x:Nat} (h0:3<=x) (hx:x < 12005) (ho:x % 2=1) (p:Pr x):LucP x:=by
  obtain ⟨mm,r,np⟩:=np_lt h0 hx ho
  have l:=np.luc p
  exact ⟨mm,r,np.mmle,np.sf l.1,l.2.1,l.2.2.2⟩
end O6
noncomputable section O7
theorem iph_lt {x:Nat} {bs:List Int} (h0:3<=x) (hx:x < 12003) (ho:x % 2=1) (hb:∀ b∈bs,0<=b):IPH x bs :=
  iph_of (by omega) ho hb (λ h ht hp=>chk_lt h hx ho ht hp) λ h p=>luc_lt h0 (by omega) ho p
theorem iph_pr {a b:Nat} {bs:List Int} (ha:a < 100) (hb:b < 100) (hn:(3 + 2 * a) * (3 + 2 * b) < 2 ^ 17) (ho:(3 + 2 * a) * (3 + 2 * b) % 2=1) (h:∀ b∈bs,0<=b):IPH ((3 + 2 * a) * (3 + 2 * b)) bs :=
  iph_of hn ho h (λ h0 ht _=>chk_pr ha hb h0 ht) λ _ p=>absurd p (mul_not_pr (by omega) (by omega))
theorem iph_dn {n:Nat} {bs:List Int} (hb:∀ b∈bs,0<=b) (h:Dn n):IPH n bs:=by
  have l:=h.lt
  have l17:n < 2 ^ 17:=by omega
  cases h with
  | sq a h=>exact iph_pr h h l17 l.2.2 hb
  | pr a b h g=>exact iph_pr h g l17 l.2.2 hb
  | nr j h=>exact iph_lt l.1 (by omega) l.2.2 hb
  | an j h=>exact iph_lt l.1 (by omega) l.2.2 hb
theorem np_dn {n:Nat} (h:Dn n):∃ (mm:Nat) (r:Int),NP n mm r:=by
  have l:=h.lt
  cases h with
  | sq a h=>exact npp h h
  | pr a b h g=>exact npp h g
  | nr j h=>exact np_lt l.1 (by omega) l.2.2
  | an j h=>exact np_lt l.1 (by omega) l.2.2
theorem p60N_of {l:Nat} (h:Pr l) (hl:l<=60):l∈p60N:=by
  have:=pr_p60 h (Int.ofNat_le.mpr hl)
  rw [p60_N] at this
  obtain ⟨m,hm,e⟩:=List.mem_map.mp this
  exact Int.ofNat.inj e ▸ hm
theorem prB_pr {x:Nat} (h2:2<=x) (hx:x < 12003) (h:prB x=true):Pr x:=by
  obtain ⟨l,hl⟩:=lst_ex x
  by_cases hlt:l < x
  . have hs:=hl.sq hlt (by omega)
    have hp:=hl.prime hlt (by omega)
    have h110:=le_sq hs.2.2 (c:=110) (by decide) (Int.lt_of_lt_of_le (Int.ofNat_lt.mpr hx) (by decide))
    obtain ⟨m,rfl⟩:=Int.eq_ofNat_of_zero_le (Int.le_trans (by decide) hs.1)
    have hd:x % m=0:=Int.ofNat.inj ((Int.natCast_emod x m).trans hs.2.1)
    have hlt:=Int.ofNat_lt.mp hlt
    have no:(!Nat.beq (x % m) 0 || Nat.beq x m)=true->False:=λ z=>by
      rw [beqT hd,beqF (Nat.ne_of_gt hlt)] at z; cases z
    unfold prB at h
    rw [Bool.and_eq_true] at h
    rcases Nat.lt_or_ge 60 m with q | q
    . have hm2:m % 2=1:=(Nat.mod_two_eq_zero_or_one m).resolve_left λ z=>by
        have:=(PrN.of hp).eq_of (Nat.le_refl 2) z
        omega
      obtain ⟨i,rfl⟩:=odd_ix (c:=61) q rfl hm2
      have h111:=Int.ofNat_lt.mp h110
      exact (no (allN_at h.2 i (by omega))).elim
    . exact (no (List.all_eq_true.mp h.1 m (p60N_of hp q))).elim
  . exact hl.ispr hlt (by omega)
noncomputable def nxt:Nat->Nat->Nat
  | 0,x=>x
  | k + 1,x=>bif prB (x + 1) then x + 1 else nxt k (x + 1)
theorem nxt_le:∀ k x:Nat,nxt k x<=x + k
  | 0,x=>Nat.le_refl _
  | k + 1,x=>by
    show (bif prB (x + 1) then x + 1 else nxt k (x + 1))<=_
    cases prB (x + 1) with
    | true=>show x + 1<=_; omega
    | false=>have:=nxt_le k (x + 1); show nxt k (x + 1)<=_; omega
theorem nxt_no:∀ (k x z:Nat),x < z->z < nxt k x->prB z=false
  | 0,x,z,h1,h2=>absurd h2 (Nat.lt_asymm h1)
  | k + 1,x,z,h1,h2=>by
    change z < (bif _ then _ else _) at h2
    cases e:prB (x + 1) with
    | true=>rw [e] at h2; have:z < x + 1:=h2; omega
    | false =>
      rw [e] at h2
      rcases Nat.lt_or_eq_of_le h1 with q | q
      . exact nxt_no k (x + 1) z q h2
      . exact q ▸ e
theorem nxt_all:allN (λ x=>!prB x || (Nat.blt x (nxt 40 x) && prB (nxt 40 x))) 4000=true:=by decide +kernel
theorem prB_2:prB 2=true:=by decide +kernel
theorem nxt_ex:∀ x:Nat,2<=x->x < 4000->∃ y,x < y/\y < 4040/\prB y=true/\∀ z,x < z->z < y->prB z=false
  | 0,h,_=>nomatch h
  | x + 1,h,hx=>by
    cases e:prB (x + 1) with
    | true =>
      have h:=allN_at nxt_all (x + 1) hx
      rw [e,Bool.not_true,Bool.false_or,Bool.and_eq_true] at h
      have hl:=nxt_le 40 (x + 1)
      exact ⟨nxt 40 (x + 1),Nat.le_of_ble_eq_true h.1,by omega,h.2,nxt_no 40 (x + 1)⟩
    | false =>
      have h2:2<=x:=Nat.lt_of_le_of_ne (Nat.le_of_succ_le_succ h) λ z=>by rw [<- z,prB_2] at e; cases e
      refine hid λ _ uQ=>?_
      obtain ⟨y,h3,h4,h5,h6⟩:=nxt_ex x h2 (Nat.lt_of_succ_lt hx)
      refine uQ ?_
      exact ⟨y,Nat.lt_of_le_of_ne h3 (λ z=>by have z:x + 1=y:=z; rw [z,h5] at e; cases e),h4,h5,λ z h7 h8=>h6 z (Nat.lt_of_succ_lt h7) h8⟩
theorem hp_all (x:Nat) (hx:x < 4000):∃ y:Nat,y < 5000/\(2<=x->NPH x y)/\(x < 2->y=2):=by
  rcases Nat.lt_or_ge x 2 with q | q
  . exact ⟨2,by decide,λ z=>absurd z (Nat.not_le.mpr q),λ _=>rfl⟩
  . refine hid λ _ uQ=>?_
    obtain ⟨y,hg,hl,hp,no⟩:=nxt_ex x q hx
    refine uQ ?_
    refine ⟨y,Nat.lt_trans hl (by decide),λ _=>⟨hg,Nat.lt_trans hl (by decide),prB_pr (by omega) (Nat.lt_trans hl (by decide)) hp,λ z h1 h2 p=>?_,λ z h1 h2 ho=>iph_lt (by omega) (Nat.lt_of_le_of_lt h2 (Nat.lt_trans hl (by decide))) ho λ b hb=>nomatch hb⟩,λ z=>absurd z (Nat.not_lt.mpr q)⟩
    have:=no z h1 h2
    rw [prB_of (PrN.of p)] at this; cases this
end O7
noncomputable section O8
theorem mod_sub {n n' M m:Int} (h:n % M=n' % M) (hm:m ∣ M):n % m=n' % m:=by rw [<- Int.emod_emod_of_dvd n hm,h,Int.emod_emod_of_dvd n' hm]
theorem JD.per {d n s r:Int} (h:JD d n s r):∀ {n':Int},0 < d->n % (4 * d)=n' % (4 * d)->JD d n' s r:=by
  induction h with
  | zero n s=>exact λ hd _=>absurd hd (Int.lt_irrefl 0)
  | @even d n s r h1 h2 _ ih =>
    intro n' _ hn
    obtain ⟨c,rfl⟩:=Int.dvd_of_emod_eq_zero h2
    have e2:2 * c / 2=c:=Int.mul_ediv_cancel_left c (by decide)
    have e8:n % 8=n' % 8:=mod_sub hn ⟨c,by rw [<- Int.mul_assoc]; rfl⟩
    refine .even h1 h2 ?_
    rw [<- e8]
    rw [e2] at ih ⊢
    exact ih (by omega) (mod_sub hn ⟨2,by omega⟩)
  | one n s=>exact λ _ _=>.one _ _
  | @odd d n s r h1 h2 h3 =>
    intro n' _ hn
    have e4:n % 4=n' % 4:=mod_sub hn ⟨d,rfl⟩
    have ed:n % d=n' % d:=mod_sub hn ⟨4,Int.mul_comm ..⟩
    rw [e4]
    exact .odd h1 h2 (ed ▸ h3)
theorem JS.per {d n n' r:Int} (h:JS d n r) (hd:0 < d.natAbs) (hn:n % (4 * d.natAbs)=n' % (4 * d.natAbs)):JS d n' r:=by
  have e4:n % 4=n' % 4:=mod_sub hn ⟨d.natAbs,rfl⟩
  unfold JS at h ⊢
  rw [<- e4]
  exact h.per (Int.ofNat_lt.mpr hd) hn
noncomputable def jac (d:Int) (n:Nat):Int:=(jsF d (n % (4 * d.natAbs))).getD 0
noncomputable def lpf (e:Nat):Nat:=bif Nat.beq (e % 2) 0 then 2 else bif Nat.beq (e % 3) 0 then 3 else bif Nat.beq (e % 5) 0 then 5 else bif Nat.beq (e % 7) 0 then 7 else e
noncomputable def eqI (a b:Int):Bool:=isZ (a - b)
theorem eqI_ok {a b:Int} (h:eqI a b=true):a=b:=by have:=isZ_eq.mp h; omega
noncomputable def chkE (e:Nat):Bool:=Nat.beq (lpf e * (e / lpf e)) e && allN (λ i=>(jsF e (2 * i + 1)).isSome && ((jsF (-(e:Int)) (2 * i + 1)).isSome && (eqI (jac e (2 * i + 1)) (jac (lpf e) (2 * i + 1) * jac ((e / lpf e:Nat):Int) (2 * i + 1)) && eqI (jac (-(e:Int)) (2 * i + 1)) (jac (lpf e) (2 * i + 1) * jac (-((e / lpf e:Nat):Int)) (2 * i + 1))))) (2 * e)
theorem chkE_a:allN (λ i=>chkE (i + 1)) 42=true:=by decide +kernel
theorem chkE_b:allN (λ i=>chkE (42 + i + 1)) 18=true:=by decide +kernel
theorem chkE_all:allN (λ i=>chkE (i + 1)) 60=true:=allN_cut (f:=λ i=>chkE (i + 1)) (a:=42) (b:=18) chkE_a chkE_b
theorem odd_res {n M:Nat} (hM:0 < M) (ho:n % 2=1):∃ i,i < 2 * M/\n % (4 * M)=2 * i + 1:=by
  have h1:n % (4 * M) < 4 * M:=Nat.mod_lt _ (by omega)
  have h2:n % (4 * M) % 2=1:=by rw [Nat.mod_mod_of_dvd n ⟨2 * M,by omega⟩]; exact ho
  exact ⟨n % (4 * M) / 2,by omega,by omega⟩
theorem jac_mod {d:Int} {n M:Nat} (h:4 * d.natAbs ∣ M):jac d (n % M)=jac d n:=by unfold jac; rw [Nat.mod_mod_of_dvd n h]
theorem chkE_at {e:Nat} (h1:1<=e) (h2:e<=60):chkE e=true:=by
  obtain ⟨i,rfl⟩:∃ i,e=i + 1:=⟨e - 1,by omega⟩
  exact allN_at chkE_all i (by omega)
theorem some_js {d:Int} {n m:Nat} (hd:0 < d.natAbs) (hm:n % (4 * d.natAbs)=m) (h:(jsF d m).isSome=true):JS d n (jac d n):=by
  obtain ⟨r,hr⟩:=Option.isSome_iff_exists.mp h
  unfold jac
  rw [hm,hr]
  refine (jsF_ok hr).per hd ?_
  rw [<- hm,Int.natCast_emod,Int.natCast_mul]
  exact Int.emod_emod_of_dvd n (Int.dvd_refl _)
theorem jac_js {d:Int} {n:Nat} (h1:1<=d.natAbs) (h2:d.natAbs<=60) (ho:n % 2=1):JS d n (jac d n):=by
  obtain ⟨i,hi,hm⟩:=odd_res h1 ho
  have h:=chkE_at h1 h2
  unfold chkE at h
  rw [Bool.and_eq_true] at h
  have h:=allN_at h.2 i hi
  rw [Bool.and_eq_true,Bool.and_eq_true] at h
  refine some_js h1 hm ?_
  rcases Int.natAbs_eq d with q | q
  . rw [<- q] at h; exact h.1
  . rw [<- q] at h; exact h.2.1
structure SgOk (d:Int):Prop where
  A:∀ p:Nat,p < 12005->p % 2=1->Pr p->eu d p=jac d p
  B:∀ a b:Nat,a % 2=1->b % 2=1->jac d (a * b)=jac d a * jac d b
theorem pow_mod_nat (d p:Int) (hp:0 < p) (k:Nat):p ∣ d ^ k - ((d % p).toNat:Int) ^ k:=by
  have e:((d % p).toNat:Int)=d % p:=Int.toNat_of_nonneg (Int.emod_nonneg d (Int.ne_of_gt hp))
  rw [e]
  induction k with
  | zero=>rw [Int.pow_zero,Int.pow_zero,Int.sub_self]; exact Int.dvd_zero p
  | succ k ih =>
    have h1:d ^ (k + 1) - (d % p) ^ (k + 1)=d * (d ^ k - (d % p) ^ k) + (d % p) ^ k * (d - d % p):=by
      rw [Int.pow_succ,Int.pow_succ,Int.mul_sub,Int.mul_sub,Int.mul_comm d,Int.mul_comm d]; omega
    rw [h1]
    exact Int.dvd_add (Int.dvd_mul_of_dvd_right ih) (Int.dvd_mul_of_dvd_right ⟨d / p,by have:=Int.emod_add_mul_ediv d p; omega⟩)
theorem half_ex {p:Nat} (ho:p % 2=1):∃ k,p=2 * k + 1:=⟨p / 2,by have:=Nat.div_add_mod p 2; rw [ho] at this; exact this.symm⟩
theorem half_n {p k:Nat} (h:p=2 * k + 1):(p - 1) / 2=k:=by rw [h,Nat.add_sub_cancel]; exact Nat.mul_div_cancel_left k (by decide)
theorem half_i {p k:Nat} (h:p=2 * k + 1):(((p:Int) - 1) / 2).toNat=k:=by
  rw [h,Int.natCast_add,Int.natCast_mul,show ((1:Nat):Int)=1 from rfl,Int.add_sub_cancel,show ((2:Nat):Int)=2 from rfl,Int.mul_ediv_cancel_left _ (by decide),Int.toNat_natCast]
theorem pow_vals {p k:Nat} (h:PrN p) (hk:p=2 * k + 1) (d:Int):d ^ k % p=0\/d ^ k % p=1\/d ^ k % p=p - 1:=by
  have p2:(2:Int)<=p:=Int.ofNat_le.mpr h.1
  rw [(Int.emod_eq_emod_iff_emod_sub_eq_zero.mpr (Int.emod_eq_zero_of_dvd (pow_mod_nat d p (Int.lt_of_lt_of_le (by decide) p2) k)))]
  generalize (d % p).toNat=b
  by_cases hb:(p:Int) ∣ b
  . refine .inl (Int.emod_eq_zero_of_dvd ?_)
    cases k with
    | zero=>rw [hk] at h; exact absurd h.1 (by decide)
    | succ j=>rw [Int.pow_succ]; exact Int.dvd_mul_of_dvd_right hb
  . have hf:=h.fermatI hb
    rw [show p - 1=k * 2 ^ 1 by rw [hk,Nat.add_sub_cancel,Nat.mul_comm]] at hf
    rcases sq_chain h 1 hf with q | ⟨j,hj,q⟩
    . exact .inr (.inl (sub_mod (p:=p) p2 q))
    . rw [Nat.lt_one_iff.mp hj,Nat.pow_zero,Nat.mul_one] at q
      exact .inr (.inr (add_mod' (p:=p) p2 q))
theorem eu_val {p k:Nat} (h:PrN p) (hk:p=2 * k + 1) (d:Int):(p:Int) ∣ eu d p - d ^ k/\(eu d p=-1\/eu d p=0\/eu d p=1):=by
  have hm:=pow_vals h hk d
  have p2:(2:Int) < p:=by have:=h.1; omega
  have hq:=Int.emod_add_mul_ediv (d ^ k) p
  unfold eu
  rw [half_i hk]
  generalize d ^ k=z at *
  split
  . rename_i hc
    exact ⟨⟨-(z / p) - 1,by rw [Int.mul_sub,Int.mul_neg]; omega⟩,.inl rfl⟩
  . rename_i hc
    exact ⟨⟨-(z / p),by rw [Int.mul_neg]; omega⟩,hm.elim (λ q=>.inr (.inl q)) λ q=>q.elim (λ q=>.inr (.inr q)) λ q=>absurd ⟨q,p2⟩ hc⟩
theorem small_eq {p x y:Int} (hp:2 < p) (hx:x=-1\/x=0\/x=1) (hy:y=-1\/y=0\/y=1) (h:p ∣ x - y):x=y:=by
  have:x - y=0:=Int.eq_zero_of_dvd_of_natAbs_lt_natAbs h (by
    have e:(x - y).natAbs<=2:=by rcases hx with rfl | rfl | rfl <;> rcases hy with rfl | rfl | rfl <;> decide
    omega)
  exact Int.sub_eq_zero.mp this
theorem tri_mul {x y:Int} (hx:x=-1\/x=0\/x=1) (hy:y=-1\/y=0\/y=1):x * y=-1\/x * y=0\/x * y=1:=by
  rcases hx with rfl | rfl | rfl <;> rcases hy with rfl | rfl | rfl <;> decide
theorem eu_mul {p:Nat} (h:PrN p) (ho:p % 2=1) (x y:Int):eu (x * y) p=eu x p * eu y p:=by
  obtain ⟨k,hk⟩:=half_ex ho
  have hx:=eu_val h hk x
  have hy:=eu_val h hk y
  have hz:=eu_val h hk (x * y)
  refine small_eq (p:=p) (by have:=h.1; omega) hz.2 (tri_mul hx.2 hy.2) ?_
  have e:eu (x * y) p - eu x p * eu y p=(eu (x * y) p - (x * y) ^ k) - (eu x p * (eu y p - y ^ k) + y ^ k * (eu x p - x ^ k)):=by
    rw [Int.mul_pow,Int.mul_sub,Int.mul_sub,Int.mul_comm (y ^ _) (eu x p),Int.mul_comm (y ^ _) (x ^ _)]; omega
  rw [e]
  exact Int.dvd_sub hz.1 (Int.dvd_add (Int.dvd_mul_of_dvd_right hy.1) (Int.dvd_mul_of_dvd_right hx.1))
theorem SgOk.mul {x y d:Int} (hx:SgOk x) (hy:SgOk y) (hd:d=x * y) (hj:∀ n:Nat,n % 2=1->jac d n=jac x n * jac y n):SgOk d where
  A:=λ p h1 h2 h3=>by rw [hd,eu_mul (PrN.of h3) h2,hx.A p h1 h2 h3,hy.A p h1 h2 h3,<- hd,hj p h2]
  B:=λ a b ha hb=>by
    have hab:a * b % 2=1:=by rw [Nat.mul_mod,ha,hb]
    rw [hj _ hab,hj a ha,hj b hb,hx.B a b ha hb,hy.B a b ha hb,Int.mul_assoc,Int.mul_assoc,Int.mul_left_comm (jac x b)]
end O8
noncomputable section O9
noncomputable def qs:List Nat:=[3,5,7,11,13,17,19,23,29,31,37,41,43,47,53,59]
noncomputable def euB (q p:Nat):Int:=bif Nat.beq (q ^ ((p - 1) / 2) % p) (p - 1) then -1 else ((q ^ ((p - 1) / 2) % p:Nat):Int)
theorem euB_eq {q p:Nat} (h2:2 < p) (ho:p % 2=1):eu q p=euB q p:=by
  have e:((q:Int) ^ ((p - 1) / 2)) % p=((q ^ ((p - 1) / 2) % p:Nat):Int):=by rw [Int.natCast_emod,Int.natCast_pow]
  obtain ⟨k,hk⟩:=half_ex ho
  unfold eu euB
  rw [half_n hk] at e ⊢
  rw [half_i hk,e]
  generalize q ^ k % p=v
  by_cases h:v=p - 1
  . rw [beqT h,if_pos ⟨by omega,by omega⟩]; rfl
  . rw [beqF h,if_neg λ z=>h (by omega)]; rfl
noncomputable def recB (p:Nat):Bool:=!prB p || (2 :: qs).all λ q=>eqI (euB q p) (jac q p)
theorem rec_a:allN (λ i=>recB (3 + 2 * i)) 2000=true:=by decide +kernel
theorem rec_b:allN (λ i=>recB (3 + 2 * (2000 + i))) 1500=true:=by decide +kernel
theorem rec_c:allN (λ i=>recB (3 + 2 * (3500 + i))) 1300=true:=by decide +kernel
theorem rec_d:allN (λ i=>recB (3 + 2 * (4800 + i))) 1201=true:=by decide +kernel
theorem rec_all:allN (λ i=>recB (3 + 2 * i)) 6001=true:=allN_cut (f:=λ i=>recB (3 + 2 * i)) (a:=4800) (b:=1201) (allN_cut (f:=λ i=>recB (3 + 2 * i)) (a:=3500) (b:=1300) (allN_cut (f:=λ i=>recB (3 + 2 * i)) (a:=2000) (b:=1500) rec_a rec_b) rec_c) rec_d
theorem rec_at {q p:Nat} (hq:q∈2 :: qs) (h:p < 12005) (ho:p % 2=1) (hp:Pr p):eu q p=jac q p:=by
  have h3:3<=p:=by have:=(PrN.of hp).1; omega
  obtain ⟨i,rfl⟩:=odd_ix h3 rfl ho
  have:=allN_at rec_all i (by omega)
  unfold recB at this
  rw [prB_of (PrN.of hp),Bool.not_true,Bool.false_or] at this
  rw [euB_eq h3 ho]
  exact eqI_ok (List.all_eq_true.mp this q hq)
noncomputable def jt (q a:Nat):Int:=(jtF 20 (a % q) q 1).getD 0
noncomputable def s4 (q n:Nat):Int:=bif b44 q n then -1 else 1
noncomputable def chkQ (q:Nat):Bool:=allN (λ i=>eqI (jac q (2 * i + 1)) (s4 q (2 * i + 1) * jt q (2 * i + 1))) (2 * q) && allN (λ a=>allN (λ b=>eqI (jt q (a * b)) (jt q a * jt q b)) q) q
theorem chkQ_a:[3,5,7,11,13,17,19,23,29,31,37,41].all chkQ=true:=by decide +kernel
theorem chkQ_b:[43,47,53,59].all chkQ=true:=by decide +kernel
theorem chkQ_all:qs.all chkQ=true:=by
  show ([3,5,7,11,13,17,19,23,29,31,37,41] ++ [43,47,53,59]).all chkQ=true
  rw [List.all_append,chkQ_a,chkQ_b]; rfl
theorem jt_mod {q a:Nat}:jt q (a % q)=jt q a:=by unfold jt; rw [Nat.mod_mod]
theorem s4_mul {q a b:Nat} (ha:a % 2=1) (hb:b % 2=1):s4 q (a * b)=s4 q a * s4 q b:=by
  unfold s4 b44
  cases hq:Nat.beq (q % 4) 3 with
  | false=>rfl
  | true =>
    rw [Bool.true_and,Bool.true_and,Bool.true_and,Nat.mul_mod a b 4]
    have h1:a % 4=1\/a % 4=3:=by omega
    have h2:b % 4=1\/b % 4=3:=by omega
    rcases h1 with e | e <;> rcases h2 with e' | e' <;> rw [e,e'] <;> rfl
theorem sg_q {q:Nat} (hq:q∈qs):SgOk q where
  A:=λ p h ho hp=>rec_at (.tail _ hq) h ho hp
  B:=by
    have h:=List.all_eq_true.mp chkQ_all q hq
    unfold chkQ at h
    rw [Bool.and_eq_true] at h
    have q0:0 < q:=Nat.lt_of_lt_of_le (by decide) ((show ∀ q∈qs,3<=q by decide) q hq)
    have key:∀ n:Nat,n % 2=1->jac q n=s4 q n * jt q n:=λ n ho=>by
      obtain ⟨i,hi,hm⟩:=odd_res q0 ho
      have:=eqI_ok (allN_at h.1 i hi)
      rw [<- hm,jac_mod (d:=(q:Int)) (M:=4 * q) (Nat.dvd_refl _)] at this
      rw [this]
      have e1:jt q (n % (4 * q))=jt q n:=by unfold jt; rw [Nat.mod_mod_of_dvd n ⟨4,Nat.mul_comm ..⟩]
      have e2:s4 q (n % (4 * q))=s4 q n:=by unfold s4 b44; rw [Nat.mod_mod_of_dvd n ⟨q,rfl⟩]
      rw [e1,e2]
    intro a b ha hb
    have hab:a * b % 2=1:=by rw [Nat.mul_mod,ha,hb]
    have:=eqI_ok (allN_at (allN_at h.2 (a % q) (Nat.mod_lt _ q0)) (b % q) (Nat.mod_lt _ q0))
    rw [jt_mod,jt_mod] at this
    have e:jt q (a % q * (b % q))=jt q (a * b):=by rw [<- jt_mod,<- Nat.mul_mod,jt_mod]
    rw [e] at this
    rw [key _ hab,key a ha,key b hb,s4_mul ha hb,this,Int.mul_assoc,Int.mul_assoc,Int.mul_left_comm (s4 q b)]
theorem pair_B {d:Int} {e:Nat} (he:d.natAbs=e) (h0:0 < e) (h:allN (λ i=>allN (λ j=>eqI (jac d ((2 * i + 1) * (2 * j + 1))) (jac d (2 * i + 1) * jac d (2 * j + 1))) (2 * e)) (2 * e)=true):∀ a b:Nat,a % 2=1->b % 2=1->jac d (a * b)=jac d a * jac d b:=by
  subst he
  intro a b ha hb
  obtain ⟨i,hi,hm⟩:=odd_res h0 ha
  obtain ⟨j,hj,hn⟩:=odd_res h0 hb
  have:=eqI_ok (allN_at (allN_at h i hi) j hj)
  rw [<- hm,<- hn,jac_mod (Nat.dvd_refl _),jac_mod (Nat.dvd_refl _),<- jac_mod (n:=_ * _) (Nat.dvd_refl _),<- Nat.mul_mod,jac_mod (Nat.dvd_refl _)] at this
  exact this
theorem sg_2:SgOk 2:=⟨λ p h ho hp=>rec_at (q:=2) (.head _) h ho hp,pair_B (e:=2) rfl (by decide) (by decide +kernel)⟩
theorem jac_1 (n:Nat):jac 1 n=1:=by
  unfold jac
  show (jdF 8 1 (n % 4) 1).getD 0=1
  rfl
theorem eu_1 {p:Nat} (h:2 < p):eu 1 p=1:=by
  have e:(1:Int) % p=1:=Int.emod_eq_of_lt (by decide) (by omega)
  unfold eu
  rw [Int.one_pow,e,if_neg λ z=>by omega]
theorem sg_1:SgOk 1:=⟨λ p _ ho hp=>by rw [jac_1,eu_1 (by have:=(PrN.of hp).1; omega)],λ a b _ _=>by rw [jac_1,jac_1,jac_1]; rfl⟩
theorem jac_m1 (n:Nat):jac (-1) n=bif Nat.beq (n % 4) 3 then -1 else 1:=by
  unfold jac
  show (jdF 8 1 (n % 4) (bif Nat.beq (n % 4 % 4) 3 then -1 else 1)).getD 0=_
  rw [Nat.mod_mod]; rfl
theorem eu_m1 {p:Nat} (h:2 < p) (ho:p % 2=1):eu (-1) p=bif Nat.beq (p % 4) 3 then -1 else 1:=by
  obtain ⟨k,hk⟩:=half_ex ho
  have e1:(1:Int) % p=1:=Int.emod_eq_of_lt (by decide) (by omega)
  have e2:(-1:Int) % p=p - 1:=by rw [show (-1:Int)=(p - 1) + p * (-1) by omega,Int.add_mul_emod_self_left]; exact Int.emod_eq_of_lt (by omega) (by omega)
  have s1:(-1:Int) ^ 2=1:=rfl
  unfold eu
  rw [half_i hk]
  have hd:=Nat.div_add_mod k 2
  rcases Nat.mod_two_eq_zero_or_one k with z | z
  . have:(-1:Int) ^ k=1:=by rw [<- hd,z,Nat.add_zero,Int.pow_mul,s1,Int.one_pow]
    rw [this,e1,if_neg λ z=>by omega,beqF (by omega)]; rfl
  . have:(-1:Int) ^ k=-1:=by rw [<- hd,z,Int.pow_succ,Int.pow_mul,s1,Int.one_pow]; rfl
    rw [this,e2,if_pos ⟨rfl,by omega⟩,beqT (by omega)]; rfl
theorem sg_m1:SgOk (-1):=⟨λ p _ ho hp=>by rw [jac_m1,eu_m1 (by have:=(PrN.of hp).1; omega) ho],pair_B (e:=1) rfl (by decide) (by decide +kernel)⟩
theorem lpf_qs:∀ e∈List.range 61,2<=e->lpf e∈2 :: qs:=by decide +kernel
theorem sg_all:∀ (k e:Nat),e<=k->1<=e->e<=60->SgOk e/\SgOk (-(e:Int))
  | 0,e,h,h1,_=>by omega
  | k + 1,e,h,h1,h2=>by
    rcases Nat.lt_or_eq_of_le h1 with q | q
    . have hq:=lpf_qs e (List.mem_range.mpr (Nat.lt_succ_of_le h2)) q
      have hs:SgOk (lpf e):=by
        rcases List.mem_cons.mp hq with z | z
        . rw [z]; exact sg_2
        . exact sg_q z
      have c:=chkE_at h1 h2
      unfold chkE at c
      rw [Bool.and_eq_true] at c
      have he:=Nat.eq_of_beq_eq_true c.1
      have h3:2<=lpf e:=(show ∀ q∈2 :: qs,2<=q by decide) _ hq
      have cs:=λ i hi=>allN_at c.2 i hi
      generalize hg:e / lpf e=f at *
      have f1:1<=f:=Nat.pos_of_ne_zero λ z=>by rw [z,Nat.mul_zero] at he; omega
      have fe:f < e:=by have:=Nat.mul_le_mul_right f h3; omega
      have ih:=sg_all k f (by omega) f1 (by omega)
      have dq:4 * lpf e ∣ 4 * e:=Nat.mul_dvd_mul_left 4 ⟨f,he.symm⟩
      have df:4 * f ∣ 4 * e:=Nat.mul_dvd_mul_left 4 ⟨lpf e,by rw [Nat.mul_comm]; exact he.symm⟩
      refine ⟨hs.mul ih.1 (by rw [<- Int.natCast_mul,he]) λ n ho=>?_,hs.mul ih.2 (by rw [Int.mul_neg,<- Int.natCast_mul,he]) λ n ho=>?_⟩
      . obtain ⟨i,hi,hm⟩:=odd_res h1 ho
        have:=cs i hi
        rw [Bool.and_eq_true,Bool.and_eq_true,Bool.and_eq_true] at this
        have:=eqI_ok this.2.2.1
        rw [<- hm,jac_mod (d:=(e:Int)) (M:=4 * e) (Nat.dvd_refl _),jac_mod (d:=(lpf e:Int)) (M:=4 * e) dq,jac_mod (d:=(f:Int)) (M:=4 * e) df] at this
        exact this
      . obtain ⟨i,hi,hm⟩:=odd_res h1 ho
        have:=cs i hi
        rw [Bool.and_eq_true,Bool.and_eq_true,Bool.and_eq_true] at this
        have:=eqI_ok this.2.2.2
        rw [<- hm,jac_mod (d:=-(e:Int)) (M:=4 * e) (by rw [Int.natAbs_neg]; exact Nat.dvd_refl _),jac_mod (d:=(lpf e:Int)) (M:=4 * e) dq,jac_mod (d:=-(f:Int)) (M:=4 * e) (by rw [Int.natAbs_neg]; exact df)] at this
        exact this
    . rw [<- q]; exact ⟨sg_1,sg_m1⟩
theorem sg_d {d:Int} (h1:1<=d.natAbs) (h2:d.natAbs<=60):SgOk d:=by
  have:=sg_all _ _ (Nat.le_refl _) h1 h2
  rcases Int.natAbs_eq d with q | q
  . exact q ▸ this.1
  . exact q ▸ this.2
structure Gn (n:Int):Prop where
  pos:0 < n
  odd:n % 2=1
  prs:∀ p:Nat,Pr p->(p:Int) ∣ n->p < 12005
theorem Lst.is_pr {n p:Int} (h:Lst n p) (hn:1 < n):Pr p:=by
  by_cases hl:p < n
  . exact h.prime hl (by omega)
  . rcases h.2 with q | q
    . exact q ▸ h.ispr hl hn
    . exact absurd q.2.1 hl
theorem lg_jac {d:Int} (hd:SgOk d) (h1:jac d 1=1) {n s:Int} (h:LG d n s):Gn n->s=jac d n.toNat:=by
  induction h with
  | @one n hn=>intro g; have:=g.pos; rw [show n=1 by omega]; exact h1.symm
  | @step n p r hn hl _ ih =>
    intro g
    have hp:=hl.is_pr hn
    obtain ⟨p0,p1,e⟩:=hl.dvd hn
    obtain ⟨q,rfl⟩:=Int.eq_ofNat_of_zero_le (Int.le_trans (by decide) p0)
    have c0:0<=n / q:=Int.ediv_nonneg (by omega) (by omega)
    generalize n / (q:Int)=c at *
    obtain ⟨m,rfl⟩:=Int.eq_ofNat_of_zero_le c0
    have hqm:((q:Int) * m) % 2=1:=e ▸ g.odd
    have hodd:q % 2=1/\m % 2=1:=by
      rw [<- Int.natCast_mul,show (2:Int)=((2:Nat):Int) from rfl,<- Int.natCast_emod,Nat.mul_mod] at hqm
      have hqm:q % 2 * (m % 2) % 2=1:=Int.ofNat.inj hqm
      rcases Nat.mod_two_eq_zero_or_one q with a | a <;> rcases Nat.mod_two_eq_zero_or_one m with b | b <;> rw [a,b] at hqm <;> simp_all
    have m0:0 < (m:Int):=by
      have:m≠0:=λ z=>by rw [z] at hodd; exact absurd hodd.2 (by decide)
      omega
    have gm:Gn m:=⟨m0,by omega,λ p h1 h2=>g.prs p h1 (e ▸ Int.dvd_mul_of_dvd_right h2)⟩
    have:=ih gm
    rw [hd.A q (g.prs q hp ⟨m,e⟩) hodd.1 hp,this,e,<- Int.natCast_mul,Int.toNat_natCast,Int.toNat_natCast,hd.B q m hodd.1 hodd.2]
theorem jac_at1:allN (λ i=>eqI (jac ((i:Int) + 1) 1) 1 && eqI (jac (-((i:Int) + 1)) 1) 1) 60=true:=by decide +kernel
theorem js_ok {d r s:Int} {n:Nat} (h1:-60<=d) (h2:d < 60) (g:Gn n) (h3:3<=n) (hr:JS d n r) (hs:LG d n s):r=s:=by
  have ho:n % 2=1:=by have:=g.odd; omega
  by_cases h0:d=0
  . subst h0
    have e1:r=0:=by
      unfold JS at hr
      have z:JD 0 n 1 0:=by have:=JD.zero n 1; rwa [if_neg (by omega)] at this
      exact hr.det z
    cases hs with
    | one h=>omega
    | @step n p r' hn hl _ =>
      obtain ⟨p0,p1,e⟩:=hl.dvd hn
      have hp:=hl.is_pr hn
      obtain ⟨q,rfl⟩:=Int.eq_ofNat_of_zero_le (Int.le_trans (by decide) p0)
      have q3:3<=q:=by
        rcases Nat.lt_or_ge q 3 with z | z
        . have:q=2:=by omega
          rw [this] at e; omega
        . exact z
      have:eu 0 q=0:=by
        unfold eu
        obtain ⟨j,hj⟩:∃ j,(((q:Int) - 1) / 2).toNat=j + 1:=⟨(((q:Int) - 1) / 2).toNat - 1,by omega⟩
        rw [hj,Int.pow_succ,Int.mul_zero,Int.zero_emod,if_neg λ z=>by omega]
      rw [e1,this,Int.zero_mul]
  . have a1:1<=d.natAbs:=by omega
    have a2:d.natAbs<=60:=by omega
    have hj:jac d 1=1:=by
      obtain ⟨i,hi⟩:∃ i,d.natAbs=i + 1:=⟨d.natAbs - 1,by omega⟩
      have:=allN_at jac_at1 i (by omega)
      rw [Bool.and_eq_true] at this
      rcases Int.natAbs_eq d with q | q
      . rw [q,hi]; exact eqI_ok this.1
      . rw [q,hi]; exact eqI_ok this.2
    have:=lg_jac (sg_d a1 a2) hj hs g
    rw [Int.toNat_natCast] at this
    rw [this]
    exact hr.det (jac_js a1 a2 ho)
theorem gn_lt {n:Nat} (h0:0 < n) (h:n < 12005) (ho:n % 2=1):Gn n:=⟨by omega,by omega,λ p hp hd=>by
  have:=Nat.le_of_dvd h0 (Int.natCast_dvd_natCast.mp hd); omega⟩
theorem gn_mul {a b:Nat} (ha:a < 100) (hb:b < 100) (ho:(3 + 2 * a) * (3 + 2 * b) % 2=1):Gn ((3 + 2 * a) * (3 + 2 * b):Nat):=by
  refine ⟨Int.ofNat_lt.mpr (Nat.mul_pos (by omega) (by omega)),by omega,λ p hp hd=>?_⟩
  rcases (PrN.of hp).mul (Int.natCast_dvd_natCast.mp hd) with q | q
  . have:=Nat.le_of_dvd (by omega) q; omega
  . have:=Nat.le_of_dvd (by omega) q; omega
theorem gn_dn {n:Nat} (h:Dn n):Gn n:=by
  have l:=h.lt
  cases h with
  | sq a h=>exact gn_mul h h l.2.2
  | pr a b h g=>exact gn_mul h g l.2.2
  | nr j h=>exact gn_lt (by omega) (by omega) l.2.2
  | an j h=>exact gn_lt (by omega) (by omega) l.2.2
theorem all_dn (n:Nat) (h:Dn n):AllP n where
  tri:=λ l hl=>tri_law (by have:=h.lt.1; omega) hl
  ip:=λ b h1 _=>iph_dn (λ c hc=>by rw [List.mem_singleton.mp hc]; exact h1) h
  ip0:=iph_dn (λ c hc=>nomatch hc) h
  np:=np_dn h
  js:=λ d r s h1 h2 hr hs=>js_ok h1 h2 (gn_dn h) h.lt.1 hr hs
end O9
noncomputable section H6
section
variable {w:World} {s₀:Shared} {mg mb:Str->Option Value} {h:Heap} {q q':TabI}
theorem items_ints {R:WRecords} {xs:List WData} (e:WShape.hasItems R xs .int=true):∃ s:List Int,xs=s.map .int:=by
  induction xs with
  | nil=>exact ⟨[],rfl⟩
  | cons y r ih =>
    rw [WShape.hasItems,Bool.and_eq_true] at e
    obtain ⟨i,hi⟩:=hasW_int e.1
    obtain ⟨s,hs⟩:=ih e.2
    exact ⟨i :: s,by rw [hi,hs]; rfl⟩
theorem well_int {P:Params} {v:Value} {i:Int} (x:Well P h v (.int i)):∃ t,v=.int i t:=by cases x; exact ⟨_,rfl⟩
theorem well_list {P:Params} {v:Value} {xs:List WData} (x:Well P h v (.list xs)):∃ b vs,v=.ref b/\h.get? b=some (lsObj vs 0)/\WellAll P h vs xs:=by cases x with | list e r=>exact ⟨_,_,rfl,e,r⟩
theorem wells_nil {P:Params} {vs:List Value} (x:WellAll P h vs []):vs=[]:=by cases x; rfl
theorem wells_cons {P:Params} {vs:List Value} {d:WData} {ds:List WData} (x:WellAll P h vs (d :: ds)):∃ v ws,vs=v :: ws/\Well P h v d/\WellAll P h ws ds:=by cases x with | cons a r=>exact ⟨_,_,rfl,a,r⟩
theorem well_ints {P:Params} {g:Gh} {s:List Int}:∀ {vs:List Value},WellAll P h vs (s.map .int)->RepL g vs (s.map .int):=by
  induction s with
  | nil=>intro vs x; rw [wells_nil x]; exact .nil
  | cons i s ih =>
    intro vs x
    obtain ⟨v,ws,rfl,y,r⟩:=wells_cons x
    obtain ⟨t,rfl⟩:=well_int y
    exact .cons (.int i t) (ih r)
theorem len63 {xs:List WData} (e:lawRow.toRowW.pre.holds lawRow.toRowW.records { args:=[.list xs] }=true):xs.length<=63:=by
  have hc:=condW_of e (by wtm_val)
  simp at hc
  omega
variable (T:Top vw (looseW vw []) (ExcName.means s₀.heap) mg mb h) (hT:TabsAt (tb2 q q') h) (ne:q.P≠q'.P)
theorem gd_ok:Ok (theGd w T hT ne) (λ b=>(ghostOf h (tb2 q q')).get? b) h :=
  ⟨λ _ _ e=>e,λ _ _ e=>of_hideAll _ e,two_of (R:=λ x:TabI=>TabOk (λ b=>(ghostOf h (tb2 q q')).get? b) h x) ⟨#[],(two_of (R:=λ x:TabI=>True/\h.get? x.P=some (tabObj #[])) ⟨trivial,(hT _ (.head _)).2⟩ ⟨trivial,(hT _ (.tail _ (.head _))).2⟩ q (.head _)).2,.inl rfl⟩ ⟨#[],(hT _ (.tail _ (.head _))).2,.inl rfl⟩,(theGd w T hT ne).tabOff⟩
theorem gd_rm:Rm (theGd w T hT ne) 15 callerA h:=⟨rfl,by decide,by decide,[],rfl,trivial⟩
theorem gd_old {h'  : Heap} (t:Tl (theGd w T hT ne) h'):OldK h h':=by
  have key:∀ b o,h.get? b=some o->h'.get? b=some o\/(isCodeTable h b/\o=tabObj #[]/\∃ ps,h'.get? b=some (tabObj ps)):=λ b o e=>by
    by_cases hb:b∈(tb2 q q').map (·.2)
    . refine .inr ?_
      have go:∀ x∈[q,q'],b=x.P->isCodeTable h b/\o=tabObj #[]/\∃ ps,h'.get? b=some (tabObj ps):=λ x hx eb=>by
        have hh:=hT (x.c,x.P) (List.mem_map_of_mem (f:=λ x:TabI=>(x.c,x.P)) hx)
        have e2:=hh.2
        rw [<- eb,e] at e2
        exact ⟨eb ▸ (hh.1.tab hh.2).isCodeTable,Option.some.inj e2,eb ▸ t.tab x hx⟩
      refine hid λ _ uQ=>?_
      obtain ⟨p,hp,e1⟩:=List.mem_map.mp hb
      obtain ⟨x,hx,e2⟩:=List.mem_map.mp (show p∈[q,q'].map (λ x:TabI=>(x.c,x.P)) from hp)
      refine uQ ?_
      exact go x hx (by rw [<- e1,<- e2])
    . exact .inl (t.gnd b o (ghost_ne e hb))
  refine ⟨λ b o e=>?_,λ b o e=>?_⟩
  . rcases key b o e with k | ⟨k1,k2,ps,k3⟩
    . exact .inl k
    . exact .inr (.inl ⟨k1,by rw [k2],#[],ps,by rw [k2],by rw [k2,Array.empty_append]; exact k3⟩)
  . rcases key b o e with k | ⟨_,_,ps,k3⟩
    . exact ⟨o,k⟩
    . exact ⟨_,k3⟩
end
noncomputable def qM (c P:Addr):TabI:=⟨c,P,(nestDef (dN 34)).2.2.2,"mont_times.<locals>.multiplied"⟩
noncomputable def qT (c P:Addr):TabI:=⟨c,P,(lamOf (dN 71)).2.2.2,"_law_tests_right.<locals>.<lambda>"⟩
theorem post_true (args:List WData):lawRow.toRowW.claim.post args (.bool true) args=true:=postW_of (by rfl) (by wtm_val) (by first | rfl | simp)
theorem plains_vw:plainsOf vw []=[cM,cR]:=by kernel_rfl
theorem owns_vw:∃ o∈ownsOf vw,o.name = "OutOfRange" /\ o.bm=bmE/\o.newId = "Exception.__new__" := by
  have:(ownsOf vw).any (λ o=>decide (o.name = "OutOfRange" /\ o.bm=bmE/\o.newId = "Exception.__new__"))=true:=by kernel_rfl
  obtain ⟨o,ho,e⟩:=List.any_eq_true.mp this
  exact ⟨o,ho,of_decide_eq_true e⟩
theorem the_args {P:Params} {args:List WData} {vals:List Value} (hpre:lawRow.toRowW.claim.pre args=true) (hwl:WellAll P h vals args) :
    ∃ (b:Addr) (vs:List Value) (s:List Int),s.length<=1000/\vals=[.ref b]/\h.get? b=some (lsObj vs 0)/\∀ g:Gh,RepL g vs (s.map .int):=by
  obtain ⟨hsh,hcond⟩:=pre_splitW hpre
  obtain ⟨x,r,rfl,hx,hr⟩:=hasAllW_cons (show WShape.hasAll lawRow.toRowW.records args [.list .int]=true from hsh)
  cases hasAllW_nil hr
  obtain ⟨xs,rfl,hi⟩:=hasW_list hx
  have hl:=len63 hcond
  obtain ⟨s,rfl⟩:=items_ints hi
  obtain ⟨v,ws,rfl,y,z⟩:=wells_cons hwl
  cases wells_nil z
  obtain ⟨b,vs,rfl,hb,wa⟩:=well_list y
  exact ⟨b,vs,s,by rw [List.length_map] at hl; exact Nat.le_trans hl (by decide),rfl,hb,λ g=>well_ints wa⟩
theorem in34:dN 34∈recsOf vw:=by rw [recs_vw]; exact List.mem_map_of_mem (by decide)
theorem in71:dN 71∈recsOf vw:=by rw [recs_vw]; exact List.mem_map_of_mem (by decide)
section
variable {w:World} {s₀:Shared} {mg mb:Str->Option Value} {h:Heap} {c P c' P':Addr}
variable (T:Top vw (looseW vw []) (ExcName.means s₀.heap) mg mb h) (t:TabFn mg h "mont_times" c P) (t':TabFn mg h "_law_tests_right" c' P') (ne:P≠P')
noncomputable abbrev gD (w:World):Gd:=theGd w T (tb2_at (q:=qM c P) (q':=qT c' P') t t') ne
theorem the_mt:MT (gD T t t' ne w):=⟨_,gd_defT T (tb2_at (q:=qM c P) (q':=qT c' P') t t') ne in34 (.head _) (n_mont_times.symm ▸ t),rfl,rfl⟩
theorem the_tt:TT (gD T t t' ne w):=⟨_,gd_defT T (tb2_at (q:=qM c P) (q':=qT c' P') t t') ne in71 (.tail _ (.head _)) (n_law_tests_right.symm ▸ t'),rfl,rfl⟩
theorem the_exc:∃ C,IsExc (gD T t t' ne w) "OutOfRange" C:=by
  refine hid λ _ uQ=>?_
  obtain ⟨oe,ho,e1,e2,e3⟩:=owns_vw
  obtain ⟨CE,hE,_⟩:=T.own oe ho
  refine uQ ?_
  rw [e1,e2,e3] at hE
  exact ⟨CE,exc_ghost (tb2_at (q:=qM c P) (q':=qT c' P') t t') hE⟩
theorem the_sp (X:TopE vw [] mg h) {s:List Int} (hs:s.length<=1000):SpecTl (gD T t t' ne w) 15 (fnv (gD T t t' ne w) "law") [IL s]:=by
  obtain ⟨CM,hM⟩:=gd_cls (w:=w) T (tb2_at (q:=qM c P) (q':=qT c' P') t t') ne (c:=cM) (by rw [plains_vw]; exact .head _) X
  obtain ⟨CR,hR⟩:=gd_cls (w:=w) T (tb2_at (q:=qM c P) (q':=qT c' P') t t') ne (c:=cR) (by rw [plains_vw]; exact .tail _ (.head _)) X
  obtain ⟨CE,hE⟩:=the_exc (w:=w) T t t' ne
  exact specTl_law (gd_pg T _ ne) hE hM hR (the_mt T t t' ne) (the_tt T t t' ne) all_dn hp_all hs
include T t t' ne in
theorem the_run (X:TopE vw [] mg h) {s:List Int} (hs:s.length<=1000) {s₁:Shared} (e:s₁.heap=h) {a b:Addr} {vs:List Value} (ha:mg "law" = some (.ref a)) (hb:h.get? b=some (lsObj vs 0)) (hv:∀ g:Gh,RepL g vs (s.map .int)) {Q:Value->Shared->Prop} {E:Value->Shared->Prop}
    (k:∀ h' tk,OldK h h'->Q (.bool true) (at_ s₁ h' tk)):wpAny (model prg w) callerA (call (.ref a) [.ref b]) Q E s₁:=by
  subst e
  refine the_sp (w:=w) T t t' ne X hs callerA (λ b=>(ghostOf s₁.heap (tb2 (qM c P) (qT c' P'))).get? b) s₁ (.ref a) [.ref b] _ _ (gd_rm T _ ne) (gd_ok T _ ne) ?_ (.cons (.list (n:=0) (ghost_get (tb2_at (q:=qM c P) (q':=qT c' P') t t') hb nofun) (hv _)) .nil) λ h' tk tl=>k h' tk (gd_old T _ ne tl)
  unfold fnv
  rw [show (gD T t t' ne w).mg "law" = some (.ref a) from ha]
  exact .fn a
end
theorem the_call (d:DefRec) (kwd:List (Str × Expr)) (hd:defOf vw lawRow.name=some (d,kwd)):WalkO vw [] XH (λ _ _=>True) lawRow.toRowW d kwd (λ f vs=>PySem.call f vs):=by
  intro w s₀ s₁ mg mb G _ a o pm cd doc dV kV h1 h2 h3 h4 h5 hg args vals as hpre hlay hrd hwl hlo
  clear hlo hrd hlay h4 h3 h2 h1
  refine hid λ _ uQ=>?_
  obtain ⟨b,vs,s,hs,rfl,hb,hv⟩:=the_args hpre hwl
  obtain ⟨c,P,c',P',t,t',ne⟩:=G.X.2.two
  refine uQ ?_
  rw [defOf_name hd] at h5
  exact the_run G.T t t' ne G.TE hs rfl h5 hb hv λ h' tk old=>⟨.inl ⟨_,.bool true,[],rfl,λ _=>rfl,.bool true,post_true _,λ _=>⟨.nil,λ _ h=>by cases h⟩⟩,old,rfl,.of_eq hg⟩
theorem holds:PySem.Challenge.rw_nn0044_01.Holds:=head hwit the_call
end H6
end KN
end Internal
theorem PySem.Challenge.cw_nn0044_01_holds : PySem.Challenge.rw_nn0044_01.Holds :=
  Internal.holds
