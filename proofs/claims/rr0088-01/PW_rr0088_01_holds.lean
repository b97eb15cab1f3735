import PyProof.Rows.All
import Wide.All
import OpenK.AllK
import Wide.FinOn
import PyProof.AttrMissHeap
import Lean
import PySem.Challenge.RW_rr0088_01
set_option Elab.async false
set_option linter.all false
set_option genSizeOf false
set_option maxRecDepth 100000
set_option maxHeartbeats 8000000
namespace Mine
open Nat (add_comm add_le_add add_le_add_left add_le_add_right le_add_left le_add_right le_antisymm le_max_left le_max_right le_of_ble_eq_true le_of_eq le_of_lt le_of_not_lt le_of_succ_le le_refl le_succ le_succ_of_le le_trans le_zero lt_irrefl lt_of_le_of_lt lt_of_lt_of_le lt_succ_of_lt lt_succ_self max_le mod_lt mul_add mul_assoc mul_comm mul_le_mul mul_le_mul_left mul_le_mul_right ne_of_gt ne_of_lt not_lt not_succ_le_zero sub_le succ_le_succ succ_mul succ_pos zero_add zero_le)
open List (all_eq_true all_map any_cons any_eq_true any_map append_assoc append_nil cons_append filter_cons forIn_cons forall_mem_cons length_append length_cons length_filter_le length_map length_nil length_range map_append map_congr_left map_cons map_flatMap mem_append mem_cons mem_cons_of_mem mem_cons_self mem_filter mem_flatMap mem_iff_getElem mem_map mem_of_getElem? mem_range mem_singleton nil_append nodup_append nodup_nil not_mem_nil prefix_append prefix_refl size_toArray take_of_length_le)
open Bool (and_eq_true and_eq_true_iff false_eq_true not_eq_true not_eq_true' or_eq_true)
open Option (bind_eq_some_iff isSome_iff_exists map_eq_some_iff map_some)
open Array (length_toList size_push)
open PySem renaming wpAny_bind -> BN, Value -> BO, wpAny_pure -> BP, Addr -> BQ, wpAny -> BR, model -> BS, Shared -> BU, wpAny_mono -> BV, Heap -> BW, Program -> BX, World -> BY, Around -> BZ, Scope -> B0, wpAny_holding -> B1, eval -> B3, wpAny_newObj_type -> B4, wpAny_setState_of -> B5, rawInt -> B6, Stmt -> B7, wpAny_call_entry -> B8, foldedSetIterable -> B9, PyData -> Ca, wpAny_callSpecial?_slot -> Cb, NameKind -> Cc, starEach -> Ce, wpAny_standAt -> Cf, assign -> Cg, codeAny_builtin -> Ci, codeAny_mono -> Cj, codeAny -> Ck, wpAny_typeNameOfWhole_keyiter -> Cm, wpAny_setField -> Co, backTo -> Cp, pyIter -> Cq, tupleKind -> Cr, SetTable -> Cs, sizeLine -> Ct, wpAny_typeNameOf_keyiter -> Cu, Comprehension -> Cv, DictEntry -> Cw, stored -> Cx, wpAny_ite_false -> Cy, sizeLine_eq -> Cz, cLine -> CA, wpAny_pyIter_list -> CB, wpAny_truthy_bool -> CD, firstArgMember -> CE, isSubtype_type -> CF, wpAny_fieldsOf -> CG, wpAny_typeOf -> CH, IsTupleKey -> CI, wpAny_askSetting -> CJ, wpAny_isInstance -> CK, plainId_quiet -> CL, wpAny_attempt -> CM, holding -> CN, mainGlobals -> CP, typeLookup_type -> CQ, binaryOp -> CR, compTurn -> CS, compareOp -> CT, pyNext -> CU, sysModules -> CV, wpAny_load -> CX, ofAClassStatement -> CY, layNew -> CZ, wpAny_of_eq -> C1, storedH -> C2, builtinsNs -> C3, call_meetsIn -> C4, nsFind -> C5, wpAny_rule -> C6, wpAny_specialOf -> C7, Result -> C8, pickOrder -> C9, tupleKind_room_in1 -> Da, swappedStores -> Db, wpAny_dictEntries -> Dc, wpAny_pyIter_slot -> Dd, Walks -> De, typeLookup -> Df, collect -> Dg, getItem -> Dh, standAt -> Di, Operator -> Dj, bootBuiltins -> Dk, reprText -> Dl, wpAny_eqBool_int -> Dm, wpAny_forIn_list -> Dn, wpAny_list_append_plain -> Do, codeAny_of_tree -> Dp, getMethod -> Dq, letOwnedTupleGo -> Dr, seqItems? -> Dt, swapsWith -> Du, wpAny_dictEpoch -> Dv, constantsAlone -> Dw, isSubtype_stop -> Dy, recursionLimit -> Dz, relabel -> DA, valueAt -> DB, wpAny_eqIsQuiet_tuple -> DC, wpAny_isOneOf_keyiter -> DD, wpAny_ite_true -> DE, wpAny_notOrdered_dict -> DF, CmpOp -> DG, wpAny_letTemporaryGo -> DH, assignInOrder -> DI, comprehension -> DJ, foldedForSure -> DK, strLen_append -> DL, wpAny_handled -> DM, aRefKeyMayBeTheName -> DN, any_of_findIdx_some -> DO, wpAny_dictSet_pairs -> DP, wpAny_setItem_pairs -> DQ, Arguments -> DR, IsPart -> DS, putSet_of -> DT, slicePick -> DU, truthy -> DV, wpAny_eqBool_tuple -> DW, setNext -> DX, spliced -> DY, getMethod_builtin -> DZ, wpAny_storeSet_of -> D0, hashByValue -> D1, layNew_perm -> D2, sliceBounds -> D3, wpAny_field -> D4, wpAny_throw -> D5, bindName -> D6, callWith -> D7, entryFor -> D8, entryFor_of_tree -> D9, pastItsLine_dict -> Ea, slotArgs -> Eb, call_meets -> Ec, importedModules -> Ed, wpAny_Name -> Ee, wpAny_call -> Ef, wpAny_updateSeq -> Eg, Flow -> Eh, OsState -> Ei, entryFor_alias -> Ej, wpAny_bindName -> Ek, wpAny_loadPart -> El, wpAny_newTuple -> Em, wpAny_runValue -> Eo, treeTable -> Ep, methodCallPos -> Er, signature?_of -> Es, wpAny_in_heap -> Eu, wpAny_newList -> Ev, wpAny_release -> Ew, Drawn -> Ey, Reads -> Ez, execs -> EA, FuncData -> EB, argsOk -> EC, compPost -> ED, evalEach -> EF, newExc -> EG, newTuple -> EH, raiseNew -> EI, relayAll -> EJ, setAdd -> EK
section

inductive LT0 where
 | v (i:Nat)
 | n (k:Nat)
 | a (x y:LT0)
 | m (k:Nat) (x:LT0)
 | r (x:LT0) (k:Nat)
noncomputable def LT0.ev (c:List Nat)(t:LT0):Nat:=LT0.rec (λi=>c.getD i 0) (λk=>k) (λ_ _ x y=>x+y) (λk _ x=>k * x) (λ_ k x=>x * k) t
noncomputable def sm (a b:List Nat):List Nat:=List.rec (motive:=λ_=>List Nat->List Nat) (λb=>b) (λx _ ih b=>List.casesOn b (x::ih []) λy s=>(x+y)::ih s) a b
noncomputable def xx (i:Nat):List Nat:=Nat.rec [1] (λ_ l=>0::l) i
noncomputable def LT0.nf (t:LT0):List Nat×Nat:=LT0.rec (λi=>(xx i,0)) (λk=>([],k)) (λ_ _ x y=>(sm x.1 y.1,x.2+y.2)) (λk _ x=>(x.1.map (k * ·),k * x.2)) (λ_ k x=>(x.1.map (k * ·),k * x.2)) t
noncomputable def iJ (a c:List Nat):Nat:=List.rec (motive:=λ_=>List Nat->Nat) (λ_=>0) (λx _ ih c=>x * c.headD 0+ih c.tail) a c
theorem uk (a:List Nat):∀ b c,iJ (sm a b) c=iJ a c+iJ b c:=by
 induction a using List.rec with
 | nil=>exact λb c=>(zero_add _).symm
 | cons x l ih =>
  intro b c;cases b with
  | nil =>
   show x * c.headD 0+iJ (sm l []) c.tail=_;rw [ih];rfl
  | cons y s =>
   show (x+y) * c.headD 0+iJ (sm l s) c.tail=(x * c.headD 0+iJ l c.tail)+(y * c.headD 0+iJ s c.tail);rw [ih,Nat.add_mul];lia
theorem s9 (i:Nat):∀ c,iJ (xx i) c=c.getD i 0:=by
 induction i using Nat.rec with
 | zero=>intro c;cases c with
  | nil=>rfl
  | cons x l=>show 1 * x+0=x;lia
 | succ i ih =>
  intro c;show 0 * _+iJ (xx i) c.tail=_;rw [ih,Nat.zero_mul,zero_add];cases c <;> rfl
theorem qB (k:Nat)(a:List Nat):∀ c,iJ (a.map (k * ·)) c=k * iJ a c:=by
 induction a using List.rec with
 | nil=>exact λc=>rfl
 | cons x l ih =>
  intro c;show k * x * c.headD 0+iJ (l.map (k * ·)) c.tail=k * (x * c.headD 0+iJ l c.tail);rw [ih,mul_add,mul_assoc]
theorem yJ (c:List Nat)(t:LT0):t.ev c=iJ t.nf.1 c+t.nf.2:=by
 induction t using LT0.rec with
 | v i=>exact (s9 i c).symm
 | n k=>exact (zero_add k).symm
 | a x y ix iy =>
  show x.ev c+y.ev c=iJ (sm x.nf.1 y.nf.1) c+(x.nf.2+y.nf.2);rw [ix,iy,uk];lia
 | m k x ix =>
  show k * x.ev c=iJ (x.nf.1.map (k * ·)) c+k * x.nf.2;rw [ix,qB,mul_add]
 | r x k ix =>
  show x.ev c * k=iJ (x.nf.1.map (k * ·)) c+k * x.nf.2;rw [ix,qB,<- mul_add,mul_comm]
noncomputable def leL (a b:List Nat):Bool:=List.rec (motive:=λ_=>List Nat->Bool) (λ_=>true) (λx _ ih b=>Nat.ble x (b.headD 0) && ih b.tail) a b
theorem zy (a:List Nat):∀ b c,leL a b=true->iJ a c<=iJ b c:=by
 induction a using List.rec with
 | nil=>exact λb c _=>zero_le _
 | cons x l ih =>
  intro b c h;have h:=and_eq_true_iff.mp (show (Nat.ble x (b.headD 0) && leL l b.tail)=true from h);have h1:=le_of_ble_eq_true h.1;have h2:=ih b.tail c.tail h.2;cases b with
  | nil =>
   have:x=0:=le_zero.mp h1;have h3:iJ l c.tail<=0:=h2;show x * c.headD 0+iJ l c.tail<=0;rw [this];lia
  | cons y s=>exact add_le_add (mul_le_mul_right _ h1) h2
noncomputable def LT0.all (c:List Nat)(P:Prop)(hs:List (Nat×LT0×LT0)):Prop:=List.rec P (λh _ q=>h.2.1.ev c<=h.2.2.ev c->q) hs
noncomputable def LT0.sum (f:LT0×LT0->LT0)(e:LT0)(hs:List (Nat×LT0×LT0)):LT0:=List.rec e (λh _ q => .a (.m h.1 (f h.2)) q) hs
noncomputable def LT0.check (k:Nat)(l r:LT0)(hs:List (Nat×LT0×LT0)):Bool :=
 let L:=(LT0.sum (·.1) (.m k (.a r (.n 1))) hs).nf
 let R:=(LT0.sum (·.2) (.m k l) hs).nf
 leL R.1 L.1 && Nat.blt R.2 L.2
theorem yz (c:List Nat){P:Prop}{l r:LT0}(hs:List (Nat×LT0×LT0)):(l.ev c<=r.ev c->(LT0.sum (·.1) l hs).ev c<=(LT0.sum (·.2) r hs).ev c->P)->(l.ev c<=r.ev c)->LT0.all c P hs:=by
 induction hs using List.rec generalizing P with
 | nil=>exact λh k=>h k k
 | cons x t ih=>exact λh k q=>ih (λk s=>h k (add_le_add (mul_le_mul_left x.1 q) s)) k
theorem xU (c:List Nat){P Q:Prop}(hs:List (Nat×LT0×LT0))(h:P->Q):LT0.all c P hs->LT0.all c Q hs:=by
 induction hs using List.rec with
 | nil=>exact h
 | cons x t ih=>exact λk q=>ih (k q)
theorem y8 (c:List Nat){P:Prop}(hs:List (Nat×LT0×LT0))(h:¬ P->LT0.all c P hs):LT0.all c P hs:=by
 by_cases p:P
 ·exact xU (P:=True) c hs (λ_=>p) (by induction hs using List.rec with | nil=>trivial | cons x t ih=>exact λ_=>ih λn=>(n p).elim)
 ·exact h p
theorem lin (c:List Nat)(k:Nat)(l r:LT0)(hs:List (Nat×LT0×LT0))(ok:LT0.check k l r hs=true):LT0.all c (l.ev c<=r.ev c) hs :=
 y8 c hs λn=>yz c (l:=.m k (.a r (.n 1))) (r:=.m k l) hs (λ_ q=>by
  have ok:=and_eq_true_iff.mp ok;rw [yJ,yJ] at q;have h1:=zy _ _ c ok.1;have h2:(LT0.sum (·.2) (.m k l) hs).nf.2 < (LT0.sum (·.1) (.m k (.a r (.n 1))) hs).nf.2:=le_of_ble_eq_true ok.2;exact absurd q (Nat.not_le_of_lt (Nat.add_lt_add_of_le_of_lt h1 h2))) (mul_le_mul_left k (Nat.lt_of_not_le n))
theorem bh {a:Nat}(l r:LT0)(hs:List (Nat×LT0×LT0))(ok:LT0.check 1 l r hs=true):LT0.all [a] (l.ev [a]<=r.ev [a]) hs:=lin [a] 1 l r hs ok
theorem a5 {a b:Nat}(l r:LT0)(hs:List (Nat×LT0×LT0))(ok:LT0.check 1 l r hs=true):LT0.all [a,b] (l.ev [a,b]<=r.ev [a,b]) hs:=lin [a,b] 1 l r hs ok
theorem aZ {a b c:Nat}(l r:LT0)(hs:List (Nat×LT0×LT0))(ok:LT0.check 1 l r hs=true):LT0.all [a,b,c] (l.ev [a,b,c]<=r.ev [a,b,c]) hs:=lin [a,b,c] 1 l r hs ok
theorem fW {a b c d:Nat}(l r:LT0)(hs:List (Nat×LT0×LT0))(ok:LT0.check 1 l r hs=true):LT0.all [a,b,c,d] (l.ev [a,b,c,d]<=r.ev [a,b,c,d]) hs:=lin [a,b,c,d] 1 l r hs ok
theorem sX {a b c d e:Nat}(l r:LT0)(hs:List (Nat×LT0×LT0))(ok:LT0.check 1 l r hs=true):LT0.all [a,b,c,d,e] (l.ev [a,b,c,d,e]<=r.ev [a,b,c,d,e]) hs:=lin [a,b,c,d,e] 1 l r hs ok
theorem zN {a b c d e f:Nat}(l r:LT0)(hs:List (Nat×LT0×LT0))(ok:LT0.check 1 l r hs=true):LT0.all [a,b,c,d,e,f] (l.ev [a,b,c,d,e,f]<=r.ev [a,b,c,d,e,f]) hs:=lin [a,b,c,d,e,f] 1 l r hs ok
theorem Be {a b c d e f g:Nat}(l r:LT0)(hs:List (Nat×LT0×LT0))(ok:LT0.check 1 l r hs=true):LT0.all [a,b,c,d,e,f,g] (l.ev [a,b,c,d,e,f,g]<=r.ev [a,b,c,d,e,f,g]) hs:=lin [a,b,c,d,e,f,g] 1 l r hs ok
theorem Ab {a b c d e f g h:Nat}(l r:LT0)(hs:List (Nat×LT0×LT0))(ok:LT0.check 1 l r hs=true):LT0.all [a,b,c,d,e,f,g,h] (l.ev [a,b,c,d,e,f,g,h]<=r.ev [a,b,c,d,e,f,g,h]) hs:=lin [a,b,c,d,e,f,g,h] 1 l r hs ok
end
section
open PySem
inductive D where
 | none
 | bool (b:Bool)
 | int (i:Int)
 | str (x:Str)
 | tup (l:List D)
 | ref (k:Nat)
 deriving Inhabited
mutual
noncomputable def D.py:D->Option Ca
 | .none=>some .none
 | .bool b=>some (.bool b)
 | .int i=>some (.int i)
 | .str x=>some (.str x)
 | .tup l=>(D.pys l).map .tuple
 | .ref _=>Option.none
noncomputable def D.pys:List D->Option (List Ca)
 | []=>some []
 | x::r=>(D.py x).bind λa=>(D.pys r).map (a :: ·)
end
inductive PO where
 | list (l:List D)
 | dS (l:List (Str×D))
 | dI (l:List (Int×D))
 | dT (l:List (List Int×D))
 | inst (d:Nat)
 deriving Inhabited
noncomputable abbrev Sto:=List (PO×Nat)
noncomputable abbrev PM:=StateT Sto Option
noncomputable def aT {α:Type} : PM α:=λ_=>Option.none
noncomputable def alloc (o:PO):PM D:=λσ=>some (.ref σ.length,σ++[(o,0)])
noncomputable def getP (k:Nat):PM (PO×Nat):=λσ=>match σ[k]? with | some p=>some (p,σ) | Option.none=>Option.none
noncomputable def getO (k:Nat):PM PO:=λσ=>match σ[k]? with | some p=>some (p.1,σ) | Option.none=>Option.none
noncomputable def ver (σ:Sto)(k:Nat):Nat:=match σ[k]? with | some p=>p.2 | Option.none=>0
noncomputable def setO (k:Nat)(o:PO):PM Unit:=λσ=>some ((),σ.set k (o,ver σ k+1))
noncomputable def ofOpt {α:Type} : Option α->PM α
 | some a=>pure a
 | Option.none=>aT
noncomputable def must (b:Bool):PM Unit:=if b then pure () else aT
noncomputable def aQ:Nat:=4096
noncomputable def mkTup (l:List D):PM D:=do must (decide (l.length<=aQ));pure (.tup l)
noncomputable def mkList (l:List D):PM D:=do must (decide (l.length<=aQ));alloc (.list l)
noncomputable def co:D->PM Int
 | .int i=>pure i
 | _=>aT
noncomputable def df:D->PM Bool
 | .bool b=>pure b
 | _=>aT
noncomputable def cb:List D->Option (List Int)
 | []=>some []
 | .int i::r=>(cb r).map (i :: ·)
 | _::_=>Option.none
noncomputable def listAt (k:Nat):PM (List D):=do
 match <- getO k with
 | .list l=>pure l
 | _=>aT
noncomputable def oD:D->PM (List D)
 | .tup l=>pure l
 | .ref k=>listAt k
 | _=>aT
noncomputable def qb:D->PM (List D)
 | .ref k=>listAt k
 | _=>aT
noncomputable def eS:D->PM (List D)
 | .ref k=>do
  match <- getO k with
  | .list l=>pure l
  | .dT l=>pure (l.map λp => .tup (p.1.map .int))
  | .dS []=>pure []
  | _=>aT
 | _=>aT
noncomputable def yi:PO->Option (List D)
 | .list l=>some l
 | .dS l=>some (l.map λp => .str p.1)
 | _=>Option.none
inductive Src where
 | tup (l:List D)
 | at (k v:Nat) (l:List D)
 | rng (n:Nat)
noncomputable def Src.items:Src->List D
 | .tup l | .at _ _ l=>l
 | .rng n=>(List.range n).map λ(i:Nat)=>D.int i
noncomputable def gS:D->PM Src
 | .tup l=>pure (.tup l)
 | .ref k=>do
  let p <- getP k
  let l <- ofOpt (yi p.1)
  pure (.at k p.2 l)
 | _=>aT
noncomputable def Src.still:Src->PM Unit
 | .at k v _=>do
  let p <- getP k
  must (p.2==v)
 | _=>pure ()
noncomputable def nu (n:Int):PM Src:=do must (decide (0<=n) && decide (n<=64));pure (.rng n.toNat)
noncomputable def er:D->PM Ca
 | .ref k=>do
  let l <- listAt k
  ofOpt ((D.pys l).map .list)
 | d=>ofOpt d.py
noncomputable def eqD (a b:D):PM Bool:=do
 let x <- er a
 let y <- er b
 must (SeqAt.shaped x && SeqAt.shaped y)
 pure (PyData.eqv x y)
noncomputable def kW (x:Ca)(l:List Ca):Bool:=l.any λy=>PyData.eqv y x
noncomputable def inD (a c:D):PM Bool:=match c with
 | .tup l=>do
  let x <- ofOpt a.py
  let ys <- ofOpt (D.pys l)
  must (SeqAt.shaped (.tuple ys) && SeqAt.shaped x)
  pure (kW x ys)
 | .ref k=>do
  match <- getO k,a with
  | .list l,a=>do
   let x <- ofOpt a.py
   let ys <- ofOpt (D.pys l)
   must (SeqAt.shaped (.list ys) && SeqAt.shaped x)
   pure (kW x ys)
  | .dS l,.str x=>pure ((l.lookup x).isSome)
  | .dT l,.tup t=>do
   let t <- ofOpt (cb t)
   pure ((l.lookup t).isSome)
  | .dS [],.tup t=>do
   let _ <- ofOpt (cb t)
   pure false
  | _,_=>aT
 | _=>aT
noncomputable def pK (op:DG)(a b:D):PM D:=match op with
 | .Eq=>do pure (.bool (<- eqD a b))
 | .NotEq=>do pure (.bool (!(<- eqD a b)))
 | .In=>do pure (.bool (<- inD a b))
 | .NotIn=>do pure (.bool (!(<- inD a b)))
 | .Lt=>do let x <- co a;let y <- co b;pure (.bool (decide (x < y)))
 | .LtE=>do let x <- co a;let y <- co b;pure (.bool (decide (x<=y)))
 | .Gt=>do let x <- co a;let y <- co b;pure (.bool (decide (x > y)))
 | .Is=>do let x <- df a;let y <- df b;pure (.bool (x==y))
 | _=>aT
noncomputable def fz (i:Int):Bool:=decide (-(2 ^ 62)<=i) && decide (i<=2 ^ 62)
noncomputable def AM (a b:D):PM D:=match a,b with
 | .int x,.int y=>pure (.int (x+y))
 | .tup x,.tup y=>mkTup (x++y)
 | .ref j,.ref k=>do
  let x <- listAt j
  let y <- listAt k
  mkList (x++y)
 | _,_=>aT
noncomputable def pD (op:Dj)(a b:D):PM D:=match op with
 | .Add=>AM a b
 | .Sub=>do let x <- co a;let y <- co b;pure (.int (x - y))
 | .Mult=>match a,b with
  | .int x,.int y=>do must (fz x && fz y);pure (.int (x * y))
  | .ref k,.int y=>do
   let x <- listAt k
   must (decide (0<=y) && decide (y<=4))
   mkList ((List.replicate y.toNat x).flatten)
  | _,_=>aT
 | .FloorDiv=>do let x <- co a;let y <- co b;must (decide (0 < y) && decide (y < 1073741824));pure (.int (x.fdiv y))
 | .Mod=>do let x <- co a;let y <- co b;must (decide (0 < y) && decide (y < 1073741824));pure (.int (x.fmod y))
 | .RShift=>do let x <- co a;let y <- co b;must (decide (0<=y) && decide (y<=62));pure (.int (x.fdiv (2 ^ y.toNat)))
 | .BitAnd=>do let x <- co a;let y <- co b;pure (.int (Builtin.bitAnd x y))
 | _=>aT
noncomputable def l8 (o i:D):PM D:=match o with
 | .tup l=>do
  let i <- co i
  must (decide (-2 ^ 63<=i) && decide (i < 2 ^ 63))
  let j <- ofOpt (seqIndex? i l.length)
  ofOpt l[j]?
 | .ref k=>do
  match <- getO k,i with
  | .list l,.int n=>do
   must (decide (0<=n))
   ofOpt l[n.toNat]?
  | .dS l,.str x=>ofOpt (l.lookup x)
  | _,_=>aT
 | _=>aT
noncomputable def oc (o:D)(lo hi:Option Int):PM D:=match o,lo,hi with
 | .tup l,some i,Option.none=>do
  must (decide (1<=i) && decide (i<=l.length))
  mkTup (l.drop i.toNat)
 | .tup l,Option.none,some i=>do
  must (decide (i = -1) && !l.isEmpty)
  mkTup (l.take (l.length - 1))
 | .ref k,Option.none,some i=>do
  must (decide (0<=i))
  let l <- listAt k
  mkList (l.take i.toNat)
 | _,_,_=>aT
inductive Un where
 | one
 | two
 | str
noncomputable def dec:Un->Nat->D
 | .one,n => .tup [.int (n:Nat)]
 | .two,n => .tup [.int ((n / 2:Nat):Int),.int ((n % 2:Nat):Int)]
 | .str,n => .str (if n=0 then "x" else "y")
noncomputable def enc:Un->D->Option Nat
 | .one,.tup [.int a]=>if a=0 then some 0 else if a=1 then some 1 else Option.none
 | .two,.tup [.int a,.int b]=>if a=0 then (if b=0 then some 0 else if b=1 then some 1 else Option.none) else if a=1 then (if b=0 then some 2 else if b=1 then some 3 else Option.none) else Option.none
 | .str,.str x=>if x=("x" : Str) then some 0 else if x=("y" : Str) then some 1 else Option.none
 | _,_=>Option.none
noncomputable def pi (u:Un):List D->Option (List Nat)
 | []=>some []
 | d::r=>(enc u d).bind λa=>(pi u r).map (a :: ·)
noncomputable def x4 (l:List D):Option (Un×List Nat):=match pi .one l with
 | some c=>some (.one,c)
 | Option.none=>match pi .two l with
  | some c=>some (.two,c)
  | Option.none=>match pi .str l with
   | some c=>some (.str,c)
   | Option.none=>Option.none
noncomputable def A7 (x:Nat):List Nat->List Nat
 | []=>[x]
 | y::r=>if x<=y then x::y::r else y::A7 x r
noncomputable def d5:List Nat->List Nat
 | []=>[]
 | x::r=>A7 x (d5 r)
noncomputable def pT (l:List D):PM (List D):=do
 must (decide (l.length<=4))
 let p <- ofOpt (x4 l)
 pure ((d5 p.2).map (dec p.1))
noncomputable def cV (l:List D):PM (List D):=do
 must (decide (l.length<=aQ))
 let p <- ofOpt (x4 l)
 pure (((List.range 4).filter λn=>p.2.contains n).map (dec p.1))
noncomputable def put {α:Type}[DecidableEq α](k:α)(v:D)(l:List (α×D)):List (α×D) :=
 if l.any (λp=>p.1=k) then l.map (λp=>if p.1=k then (p.1,v) else p) else l++[(k,v)]
noncomputable def lG (o:PO)(k v:D):Option PO:=match o,k with
 | .dS l,.str x=>some (.dS (put x v l))
 | .dT l,.tup t=>(cb t).map λt => .dT (put t v l)
 | .dS [],.tup t=>(cb t).map λt => .dT [(t,v)]
 | .dI l,.int i=>some (.dI (put i v l))
 | .dS [],.int i=>some (.dI [(i,v)])
 | _,_=>Option.none
noncomputable def f7:PO->Nat
 | .list l=>l.length
 | .dS l=>l.length
 | .dI l=>l.length
 | .dT l=>l.length
 | .inst _=>0
noncomputable def jI (o k v:D):PM Unit:=match o with
 | .ref a=>do
  let po <- getO a
  must (decide (f7 po<=aQ))
  setO a (<- ofOpt (lG po k v))
 | _=>aT
noncomputable def b8:List D->PO->Option PO
 | [],o=>some o
 | .tup [k,v]::r,o=>(lG o k v).bind (b8 r)
 | _::_,_=>Option.none
noncomputable def jB (d:D):PM D:=match d with
 | .ref a=>do
  match <- getO a with
  | .list l=>do
   must (decide (l.length<=aQ))
   alloc (<- ofOpt (b8 l (.dS [])))
  | .dS l=>alloc (.dS l)
  | _=>aT
 | _=>aT
noncomputable def wV (o:PO)(k:D):Option (Option D):=match o,k with
 | .dS l,.str x=>some (l.lookup x)
 | .dI l,.int i=>some (l.lookup i)
 | .dS [],.int _=>some Option.none
 | _,_=>Option.none
noncomputable def wP (o:PO)(k:D):Option (Option D):=match o,k with
 | .dI l,.int i=>some (l.lookup i)
 | .dS [],.int _=>some Option.none
 | _,_=>Option.none
noncomputable def di {α:Type}[DecidableEq α](k:α)(l:List (α×D)):List (α×D):=l.filter λp=>decide (p.1≠k)
noncomputable def bY:List Str:=["many","instance","ways"]
noncomputable def xIs (i:Nat)(e:Expr):Bool:=Nat.beq e.ctorIdx i
noncomputable def kZ {α:Type}(d:α)(k:Str->α)(e:Expr):α:=Expr.casesOn (motive_1:=λ_=>α) e (λ_ _ _=>d) (λ_ _ _=>d) (λ_ _ _ _=>d) (λ_ _ _=>d) (λ_ _ _ _=>d) (λ_ _ _ _=>d) (λ_ _ _=>d) (λ_ _ _=>d) (λ_ _ _ _=>d) (λ_ _ _ _=>d) (λ_ _ _ _ _=>d) (λ_ _ _ _=>d) (λ_ _=>d) (λ_ _=>d) (λ_ _=>d) (λ_ _ _ _=>d) (λ_ _ _ _=>d) (λ_ _ _ _=>d) (λ_ _=>d) (λ_ _ _=>d) (λ_ _ _=>d) (λ_ _ _=>d) (λ_ _=>d) (λx _=>k x) (λ_ _=>d) (λ_ _ _=>d) (λ_ _ _ _=>d)
noncomputable def pQ {α:Type}(d:α)(k:Expr->List Expr->List Keyword->Pos->α)(e:Expr):α:=Expr.casesOn (motive_1:=λ_=>α) e (λ_ _ _=>d) (λ_ _ _=>d) (λ_ _ _ _=>d) (λ_ _ _=>d) (λ_ _ _ _=>d) (λ_ _ _ _=>d) (λ_ _ _=>d) (λ_ _ _=>d) (λ_ _ _ _=>d) (λ_ _ _ _=>d) (λ_ _ _ _ _=>d) (λ_ _ _ _=>d) (λ_ _=>d) (λ_ _=>d) (λ_ _=>d) (λ_ _ _ _=>d) k (λ_ _ _ _=>d) (λ_ _=>d) (λ_ _ _=>d) (λ_ _ _=>d) (λ_ _ _=>d) (λ_ _=>d) (λ_ _=>d) (λ_ _=>d) (λ_ _ _=>d) (λ_ _ _ _=>d)
noncomputable def wD {α:Type}(d:α)(k:Expr->Str->Pos->α)(e:Expr):α:=Expr.casesOn (motive_1:=λ_=>α) e (λ_ _ _=>d) (λ_ _ _=>d) (λ_ _ _ _=>d) (λ_ _ _=>d) (λ_ _ _ _=>d) (λ_ _ _ _=>d) (λ_ _ _=>d) (λ_ _ _=>d) (λ_ _ _ _=>d) (λ_ _ _ _=>d) (λ_ _ _ _ _=>d) (λ_ _ _ _=>d) (λ_ _=>d) (λ_ _=>d) (λ_ _=>d) (λ_ _ _ _=>d) (λ_ _ _ _=>d) (λ_ _ _ _=>d) (λ_ _=>d) (λ_ _ _=>d) k (λ_ _ _=>d) (λ_ _=>d) (λ_ _=>d) (λ_ _=>d) (λ_ _ _=>d) (λ_ _ _ _=>d)
noncomputable def Bg {α:Type}(d:α)(k:List Expr->α)(e:Expr):α:=Expr.casesOn (motive_1:=λ_=>α) e (λ_ _ _=>d) (λ_ _ _=>d) (λ_ _ _ _=>d) (λ_ _ _=>d) (λ_ _ _ _=>d) (λ_ _ _ _=>d) (λ_ _ _=>d) (λ_ _ _=>d) (λ_ _ _ _=>d) (λ_ _ _ _=>d) (λ_ _ _ _ _=>d) (λ_ _ _ _=>d) (λ_ _=>d) (λ_ _=>d) (λ_ _=>d) (λ_ _ _ _=>d) (λ_ _ _ _=>d) (λ_ _ _ _=>d) (λ_ _=>d) (λ_ _ _=>d) (λ_ _ _=>d) (λ_ _ _=>d) (λ_ _=>d) (λ_ _=>d) (λ_ _=>d) (λl _ _=>k l) (λ_ _ _ _=>d)
noncomputable def xUn {α:Type}(d:α)(k:UnaryOp->Expr->α)(e:Expr):α:=Expr.casesOn (motive_1:=λ_=>α) e (λ_ _ _=>d) (λ_ _ _=>d) (λ_ _ _ _=>d) (λo x _=>k o x) (λ_ _ _ _=>d) (λ_ _ _ _=>d) (λ_ _ _=>d) (λ_ _ _=>d) (λ_ _ _ _=>d) (λ_ _ _ _=>d) (λ_ _ _ _ _=>d) (λ_ _ _ _=>d) (λ_ _=>d) (λ_ _=>d) (λ_ _=>d) (λ_ _ _ _=>d) (λ_ _ _ _=>d) (λ_ _ _ _=>d) (λ_ _=>d) (λ_ _ _=>d) (λ_ _ _=>d) (λ_ _ _=>d) (λ_ _=>d) (λ_ _=>d) (λ_ _=>d) (λ_ _ _=>d) (λ_ _ _ _=>d)
noncomputable def zB {α:Type}(d:α)(k:Option Expr->Option Expr->α)(e:Expr):α:=Expr.casesOn (motive_1:=λ_=>α) e (λ_ _ _=>d) (λ_ _ _=>d) (λ_ _ _ _=>d) (λ_ _ _=>d) (λ_ _ _ _=>d) (λ_ _ _ _=>d) (λ_ _ _=>d) (λ_ _ _=>d) (λ_ _ _ _=>d) (λ_ _ _ _=>d) (λ_ _ _ _ _=>d) (λ_ _ _ _=>d) (λ_ _=>d) (λ_ _=>d) (λ_ _=>d) (λ_ _ _ _=>d) (λ_ _ _ _=>d) (λ_ _ _ _=>d) (λ_ _=>d) (λ_ _ _=>d) (λ_ _ _=>d) (λ_ _ _=>d) (λ_ _=>d) (λ_ _=>d) (λ_ _=>d) (λ_ _ _=>d) (λa b c _=>Option.casesOn c (k a b) λ_=>d)
noncomputable def nW (e:Expr):Bool:=pQ true (λf _ _ _ => !xIs 23 f) e
noncomputable def c8 (o:Expr)(apos pos:Pos)(n:Nat):Bool:=nW o && apos.endLine==pos.line && decide (n < 20)
noncomputable def uE (k:Nat):PM (Nat×List (Str×D)):=do
 match <- getO k with
 | .inst d=>do
  match <- getO d with
  | .dS l=>pure (d,l)
  | _=>aT
 | _=>aT
noncomputable def sy (l:List D):PM (List Int):=ofOpt (cb l)
noncomputable def dj:List D->Option (List Bool)
 | []=>some []
 | .bool i::r=>(dj r).map (i :: ·)
 | _::_=>Option.none
noncomputable def vE (a:D):PM D:=match a with
 | .tup l=>pure (.tup l)
 | a=>do mkTup (<- oD a)
noncomputable def yH (a:D):PM D:=do mkList (<- oD a)
noncomputable def mZ (a:D):PM D:=do mkList (<- pT (<- eS a))
noncomputable def A4 (a:D):PM D:=match a with
 | .tup l=>pure (.int l.length)
 | .ref k=>do pure (.int (<- listAt k).length)
 | _=>aT
noncomputable def BG (a:D):PM D:=do
 let l <- sy (<- qb a)
 must (decide (l.length<=64) && l.all λi=>decide (0<=i) && decide (i<=1000))
 pure (.int (l.foldl (· + ·) 0))
noncomputable def Bi (a:D):PM D:=do pure (.bool ((<- ofOpt (dj (<- qb a))).any λb=>b))
noncomputable def Bt (a:D):PM D:=do pure (.bool ((<- ofOpt (dj (<- qb a))).all λb=>b))
noncomputable def intB (a:D):PM D:=match a with
 | .int i=>pure (.int i)
 | .bool b=>pure (.int (if b then 1 else 0))
 | _=>aT
noncomputable def x9 (a:D):PM D:=match a with
 | .tup l=>do
  let p <- ofOpt (D.py (.tup l))
  must (p.showable && decide (p.shown.length<=Ct) && decide (p.depth<=64))
  pure (.str p.shown)
 | _=>aT
noncomputable def AK:List (Str×(D->PM D)):=[("tuple",vE),("list",yH),("dict",jB),("sorted",mZ),("len",A4),("sum",BG),("any",Bi),("all",Bt),("int",intB),("repr",x9)]
noncomputable def b9 (nm:Str)(a:D):PM D:=((AK.lookup nm).getD λ_=>aT) a
noncomputable def cx:List Str:=["tuple","list","dict","sorted","len","sum","any","all","int","repr"]
noncomputable def tagO:PO->Nat
 | .inst _=>0
 | .list _=>1
 | _=>2
noncomputable def iI (o:D)(name:Str):PM Nat:=match o with
 | .ref k=>do
  match <- getO k with
  | .inst _=>do
   let (_,l) <- uE k
   must (l.lookup name).isNone
   pure 0
  | .list _=>do
   must (name==("append" : Str))
   pure 1
  | .dT _=>aT
  | _=>do
   must (name==("get" : Str) || name==("pop" : Str) || name==("setdefault" : Str))
   pure 2
 | _=>aT
noncomputable def lT (k:Nat)(l:List D)(v:D):PM D:=do
 must (decide (l.length<=aQ))
 setO k (.list (l++[v]))
 pure .none
noncomputable def uX (po:PO)(x d:D):PM D:=do
 let r <- ofOpt (wV po x)
 pure (r.getD d)
noncomputable def ii (k:Nat)(po:PO)(x d:D):PM D:=do
 match <- ofOpt (wP po x) with
 | some v=>pure v
 | Option.none=>do
  must (decide (f7 po<=aQ))
  let po' <- ofOpt (lG po x d)
  setO k po'
  pure d
noncomputable def yn (k:Nat)(l:List (Str×D))(y:Str)(d:D):PM D:=match l.lookup y with
 | some v=>do
  setO k (.dS (di y l))
  pure v
 | Option.none=>pure d
noncomputable def cG (k:Nat)(po:PO)(name:Str)(x d:D):PM D :=
 if name==("get" : Str) then uX po x d
 else if name==("setdefault" : Str) then ii k po x d
 else if name==("pop" : Str) then match po,x with
  | .dS l,.str y=>yn k l y d
  | _,_=>aT
 else aT
noncomputable def l6 (cf:Str->List D->PM D)(tag:Nat)(o:D)(name:Str)(args:List D):PM D:=match o with
 | .ref k=>do
  let po <- getO k
  must (tagO po==tag)
  match po with
  | .inst _=>cf (("Evaluator." : Str)++name) (.ref k::args)
  | .list l=>match args with
   | [v]=>lT k l v
   | _=>aT
  | po=>match args with
   | [x,d]=>cG k po name x d
   | _=>aT
 | _=>aT
noncomputable abbrev Loc:=List (Str×Option D)
noncomputable def Loc.get (ρ:Loc)(x:Str):PM D:=match ρ.lookup x with
 | some (some d)=>pure d
 | _=>aT
noncomputable def Loc.put (x:Str)(d:D):Loc->Loc
 | []=>[]
 | (a,b)::r=>if a==x then (a,some d)::r else (a,b)::Loc.put x d r
noncomputable def xR:List (Str×D):=[("_law_signs",.tup [.str "x",.str "y"]),("MOST_ROWS",.int 2000000),("MOST_WAYS",.int 1000000)]
noncomputable def wB (sc:B0)(ρ:Loc)(x:Str):PM D:=match sc.names.lookup x with
 | some .local | some .cell | some .free=>ρ.get x
 | some .globalImplicit=>ofOpt (xR.lookup x)
 | _=>aT
noncomputable def bk (sc:B0)(x:Str):Bool:=sc.names.lookup x==some .globalImplicit
noncomputable def rD:Const->PM D
 | .none=>pure .none
 | .bool b=>pure (.bool b)
 | .int i=>pure (.int i)
 | .str x=>pure (.str x)
 | _=>aT
noncomputable def bE (ev:Expr->PM D):List Expr->PM (List D)
 | []=>pure []
 | e::r=>do
  let d <- ev e
  let ds <- bE ev r
  pure (d::ds)
noncomputable def eE (ev:Expr->PM D):List (Option Expr)->List Expr->PM (List (D×D))
 | [],[]=>pure []
 | some k::ks,v::vs=>do
  let a <- ev k
  let b <- ev v
  let r <- eE ev ks vs
  pure ((a,b)::r)
 | _,_=>aT
noncomputable def fh:List (D×D)->List (Str×D)->Option (List (Str×D))
 | [],l=>some l
 | (.str k,v)::r,l=>fh r (put k v l)
 | _::_,_=>Option.none
noncomputable def ay (scope parent:B0):B0 :=
 {scope with names:=scope.names.map λ(n,k)=>if k == .free && parent.kind == .function && parent.names.lookup n==some .cell then (n,.cell) else (n,k)}
noncomputable def cD (scope parent:B0):Bool :=
 scope.kind == .function &&
 scope.names.all λ(n,k)=>n != ("__debug__" : Str) && n != ("__classdict__" : Str) && k != .cell && (k != .local || scope.names.lookup n==some .local) &&
  (k != .free || ((parent.names.lookup n==some .cell || parent.names.lookup n==some .free) && scope.names.lookup n==some .free))
noncomputable def bL (scope:B0)(ρ:Loc):Loc :=
 scope.names.filterMap λ(n,k)=>match k with
  | .local=>if n==(".0" : Str) then Option.none else some (n,Option.none)
  | .free=>(ρ.lookup n).map λd=>(n,d)
  | _=>Option.none
noncomputable def fj:D->Option (D×D)
 | .tup [u,v]=>some (u,v)
 | _=>Option.none
noncomputable def pV {α:Type}(d:α)(k1:Str->α)(k2:Str->Str->α)(tg:Expr):α :=
 kZ (Bg d (λts=>List.casesOn ts d λx r=>kZ d (λa=>List.casesOn r d λy r=>kZ d (λb=>List.casesOn r (k2 a b) λ_ _=>d) y) x) tg) k1 tg
noncomputable def ge (sc:B0)(tg:Expr)(x:D)(ρ:Loc):PM Loc:=pV aT (λn=>do
  must (sc.names.lookup n==some .local || sc.names.lookup n==some .cell)
  pure (ρ.put n x)) (λa b=>do
  must (sc.names.lookup a==some .local || sc.names.lookup a==some .cell)
  must (sc.names.lookup b==some .local || sc.names.lookup b==some .cell)
  match fj x with
  | some p=>pure ((ρ.put a p.1).put b p.2)
  | Option.none=>aT) tg
noncomputable def bare (ρ:Loc)(x:Str):Bool:=match ρ.lookup x with
 | some Option.none=>true
 | _=>false
noncomputable def Aw (ρ:Loc)(e:Expr):Bool:=pV false (bare ρ) (λa b=>bare ρ a && bare ρ b) e
noncomputable def d4 (sc:B0)(tg:Expr)(x:D)(ρ:Loc):PM Loc:=do
 must (Aw ρ tg)
 ge sc tg x ρ
noncomputable def bJ (src:Src)(body:D->PM (List D)):List D->PM (List D)
 | []=>pure []
 | x::xs=>do
  src.still
  let a <- body x
  let r <- bJ src body xs
  pure (a++r)
inductive Fl where
 | next
 | ret (d:D)
noncomputable def d3 (src:Src)(body:D->Loc->PM (Fl×Loc)):List D->Loc->PM (Fl×Loc)
 | [],ρ=>do
  src.still
  pure (.next,ρ)
 | x::xs,ρ=>do
  src.still
  let (f,ρ') <- body x ρ
  match f with
  | .next=>d3 src body xs ρ'
  | .ret d=>pure (.ret d,ρ')
noncomputable def dy (test:Loc->PM Bool)(body:Loc->PM (Fl×Loc)):Nat->Loc->PM (Fl×Loc)
 | 0,_=>aT
 | n+1,ρ=>do
  if <- test ρ then do
   let (f,ρ') <- body ρ
   match f with
   | .next=>dy test body n ρ'
   | .ret d=>pure (.ret d,ρ')
  else pure (.next,ρ)
noncomputable def oj (e:Expr):Bool:=xIs 7 e
inductive Sp where
 | setOf (e:Expr)
 | items (o:Expr) (apos pos2:Pos)
 | isb (e:Expr)
 | one (e:Expr)
 | fn
 | no
noncomputable def one? {α β:Type}(d:α)(k:β->α)(l:List β):α:=List.casesOn l d λa r=>List.casesOn r (k a) λ_ _=>d
noncomputable def nil? {α β:Type}(d k:α)(l:List β):α:=List.casesOn l k λ_ _=>d
noncomputable def jq (x:Expr):Sp:=pQ (.one x) (λf as ks _=>kZ (.one x) (λid2=>one? (.one x) (λe=>nil? (.one x) (if id2==("set" : Str) then .setOf e else .one x) ks) as) f) x
noncomputable def qv (x:Expr):Sp:=pQ (.one x) (λf as ks pos2=>wD (.one x) (λo m apos=>nil? (.one x) (nil? (.one x) (if m==("items" : Str) then .items o apos pos2 else .no) ks) as) f) x
noncomputable def wh (e y:Expr):Sp:=kZ .no (λty=>if ty==("bool" : Str) then .isb e else .no) y
noncomputable def cJ (id:Str)(args:List Expr):Sp :=
 if id==("isinstance" : Str) then (match args with
  | [e,ty]=>wh e ty
  | _ => .no)
 else if cx.contains id then (match args with
  | [e]=>if id==("sorted" : Str) then jq e else if id==("list" : Str) then qv e else .one e
  | _ => .no)
 else if id.cps.contains 46 then .no else .fn
mutual
noncomputable def ak (cf:Str->List D->PM D):Nat->B0->Loc->Expr->PM D
 | 0,_,_,_=>aT
 | t+1,sc,ρ,e=>Expr.casesOn (motive_1:=λ_=>PM D) e
  (λop vs _=>kD cf t sc ρ op vs)
  (λ_ _ _=>aT)
  (λl op r _=>do
   let a <- ak cf t sc ρ l
   let b <- ak cf t sc ρ r
   pD op a b)
  (λop x _=>do
   let a <- ak cf t sc ρ x
   match op with
   | .USub=>do let i <- co a;must (fz i);pure (.int (-i))
   | .Not=>do pure (.bool (!(<- df a)))
   | _=>aT)
  (λ_ _ _ _=>aT)
  (λtest a b _=>do
   if <- cR cf t sc ρ test then ak cf t sc ρ a else ak cf t sc ρ b)
  (λks vs _=>do
   must (decide (ks.length<=15) && ks.length==vs.length)
   let ps <- eE (ak cf t sc ρ) ks vs
   alloc (.dS (<- ofOpt (fh ps []))))
  (λ_ _ _=>aT)
  (λelt gens scope _=>match gens with
   | [⟨tg,it,ifs,a0⟩]=>do
    must (a0==0)
    let src <- cz cf t sc ρ it
    must (cD scope sc)
    let sc':=ay scope sc
    let l <- bJ src (λx=>do
     let ρ1 <- d4 scope tg x (bL scope ρ)
     if <- bI cf t sc' ρ1 ifs then do
      let v <- ak cf t sc' ρ1 elt
      pure [v]
     else pure []) src.items
    src.still
    mkList l
   | [⟨tg,it,ifs,a0⟩,⟨tg2,it2,ifs2,b0⟩]=>do
    must (a0==0 && b0==0)
    let src <- cz cf t sc ρ it
    must (cD scope sc && !oj it2)
    let sc':=ay scope sc
    let l <- bJ src (λx=>do
     let ρ1 <- d4 scope tg x (bL scope ρ)
     if <- bI cf t sc' ρ1 ifs then do
      let src2 <- cz cf t sc' ρ1 it2
      let l2 <- bJ src2 (λy=>do
       let ρ2 <- d4 scope tg2 y ρ1
       if <- bI cf t sc' ρ2 ifs2 then do
        let v <- ak cf t sc' ρ2 elt
        pure [v]
       else pure []) src2.items
      src2.still
      pure l2
     else pure []) src.items
    src.still
    mkList l
   | _=>aT)
  (λ_ _ _ _=>aT)
  (λ_ _ _ _ _=>aT)
  (λ_ _ _ _=>aT)
  (λ_ _=>aT)
  (λ_ _=>aT)
  (λ_ _=>aT)
  (λl ops rs _=>one? aT (λop=>one? aT (λr=>do
   let a <- ak cf t sc ρ l
   let b <- ak cf t sc ρ r
   pK op a b) rs) ops)
  (λf args ks pos=>nil? aT (kZ (wD aT (λo name apos=>do
    must (c8 o apos pos args.length)
    let ov <- ak cf t sc ρ o
    let tag <- iI ov name
    let ds <- bE (ak cf t sc ρ) args
    l6 cf tag ov name ds) f) (λid=>do
    must (bk sc id)
    match cJ id args with
    | .setOf e=>do
     must (bk sc ("set" : Str))
     mkList (<- cV (<- qb (<- ak cf t sc ρ e)))
    | .items o apos pos2=>do
     must (c8 o apos pos2 0)
     match <- ak cf t sc ρ o with
     | .ref k=>do
      match <- getO k with
      | .dS l=>mkList (l.map λp => .tup [.str p.1,p.2])
      | _=>aT
     | _=>aT
    | .isb e=>do
     must (bk sc ("bool" : Str))
     match <- ak cf t sc ρ e with
     | .bool _=>pure (.bool true)
     | .ref k=>do
      let _ <- listAt k
      pure (.bool false)
     | _=>aT
    | .one e=>do b9 id (<- ak cf t sc ρ e)
    | .fn=>do
     let ds <- bE (ak cf t sc ρ) args
     cf id ds
    | .no=>aT) f) ks)
  (λ_ _ _ _=>aT)
  (λ_ _=>aT)
  (λc _ _=>rD c)
  (λv attr _=>do
   must (nW v && bY.contains attr)
   match <- ak cf t sc ρ v with
   | .ref k=>do
    let (_,l) <- uE k
    ofOpt (l.lookup attr)
   | _=>aT)
  (λv i _=>do
   let o <- ak cf t sc ρ v
   zB (do
    let j <- ak cf t sc ρ i
    l8 o j) (λlo hi=>do
    let a <- kz cf t sc ρ lo
    let b <- kz cf t sc ρ hi
    oc o a b) i)
  (λ_ _=>aT)
  (λx _=>wB sc ρ x)
  (λes _=>do mkList (<- bE (ak cf t sc ρ) es))
  (λes _ _=>do mkTup (<- bE (ak cf t sc ρ) es))
  (λ_ _ _ _=>aT)
noncomputable def cR (cf:Str->List D->PM D):Nat->B0->Loc->Expr->PM Bool
 | 0,_,_,_=>aT
 | t+1,sc,ρ,e=>xUn (bif xIs 0 e || xIs 5 e then aT else do df (<- ak cf t sc ρ e)) (λop x=>match op with
  | .Not=>do pure (!(<- cR cf t sc ρ x))
  | _=>do df (<- ak cf t sc ρ e)) e
noncomputable def bI (cf:Str->List D->PM D):Nat->B0->Loc->List Expr->PM Bool
 | 0,_,_,_=>aT
 | t+1,sc,ρ,es=>match es with
  | []=>pure true
  | e::r=>do if <- cR cf t sc ρ e then bI cf t sc ρ r else pure false
noncomputable def kD (cf:Str->List D->PM D):Nat->B0->Loc->BoolOp->List Expr->PM D
 | 0,_,_,_,_=>aT
 | t+1,sc,ρ,op,es=>match es with
  | []=>aT
  | [e]=>ak cf t sc ρ e
  | e::r=>do
   let a <- ak cf t sc ρ e
   let b <- df a
   match op,b with
   | .And,false | .Or,true=>pure a
   | _,_=>kD cf t sc ρ op r
noncomputable def kz (cf:Str->List D->PM D):Nat->B0->Loc->Option Expr->PM (Option Int)
 | 0,_,_,_=>aT
 | t+1,sc,ρ,e=>match e with
  | Option.none=>pure Option.none
  | some e=>do pure (some (<- co (<- ak cf t sc ρ e)))
noncomputable def cz (cf:Str->List D->PM D):Nat->B0->Loc->Expr->PM Src
 | 0,_,_,_=>aT
 | t+1,sc,ρ,e =>
  let d:PM Src:=do gS (<- ak cf t sc ρ e)
  bif oj e then aT else pQ d (λf as ks _=>kZ d (λid=>one? d (λa=>nil? d (if id==("range" : Str) then do
    must (bk sc id)
    nu (<- co (<- ak cf t sc ρ a))
   else d) ks) as) f) e
end
noncomputable def xSub {α:Type}(d:α)(k:Expr->Expr->α)(e:Expr):α:=Expr.casesOn (motive_1:=λ_=>α) e (λ_ _ _=>d) (λ_ _ _=>d) (λ_ _ _ _=>d) (λ_ _ _=>d) (λ_ _ _ _=>d) (λ_ _ _ _=>d) (λ_ _ _=>d) (λ_ _ _=>d) (λ_ _ _ _=>d) (λ_ _ _ _=>d) (λ_ _ _ _ _=>d) (λ_ _ _ _=>d) (λ_ _=>d) (λ_ _=>d) (λ_ _=>d) (λ_ _ _ _=>d) (λ_ _ _ _=>d) (λ_ _ _ _=>d) (λ_ _=>d) (λ_ _ _=>d) (λ_ _ _=>d) (λa b _=>k a b) (λ_ _=>d) (λ_ _=>d) (λ_ _=>d) (λ_ _ _=>d) (λ_ _ _ _=>d)
noncomputable def db (cf:Str->List D->PM D)(t:Nat)(sc:B0)(ρ:Loc)(tg:Expr)(d:D):PM Loc :=
 xSub (wD (ge sc tg d ρ) (λo a _=>do
  must (bY.contains a)
  match <- ak cf t sc ρ o with
  | .ref k=>do
   let (dk,l) <- uE k
   must (decide (l.length<=800))
   setO dk (.dS (put a d l))
   pure ρ
  | _=>aT) tg) (λo i=>do
  let ov <- ak cf t sc ρ o
  let iv <- ak cf t sc ρ i
  jI ov iv d
  pure ρ) tg
noncomputable def fb (x y:Expr):Bool:=xIs 25 x && Bg false (λvs=>vs.all (Dw 8) && !vs.all (DK 8)) y
noncomputable def uZ (e:Expr):Bool:=xIs 8 e
mutual
noncomputable def ey (cf:Str->List D->PM D):Nat->B0->Loc->B7->PM (Fl×Loc)
 | 0,_,_,_=>aT
 | t+1,sc,ρ,s=>Stmt.casesOn (motive_2:=λ_=>PM (Fl×Loc)) s
  (λ_ _ _ _ _ _ _ _ _ _=>aT)
  (λ_ _ _ _ _ _ _ _ _ _=>aT)
  (λ_ _ _ _ _ _ _ _ _ _ _=>aT)
  (λv _=>match v with
   | some e=>do
    let d <- ak cf t sc ρ e
    pure (.ret d,ρ)
   | Option.none=>pure (.ret .none,ρ))
  (λ_ _=>aT)
  (λtgs v _=>one? aT (λtg=>do
   must (!fb tg v)
   let d <- ak cf t sc ρ v
   let ρ' <- db cf t sc ρ tg d
   pure (.next,ρ')) tgs)
  (λ_ _ _ _ _ _ _=>aT)
  (λ_ _ _ _=>aT)
  (λ_ _ _ _ _=>aT)
  (λtg it body els _=>nil? aT (do
   let src <- cz cf t sc ρ it
   d3 src (λx ρ=>do
    let ρ' <- ge sc tg x ρ
    aE cf t sc ρ' body) src.items ρ) els)
  (λ_ _ _ _ _=>aT)
  (λtest body els _=>nil? aT (dy (λρ=>cR cf t sc ρ test) (λρ=>aE cf t sc ρ body) 6 ρ) els)
  (λtest a b _=>do
   if <- cR cf t sc ρ test then aE cf t sc ρ a else aE cf t sc ρ b)
  (λ_ _ _=>aT)
  (λ_ _ _=>aT)
  (λ_ _ _=>aT)
  (λ_ _ _=>aT)
  (λ_ _ _ _ _=>aT)
  (λ_ _ _ _ _=>aT)
  (λ_ _ _=>aT)
  (λ_ _=>aT)
  (λ_ _ _ _=>aT)
  (λ_ _=>aT)
  (λ_ _=>aT)
  (λv _=>do
   must (!uZ v)
   let _ <- ak cf t sc ρ v
   pure (.next,ρ))
  (λ_=>aT)
  (λ_=>aT)
  (λ_=>aT)
noncomputable def aE (cf:Str->List D->PM D):Nat->B0->Loc->List B7->PM (Fl×Loc)
 | 0,_,_,_=>aT
 | t+1,sc,ρ,ss=>match ss with
  | []=>pure (.next,ρ)
  | s::r=>do
   let (f,ρ') <- ey cf t sc ρ s
   match f with
   | .next=>aE cf t sc ρ' r
   | .ret d=>pure (.ret d,ρ')
end
structure Fd where
 params:List Str
 body:List B7
 scope:B0
 deriving Inhabited
noncomputable def fo (s:B7):Option (Str×Fd):=Stmt.casesOn (motive_2:=λ_=>Option (Str×Fd)) s (λn a b _ _ _ sc _ _ _=>some (n,⟨a.args.map (·.arg),b,sc⟩)) (λ_ _ _ _ _ _ _ _ _ _=>Option.none) (λ_ _ _ _ _ _ _ _ _ _ _=>Option.none) (λ_ _=>Option.none) (λ_ _=>Option.none) (λ_ _ _=>Option.none) (λ_ _ _ _ _ _ _=>Option.none) (λ_ _ _ _=>Option.none) (λ_ _ _ _ _=>Option.none) (λ_ _ _ _ _=>Option.none) (λ_ _ _ _ _=>Option.none) (λ_ _ _ _=>Option.none) (λ_ _ _ _=>Option.none) (λ_ _ _=>Option.none) (λ_ _ _=>Option.none) (λ_ _ _=>Option.none) (λ_ _ _=>Option.none) (λ_ _ _ _ _=>Option.none) (λ_ _ _ _ _=>Option.none) (λ_ _ _=>Option.none) (λ_ _=>Option.none) (λ_ _ _ _=>Option.none) (λ_ _=>Option.none) (λ_ _=>Option.none) (λ_ _=>Option.none) (λ_=>Option.none) (λ_=>Option.none) (λ_=>Option.none)
noncomputable def Ad (s:B7):List (Str×Fd):=Stmt.casesOn (motive_2:=λ_=>List (Str×Fd)) s (λ_ _ _ _ _ _ _ _ _ _=>(fo s).toList) (λ_ _ _ _ _ _ _ _ _ _=>(fo s).toList) (λn _ _ b _ _ _ _ _ _ _=>if n==("Evaluator" : Str) then (b.filterMap fo).map (λp=>((n++("." : Str)++p.1:Str),p.2)) else []) (λ_ _=>(fo s).toList) (λ_ _=>(fo s).toList) (λ_ _ _=>(fo s).toList) (λ_ _ _ _ _ _ _=>(fo s).toList) (λ_ _ _ _=>(fo s).toList) (λ_ _ _ _ _=>(fo s).toList) (λ_ _ _ _ _=>(fo s).toList) (λ_ _ _ _ _=>(fo s).toList) (λ_ _ _ _=>(fo s).toList) (λ_ _ _ _=>(fo s).toList) (λ_ _ _=>(fo s).toList) (λ_ _ _=>(fo s).toList) (λ_ _ _=>(fo s).toList) (λ_ _ _=>(fo s).toList) (λ_ _ _ _ _=>(fo s).toList) (λ_ _ _ _ _=>(fo s).toList) (λ_ _ _=>(fo s).toList) (λ_ _=>(fo s).toList) (λ_ _ _ _=>(fo s).toList) (λ_ _=>(fo s).toList) (λ_ _=>(fo s).toList) (λ_ _=>(fo s).toList) (λ_=>(fo s).toList) (λ_=>(fo s).toList) (λ_=>(fo s).toList)
noncomputable def tab:List (Str×Fd):=Challenge.pw_rr0088_01.main.body.flatMap Ad
noncomputable def gB (sc:B0):Loc:=sc.names.filterMap λ(n,k)=>if k == .local || k == .cell then some (n,Option.none) else Option.none
noncomputable def jW:List Str->List D->Loc->Option Loc
 | [],[],ρ=>some ρ
 | x::xs,d::ds,ρ=>jW xs ds (Loc.put x d ρ)
 | _,_,_=>Option.none
noncomputable def mG (cf:Str->List D->PM D)(fd:Fd)(args:List D):PM D:=do
 let ρ <- ofOpt (jW fd.params args (gB fd.scope))
 let (f,_) <- aE cf 64 fd.scope ρ fd.body
 match f with
 | .ret d=>pure d
 | .next=>pure .none
noncomputable def aM (f:Str):Option Fd:=if f==("set_of_sets" : Str) then tab.lookup ("set_of" : Str) else tab.lookup f
noncomputable def aL:Nat->Str->List D->PM D
 | 0,_,_=>aT
 | n+1,f,args =>
  if f==("Evaluator" : Str) then do
   let d <- alloc (.dS [])
   match d with
   | .ref k=>do
    let o <- alloc (.inst k)
    let fd <- ofOpt (aM "Evaluator.__init__")
    let r <- mG (aL n) fd (o::args)
    match r with
    | .none=>pure o
    | _=>aT
   | _=>aT
  else do
   let fd <- ofOpt (aM f)
   mG (aL n) fd args
noncomputable def law (n:Nat)(s:List Int):Option Bool :=
 match aL n "law" [.ref 0] [(.list (s.map .int),0)] with
 | some (.bool b,_)=>some b
 | _=>Option.none
theorem eO {x:D}{r:List D}{a:Ca}{b:List Ca}(h1:x.py=some a)(h2:D.pys r=some b):D.pys (x::r)=some (a::b):=by
 refine (?_:(x.py.bind λa=>(D.pys r).map (a :: ·))=_);(refine h1.symm▸?_;exact h2.symm▸rfl)
theorem D.both {P:D->Prop}{Q:List D->Prop}(h1:P .none)(h2:∀ b,P (.bool b))(h3:∀ i,P (.int i))(h4:∀ x,P (.str x))(h5:∀ l,Q l->P (.tup l))(h6:∀ k,P (.ref k))(h7:Q [])(h8:∀ d l,P d->Q l->Q (d::l)):(∀ d,P d)/\∀ l,Q l :=
 ⟨D.rec h1 h2 h3 h4 h5 h6 h7 h8,D.rec_1 h1 h2 h3 h4 h5 h6 h7 h8⟩
theorem an {α:Type}{x:α}{P:Prop}(e:none=some x):P:=absurd e (λh=>by cases h)
theorem zs {α:Type}{P:List α->Prop}(h0:P [])(h1:∀ a,P [a])(h2:∀ a b,P [a,b])(h3:∀ a b c,P [a,b,c])(h4:∀ a b c d,P [a,b,c,d]){l:List α}(h:l.length<=4):P l:=by
 induction l using List.casesOn with
 | nil=>exact h0
 | cons a l=>induction l using List.casesOn with
  | nil=>exact h1 a
  | cons b l=>induction l using List.casesOn with
   | nil=>exact h2 a b
   | cons c l=>induction l using List.casesOn with
    | nil=>exact h3 a b c
    | cons d l=>induction l using List.casesOn with
     | nil=>exact h4 a b c d
     | cons e l=>exact absurd h (Nat.not_le_of_lt (succ_le_succ (succ_le_succ (succ_le_succ (succ_le_succ (succ_le_succ (zero_le _)))))))
noncomputable def i0 (c:List Nat):Bool:=d5 c==(List.range 4).filter λn=>c.contains n
theorem jD:∀ a:Fin 4,i0 [a.val]=true:=by decide +kernel
theorem jM:∀ a b:Fin 4,[a,b].Nodup->i0 [a.val,b.val]=true:=by decide +kernel
theorem jz:∀ a b c:Fin 4,[a,b,c].Nodup->i0 [a.val,b.val,c.val]=true:=by decide +kernel
theorem jn:∀ a b c d:Fin 4,[a,b,c,d].Nodup->i0 [a.val,b.val,c.val,d.val]=true:=by decide +kernel
theorem pY (d:List (Fin 4))(h:d.length<=4):d.Nodup->i0 (d.map Fin.val)=true :=
 zs (P:=λd=>d.Nodup->i0 (d.map Fin.val)=true) (λ_=>rfl) (λa _=>jD a) jM jz jn h
theorem vF {c:List Nat}(h:∀ x∈c,x < 4):∃ d:List (Fin 4),d.map Fin.val=c:=by
 induction c with
 | nil=>exact ⟨[],rfl⟩
 | cons x r ih =>
  obtain ⟨d,e⟩:=ih λy hy=>h y (.tail _ hy);exact ⟨⟨x,h x (.head _)⟩::d,congrArg (x :: ·) e⟩
theorem fX {c:List Nat}(h4:c.length<=4)(hb:∀ x∈c,x < 4)(hn:c.Nodup):d5 c=(List.range 4).filter λn=>c.contains n:=by
 obtain ⟨d,rfl⟩:=vF hb;rw [length_map] at h4;exact beq_iff_eq.mp (pY d h4 (List.Pairwise.of_map Fin.val (λ_ _ h e=>h (congrArg Fin.val e)) hn))
inductive qA (id:Str)(args:List Expr):Sp->Prop
 | setOf (e:Expr) (p p2:Pos) (h:id=("sorted" : Str)) (ha:args=[.Call (.Name "set" p) [e] [] p2]):qA id args (.setOf e)
 | items (o:Expr) (apos pos2:Pos) (h:id=("list" : Str)) (ha:args=[.Call (.Attribute o "items" apos) [] [] pos2]):qA id args (.items o apos pos2)
 | isb (e:Expr) (p:Pos) (h:id=("isinstance" : Str)) (ha:args=[e,.Name "bool" p]):qA id args (.isb e)
 | one (e:Expr) (h:cx.contains id=true) (ha:args=[e]):qA id args (.one e)
 | fn (h:id.cps.contains 46=false):qA id args .fn
 | no:qA id args .no
theorem mo (x:Expr)(h:cx.contains ("sorted" : Str)=true):qA ("sorted" : Str) [x] (jq x):=by
 induction x using Expr.casesOn with
 | Call f as ks q =>
  induction f using Expr.casesOn with
  | Name id2 p =>
   induction as using List.casesOn with
   | nil=>exact .one _ h rfl
   | cons e r =>
    induction r using List.casesOn with
    | cons=>exact .one _ h rfl
    | nil =>
     induction ks using List.casesOn with
     | cons=>exact .one _ h rfl
     | nil =>
      by_cases h2:(id2==("set" : Str))=true
      ·have e2:=beq_iff_eq.mp h2;subst e2;exact .setOf e p q rfl rfl
      ·have:jq (.Call (.Name id2 p) [e] [] q) = .one (.Call (.Name id2 p) [e] [] q):=if_neg h2;rw [this];exact .one _ h rfl
  | _=>exact .one _ h rfl
 | _=>exact .one _ h rfl
theorem rO (x:Expr)(h:cx.contains ("list" : Str)=true):qA ("list" : Str) [x] (qv x):=by
 induction x using Expr.casesOn with
 | Call f as ks q =>
  induction f using Expr.casesOn with
  | Attribute o m ap =>
   induction as using List.casesOn with
   | cons=>exact .one _ h rfl
   | nil =>
    induction ks using List.casesOn with
    | cons=>exact .one _ h rfl
    | nil =>
     by_cases h2:(m==("items" : Str))=true
     ·have e2:=beq_iff_eq.mp h2;subst e2;exact .items o ap q rfl rfl
     ·have:qv (.Call (.Attribute o m ap) [] [] q) = .no:=if_neg h2;refine this.symm▸?_;exact .no
  | _=>exact .one _ h rfl
 | _=>exact .one _ h rfl
theorem tq (x y:Expr):qA ("isinstance" : Str) [x,y] (wh x y):=by
 induction y using Expr.casesOn with
 | Name ty p =>
  by_cases h2:(ty==("bool" : Str))=true
  ·have e2:=beq_iff_eq.mp h2;subst e2;exact .isb x p rfl rfl
  ·have:wh x (.Name ty p) = .no:=if_neg h2;refine this.symm▸?_;exact .no
 | _=>exact .no
theorem i4 (id:Str)(args:List Expr):qA id args (cJ id args):=by
 unfold cJ;by_cases h:(id==("isinstance" : Str))=true
 ·rw [if_pos h];have e:=beq_iff_eq.mp h;subst e;induction args using List.casesOn with
  | nil=>exact .no
  | cons x r =>
   induction r using List.casesOn with
   | nil=>exact .no
   | cons y r =>
    induction r using List.casesOn with
    | nil=>exact tq x y
    | cons=>exact .no
 rw [if_neg h];by_cases h:cx.contains id=true
 ·rw [if_pos h];induction args using List.casesOn with
  | nil=>exact .no
  | cons x r =>
   induction r using List.casesOn with
   | cons=>exact .no
   | nil =>
    show qA id [x] (if _ then _ else _);by_cases h2:(id==("sorted" : Str))=true
    ·rw [if_pos h2];have e:=beq_iff_eq.mp h2;subst e;exact mo x h
    rw [if_neg h2];by_cases h2:(id==("list" : Str))=true
    ·rw [if_pos h2];have e:=beq_iff_eq.mp h2;subst e;exact rO x h
    rw [if_neg h2];exact .one x h rfl
 rw [if_neg h];by_cases h:id.cps.contains 46=true
 ·rw [if_pos h];exact .no
 ·rw [if_neg h];exact .fn (not_eq_true _▸h)
inductive EV:Expr->Prop
 | const (c:Const) (k:Nat) (p:Pos):EV (.Constant c k p)
 | name (x:Str) (p:Pos):EV (.Name x p)
 | tup (es:List Expr) (k:Nat) (p:Pos):EV (.Tuple es k p)
 | list (es:List Expr) (p:Pos):EV (.List es p)
 | dict (ks:List (Option Expr)) (vs:List Expr) (p:Pos):EV (.Dict ks vs p)
 | bin (l:Expr) (op:Dj) (r:Expr) (p:Pos):EV (.BinOp l op r p)
 | una (op:UnaryOp) (x:Expr) (p:Pos):EV (.UnaryOp op x p)
 | bool (op:BoolOp) (vs:List Expr) (p:Pos):EV (.BoolOp op vs p)
 | ifx (c a b:Expr) (p:Pos):EV (.IfExp c a b p)
 | cmp (l:Expr) (op:DG) (r:Expr) (p:Pos):EV (.Compare l [op] [r] p)
 | slice (v:Expr) (lo hi:Option Expr) (p2 p:Pos):EV (.Subscript v (.Slice lo hi none p2) p)
 | sub (v i:Expr) (p:Pos) (h:∀ cf t sc ρ,ak cf (t+1) sc ρ (.Subscript v i p)=(do let o <- ak cf t sc ρ v;let j <- ak cf t sc ρ i;l8 o j)):EV (.Subscript v i p)
 | attr (v:Expr) (a:Str) (p:Pos):EV (.Attribute v a p)
 | comp (elt:Expr) (gens:List Cv) (scope:B0) (p:Pos):EV (.ListComp elt gens scope p)
 | call (id:Str) (np:Pos) (args:List Expr) (p:Pos):EV (.Call (.Name id np) args [] p)
 | meth (o:Expr) (name:Str) (ap:Pos) (args:List Expr) (p:Pos):EV (.Call (.Attribute o name ap) args [] p)
 | other {e:Expr} (h:∀ cf t sc ρ,ak cf (t+1) sc ρ e=aT):EV e
theorem ev (e:Expr):EV e:=by
 induction e using Expr.casesOn with
 | Constant c k p=>exact .const c k p
 | Name x p=>exact .name x p
 | Tuple es k p=>exact .tup es k p
 | List es p=>exact .list es p
 | Dict ks vs p=>exact .dict ks vs p
 | BinOp l op r p=>exact .bin l op r p
 | UnaryOp op x p=>exact .una op x p
 | BoolOp op vs p=>exact .bool op vs p
 | IfExp c a b p=>exact .ifx c a b p
 | Attribute v a p=>exact .attr v a p
 | ListComp elt gens scope p=>exact .comp elt gens scope p
 | Compare l ops rs p =>
  induction ops using List.casesOn with
  | nil=>exact .other λ_ _ _ _=>rfl
  | cons op r =>
   induction r using List.casesOn with
   | cons=>exact .other λ_ _ _ _=>rfl
   | nil =>
    induction rs using List.casesOn with
    | nil=>exact .other λ_ _ _ _=>rfl
    | cons r q =>
     induction q using List.casesOn with
     | cons=>exact .other λ_ _ _ _=>rfl
     | nil=>exact .cmp l op r p
 | Call f args ks p =>
  induction ks using List.casesOn with
  | cons=>exact .other λ_ _ _ _=>rfl
  | nil =>
   induction f using Expr.casesOn with
   | Name id np=>exact .call id np args p
   | Attribute o name ap=>exact .meth o name ap args p
   | _=>exact .other λ_ _ _ _=>rfl
 | Subscript v i p =>
  induction i using Expr.casesOn with
  | Slice lo hi st p2 =>
   induction st using Option.casesOn with
   | none=>exact .slice v lo hi p2 p
   | some=>exact .sub _ _ _ λ_ _ _ _=>rfl
  | _=>exact .sub _ _ _ λ_ _ _ _=>rfl
 | _=>exact .other λ_ _ _ _=>rfl
inductive TV:Expr->Prop
 | name (a:Str) (p:Pos):TV (.Name a p)
 | pair (a:Str) (pa:Pos) (b:Str) (pb:Pos) (k:Nat) (p:Pos):TV (.Tuple [.Name a pa,.Name b pb] k p)
 | sub (o i:Expr) (p:Pos):TV (.Subscript o i p)
 | attr (o:Expr) (a:Str) (p:Pos):TV (.Attribute o a p)
 | other {tg:Expr} (h:∀ cf t sc ρ x,db cf t sc ρ tg x=aT) (h2:∀ sc ρ x,ge sc tg x ρ=aT):TV tg
theorem tv (tg:Expr):TV tg:=by
 induction tg using Expr.casesOn with
 | Name a p=>exact .name a p
 | Subscript o i p=>exact .sub o i p
 | Attribute o a p=>exact .attr o a p
 | Tuple ts k p =>
  induction ts using List.casesOn with
  | nil=>exact .other (λ_ _ _ _ _=>rfl) λ_ _ _=>rfl
  | cons x r =>
   induction x using Expr.casesOn with
   | Name a pa =>
    induction r using List.casesOn with
    | nil=>exact .other (λ_ _ _ _ _=>rfl) λ_ _ _=>rfl
    | cons y r =>
     induction y using Expr.casesOn with
     | Name b pb =>
      induction r using List.casesOn with
      | nil=>exact .pair a pa b pb k p
      | cons=>exact .other (λ_ _ _ _ _=>rfl) λ_ _ _=>rfl
     | _=>exact .other (λ_ _ _ _ _=>rfl) λ_ _ _=>rfl
   | _=>exact .other (λ_ _ _ _ _=>rfl) λ_ _ _=>rfl
 | _=>exact .other (λ_ _ _ _ _=>rfl) λ_ _ _=>rfl
theorem iZ {x:D}{p:D×D}(e:fj x=some p):x = .tup [p.1,p.2]:=by
 induction x using D.casesOn with
 | tup l =>
  induction l using List.casesOn with
  | nil=>cases e
  | cons a r =>
   induction r using List.casesOn with
   | nil=>cases e
   | cons b r =>
    induction r using List.casesOn with
    | nil=>cases e;rfl
    | cons=>cases e
 | _=>cases e
inductive AI:Expr->Prop
 | tup (vs:List Expr) (k:Nat) (p:Pos):AI (.Tuple vs k p)
 | other {v:Expr} (h:∀ ts k p env,Db [.Tuple ts k p] v env=pure none):AI v
theorem tupV (v:Expr):AI v:=by
 induction v using Expr.casesOn with
 | Tuple vs k p=>exact .tup vs k p
 | _=>exact .other λ_ _ _ _=>rfl
inductive IV:Expr->Prop
 | call (id:Str) (p:Pos) (a:Expr) (p2:Pos):IV (.Call (.Name id p) [a] [] p2)
 | set (a:List Expr) (b:Nat) (p:Pos):IV (.Set a b p)
 | other {e:Expr} (h:∀ cf t sc ρ,cz cf (t+1) sc ρ e=(do gS (<- ak cf t sc ρ e))):IV e
theorem iv (e:Expr):IV e:=by
 induction e using Expr.casesOn with
 | Set=>exact .set ..
 | Call f args ks p2 =>
  induction f using Expr.casesOn with
  | Name id p =>
   induction args using List.casesOn with
   | nil=>exact .other λ_ _ _ _=>rfl
   | cons a r =>
    induction r using List.casesOn with
    | cons=>exact .other λ_ _ _ _=>rfl
    | nil =>
     induction ks using List.casesOn with
     | nil=>exact .call id p a p2
     | cons=>exact .other λ_ _ _ _=>rfl
  | _=>exact .other λ_ _ _ _=>rfl
 | _=>exact .other λ_ _ _ _=>rfl
theorem ltS {P:Nat->Prop}{n m:Nat}(h:n < m+1)(hm:P m)(k:n < m->P n):P n:=(Nat.lt_or_eq_of_le (Nat.le_of_lt_succ h)).elim k (λe=>e▸hm)
theorem lt2 {P:Nat->Prop}{n:Nat}(h:n < 2)(h0:P 0)(h1:P 1):P n:=ltS h h1 λh=>ltS h h0 λh=>(Nat.not_lt_zero _ h).elim
theorem lt4 {P:Nat->Prop}{n:Nat}(h:n < 4)(h0:P 0)(h1:P 1)(h2:P 2)(h3:P 3):P n:=ltS h h3 λh=>ltS h h2 λh=>lt2 h h0 h1
theorem lt6 {P:Nat->Prop}{n:Nat}(h:n < 6)(h0:P 0)(h1:P 1)(h2:P 2)(h3:P 3)(h4:P 4)(h5:P 5):P n:=ltS h h5 λh=>ltS h h4 λh=>lt4 h h0 h1 h2 h3
theorem pk (k:Nat){n:Nat}(h:k<=n):∃ m,n=m+k:=⟨n - k,(Nat.sub_add_cancel h).symm⟩
theorem lK {q:Nat}(h:q < 4):q / 2 < 2:=Nat.div_lt_of_lt_mul h
theorem sL (q:Nat):q % 2 < 2:=mod_lt q Nat.zero_lt_two
theorem q4 (c:Nat){d:Nat}(h:d < 2):(2 * c+d) / 2=c:=(Nat.mul_add_div Nat.zero_lt_two c d).trans (Nat.div_eq_of_lt h▸rfl)
theorem rm (c:Nat){d:Nat}(h:d < 2):(2 * c+d) % 2=d:=(Nat.mul_add_mod 2 c d).trans (Nat.mod_eq_of_lt h)
theorem jk {c d:Nat}(h:c < 2)(k:d < 2):2 * c+d < 4:=lt_of_le_of_lt (add_le_add (mul_le_mul_left 2 (Nat.le_of_lt_succ h)) (Nat.le_of_lt_succ k)) (lt_succ_self 3)
theorem icast {a b:Nat} : ((a:Int)=b)=(a=b):=propext Int.ofNat_inj
theorem ilt {a b:Nat} : ((a:Int) < b)=(a < b):=propext Int.ofNat_lt
theorem iD {α:Type}{P:List α->Prop}(h0:P [])(h1:∀ a,P [a])(h2:∀ a b,P [a,b])(h3:∀ a b c r,P (a::b::c::r))(l:List α):P l :=
 List.casesOn l h0 λa l=>List.casesOn l (h1 a) λb l=>List.casesOn l (h2 a b) (h3 a b)
end
section
open PySem PyProof.Rows
mutual
inductive Rep (h:BW)(as:List BQ):BO->D->Prop
 | none:Rep h as .none .none
 | bool (b:Bool):Rep h as (.bool b) (.bool b)
 | int (i:Int) (t:Tok):Rep h as (.int i t) (.int i)
 | str (x:Str) (t:Tok):Rep h as (.str x t) (.str x)
 | tup {a:BQ} {vs:Array BO} {n:Nat} {l:List D} : IsT h a vs n->l.length<=aQ->aD h as vs.toList l->Rep h as (.ref a) (.tup l)
 | ref {k:Nat} {a:BQ} : as[k]? = some a->Rep h as (.ref a) (.ref k)
inductive aD (h:BW)(as:List BQ):List BO->List D->Prop
 | nil:aD h as [] []
 | cons {v:BO} {d:D} {vs:List BO} {l:List D} : Rep h as v d->aD h as vs l->aD h as (v::vs) (d::l)
end
section
variable {h:BW}{as:List BQ}
inductive w4:BO->Prop
 | mk:w4 .none
inductive w8 (b:Bool):BO->Prop
 | mk:w8 b (.bool b)
inductive AP (i:Int):BO->Prop
 | mk (t:Tok):AP i (.int i t)
inductive AA (x:Str):BO->Prop
 | mk (t:Tok):AA x (.str x t)
inductive AS (h:BW)(as:List BQ)(l:List D):BO->Prop
 | mk {a:BQ} {vs:Array BO} {n:Nat} (g:IsT h a vs n) (z:l.length<=aQ) (r:aD h as vs.toList l):AS h as l (.ref a)
inductive Ak (as:List BQ)(k:Nat):BO->Prop
 | mk {a:BQ} (e:as[k]? = some a):Ak as k (.ref a)
inductive Af:List BO->Prop
 | mk:Af []
inductive wS (h:BW)(as:List BQ)(d:D)(l:List D):List BO->Prop
 | mk {v:BO} {vs:List BO} (r:Rep h as v d) (rs:aD h as vs l):wS h as d l (v::vs)
noncomputable def BC (h:BW)(as:List BQ)(v:BO)(d:D):Prop:=D.casesOn d (w4 v) (λb=>w8 b v) (λi=>AP i v) (λx=>AA x v) (λl=>AS h as l v) λk=>Ak as k v
noncomputable def zH (h:BW)(as:List BQ)(vs:List BO)(l:List D):Prop:=List.casesOn l (Af vs) λd l=>wS h as d l vs
theorem Rep.inv {v:BO}{d:D}(r:Rep h as v d):BC h as v d:=Rep.casesOn (motive_1:=λv d _=>BC h as v d) r .mk (λ_ => .mk) (λ_ t => .mk t) (λ_ t => .mk t) .mk .mk
theorem aD.inv {vs:List BO}{l:List D}(r:aD h as vs l):zH h as vs l:=aD.casesOn (motive_2:=λv d _=>zH h as v d) r .mk .mk
theorem Rep.noneI {v:BO}(r:Rep h as v .none):w4 v:=r.inv
theorem Rep.boolI {v:BO}{b:Bool}(r:Rep h as v (.bool b)):w8 b v:=r.inv
theorem Rep.intI {v:BO}{i:Int}(r:Rep h as v (.int i)):AP i v:=r.inv
theorem Rep.strI {v:BO}{x:Str}(r:Rep h as v (.str x)):AA x v:=r.inv
theorem Rep.tupI {v:BO}{l:List D}(r:Rep h as v (.tup l)):AS h as l v:=r.inv
theorem Rep.refI {v:BO}{k:Nat}(r:Rep h as v (.ref k)):Ak as k v:=r.inv
theorem aD.nilI {vs:List BO}(r:aD h as vs []):Af vs:=r.inv
theorem aD.consI {vs:List BO}{d:D}{l:List D}(r:aD h as vs (d::l)):wS h as d l vs:=r.inv
end
section
variable {h:BW}{as:List BQ}
@[elab_as_elim] theorem aD.ind {P:List BO->List D->Prop} {vs:List BO} {l:List D} (r:aD h as vs l) (n:P [] []) (c:∀ v d vs l,Rep h as v d->aD h as vs l->P vs l->P (v::vs) (d::l)):P vs l:=by
 induction l generalizing vs with
 | nil=>cases r.nilI;exact n
 | cons d l ih=>cases r.consI with | mk a b=>exact c _ _ _ _ a b (ih b)
theorem Rep.ind {P:BO->D->Prop}{Q:List BO->List D->Prop}(h1:P .none .none)(h2:∀ b,P (.bool b) (.bool b))(h3:∀ i t,P (.int i t) (.int i))(h4:∀ x t,P (.str x t) (.str x))
  (h5:∀ (a:BQ) (vs:Array BO) (n:Nat) (l:List D),IsT h a vs n->l.length<=aQ->aD h as vs.toList l->Q vs.toList l->P (.ref a) (.tup l)) (h6:∀ (k:Nat) (a:BQ),as[k]? = some a->P (.ref a) (.ref k))
  (h7:Q [] []) (h8:∀ v d vs l,Rep h as v d->aD h as vs l->P v d->Q vs l->Q (v::vs) (d::l)):(∀ {v:BO} {d:D},Rep h as v d->P v d)/\∀ {vs:List BO} {l:List D},aD h as vs l->Q vs l :=
 have x:∀ (d:D) (v:BO),Rep h as v d->P v d:=λd v r=>Rep.rec (motive_1:=λv d _=>P v d) (motive_2:=λvs l _=>Q vs l) h1 h2 h3 h4 (λa b c d=>h5 _ _ _ _ a b c d) (λa=>h6 _ _ a) h7 (λa b c d=>h8 _ _ _ _ a b c d) r
 ⟨λr=>x _ _ r,λr=>r.ind h7 λ_ _ _ _ a b c=>h8 _ _ _ _ a b (x _ _ a) c⟩
theorem aD.both {v:BO}{vs:List BO}{d:D}{l:List D}(r:aD h as (v::vs) (d::l)):Rep h as v d/\aD h as vs l:=by cases r.consI with | mk a b=>exact ⟨a,b⟩
theorem aD.head {v:BO}{vs:List BO}{d:D}{l:List D}(r:aD h as (v::vs) (d::l)):Rep h as v d:=r.both.1
theorem aD.tail {v:BO}{vs:List BO}{d:D}{l:List D}(r:aD h as (v::vs) (d::l)):aD h as vs l:=r.both.2
theorem aD.length {vs:List BO}{l:List D}(r:aD h as vs l):vs.length=l.length:=r.ind rfl λ_ _ _ _ _ _ ih=>congrArg (· + 1) ih
theorem aD.get' {vs:List BO}{l:List D}(r:aD h as vs l):∀ (j:Nat) (d:D),l[j]? = some d->∃ v,vs[j]? = some v/\Rep h as v d :=
 r.ind (λ_ _ e=>an e) λv d vs l r rs ih j x e=>by
  induction j using Nat.casesOn with
  | zero=>exact ⟨v,rfl,Option.some.inj e▸r⟩
  | succ j=>exact ih j x e
theorem aD.get {vs:List BO}{l:List D}(r:aD h as vs l){j:Nat}{d:D}(e:l[j]? = some d):∃ v,vs[j]? = some v/\Rep h as v d:=r.get' j d e
theorem aD.append {vs ws:List BO}{l m:List D}(r:aD h as vs l)(s:aD h as ws m):aD h as (vs++ws) (l++m):=r.ind s λ_ _ _ _ r _ ih => .cons r ih
theorem aD.take {vs:List BO}{l:List D}(r:aD h as vs l):∀ n:Nat,aD h as (vs.take n) (l.take n) :=
 r.ind (λn=>by (refine (List.take_nil).symm▸?_;refine (List.take_nil).symm▸?_);exact .nil) λ_ _ _ _ r _ ih n=>by
  induction n using Nat.casesOn with
  | zero=>exact .nil
  | succ n=>exact .cons r (ih n)
theorem aD.drop {vs:List BO}{l:List D}(r:aD h as vs l):∀ n:Nat,aD h as (vs.drop n) (l.drop n) :=
 r.ind (λn=>by (refine (List.drop_nil).symm▸?_;refine (List.drop_nil).symm▸?_);exact .nil) λ_ _ _ _ r rs ih n=>by
  induction n using Nat.casesOn with
  | zero=>exact .cons r rs
  | succ n=>exact ih n
end
section
variable (prog:BX)(w:BY)(C:BQ)
inductive c6 (h:BW)(as:List BQ)(a:BQ):PO->Prop
 | list {vs:Array BO} {n:Nat} {l:List D} : h.get? a=some ({cls:=.type "list",data:=.seq vs n} : Obj)->aD h as vs.toList l->l.length<=aQ+1->c6 h as a (.list l)
 | dS {kvs:List (Str×BO)} {l:List (Str×D)} : h.DictOf (strKind prog w) a kvs->kvs.map (·.1)=l.map (·.1)->aD h as (kvs.map (·.2)) (l.map (·.2))->l.length<=aQ+1->c6 h as a (.dS l)
 | dI {kvs:List (Int×BO)} {l:List (Int×D)} : h.DictOf (intKind prog w) a kvs->kvs.map (·.1)=l.map (·.1)->aD h as (kvs.map (·.2)) (l.map (·.2))->l.length<=aQ+1->c6 h as a (.dI l)
 | dT {xs:List (List Int×BQ×BO)} {l:List (List Int×D)} : h.DictOfH (Cr (intKind prog w)) a xs->xs.map (·.1)=l.map (·.1)->aD h as (xs.map (·.2.2)) (l.map (·.2))->l.length<=aQ+1 ->
   (∀ p∈l,p.1.length<=aQ)->(∀ x∈xs,∃ vs n,IsT h x.2.1 vs n)->c6 h as a (.dT l)
 | inst {d:Nat} {dx:BQ} : as[d]? = some dx->h.get? a=some ({cls:=.ref C,dict:=some dx} : Obj)->c6 h as a (.inst d)
inductive qM (h:BW)(as:List BQ)(a:BQ)(l:List D):Prop
 | mk {vs:Array BO} {n:Nat} (g:h.get? a=some ({cls:=.type "list",data:=.seq vs n} : Obj)) (r:aD h as vs.toList l) (z:l.length<=aQ+1):qM h as a l
inductive Ac (h:BW)(as:List BQ)(a:BQ)(l:List (Str×D)):Prop
 | mk {kvs:List (Str×BO)} (g:h.DictOf (strKind prog w) a kvs) (k:kvs.map (·.1)=l.map (·.1)) (r:aD h as (kvs.map (·.2)) (l.map (·.2))) (z:l.length<=aQ+1):Ac h as a l
inductive zR (h:BW)(as:List BQ)(a:BQ)(l:List (Int×D)):Prop
 | mk {kvs:List (Int×BO)} (g:h.DictOf (intKind prog w) a kvs) (k:kvs.map (·.1)=l.map (·.1)) (r:aD h as (kvs.map (·.2)) (l.map (·.2))) (z:l.length<=aQ+1):zR h as a l
inductive zO (h:BW)(as:List BQ)(a:BQ)(l:List (List Int×D)):Prop
 | mk {xs:List (List Int×BQ×BO)} (g:h.DictOfH (Cr (intKind prog w)) a xs) (k:xs.map (·.1)=l.map (·.1)) (r:aD h as (xs.map (·.2.2)) (l.map (·.2))) (z:l.length<=aQ+1)
   (y:∀ p∈l,p.1.length<=aQ) (t:∀ x∈xs,∃ vs n,IsT h x.2.1 vs n):zO h as a l
inductive uP (h:BW)(as:List BQ)(a:BQ)(d:Nat):Prop
 | mk {dx:BQ} (e:as[d]? = some dx) (g:h.get? a=some ({cls:=.ref C,dict:=some dx} : Obj)):uP h as a d
section
variable {prog w C}{h:BW}{as:List BQ}{a:BQ}
noncomputable def zG (prog:BX)(w:BY)(C:BQ)(h:BW)(as:List BQ)(a:BQ)(o:PO):Prop:=PO.casesOn o (qM h as a) (Ac prog w h as a) (zR prog w h as a) (zO prog w h as a) (uP C h as a)
theorem c6.inv {o:PO}(r:c6 prog w C h as a o):zG prog w C h as a o:=c6.casesOn (motive:=λo _=>zG prog w C h as a o) r .mk .mk .mk .mk .mk
theorem c6.listI {l:List D}(r:c6 prog w C h as a (.list l)):qM h as a l:=r.inv
theorem c6.dSI {l:List (Str×D)}(r:c6 prog w C h as a (.dS l)):Ac prog w h as a l:=r.inv
theorem c6.dII {l:List (Int×D)}(r:c6 prog w C h as a (.dI l)):zR prog w h as a l:=r.inv
theorem c6.dTI {l:List (List Int×D)}(r:c6 prog w C h as a (.dT l)):zO prog w h as a l:=r.inv
end
structure Rel (h₀:BW)(σ:Sto)(as:List BQ)(h:BW):Prop where
 kept:∀ b o,h₀.get? b=some o->h.get? b=some o
 len:as.length=σ.length
 nodup:as.Nodup
 new:∀ a∈as,h₀.get? a=none
 sys:(h₀.get? CV).isSome=true
 objs:∀ (k:Nat) (o:PO) (v:Nat) (a:BQ),σ[k]? = some (o,v)->as[k]? = some a->c6 prog w C h as a o
end
section
variable {prog:BX}{w:BY}{C:BQ}{h₀ h h':BW}{σ σ':Sto}{as as':List BQ}{a:BQ}
theorem q5 {o:Obj}(h:o.ExactDict):o.cls ≠ .type "tuple":=by refine (h.1).symm▸?_;simp
theorem ni {K:Type}[DecidableEq K]{knd:PySem.KeyKind prog w K}{kvs:List (K×BO)}(e:h.DictOf knd a kvs):∃ ob,h.get? a=some ob/\ob.cls ≠ .type "tuple":=by
 obtain ⟨o,_,_,hq⟩:=e;have ho:=hq.1;have hc:=hq.2.1;exact ⟨o,ho,q5 hc⟩
theorem c6.get {o:PO}(r:c6 prog w C h as a o):∃ ob,h.get? a=some ob/\ob.cls ≠ .type "tuple":=by
 refine c6.casesOn (motive:=λ_ _=>∃ ob,h.get? a=some ob/\ob.cls ≠ .type "tuple") r (λe _ _=>⟨_,e,by simp⟩) (λe _ _ _=>ni e) (λe _ _ _=>ni e) (λe _ _ _ _ _=>?_) λ_ e=>⟨_,e,by simp⟩;obtain ⟨o,_,_,hq⟩:=e;have ho:=hq.1;have hc:=hq.2.1;exact ⟨o,ho,q5 hc⟩
theorem Rel.at (R:Rel prog w C h₀ σ as h){k:Nat}{o:PO}{v:Nat}(e:σ[k]? = some (o,v)):∃ a,as[k]? = some a/\c6 prog w C h as a o:=by
 have hk:k < σ.length:=(List.getElem?_eq_some_iff.mp e).1;have hk':k < as.length:=by exact R.len▸hk
 exact ⟨as[k],List.getElem?_eq_getElem hk',R.objs k o v _ e (List.getElem?_eq_getElem hk')⟩
theorem Rel.not_mem (R:Rel prog w C h₀ σ as h){o:Obj}(e:h.get? a=some o)(hc:o.cls = .type "tuple"):a ∉ as:=by
 intro hm;obtain ⟨k,hk,ek⟩:=mem_iff_getElem.mp hm;have hk':k < σ.length:=by exact R.len▸hk
 have r:=R.objs k σ[k].1 σ[k].2 a (List.getElem?_eq_getElem hk') (by (refine (List.getElem?_eq_getElem hk).symm▸?_;exact ek.symm▸rfl));obtain ⟨ob,eb,nb⟩:=r.get;replace eb:=e▸eb;(have:=Option.some.inj eb;subst this);exact nb hc
theorem getElem?_of_prefix {α:Type}{as as':List α}(p:as <+: as'){k:Nat}{a:α}(e:as[k]? = some a):as'[k]? = some a:=by
 obtain ⟨t,rfl⟩:=p;rw [List.getElem?_append_left (List.getElem?_eq_some_iff.mp e).1];exact e
theorem vn (nt:∀ a vs n,IsT h a vs n->IsT h' a vs n)(p:as <+: as'):(∀ {v:BO} {d:D},Rep h as v d->Rep h' as' v d)/\∀ {vs:List BO} {l:List D},aD h as vs l->aD h' as' vs l :=
 Rep.ind .none .bool .int .str (λ_ _ _ _ e z _ r => .tup (nt _ _ _ e) z r) (λ_ _ e => .ref (getElem?_of_prefix p e)) .nil λ_ _ _ _ _ _ r rs => .cons r rs
theorem Rep.kp (nt:∀ a vs n,IsT h a vs n->IsT h' a vs n)(p:as <+: as'){v:BO}{d:D}(r:Rep h as v d):Rep h' as' v d:=(vn nt p).1 r
theorem aD.kp (nt:∀ a vs n,IsT h a vs n->IsT h' a vs n)(p:as <+: as'){vs:List BO}{l:List D}(r:aD h as vs l):aD h' as' vs l:=(vn nt p).2 r
theorem c6.kp {o:PO}(nt:∀ a vs n,IsT h a vs n->IsT h' a vs n)(p:as <+: as')(e:∀ o,h.get? a=some o->h'.get? a=some o)(r:c6 prog w C h as a o):c6 prog w C h' as' a o:=by
 cases r with
 | list g r z=>exact .list (e _ g) (r.kp nt p) z
 | dS g k r z=>exact .dS (g.at e) k (r.kp nt p) z
 | dI g k r z=>exact .dI (g.at e) k (r.kp nt p) z
 | dT g k r z y t =>
  obtain ⟨o,es,ep,hq⟩:=g;have ho:=hq.1;have hc:=hq.2.1;have hd:=hq.2.2.1;have he:=hq.2.2.2.1;have hk:=hq.2.2.2.2.1;have hn:=hq.2.2.2.2.2;refine .dT ⟨o,es,ep,e _ ho,hc,hd,he,λx hx=>?_,hn⟩ k (r.kp nt p) z y λx hx=>?_
  ·obtain ⟨ot,its,nt',hq⟩:=hk x hx;have hot:=hq.1;have hct:=hq.2.1;have hdt:=hq.2.2;obtain ⟨vs,n,i⟩:=t x hx;exact ⟨ot,its,nt',hot.symm.trans i▸nt _ _ _ i,hct,hdt⟩
  ·obtain ⟨vs,n,i⟩:=t x hx;exact ⟨vs,n,nt _ _ _ i⟩
 | inst g e2=>exact .inst (getElem?_of_prefix p g) (e _ e2)
theorem Rel.not_sys (R:Rel prog w C h₀ σ as h){k:Nat}(e:as[k]? = some a):(a==CV)=false:=by
 cases hb:a==CV with
 | false=>rfl
 | true =>
  have h1:=R.new a (mem_of_getElem? e);have h2:=R.sys;(replace h2:=(beq_iff_eq.mp hb).symm▸h2;replace h2:=h1▸h2);cases h2
structure Go (X:BQ->Prop)(prog:BX)(w:BY)(C:BQ)(h₀:BW)(σ:Sto)(as:List BQ)(s:BU)(σ':Sto)(as':List BQ)(s':BU):Prop where
 same:∃ h' tk dr,s' = {s with heap:=h',toks:=tk,drawn:=dr}
 rel:Rel prog w C h₀ σ' as' s'.heap
 pre:as <+: as'
 fresh:∀ a∈as',a ∉ as->s.heap.get? a=none
 off:∀ a∈as',¬ X a
 kp:∀ b o,b ∉ as->¬ X b->s.heap.get? b=some o->s'.heap.get? b=some o
 tup:∀ a vs n,IsT s.heap a vs n->IsT s'.heap a vs n
 vers:∀ (k:Nat) (a:BQ),as[k]? = some a->ver σ k<=ver σ' k/\(ver σ k=ver σ' k->∀ o,s.heap.get? a=some o->s'.heap.get? a=some o)
noncomputable abbrev NoX:BQ->Prop:=λ_=>False
variable {s s' s'':BU}{σ'':Sto}{as'':List BQ}{X Y:BQ->Prop}
theorem Go.refl (R:Rel prog w C h₀ σ as s.heap)(hx:∀ a∈as,¬ X a):Go X prog w C h₀ σ as s σ as s :=
 ⟨⟨s.heap,s.toks,s.drawn,rfl⟩,R,prefix_refl _,λ_ h1 h2=>absurd h1 h2,hx,λ_ _ _ _ e=>e,λ_ _ _ e=>e,λ_ _ _=>⟨le_refl _,λ_ _ e=>e⟩⟩
theorem Go.drew (R:Rel prog w C h₀ σ as s.heap)(dr:Ey)(hx:∀ a∈as,¬ X a):Go X prog w C h₀ σ as s σ as {s with drawn:=dr} :=
 ⟨⟨s.heap,s.toks,dr,rfl⟩,R,prefix_refl _,λ_ h1 h2=>absurd h1 h2,hx,λ_ _ _ _ e=>e,λ_ _ _ e=>e,λ_ _ _=>⟨le_refl _,λ_ _ e=>e⟩⟩
theorem Go.tok (R:Rel prog w C h₀ σ as s.heap)(t:Nat)(hx:∀ a∈as,¬ X a):Go X prog w C h₀ σ as s σ as {s with toks:=t} :=
 ⟨⟨s.heap,t,s.drawn,rfl⟩,R,prefix_refl _,λ_ h1 h2=>absurd h1 h2,hx,λ_ _ _ _ e=>e,λ_ _ _ e=>e,λ_ _ _=>⟨le_refl _,λ_ _ e=>e⟩⟩
theorem Go.trans (x:Go X prog w C h₀ σ as s σ' as' s')(y:Go X prog w C h₀ σ' as' s' σ'' as'' s''):Go X prog w C h₀ σ as s σ'' as'' s'':=by
 obtain ⟨⟨h1,t1,d1,e1⟩,xr,xp,xf,xo,xk,xt,xv⟩:=x;obtain ⟨⟨h2,t2,d2,e2⟩,yr,yp,yf,yo,yk,yt,yv⟩:=y;subst e1;subst e2;refine ⟨⟨h2,t2,d2,rfl⟩,yr,List.IsPrefix.trans xp yp,?_,yo,?_,λa vs n e=>yt a vs n (xt a vs n e),?_⟩
 ·intro a ha hna;by_cases hm:a∈as'
  ·exact xf a hm hna
  ·cases e:s.heap.get? a with
   | none=>rfl
   | some o =>
    have h3:=yf a ha hm;replace h3:=(xk a o hna (yo a ha) e)▸h3;cases h3
 ·intro b o hb hx e;have e':=xk b o hb hx e;refine yk b o (λhm=>?_) hx e';have:=xf b hm hb;replace this:=e▸this;cases this
 ·intro k a e;obtain ⟨l1,k1⟩:=xv k a e;obtain ⟨l2,k2⟩:=yv k a (getElem?_of_prefix xp e);exact ⟨le_trans l1 l2,λq o eo=>k2 (le_antisymm (a5 (.v 0) (.v 1) [(1,.v 0,.v 1)] rfl l2) (aZ (.v 0) (.v 1) [(1,.v 2,.v 1),(1,.v 0,.v 2)] rfl l1 (le_of_eq q.symm))) o (k1 (le_antisymm (a5 (.v 0) (.v 1) [(1,.v 0,.v 1)] rfl l1) (aZ (.v 0) (.v 1) [(1,.v 0,.v 2),(1,.v 2,.v 1)] rfl l2 (le_of_eq q.symm))) o eo)⟩
theorem Go.rep (x:Go X prog w C h₀ σ as s σ' as' s'){v:BO}{d:D}(r:Rep s.heap as v d):Rep s'.heap as' v d:=r.kp x.tup x.pre
theorem Go.repL (x:Go X prog w C h₀ σ as s σ' as' s'){v:List BO}{d:List D}(r:aD s.heap as v d):aD s'.heap as' v d:=r.kp x.tup x.pre
theorem Go.mono (x:Go X prog w C h₀ σ as s σ' as' s')(hxy:∀ b,X b->Y b)(ha:∀ a∈as,¬ Y a)(hl:∀ a,Y a->s.heap.get? a≠none):Go Y prog w C h₀ σ as s σ' as' s' :=
 ⟨x.same,x.rel,x.pre,x.fresh,λa hm hy=>by
  by_cases h:a∈as
  ·exact ha a h hy
  ·exact hl a hy (x.fresh a hm h),λb o hb hy e=>x.kp b o hb (λq=>hy (hxy b q)) e,x.tup,x.vers⟩
theorem Go.drop (x:Go Y prog w C h₀ σ as s σ' as' s')(hxy:∀ b,Y b->X b\/s.heap.get? b=none)(ho:∀ a∈as',¬ X a):Go X prog w C h₀ σ as s σ' as' s' :=
 ⟨x.same,x.rel,x.pre,x.fresh,ho,λb o hb hx e=>x.kp b o hb (λq=>(hxy b q).elim hx λz=>by replace z:=e▸z;cases z) e,x.tup,x.vers⟩
theorem Rel.grow (R:Rel prog w C h₀ σ as h)(k:∀ b o,h.get? b=some o->h'.get? b=some o):Rel prog w C h₀ σ as h' :=
 ⟨λb o e=>k b o (R.kept b o e),R.len,R.nodup,R.new,R.sys,λi o v a e e'=>(R.objs i o v a e e').kp (λ_ _ _ e=>k _ _ e) (prefix_refl _) λo e=>k _ o e⟩
theorem Go.grow (R:Rel prog w C h₀ σ as s.heap){h':BW}{tk:Nat}(k:∀ b o,s.heap.get? b=some o->h'.get? b=some o)(hx:∀ a∈as,¬ X a):Go X prog w C h₀ σ as s σ as {s with heap:=h',toks:=tk} :=
 ⟨⟨h',tk,s.drawn,rfl⟩,R.grow k,prefix_refl _,λ_ h1 h2=>absurd h1 h2,hx,λb o _ _ e=>k b o e,λa vs n e=>k a _ e,λ_ _ _=>⟨le_refl _,λ_ o e=>k _ o e⟩⟩
theorem Go.at (R:Rel prog w C h₀ σ as s.heap){h':BW}{tk:Nat}{c:BQ}(hX:X c)(hx:∀ a∈as,¬ X a)(h0:h₀.get? c=none)(ht:∀ vs n,¬ IsT s.heap c vs n)
  (k:∀ b o,b≠c->s.heap.get? b=some o->h'.get? b=some o):Go X prog w C h₀ σ as s σ as {s with heap:=h',toks:=tk} := by
 have hc:∀ a∈as,a≠c:=λa ha e=>hx a ha (e▸hX);have nt:∀ a vs n,IsT s.heap a vs n->IsT h' a vs n:=λa vs n e=>k a _ (λz=>ht vs n (z▸e)) e;refine ⟨⟨h',tk,s.drawn,rfl⟩,⟨λb o e=>k b o (λz=>by rw [z,h0] at e;exact an e) (R.kept b o e),R.len,R.nodup,R.new,R.sys,λi o v a e e'=>?_⟩,prefix_refl _,λ_ h1 h2=>absurd h1 h2,hx,λb o _ hb e=>k b o (λz=>hb (z▸hX)) e,nt,λi a e=>?_⟩
 ·exact (R.objs i o v a e e').kp nt (prefix_refl _) λo e2=>k a o (hc a (mem_of_getElem? e')) e2
 ·exact ⟨le_refl _,λ_ o e2=>k a o (hc a (mem_of_getElem? e)) e2⟩
theorem Rel.push (R:Rel prog w C h₀ σ as h){o:PO}{v:Nat}(k:∀ b o,h.get? b=some o->h'.get? b=some o)(hf:h.get? a=none)(r:c6 prog w C h' (as++[a]) a o):Rel prog w C h₀ (σ++[(o,v)]) (as++[a]) h':=by
 have hna:a ∉ as:=by
  intro hm;obtain ⟨i,hq⟩:=mem_iff_getElem.mp hm;have hi:=hq.1;have ei:=hq.2;have hi':i < σ.length:=by exact R.len▸hi
  obtain ⟨ob,hq⟩:=(R.objs i σ[i].1 σ[i].2 a (List.getElem?_eq_getElem hi') (by (refine (List.getElem?_eq_getElem hi).symm▸?_;exact ei.symm▸rfl))).get;have eb:=hq.1;replace eb:=hf▸eb;exact an eb
 refine ⟨λb o e=>k b o (R.kept b o e),by simp [R.len],?_,?_,R.sys,?_⟩
 ·rw [nodup_append];refine ⟨R.nodup,by simp,?_⟩;intro x hx y hy;simp only [mem_singleton] at hy;subst hy;intro e;subst e;exact hna hx
 ·intro b hb;rcases mem_append.mp hb with hb | hb
  ·exact R.new b hb
  ·simp only [mem_singleton] at hb;subst hb;cases e:h₀.get? b with
   | none=>rfl
   | some o=>replace hf:=(R.kept b o e)▸hf;cases hf
 ·intro i o' v' b e e';by_cases hi:i < σ.length
  ·replace e:=(List.getElem?_append_left hi)▸e;replace e':=(List.getElem?_append_left (by exact R.len▸hi))▸e';exact (R.objs i o' v' b e e').kp (λ_ _ _ e=>k _ _ e) (prefix_append _ _) λo e=>k _ o e
  ·have hle:σ.length<=i:=le_of_not_lt hi;replace e:=(List.getElem?_append_right hle)▸e;(replace e':=(List.getElem?_append_right (by exact R.len▸hle))▸e';replace e':=(R.len)▸e');have hz:i - σ.length=0:=by
    have:=(List.getElem?_eq_some_iff.mp e).1;simp at this;exact le_antisymm (bh (.v 0) (.n 0) [(1,.v 0,.n 0)] rfl (le_of_eq this)) (bh (.n 0) (.v 0) [(1,.n 0,.v 0)] rfl (le_of_eq this.symm))
   rw [hz] at e e';simp only [List.getElem?_cons_zero,Option.some.injEq] at e e';cases e;subst e';exact r
theorem fD (σ:Sto)(p:PO×Nat){k:Nat}(h:k < σ.length):ver (σ++[p]) k=ver σ k:=by
 unfold ver;exact (List.getElem?_append_left h).symm▸rfl
theorem Go.push (R:Rel prog w C h₀ σ as s.heap){o:PO}{h':BW}{tk:Nat}(k:∀ b o,s.heap.get? b=some o->h'.get? b=some o)(hf:s.heap.get? a=none)(r:c6 prog w C h' (as++[a]) a o) :
  Go NoX prog w C h₀ σ as s (σ++[(o,0)]) (as++[a]) {s with heap:=h',toks:=tk} :=
 ⟨⟨h',tk,s.drawn,rfl⟩,R.push k hf r,prefix_append _ _,λb h1 h2=>by
  rcases mem_append.mp h1 with h1 | h1
  ·exact absurd h1 h2
  ·simp only [mem_singleton] at h1;subst h1;exact hf,λ_ _ x=>x,λb o _ _ e=>k b o e,λa vs n e=>k a _ e,λi b e=>by
   refine (fD _ _ (by exact R.len▸((List.getElem?_eq_some_iff.mp e).1))).symm▸?_;exact ⟨le_refl _,λ_ o e=>k _ o e⟩⟩
theorem Rel.newRef (R:Rel prog w C h₀ σ as h)(h':BW)(a:BQ):Rep h' (as++[a]) (.ref a) (.ref σ.length):=.ref (by refine (R.len)▸?_;simp)
theorem Go.set (R:Rel prog w C h₀ σ as s.heap){k:Nat}{o:PO}{h':BW}{tk:Nat}(ek:as[k]? = some a)(kp:∀ b o,b≠a->s.heap.get? b=some o->h'.get? b=some o)(r:(∀ x vs n,IsT s.heap x vs n->IsT h' x vs n)->c6 prog w C h' as a o) :
  Go NoX prog w C h₀ σ as s (σ.set k (o,ver σ k+1)) as {s with heap:=h',toks:=tk} := by
 have ha:a∈as:=mem_of_getElem? ek;have nt:∀ x vs n,IsT s.heap x vs n->IsT h' x vs n:=λx vs n e=>kp x _ (λz=>R.not_mem e rfl (z▸ha)) e;refine ⟨⟨h',tk,s.drawn,rfl⟩,⟨λb ob e=>kp b ob (λx=>?_) (R.kept b ob e),by simp [R.len],R.nodup,R.new,R.sys,?_⟩,prefix_refl _,λ_ h1 h2=>absurd h1 h2,λ_ _ x=>x,λb ob hb _ e=>kp b ob (λx=>hb (x▸ha)) e,nt,?_⟩
 ·subst x;replace e:=(R.new b ha)▸e;exact an e
 ·intro i o' v' b e e';by_cases hi:k=i
  ·subst hi;have hk:k < σ.length:=by exact R.len▸((List.getElem?_eq_some_iff.mp ek).1)
   replace e:=(List.getElem?_set_self hk)▸e;cases e;replace e':=ek▸e';(have:=Option.some.inj e';subst this);exact r nt
  ·replace e:=(List.getElem?_set_ne hi)▸e;have hb:b≠a:=by
    intro x;subst x;have h1:=List.getElem?_eq_some_iff.mp ek;have h2:=List.getElem?_eq_some_iff.mp e';exact hi ((List.getElem_inj R.nodup).mp (h1.2.trans h2.2.symm))
   exact (R.objs i o' v' b e e').kp nt (prefix_refl _) λob eb=>kp b ob hb eb
 ·intro i b e';by_cases hi:k=i
  ·subst hi;have hk:k < σ.length:=by exact R.len▸((List.getElem?_eq_some_iff.mp ek).1)
   have:ver (σ.set k (o,ver σ k+1)) k=ver σ k+1:=by
    conv=>lhs;unfold ver
    refine (List.getElem?_set_self hk).symm▸?_;rfl
   refine this.symm▸?_;exact ⟨le_succ _,λq=>absurd q (ne_of_lt (lt_succ_self _))⟩
  ·have:ver (σ.set k (o,ver σ k+1)) i=ver σ i:=by
    conv=>lhs;unfold ver
    exact (List.getElem?_set_ne hi).symm▸rfl
   refine this.symm▸?_;refine ⟨le_refl _,λ_ ob eb=>kp b ob (λx=>?_) eb⟩;subst x;have h1:=List.getElem?_eq_some_iff.mp ek;have h2:=List.getElem?_eq_some_iff.mp e';exact hi ((List.getElem_inj R.nodup).mp (h1.2.trans h2.2.symm))
end
inductive Bw {α β:Type}(m:PM α)(f:α->PM β)(σ:Sto)(r:β)(σ':Sto):Prop
 | intro (a:α) (σ1:Sto) (e1:m σ=some (a,σ1)) (e2:f a σ1=some (r,σ')):Bw m f σ r σ'
theorem bA {α β:Type}{m:PM α}{f:α->PM β}{σ σ':Sto}{r:β}(e:(m >>= f) σ=some (r,σ')):Bw m f σ r σ':=by
 cases h:m σ with
 | none =>
  have:(m >>= f) σ=none:=by show (m σ >>= λp=>f p.1 p.2)=none;exact h.symm▸rfl
  replace e:=this▸e;cases e
 | some p =>
  have:(m >>= f) σ=f p.1 p.2:=by show (m σ >>= λp=>f p.1 p.2)=_;exact h.symm▸rfl
  replace e:=this▸e;exact ⟨p.1,p.2,h,e⟩
theorem aC {α:Type}{a r:α}{σ σ':Sto}(e:(pure a:PM α) σ=some (r,σ')):r=a/\σ'=σ:=by cases e;exact ⟨rfl,rfl⟩
theorem af {α:Type}{r:α}{σ σ':Sto}{P:Prop}(e:(aT:PM α) σ=some (r,σ')):P:=by cases e
theorem dO {b:Bool}{u:Unit}{σ σ':Sto}(e:must b σ=some (u,σ')):b=true/\σ'=σ:=by
 induction b using Bool.casesOn with
 | true=>exact ⟨rfl,(aC e).2⟩
 | false=>exact af (show (aT:PM Unit) σ=some (u,σ') from e)
theorem j1 {β:Type}{b:Bool}{f:Unit->PM β}{σ σ':Sto}{r:β}(e:(must b >>= f) σ=some (r,σ')):b=true/\f () σ=some (r,σ'):=by
 obtain ⟨_,σ1,e1,e2⟩:=bA e;obtain ⟨h,rfl⟩:=dO e1;exact ⟨h,e2⟩
theorem bW {α:Type}{o:Option α}{r:α}{σ σ':Sto}(e:ofOpt o σ=some (r,σ')):o=some r/\σ'=σ:=by
 induction o using Option.casesOn with
 | none=>exact af (show (aT:PM α) σ=some (r,σ') from e)
 | some a=>obtain ⟨h1,h2⟩:=aC e;exact ⟨h1.symm▸rfl,h2⟩
theorem nG {k:Nat}{o:PO×Nat}{σ σ':Sto}(e:getP k σ=some (o,σ')):σ[k]? = some o/\σ'=σ:=by
 unfold getP at e;split at e
 ·rename_i o' h;cases e;exact ⟨h,rfl⟩
 ·cases e
theorem eL {k:Nat}{o:PO}{σ σ':Sto}(e:getO k σ=some (o,σ')):(∃ v,σ[k]? = some (o,v))/\σ'=σ:=by
 unfold getO at e;split at e
 ·rename_i o' h;cases e;exact ⟨⟨_,h⟩,rfl⟩
 ·cases e
theorem eQ {d:D}{i:Int}{σ σ':Sto}(e:co d σ=some (i,σ')):d = .int i/\σ'=σ:=by
 induction d using D.casesOn with
 | int j=>obtain ⟨h1,h2⟩:=aC e;exact ⟨h1.symm▸rfl,h2⟩
 | _=>exact af (σ:=σ) e
theorem fL {d:D}{i:Bool}{σ σ':Sto}(e:df d σ=some (i,σ')):d = .bool i/\σ'=σ:=by
 induction d using D.casesOn with
 | bool j=>obtain ⟨h1,h2⟩:=aC e;exact ⟨h1.symm▸rfl,h2⟩
 | _=>exact af (σ:=σ) e
theorem fy {k:Nat}{l:List D}{σ σ':Sto}(e:listAt k σ=some (l,σ')):(∃ v,σ[k]? = some (.list l,v))/\σ'=σ:=by
 obtain ⟨o,σ1,e1,e2⟩:=bA e;obtain ⟨h1,rfl⟩:=eL e1;induction o using PO.casesOn with
 | list l'=>obtain ⟨h3,h4⟩:=aC e2;subst h3;exact ⟨h1,h4⟩
 | _=>exact af (σ:=σ1) e2
theorem bp {α:Type}{a r:α}{σ σ':Sto}(e:(pure a:PM α) σ=some (r,σ')):a=r/\σ=σ':=And.imp Eq.symm Eq.symm (aC e)
theorem t9 {b:Bool}{u:Unit}{σ σ':Sto}(e:must b σ=some (u,σ')):b=true/\σ=σ':=And.imp id Eq.symm (dO e)
theorem cK {α:Type}{o:Option α}{r:α}{σ σ':Sto}(e:ofOpt o σ=some (r,σ')):o=some r/\σ=σ':=And.imp id Eq.symm (bW e)
theorem uh {k:Nat}{o:PO}{σ σ':Sto}(e:getO k σ=some (o,σ')):(∃ v,σ[k]? = some (o,v))/\σ=σ':=And.imp id Eq.symm (eL e)
theorem qC {d:D}{i:Int}{σ σ':Sto}(e:co d σ=some (i,σ')):d = .int i/\σ=σ':=And.imp id Eq.symm (eQ e)
theorem iS {d:D}{i:Bool}{σ σ':Sto}(e:df d σ=some (i,σ')):d = .bool i/\σ=σ':=And.imp id Eq.symm (fL e)
theorem iY {k:Nat}{l:List D}{σ σ':Sto}(e:listAt k σ=some (l,σ')):(∃ v,σ[k]? = some (.list l,v))/\σ=σ':=And.imp id Eq.symm (fy e)
theorem ac {α β:Type}{m:PM α}{f:α->PM β}{σ σ':Sto}{r:β}{P:Prop}(e:(m >>= f) σ=some (r,σ'))(k:∀ a σ1,m σ=some (a,σ1)->f a σ1=some (r,σ')->P):P:=(bA e).casesOn k
theorem ai {β:Type}{b:Bool}{f:Unit->PM β}{σ σ':Sto}{r:β}{P:Prop}(e:(must b >>= f) σ=some (r,σ'))(k:b=true->f () σ=some (r,σ')->P):P:=k (j1 e).1 (j1 e).2
section
variable {β:Type}{σ σ':Sto}{r:β}{P:Prop}
theorem aP {α:Type}{o:Option α}{f:α->PM β}(e:(ofOpt o >>= f) σ=some (r,σ'))(k:∀ a,o=some a->f a σ=some (r,σ')->P):P:=ac e λa _ e1 e2=>k a (bW e1).1 ((bW e1).2▸e2)
theorem bD {i:Nat}{f:PO->PM β}(e:(getO i >>= f) σ=some (r,σ'))(k:∀ o v,σ[i]? = some (o,v)->f o σ=some (r,σ')->P):P:=ac e λa _ e1 e2=>(eL e1).1.elim λv h=>k a v h ((eL e1).2▸e2)
theorem j3 {i:Nat}{f:PO×Nat->PM β}(e:(getP i >>= f) σ=some (r,σ'))(k:∀ o,σ[i]? = some o->f o σ=some (r,σ')->P):P:=ac e λa _ e1 e2=>k a (nG e1).1 ((nG e1).2▸e2)
theorem bj {i:Nat}{f:List D->PM β}(e:(listAt i >>= f) σ=some (r,σ'))(k:∀ l v,σ[i]? = some (.list l,v)->f l σ=some (r,σ')->P):P:=ac e λa _ e1 e2=>(fy e1).1.elim λv h=>k a v h ((fy e1).2▸e2)
theorem dW {d:D}{f:Int->PM β}(e:(co d >>= f) σ=some (r,σ'))(k:∀ i,d = .int i->f i σ=some (r,σ')->P):P:=ac e λa _ e1 e2=>k a (eQ e1).1 ((eQ e1).2▸e2)
theorem et {d:D}{f:Bool->PM β}(e:(df d >>= f) σ=some (r,σ'))(k:∀ i,d = .bool i->f i σ=some (r,σ')->P):P:=ac e λa _ e1 e2=>k a (fL e1).1 ((fL e1).2▸e2)
end
@[elab_as_elim] theorem aj {α:Type} {a r:α} {σ σ':Sto} {motive:α->Sto->Prop} (e:(pure a:PM α) σ=some (r,σ')) (h:motive a σ):motive r σ':=(aC e).1.symm▸(aC e).2.symm▸h
theorem dz {l:List D}{d:D}{σ σ':Sto}(e:mkTup l σ=some (d,σ')):l.length<=aQ/\d = .tup l/\σ'=σ:=by
 obtain ⟨_,σ1,e1,e2⟩:=bA e;obtain ⟨h1,rfl⟩:=dO e1;obtain ⟨h3,h4⟩:=aC e2;exact ⟨by simpa using h1,h3,h4⟩
theorem bH {l:List D}{d:D}{σ σ':Sto}(e:mkList l σ=some (d,σ')):l.length<=aQ/\d = .ref σ.length/\σ'=σ++[(.list l,0)]:=by
 obtain ⟨_,σ1,e1,e2⟩:=bA e;obtain ⟨h1,rfl⟩:=dO e1;cases e2;exact ⟨by simpa using h1,rfl,rfl⟩
noncomputable abbrev NoE:BO->BU->Prop:=λ_ _=>False
inductive Ans (prog:BX)(w:BY)(C:BQ)(h₀:BW)(σ:Sto)(as:List BQ)(s:BU)(σ':Sto)(d:D)(v:BO)(s':BU):Prop
 | intro (as':List BQ) (g:Go NoX prog w C h₀ σ as s σ' as' s') (r:Rep s'.heap as' v d):Ans prog w C h₀ σ as s σ' d v s'
section
variable {prog:BX}{w:BY}{C:BQ}{h₀:BW}{σ σ':Sto}{as:List BQ}{s:BU}{A:BZ}{d:D}
theorem ct:aQ+1+(aQ+1)<=Ct:=by decide +kernel
theorem eZ {m n:Nat}(e:m=n)(h:n<=aQ+1):m<=Ct:=le_trans (le_of_eq e) (le_trans (le_trans h (le_add_right _ _)) ct)
theorem uq (R:Rel prog w C h₀ σ as s.heap):Ans prog w C h₀ σ as s σ .none .none s:=⟨as,Go.refl R (λ_ _ x=>x),.none⟩
theorem cW (R:Rel prog w C h₀ σ as s.heap)(b:Bool):Ans prog w C h₀ σ as s σ (.bool b) (.bool b) s:=⟨as,Go.refl R (λ_ _ x=>x),.bool b⟩
theorem iG (R:Rel prog w C h₀ σ as s.heap)(b:Bool)(tk:Nat):Ans prog w C h₀ σ as s σ (.bool b) (.bool b) {s with toks:=tk} := ⟨as,Go.tok R tk (λ_ _ x=>x),.bool b⟩
theorem bQ (R:Rel prog w C h₀ σ as s.heap)(i:Int)(t:Tok)(tk:Nat):Ans prog w C h₀ σ as s σ (.int i) (.int i t) {s with toks:=tk} := ⟨as,Go.tok R tk (λ_ _ x=>x),.int i t⟩
theorem c5 (R:Rel prog w C h₀ σ as s.heap){v:BO}(r:Rep s.heap as v d):Ans prog w C h₀ σ as s σ d v s:=⟨as,Go.refl R (λ_ _ x=>x),r⟩
theorem dp (R:Rel prog w C h₀ σ as s.heap){v:BO}(r:Rep s.heap as v d)(tk:Nat):Ans prog w C h₀ σ as s σ d v {s with toks:=tk} := ⟨as,Go.tok R tk (λ_ _ x=>x),r⟩
theorem jC (R:Rel prog w C h₀ σ as s.heap){vs:List BO}{l:List D}(r:aD s.heap as vs l)(z:l.length<=aQ)(tk:Nat) :
  Ans prog w C h₀ σ as s σ (.tup l) (.ref s.heap.objs.size) {s with heap:=s.heap.push {cls:=.type "tuple",data:=.seq vs.toArray},toks:=tk} := by
 have k:∀ b o,s.heap.get? b=some o->(s.heap.push {cls:=.type "tuple",data:=.seq vs.toArray}).get? b=some o:=λb o e=>Heap.get?_push_of_some _ e;exact ⟨as,Go.grow R k (λ_ _ x=>x),.tup (Heap.get?_push_size _ rfl) z (r.kp (λa vs n e=>k a _ e) (prefix_refl _))⟩
theorem aR (h:BW):h.get? h.objs.size=none:=by
 cases e:h.get? h.objs.size with
 | none=>rfl
 | some o=>exact absurd (Heap.lt_size e) (lt_irrefl _)
theorem gz (R:Rel prog w C h₀ σ as s.heap){vs:List BO}{l:List D}(r:aD s.heap as vs l)(z:l.length<=aQ)(n tk:Nat) :
  Ans prog w C h₀ σ as s (σ++[(.list l,0)]) (.ref σ.length) (.ref s.heap.objs.size) {s with heap:=s.heap.push {cls:=.type "list",data:=.seq vs.toArray n},toks:=tk} := by
 have k:∀ b o,s.heap.get? b=some o->(s.heap.push {cls:=.type "list",data:=.seq vs.toArray n}).get? b=some o:=λb o e=>Heap.get?_push_of_some _ e;refine ⟨as++[s.heap.objs.size],Go.push R k (aR _) (.list (vs:=vs.toArray) (n:=n) (Heap.get?_push_size _ rfl) ?_ (le_succ_of_le z)),R.newRef _ _⟩;exact r.kp (λa vs n e=>k a _ e) (prefix_append _ _)
end
structure dP (A:BZ)(n:Nat):Prop where
 handled:A.handled=none
 guards:A.guards=some []
 depth:A.depth+4 * n+4 < Dz
 units:A.units+100+40 * n < CA
theorem dP.le {A:BZ}{n m:Nat}(r:dP A n)(h:m<=n):dP A m:=⟨r.handled,r.guards,lt_of_le_of_lt (add_le_add_right (add_le_add_left (mul_le_mul_left 4 h) _) 4) r.depth,lt_of_le_of_lt (add_le_add_left (mul_le_mul_left 40 h) _) r.units⟩
section
variable {prog:BX}{w:BY}{C:BQ}{h₀:BW}{σ σ':Sto}{as:List BQ}{s:BU}{A:BZ}{d:D}{n:Nat}
theorem be {vs:Array BO}{x:List D}{h:BW}(r:aD h as vs.toList x):vs.size=x.length:=by (refine (r.length)▸?_;exact (length_toList).symm▸rfl)
inductive zQ (σ:Sto)(r:Option (D×Sto)):D->D->Prop
 | i (x y:Int) (e:(pure (.int (x+y)):PM D) σ=r):zQ σ r (.int x) (.int y)
 | t (x y:List D) (e:mkTup (x++y) σ=r):zQ σ r (.tup x) (.tup y)
 | l (j k:Nat) (e:(do let x <- listAt j;let y <- listAt k;mkList (x++y):PM D) σ=r):zQ σ r (.ref j) (.ref k)
theorem z9 {a b:D}{r:D×Sto}(e:AM a b σ=some r):zQ σ (some r) a b:=by
 induction a using D.casesOn with
 | int x=>induction b using D.casesOn with
  | int y=>exact .i x y e
  | _=>exact an e
 | tup x=>induction b using D.casesOn with
  | tup y=>exact .t x y e
  | _=>exact an e
 | ref j=>induction b using D.casesOn with
  | ref k=>exact .l j k e
  | _=>exact an e
 | _=>exact an e
theorem gI {ta tb:BQ}{vs ws:Array BO}{n m:Nat}{S:PySem.Spec}{Q:BO->BU->Prop}{E:BO->BU->Prop}(ha:IsT s.heap ta vs n)(hb:IsT s.heap tb ws m)(g:Meets (Builtin.«tuple.__add__» ⟨[.ref ta,.ref tb],[]⟩) S)(h:S A (wants Q E) s) :
  BR (BS prog w) A (CR .Add (.ref ta) (.ref tb)) Q E s:=concat_meets ⟨_,ha,rfl⟩ ⟨_,hb,rfl⟩ noFill_tuple_add seq_tuple_add PySem.F.slot_tuple_add PySem.F.entry_tuple_add (PySem.F.args_tuple_add_2 _ _) g h
theorem wU {a b:D}{va vb:BO}(R:Rel prog w C h₀ σ as s.heap)(ra:Rep s.heap as va a)(rb:Rep s.heap as vb b)(e:AM a b σ=some (d,σ')) :
  BR (BS prog w) A (CR .Add va vb) (Ans prog w C h₀ σ as s σ' d) NoE s:=by
 cases z9 e with
 | i x y e =>
  cases ra.intI;cases rb.intI;(refine aj e ?_);clear e;exact PyProof.Rows.add_int (bQ R _ _ _)
 | t x y e =>
  cases ra.tupI with
  | @mk ta vs n ha za xa =>
  cases rb.tupI with
  | @mk tb ws m hb zb xb =>
  obtain ⟨z,rfl,rfl⟩:=dz e;clear e;have sa:=be xa;have sb:=be xb;by_cases h1:vs.isEmpty=true
  ·have hx:x=[]:=List.eq_nil_of_length_eq_zero (sa.symm.trans (Array.isEmpty_iff_size_eq_zero.mp h1));exact gI ha hb (tuple_addW0 ta tb vs ws n m none none #[] #[] h1) ⟨ha,hb,hx▸c5 R rb⟩
  ·by_cases h2:ws.isEmpty=true
   ·have hy:y=[]:=List.eq_nil_of_length_eq_zero (sb.symm.trans (Array.isEmpty_iff_size_eq_zero.mp h2));exact gI ha hb (tuple_addW1 ta tb vs ws n m none none #[] #[] h1 h2) ⟨ha,hb,hy▸(append_nil x).symm▸c5 R ra⟩
   ·refine gI ha hb (tuple_addW2 ta tb vs ws n m none none #[] #[] h1 h2 ?_) ⟨ha,hb,?_⟩
    ·(refine sa.symm▸?_;refine sb.symm▸?_;refine (length_append)▸?_);exact le_trans z (le_trans (le_add_right _ _) (le_trans (le_add_right _ _) ct))
    ·refine (show (vs++ws)=(vs.toList++ws.toList).toArray by simp).symm▸?_;exact jC R (xa.append xb) z s.toks
 | l j k e =>
  (refine bj e ?_);clear e;rintro x _ hx e;(refine bj e ?_);clear e;rintro y _ hy e;obtain ⟨z,rfl,rfl⟩:=bH e;cases ra.refI with
  | mk ka =>
  cases rb.refI with
  | mk kb =>
  cases (R.objs _ _ _ _ hx ka).listI with
  | mk ga xa za =>
  cases (R.objs _ _ _ _ hy kb).listI with
  | mk gb xb zb =>
  refine PySem.P.add_list ga gb ?_ (by (refine (be xa).symm▸?_;refine (be xb).symm▸?_);exact le_trans (add_le_add za zb) ct);rw [show ∀ vs ws:Array BO,(vs++ws)=(vs.toList++ws.toList).toArray by intros;simp];exact gz R (xa.append xb) z 0 s.toks
theorem aD.replicate {h:BW}{vs:List BO}{l:List D}(r:aD h as vs l)(n:Nat):aD h as (List.replicate n vs).flatten (List.replicate n l).flatten:=by
 induction n with
 | zero=>exact .nil
 | succ n ih=>exact r.append ih
theorem l9 {i:Int}(h:fz i=true) : -(2 ^ 63)<=i/\i < 2 ^ 63:=by
 have h:=and_eq_true_iff.mp h;exact ⟨Int.le_trans (by decide) (of_decide_eq_true h.1),Int.lt_of_le_of_lt (of_decide_eq_true h.2) (by decide)⟩
theorem zJ {x y:Int}(h1:fz x=true):IntMulOk x y:=by
 have:=l9 h1
 mul_fits
theorem cw {a b:D}{va vb:BO}{f:Int->Int->PM D}{P:BO->BO->Prop}(ra:Rep s.heap as va a)(rb:Rep s.heap as vb b)(e:(do let x <- co a;let y <- co b;f x y:PM D) σ=some (d,σ'))(k:∀ x y t u,f x y σ=some (d,σ')->P (.int x t) (.int y u)):P va vb:=by
 (refine dW e ?_);clear e;rintro x rfl e;(refine dW e ?_);clear e;rintro y rfl e;cases ra.intI with
 | mk t =>
 cases rb.intI with
 | mk u=>exact k x y t u e
theorem w5 {k:Nat}{y:Int}{va vb:BO}(R:Rel prog w C h₀ σ as s.heap)(ra:Rep s.heap as va (.ref k))(rb:Rep s.heap as vb (.int y))(e:pD .Mult (.ref k) (.int y) σ=some (d,σ')) :
  BR (BS prog w) A (CR .Mult va vb) (Ans prog w C h₀ σ as s σ' d) NoE s:=by
 (refine bj e ?_);clear e;rintro x _ hx e;(refine ai e ?_);clear e;rintro h1 e;obtain ⟨z,rfl,rfl⟩:=bH e;have h1:=and_eq_true_iff.mp h1;have hy0:=of_decide_eq_true h1.1;have hy4:=of_decide_eq_true h1.2;cases ra.refI with
 | mk ka =>
 cases rb.intI with
 | mk u =>
 cases (R.objs _ _ _ _ hx ka).listI with
 | @mk vs k ga xa za =>
 have hz:=be xa;have hb:vs.size * y.toNat<=2 ^ 24:=le_trans (mul_le_mul (le_trans (le_of_eq hz) za) (Int.toNat_le.mpr hy4)) (show (aQ+1) * 4<=2 ^ 24 by decide +kernel);refine wpAny_binaryOp_repeat_ref (T:="list") (U:="int") (by kernel_rfl) ⟨_,ga,rfl⟩ (λs'=>typeIs_int s' y u) noFill_list_mul F.fills_int_mul F.slot_int_rmul repeat_list F.slot_int_index.lookup
  (Ec F.slot_int_rmul (typeIs_int s y u) F.entry_int_rmul (F.args_int_rmul_2 _ _) (int___rmul___int_list y u _ vs k)
   ⟨ga,rfl,⟨_,ga,rfl⟩,Ec F.slot_list_mul ⟨_,ga,rfl⟩ F.entry_list_mul (F.args_list_mul_2 _ _)
    (AutoListH.list___mul___list_int_3 _ vs k y u (by simp [Builtin.List.listFitsIndex];exact ⟨Int.le_trans (by decide) hy0,Int.lt_of_le_of_lt hy4 (by decide)⟩) (not_lt.mpr (le_trans hb (by decide))) (by simp [Builtin.List.listTooLong,Ct];exact bh (.v 0) (.n 16777216) [(1,.v 0,.n 16777216)] rfl hb))
    ⟨ga,?_⟩⟩)
 rw [(listMul_foldl_if vs y.toNat:List.foldl (λx1 x2=>x1++x2) #[] (List.replicate (if vs.isEmpty=true then 0 else y.toNat) vs)=(List.replicate y.toNat vs.toList).flatten.toArray)];exact gz R (xa.replicate _) z 0 s.toks
theorem xE {op:Dj}{a b:D}{va vb:BO}(R:Rel prog w C h₀ σ as s.heap)(ra:Rep s.heap as va a)(rb:Rep s.heap as vb b)(e:pD op a b σ=some (d,σ')) :
  BR (BS prog w) A (CR op va vb) (Ans prog w C h₀ σ as s σ' d) NoE s:=by
 induction op using Operator.casesOn with
 | Add=>exact wU R ra rb e
 | Sub=>exact cw (P:=λva vb=>BR (BS prog w) A (CR .Sub va vb) (Ans prog w C h₀ σ as s σ' d) NoE s) ra rb e λx y t u e=>aj e (PyProof.Rows.sub_int (bQ R _ _ _))
 | Mult =>
  induction a using D.casesOn with
  | int x=>induction b using D.casesOn with
   | int y =>
    refine ai e λh1 e=>?_;(refine aj e ?_);clear e;cases ra.intI;cases rb.intI;exact PyProof.Rows.mul_int (bQ R _ _ _) (zJ (and_eq_true_iff.mp h1).1)
   | _=>exact af (σ:=σ) e
  | ref k=>induction b using D.casesOn with
   | int y=>exact w5 R ra rb e
   | _=>exact af (σ:=σ) e
  | _=>exact af (σ:=σ) e
 | FloorDiv =>
  refine cw (P:=λva vb=>BR (BS prog w) A (CR .FloorDiv va vb) (Ans prog w C h₀ σ as s σ' d) NoE s) ra rb e λx y t u e=>ai e λh1 e=>aj e ?_;have h1:=and_eq_true_iff.mp h1;have h2:=of_decide_eq_true h1.1;have h3:=of_decide_eq_true h1.2;exact PyProof.Rows.floordiv_int (Int.ne_of_gt h2) (bQ R _ _ _) (.inl (PyProof.noPylong_small (Int.ofNat_lt.mp ((Int.natAbs_of_nonneg (Int.le_of_lt h2)).symm▸h3:((y.natAbs:Nat):Int) < (1073741824:Nat)))))
 | Mod =>
  refine cw (P:=λva vb=>BR (BS prog w) A (CR .Mod va vb) (Ans prog w C h₀ σ as s σ' d) NoE s) ra rb e λx y t u e=>ai e λh1 e=>aj e ?_;have h2:=of_decide_eq_true (and_eq_true_iff.mp h1).1;exact PyProof.Rows.mod_int' (b:=y) (Int.ne_of_gt h2) (bQ R _ _ _)
 | RShift=>exact cw (P:=λva vb=>BR (BS prog w) A (CR .RShift va vb) (Ans prog w C h₀ σ as s σ' d) NoE s) ra rb e λx y t u e=>ai e λh1 e=>aj e (PyProof.Rows.rshift_int (of_decide_eq_true (and_eq_true_iff.mp h1).1) (bQ R _ _ _))
 | BitAnd=>exact cw (P:=λva vb=>BR (BS prog w) A (CR .BitAnd va vb) (Ans prog w C h₀ σ as s σ' d) NoE s) ra rb e λx y t u e=>aj e (PyProof.Rows.and_int (bQ R _ _ _))
 | _=>exact af (σ:=σ) e
end
end
section
open PySem PyProof.Rows PySem.SeqAt
theorem tA {x:D}{r:List D}{ps:List Ca}(e:D.pys (x::r)=some ps):∃ a b,D.py x=some a/\D.pys r=some b/\a::b=ps:=by
 obtain ⟨a,hq⟩:=bind_eq_some_iff.mp e;have h1:=hq.1;have e:=hq.2;obtain ⟨b,hq⟩:=map_eq_some_iff.mp e;have h2:=hq.1;have e:=hq.2;exact ⟨a,b,h1,h2,e⟩
theorem kE {h:BW}{as:List BQ} : (∀ {v:BO} {d:D},Rep h as v d->∀ p,d.py=some p->∃ bs,Ez h v p bs)/\∀ {vs:List BO} {l:List D},aD h as vs l->∀ ps,D.pys l=some ps->∃ bs,ReadsAll h vs ps bs:=by
 refine Rep.ind (λp e=>Option.some.inj e▸⟨_,.none⟩) (λb p e=>Option.some.inj e▸⟨_,.bool b⟩) (λi t p e=>Option.some.inj e▸⟨_,.int i t⟩) (λx t p e=>Option.some.inj e▸⟨_,.str x t⟩) (λa vs n l g _ _ ih p e=>?_) (λ_ _ _ _ e=>an e) (λp e=>Option.some.inj e▸⟨_,.nil⟩) λv d vs l _ _ h1 h2 ps e=>?_
 ·obtain ⟨ps,hq⟩:=map_eq_some_iff.mp e;have hp:=hq.1;have e:=hq.2;obtain ⟨bs,rs⟩:=ih ps hp;exact e▸⟨_,.tuple g rfl rfl rs⟩
 ·obtain ⟨a,b,hq⟩:=tA e;have e1:=hq.1;have e2:=hq.2.1;have e:=hq.2.2;obtain ⟨b1,r1⟩:=h1 a e1;obtain ⟨b2,r2⟩:=h2 b e2;exact e▸⟨_,.cons r1 r2⟩
theorem Rep.reads {h:BW}{as:List BQ}{v:BO}{d:D}(r:Rep h as v d){p:Ca}(e:d.py=some p):∃ bs,Ez h v p bs:=kE.1 r p e
theorem aD.reads {h:BW}{as:List BQ}{vs:List BO}{l:List D}(r:aD h as vs l){ps:List Ca}(e:D.pys l=some ps):∃ bs,ReadsAll h vs ps bs:=kE.2 r ps e
section
variable {prog:BX}{w:BY}{C:BQ}{h₀:BW}{σ σ':Sto}{as:List BQ}{s:BU}{A:BZ}{d:D}{n:Nat}
theorem eN {a:D}{v:BO}{p:Ca}(R:Rel prog w C h₀ σ as s.heap)(r:Rep s.heap as v a)(e:er a σ=some (p,σ')):σ'=σ/\∃ bs,Ez s.heap v p bs:=by
 obtain ⟨k,rfl⟩ | q:(∃ k,a = .ref k)\/er a=ofOpt a.py:=by
  induction a using D.casesOn with
  | ref k=>exact .inl ⟨k,rfl⟩
  | _=>exact .inr rfl
 rotate_left
 ·obtain ⟨h2,rfl⟩:=cK ((congrFun q σ).symm.trans e);exact ⟨rfl,r.reads h2⟩
 (refine bj e ?_);clear e;rintro l _ hl e;obtain ⟨h2,rfl⟩:=cK e;cases hp:D.pys l with
 | none=>replace h2:=hp▸h2;exact an h2
 | some ps =>
  replace h2:=hp▸h2;(have:=Option.some.inj h2;subst this);cases r.refI with
  | mk ka =>
  cases (R.objs _ _ _ _ hl ka).listI with
  | mk g x z =>
  obtain ⟨bs,rs⟩:=x.reads hp;exact ⟨rfl,_,.list g rfl rfl rs⟩
theorem q6 {a b:D}{va vb:BO}{c:Bool}(R:Rel prog w C h₀ σ as s.heap)(ra:Rep s.heap as va a)(rb:Rep s.heap as vb b)(e:eqD a b σ=some (c,σ')) :
  σ'=σ/\∃ x y xs ys,Ez s.heap va x xs/\Ez s.heap vb y ys/\shaped x=true/\shaped y=true/\c=PyData.eqv x y:=by
 (refine ac e ?_);clear e;rintro x σ1 e1 e;obtain ⟨rfl,xs,hx⟩:=eN R ra e1;(refine ac e ?_);clear e;rintro y σ2 e2 e;obtain ⟨rfl,ys,hy⟩:=eN R rb e2;refine ai e λh1 e=>?_;(refine aj e ?_);clear e;simp only [and_eq_true] at h1;exact ⟨rfl,x,y,xs,ys,hx,hy,h1.1,h1.2,rfl⟩
theorem m6 {M:Model}{E:BO->BU->Prop}{x c:BO}{Q:BO->BU->Prop}(h:BR M A (CT .In x c) (λv s'=>∃ b,v = .bool b/\Q (.bool (!b)) s') E s) :
  BR M A (CT .NotIn x c) Q E s:=by
 intro Γ p hΓ;have h1:=h Γ p hΓ;have h2:Sem.wp M Γ (contains c x >>= λb=>pure (Value.bool b)) (λv _ s'=>∃ b,v = .bool b/\Q (.bool (!b)) s') (λe _ s'=>E e s') p s:=h1;refine (?_:Sem.wp M Γ (contains c x >>= λb=>pure (Value.bool (!b))) _ _ p s);rw [Sem.wp_bind'] at h2 ⊢;refine Sem.wp_mono M Γ _ (λa p' s' h'=>?_) (λ_ _ _ h'=>h') p s h2;obtain ⟨b,hq⟩:=h';have e:=hq.1;have q:=hq.2;cases e;exact q
theorem gR {K V:Type}[DecidableEq K][BEq K][LawfulBEq K]{h:BW}(f:V->BO){xs:List (K×V)}{l:List (K×D)}(e:xs.map (·.1)=l.map (·.1))(rr:aD h as (xs.map λx=>f x.2) (l.map (·.2)))(k:K) :
  ((xs.find? λx=>decide (x.1=k)).map (·.2)=none/\l.lookup k=none)\/∃ p d,(xs.find? λx=>decide (x.1=k)).map (·.2)=some p/\l.lookup k=some d/\Rep h as (f p) d:=by
 induction xs generalizing l with
 | nil =>
  induction l using List.casesOn with
  | nil=>exact .inl ⟨rfl,rfl⟩
  | cons _ _=>exact (List.cons_ne_nil _ _ e.symm).elim
 | cons p r ih =>
  induction l using List.casesOn with
  | nil=>exact (List.cons_ne_nil _ _ e).elim
  | cons q t =>
   have h1:p.1=q.1:=(List.cons.inj e).1;by_cases hk:p.1=k
   ·rw [List.find?_cons_of_pos (p:=λx=>decide (x.1=k)) (a:=p) (decide_eq_true hk)];exact .inr ⟨p.2,q.2,rfl,hk▸h1▸List.lookup_cons_self,rr.head⟩
   ·rw [List.find?_cons_of_neg (p:=λx=>decide (x.1=k)) (a:=p) (λx=>hk (of_decide_eq_true x)),show List.lookup k (q::t)=t.lookup k by show List.lookup k ((q.1,q.2)::t)=_;rw [List.lookup_cons,beq_false_of_ne (λx=>hk (h1.trans x.symm))]];exact ih (List.cons.inj e).2 rr.tail
theorem a6 {K:Type}[DecidableEq K][BEq K][LawfulBEq K]{h:BW}{kvs:List (K×BO)}{l:List (K×D)}(e:kvs.map (·.1)=l.map (·.1))(r:aD h as (kvs.map (·.2)) (l.map (·.2)))(k:K) :
  (DB kvs k=none/\l.lookup k=none)\/∃ v d,DB kvs k=some v/\l.lookup k=some d/\Rep h as v d:=gR (λv:BO=>v) e r k
theorem kS {K:Type}[DecidableEq K][BEq K][LawfulBEq K]{h:BW}{xs:List (K×BQ×BO)}{l:List (K×D)}(e:xs.map (·.1)=l.map (·.1))(r:aD h as (xs.map (·.2.2)) (l.map (·.2)))(k:K) :
  (atKey xs k=none/\l.lookup k=none)\/∃ p d,atKey xs k=some p/\l.lookup k=some d/\Rep h as p.2 d:=gR (λv:BQ×BO=>v.2) e r k
theorem gK {h:BW}{vs:List BO}{l:List D}{is:List Int}(r:aD h as vs l)(e:cb l=some is):ItemsAre (intKind prog w) is vs/\l=is.map .int:=by
 induction l generalizing vs is with
 | nil=>cases r.nilI;exact Option.some.inj e▸⟨.nil,rfl⟩
 | cons d l ih =>
  cases r.consI with
  | mk a b =>
  induction d using D.casesOn with
  | int i =>
   obtain ⟨js,hq⟩:=map_eq_some_iff.mp e;have h1:=hq.1;have e:=hq.2;cases a.intI with
   | mk t =>
   have hq:=ih b h1;have h3:=hq.1;have h4:=hq.2;exact e▸⟨.cons (by show Value.isInt i (.int i t)=true;simp [Value.isInt]) h3,h4▸rfl⟩
  | _=>exact an e
theorem Rep.key {h:BW}{a:BQ}{l:List D}{is:List Int}(r:Rep h as (.ref a) (.tup l))(e:cb l=some is):CI (intKind prog w) h is a/\l=is.map .int/\is.length<=aQ/\∃ vs n,IsT h a vs n:=by
 cases r.tupI with
 | mk g z rr =>
  obtain ⟨h1,h2⟩:=gK (prog:=prog) (w:=w) rr e;exact ⟨⟨_,_,_,g,rfl,rfl,h1⟩,h2,by rw [h2] at z;simpa using z,_,_,g⟩
theorem gL (x:Str)(t:Tok):(strKind prog w).is x (.str x t)=true:=by show Value.isStrOf x (.str x t)=true;simp [Value.isStrOf]
theorem qj (x:Int)(t:Tok):(intKind prog w).is x (.int x t)=true:=by show Value.isInt x (.int x t)=true;simp [Value.isInt]
inductive InV (σ:Sto)(r:Option (Bool×Sto)):PO->D->Prop
 | l (l:List D) (a:D) (e:(do let x <- ofOpt a.py;let ys <- ofOpt (D.pys l);must (SeqAt.shaped (.list ys) && SeqAt.shaped x);pure (kW x ys):PM Bool) σ=r):InV σ r (.list l) a
 | s (l:List (Str×D)) (x:Str) (e:(pure ((l.lookup x).isSome):PM Bool) σ=r):InV σ r (.dS l) (.str x)
 | t (l:List (List Int×D)) (t:List D) (e:(do let t <- ofOpt (cb t);pure ((l.lookup t).isSome):PM Bool) σ=r):InV σ r (.dT l) (.tup t)
 | st (t:List D) (e:(do let _ <- ofOpt (cb t);pure false:PM Bool) σ=r):InV σ r (.dS []) (.tup t)
theorem in_v {k:Nat}{a:D}{r:Bool×Sto}(e:inD a (.ref k) σ=some r):∃ o v,σ[k]? = some (o,v)/\InV σ (some r) o a:=by
 (refine bD e ?_);clear e;rintro o v ho e;refine ⟨o,v,ho,?_⟩;clear ho;induction o using PO.casesOn with
 | list l=>exact .l l a e
 | dS l =>
  induction a using D.casesOn with
  | str x=>exact .s l x e
  | tup t =>
   induction l using List.casesOn with
   | nil=>exact .st t e
   | cons=>exact an e
  | _=>induction l using List.casesOn <;> exact an e
 | dT l =>
  induction a using D.casesOn with
  | tup t=>exact .t l t e
  | _=>exact an e
 | _=>exact an e
theorem vD {a c:D}{va vc:BO}{b:Bool}(hr:dP A n)(R:Rel prog w C h₀ σ as s.heap)(ra:Rep s.heap as va a)(rc:Rep s.heap as vc c)(e:inD a c σ=some (b,σ')){Q:BO->BU->Prop}
  (hQ:∀ tk,σ'=σ->Q (.bool b) {s with toks:=tk}):BR (BS prog w) A (CT .In va vc) Q NoE s:=by
 have hu:A.units+65 < CA:=by have:=hr.units;exact aZ (.a (.a (.v 0) (.n 65)) (.n 1)) (.v 1) [(1,(.a (.a (.a (.v 0) (.n 100)) (.m 40 (.v 2))) (.n 1)),.v 1)] rfl this
 have hu1:A.units+1 < CA:=by exact a5 (.a (.a (.v 0) (.n 1)) (.n 1)) (.v 1) [(1,(.a (.a (.v 0) (.n 65)) (.n 1)),.v 1)] rfl hu
 induction c using D.casesOn with
 | tup l =>
  (refine aP e ?_);clear e;rintro x hx e;(refine aP e ?_);clear e;rintro ys hy e;(refine ai e ?_);clear e;rintro h1 e;obtain ⟨rfl,rfl⟩:=bp e;have h1:=and_eq_true_iff.mp h1;obtain ⟨b1,r1⟩:=ra.reads hx;cases rc.tupI with
  | mk g z rr =>
  obtain ⟨b2,r2⟩:=rr.reads hy;exact in_tuple_reads (.tuple g rfl rfl r2) r1 (canLay_of_shaped h1.1) (canLay_of_shaped h1.2) (room_in_shaped h1.2 hu) (hQ s.toks rfl)
 | ref k =>
  obtain ⟨o,v,ho,iv⟩:=in_v e;clear e;cases rc.refI with
  | mk ka =>
  have hsys:=R.not_sys ka;have hO:=R.objs _ _ _ _ ho ka;clear ho rc;cases iv with
  | l l a e =>
   (refine aP e ?_);clear e;rintro x hx e;(refine aP e ?_);clear e;rintro ys hy e;(refine ai e ?_);clear e;rintro h1 e;obtain ⟨rfl,rfl⟩:=bp e;have h1:=and_eq_true_iff.mp h1;obtain ⟨b1,r1⟩:=ra.reads hx;cases hO.listI with
   | mk g rr z =>
   obtain ⟨b2,r2⟩:=rr.reads hy;exact in_list_reads (.list g rfl rfl r2) r1 (canLay_of_shaped h1.1) (canLay_of_shaped h1.2) (room_in_shaped h1.2 hu) (hQ s.toks rfl)
  | s l x e =>
   obtain ⟨rfl,rfl⟩:=bp e;cases ra.strI with
   | mk t =>
   cases hO.dSI with
   | mk g k rr z =>
   refine wpAny_in_of (gL x t) hsys g.mapOf ?_;rcases a6 k rr x with ⟨h1,h2⟩ | ⟨v,d,h1,h2,_⟩ <;> (refine h1.symm▸?_;replace hQ:=h2▸hQ;exact hQ _ rfl)
  | t l t e =>
   (refine aP e ?_);clear e;rintro is hi e;obtain ⟨rfl,rfl⟩:=bp e;cases hO.dTI with
   | mk g k rr z =>
   cases ra.tupI with
   | mk ga za ra' =>
   obtain ⟨hkey,_⟩:=Rep.key (prog:=prog) (w:=w) (.tup ga za ra') hi;refine Eu (knd:=Cr (intKind prog w)) (Da hu1) hkey hsys g ?_;rcases kS k rr is with ⟨h1,h2⟩ | ⟨v,d,h1,h2,_⟩ <;> (refine h1.symm▸?_;replace hQ:=h2▸hQ;exact hQ _ rfl)
  | st t e =>
   (refine aP e ?_);clear e;rintro is hi e;obtain ⟨rfl,rfl⟩:=bp e;cases hO.dSI with
   | @mk kvs g k rr z =>
   cases ra.tupI with
   | mk ga za ra' =>
   obtain ⟨hkey,_⟩:=Rep.key (prog:=prog) (w:=w) (.tup ga za ra') hi;have hk:kvs=[]:=List.map_eq_nil_iff.mp k;clear k rr z;subst hk;obtain ⟨oo,es,ep,hoo,hc,hd,_,hp,_⟩:=g;have he:es.toList=[]:=by generalize es.toList=q at hp;cases hp;rfl
   refine Eu (knd:=Cr (intKind prog w)) (xs:=[]) (Da hu1) hkey hsys ⟨oo,es,ep,hoo,hc,hd,he,λ_ hx=>absurd hx not_mem_nil,nodup_nil⟩ (hQ _ rfl)
 | _=>exact an e
theorem wj {op:DG}{a b:D}{va vb:BO}(hr:dP A n)(R:Rel prog w C h₀ σ as s.heap)(ra:Rep s.heap as va a)(rb:Rep s.heap as vb b)(e:pK op a b σ=some (d,σ')) :
  BR (BS prog w) A (CT op va vb) (Ans prog w C h₀ σ as s σ' d) NoE s:=by
 have hu:A.units+64 < CA:=by have:=hr.units;exact aZ (.a (.a (.v 0) (.n 64)) (.n 1)) (.v 1) [(1,(.a (.a (.a (.v 0) (.n 100)) (.m 40 (.v 2))) (.n 1)),.v 1)] rfl this
 induction op using CmpOp.casesOn with
 | Eq =>
  (replace e:=bA (m:=eqD a b) e);obtain ⟨c,σ1,e1,e⟩:=e;obtain ⟨rfl,x,y,xs,ys,hx,hy,h1,h2,rfl⟩:=q6 R ra rb e1;(refine aj e ?_);clear e;exact compareEq_shaped hx hy h1 h2 hu (cW R _)
 | NotEq =>
  (replace e:=bA (m:=eqD a b) e);obtain ⟨c,σ1,e1,e⟩:=e;obtain ⟨rfl,x,y,xs,ys,hx,hy,h1,h2,rfl⟩:=q6 R ra rb e1;(refine aj e ?_);clear e;exact compareNe_shaped hx hy h1 h2 hu (cW R _)
 | In =>
  (replace e:=bA (m:=inD a b) e);obtain ⟨c,σ1,e1,e⟩:=e;(refine aj e ?_);clear e;exact vD hr R ra rb e1 λtk hh=>by subst hh;exact iG R c tk
 | NotIn =>
  (replace e:=bA (m:=inD a b) e);obtain ⟨c,σ1,e1,e⟩:=e;(refine aj e ?_);clear e;exact m6 (vD hr R ra rb e1 λtk hh=>⟨c,rfl,by subst hh;exact iG R (!c) tk⟩)
 | Lt=>exact cw (f:=λx y=>do pure (.bool (decide (x < y)))) (P:=λva vb=>BR (BS prog w) A (CT .Lt va vb) (Ans prog w C h₀ σ as s σ' d) NoE s) ra rb e λx y t u e=>aj e (PyProof.Rows.lt_int (cW R _))
 | LtE=>exact cw (f:=λx y=>do pure (.bool (decide (x<=y)))) (P:=λva vb=>BR (BS prog w) A (CT .LtE va vb) (Ans prog w C h₀ σ as s σ' d) NoE s) ra rb e λx y t u e=>aj e (PyProof.Rows.le_int (cW R _))
 | Gt=>exact cw (f:=λx y=>do pure (.bool (decide (x > y)))) (P:=λva vb=>BR (BS prog w) A (CT .Gt va vb) (Ans prog w C h₀ σ as s σ' d) NoE s) ra rb e λx y t u e=>aj e (PyProof.Rows.gt_int (cW R _))
 | Is =>
  (refine et (d:=a) e ?_);clear e;rintro x rfl e;(refine et (d:=b) e ?_);clear e;rintro y rfl e;(refine aj e ?_);clear e;cases ra.boolI;cases rb.boolI;exact PyProof.Rows.is_bool (cW R _)
 | GtE=>exact af (σ:=σ) e
 | IsNot=>exact af (σ:=σ) e
end
section
variable {prog:BX}{w:BY}{C:BQ}{h₀:BW}{σ σ':Sto}{as:List BQ}{s:BU}{A:BZ}{d:D}{n:Nat}
theorem ee {vs:Array BO}{j:Nat}{v:BO}(e:vs.toList[j]? = some v):vs[j]? = some v:=by simpa using e
theorem v7 {o i:D}{vo vi:BO}(R:Rel prog w C h₀ σ as s.heap)(ro:Rep s.heap as vo o)(ri:Rep s.heap as vi i)(e:l8 o i σ=some (d,σ')) :
  BR (BS prog w) A (Dh vo vi) (Ans prog w C h₀ σ as s σ' d) NoE s:=by
 induction o using D.casesOn with
 | tup l =>
  (refine dW e ?_);clear e;rintro k rfl e;(refine ai e ?_);clear e;rintro hm e;(refine aP e ?_);clear e;rintro j hj e;obtain ⟨hd,rfl⟩:=cK e;cases ro.tupI with
  | @mk ta vs n g z rr =>
  cases ri.intI with
  | mk u =>
  obtain ⟨v,hq⟩:=rr.get hd;have hv:=hq.1;have rv:=hq.2;have hm:=and_eq_true_iff.mp hm;exact PySem.P.getItem_tuple g (of_decide_eq_true hm.1) (of_decide_eq_true hm.2) (be rr▸hj) (ee hv) (c5 R rv)
 | ref k =>
  (refine bD e ?_);clear e;rintro po _ ho e;cases ro.refI with
  | mk ka =>
  have r:=R.objs _ _ _ _ ho ka;clear ho ka ro;induction po using PO.casesOn with
  | list l =>
   induction i using D.casesOn with
   | int m =>
    (refine ai e ?_);clear e;rintro h1 e;obtain ⟨hd,rfl⟩:=cK e;cases ri.intI with
    | mk u =>
    cases r.listI with
    | @mk vs n' g rr z =>
    obtain ⟨v,hq⟩:=rr.get hd;have hv:=hq.1;have rv:=hq.2;have hb:l.length<=4097:=z;have hj:=(List.getElem?_eq_some_iff.mp hd).1;exact wpAny_getItem_list ⟨_,g,rfl,_,rfl⟩ (of_decide_eq_true h1) (Int.lt_of_le_of_lt (Int.self_le_toNat m) (Int.ofNat_lt.mpr (lt_of_lt_of_le hj (le_trans hb (by decide))):((m.toNat:Nat):Int) < (2 ^ 63:Nat))) (ee hv) (c5 R rv)
   | _=>exact af (σ:=σ) e
  | dS l =>
   induction i using D.casesOn with
   | str x =>
    obtain ⟨hd,rfl⟩:=cK e;cases ri.strI with
    | mk t =>
    cases r.dSI with
    | @mk kvs g kk rr z =>
    rcases a6 kk rr x with ⟨_,h2⟩ | ⟨v,d',h1,h2,rv⟩
    ·exact an (h2.symm.trans hd)
    ·exact wpAny_getItem_of (gL x t) g.mapOf h1 (dp R (Option.some.inj (h2.symm.trans hd)▸rv) _)
   | _=>exact af (σ:=σ) e
  | _=>exact af (σ:=σ) e
 | _=>exact af (σ:=σ) e
theorem ly {sl:BQ}{k:Nat}{u:Tok}{Q:Int×Int×Nat->BU->Prop}(hs:s.heap.IsSliceOf sl .none (.int (-1) u) .none)(h:Q (0,1,k) s) :
  BR (BS prog w) A (Builtin.Slice.sliceApplied (.ref sl) (pure ((k+1:Nat):Int))) Q NoE s:=by
 obtain ⟨os,hq⟩:=id hs;have hos:=hq.1;have hcs:=hq.2.1;have hds:=hq.2.2;refine BN (BN (D4 hos hds (x:=.none) rfl (BN (D4 hos hds (x:=.int (-1) u) rfl (BN (D4 hos hds (x:=.none) rfl (BP ?_)))))));refine BN (slicePart_none ?_);refine (?_:BR _ _ (if ((1:Int)==0)=true then _ else _) _ _ s);rw [if_neg (by decide)];refine BN (slicePart_none (BN (slicePart_int (BN (BP ?_)))));have e1:Builtin.Slice.sliceAdjust none (some (-1)) 1 ((k+1:Nat):Int)=((0:Int),(k:Int)):=by
  unfold Builtin.Slice.sliceAdjust;have h1:¬ ((1:Int) < 0):=by decide
  have h2:((-1:Int) < 0):=by decide
  simp only [h1,h2,if_false,if_true];have h3:(-1:Int)+((k+1:Nat):Int)=(k:Int):=(Int.add_comm _ _).trans (Int.add_sub_cancel (k:Int) 1);rw [h3,Int.max_eq_left (Int.natCast_nonneg k)]
 have e2:Builtin.Slice.slicePlaces 0 (k:Int) 1=k:=by
  unfold Builtin.Slice.slicePlaces;have h1:(1:Int) > 0:=by decide
  simp only [h1,if_true,Int.ediv_one];cases k with
  | zero=>rfl
  | succ k =>
   rw [if_pos (Int.natCast_pos.mpr (succ_pos k)),Int.sub_add_cancel,Int.sub_zero];exact Int.toNat_natCast _
 refine (?_:BR _ _ (match Builtin.Slice.sliceAdjust none (some (-1)) 1 ((k+1:Nat):Int) with | (lo,hi)=>pure (lo,(1:Int),Builtin.Slice.slicePlaces lo hi 1)) _ _ s);refine e1.symm▸?_;refine (?_:BR _ _ (pure ((0:Int),(1:Int),Builtin.Slice.slicePlaces 0 (k:Int) 1)) _ _ s);refine e2.symm▸?_;exact BP h
theorem pZ (xs:Array BO)(k:Nat):((List.range k).filterMap λ(i:Nat)=>xs[((0:Int)+(i:Int) * 1).toNat]?).toArray=(xs.toList.take k).toArray:=by
 have e:(λ(i:Nat)=>xs[((0:Int)+(i:Int) * 1).toNat]?)=λi=>xs[0+i]? := by
  funext i;have:((0:Int)+(i:Int) * 1).toNat=0+i:=(congrArg Int.toNat ((Int.zero_add _).trans (Int.mul_one _))).trans (zero_add i).symm;exact this.symm▸rfl
 refine e.symm▸?_;have:=pick_run xs 0 k;replace this:=(List.filterMap_map)▸this;have e2:((λx=>xs[x]?) ∘ λx=>0+x)=λk=>xs[0+k]? := rfl;replace this:=e2▸this;(refine this.symm▸?_;exact (List.drop_zero).symm▸rfl)
theorem eP {t sl:BQ}{items:Array BO}{k:Nat}{u:Tok}{Q:BO->BU->Prop}(ht:IsTup s.heap t items)(hs:s.heap.IsSliceOf sl .none (.int (-1) u) .none)(hk:items.size=k+1)
  (h:Q (.ref s.heap.objs.size) {s with heap:=s.heap.push {cls:=.type "tuple",data:=.seq (items.toList.take k).toArray} })
  (hsz:items.size<=Ct):BR (BS prog w) A (Dh (.ref t) (.ref sl)) Q NoE s:=by
 have hdrop:sizeOk (.seq (items.toList.take k).toArray):=by
  refine (?_:(items.toList.take k).toArray.size<=Ct);(refine (size_toArray).symm▸?_;refine (List.length_take).symm▸?_;refine (length_toList).symm▸?_);exact le_trans (Nat.min_le_right _ _) hsz
 obtain ⟨os,hos,hcs,hds⟩:=id hs;have hTs:s.TypeIs (.ref sl) "slice":=⟨os,hos,hcs⟩;unfold Dh
 try with_reducible refine B1 ?_
 first | refine BN (BP ?_) | skip
 refine BN (wpAny_sequenceKey ht.typeIs (by kernel_rfl) ?_);refine BN (Cb (name:=Str.ofString "__getitem__") ht.typeIs F.slot_tuple_getitem
  (B8 F.slot_tuple_getitem ht.typeIs F.entry_tuple_getitem ?_ (F.args_tuple_getitem_2 _ _)))
 refine (?_:BR _ _ (Builtin.Tuple.tupleItemsOf (.ref t) >>= _) _ _ s);refine BN (tupleItemsOf_ ht ?_);refine BN (CH hTs ?_);rw [if_pos (by kernel_rfl)];refine hk.symm▸?_;refine BN (BV (ly hs (Q:=λr s'=>r=(0,1,k)/\s'=s) ⟨rfl,rfl⟩) ?_ λ_ _ e=>e.elim);rintro r s' ⟨rfl,rfl⟩;have hno:¬ (((0:Int)==0 && (1:Int)==1 && k==k+1)=true):=by simp
 refine (?_:BR _ _ (if ((0:Int)==0 && (1:Int)==1 && k==k+1)=true then _ else _) _ _ _);(refine (if_neg hno).symm▸?_;refine (pZ items k).symm▸?_);first
  | exact BN (m:=Builtin.Tuple.tupleExact _) (B4 (BP ⟨_,rfl,BP h⟩) hdrop)
  | exact BN (m:=Builtin.Tuple.tupleExact _) (B4 (BN (BP (BP ⟨_,rfl,BP h⟩))) hdrop)
  | exact BN (BN (m:=Builtin.Tuple.tupleExact _) (B4 (BP (BP ⟨_,rfl,BP h⟩)) hdrop))
  | exact BN (BN (m:=Builtin.Tuple.tupleExact _) (B4 (BP ⟨_,rfl,BP h⟩) hdrop))
theorem kU (items:Array BO)(i:Int)(h:0<=i):DU items none (some i) none=(items.toList.take i.toNat).toArray:=by
 by_cases hi:i.toNat<=items.size
 ·obtain ⟨k,rfl⟩:=Int.eq_ofNat_of_zero_le h;exact slicePick_upto items k hi
 ·have e:DU items none (some i) none=DU items none none none:=by
   have hb:D3 none (some i) none items.size=D3 none none none items.size:=by
    unfold D3;dsimp only [Option.getD_none];have h1:(1:Int) > 0:=by decide
    simp only [h1,if_true];rw [if_neg (Int.not_lt.mpr h)];have h3:((items.size:Nat):Int)<=i:=(Int.toNat_of_nonneg h)▸Int.ofNat_le.mpr (Nat.le_of_not_le hi);rw [Int.min_eq_right h3,Int.max_eq_right (Int.natCast_nonneg _)]
   unfold DU;rw [hb]
  rw [e,slicePick_all,take_of_length_le (by refine (length_toList).symm▸?_;exact a5 (.v 0) (.v 1) [(1,(.a (.v 0) (.n 1)),.v 1)] rfl (Nat.lt_of_not_le hi))]
inductive SlV (σ:Sto)(r:Option (D×Sto)):D->Option Int->Option Int->Prop
 | a (l:List D) (i:Int) (e:(do must (decide (1<=i) && decide (i<=l.length));mkTup (l.drop i.toNat):PM D) σ=r):SlV σ r (.tup l) (some i) none
 | b (l:List D) (i:Int) (e:(do must (decide (i = -1) && !l.isEmpty);mkTup (l.take (l.length - 1)):PM D) σ=r):SlV σ r (.tup l) none (some i)
 | c (k:Nat) (i:Int) (e:(do must (decide (0<=i));let l <- listAt k;mkList (l.take i.toNat):PM D) σ=r):SlV σ r (.ref k) none (some i)
theorem Bc {o:D}{lo hi:Option Int}{r:D×Sto}(e:oc o lo hi σ=some r):SlV σ (some r) o lo hi:=by
 induction o using D.casesOn with
 | tup l =>
  induction lo using Option.casesOn with
  | none =>
   induction hi using Option.casesOn with
   | none=>exact an e
   | some i=>exact .b l i e
  | some i =>
   induction hi using Option.casesOn with
   | none=>exact .a l i e
   | some i=>exact an e
 | ref k =>
  induction lo using Option.casesOn with
  | none =>
   induction hi using Option.casesOn with
   | none=>exact an e
   | some i=>exact .c k i e
  | some i=>induction hi using Option.casesOn <;> exact an e
 | _=>exact an e
theorem qk {v:BO}{i:Int}(p:DS v (some i)):∃ u,v = .int i u:=by cases p;exact ⟨_,rfl⟩
theorem qV {v:BO}(p:DS v none):v = .none:=by cases p;rfl
theorem re {o:D}{lo hi:Option Int}{vo vl vh:BO}{sl:BQ}(R:Rel prog w C h₀ σ as s.heap)(ro:Rep s.heap as vo o)(pl:DS vl lo)(ph:DS vh hi)(hs:s.heap.IsSliceOf sl vl vh .none)
  (e:oc o lo hi σ=some (d,σ')):BR (BS prog w) A (Dh vo (.ref sl)) (Ans prog w C h₀ σ as s σ' d) NoE s:=by
 cases Bc e with
 | a l i e =>
  (refine ai e ?_);clear e;rintro h1 e;obtain ⟨z,rfl,rfl⟩:=dz e;have h1:=and_eq_true_iff.mp h1;have h2:=of_decide_eq_true h1.1;have h3:=of_decide_eq_true h1.2;obtain ⟨u,rfl⟩:=qk pl;have:=qV ph;subst this;cases ro.tupI with
  | @mk ta vs n g z' rr =>
  have hz:=be rr;have hi:i=((i.toNat:Nat):Int):=(Int.toNat_of_nonneg (Int.le_trans (by decide) h2)).symm;replace hs:=hi▸hs;refine getItem_tuple_from ⟨_,g,rfl,_,rfl⟩ hs (Int.ofNat_le.mp (hi▸h2:((1:Nat):Int)<=(i.toNat:Nat))) (hz▸Int.ofNat_le.mp (hi▸h3:((i.toNat:Nat):Int)<=(l.length:Nat))) ?_ (eZ hz (le_succ_of_le z'));exact jC R (rr.drop _) z s.toks
 | b l i e =>
  (refine ai e ?_);clear e;rintro h1 e;obtain ⟨z,rfl,rfl⟩:=dz e;have h1:=and_eq_true_iff.mp h1;have h3:=of_decide_eq_true h1.1;subst h3;have h2:=h1.2;obtain ⟨u,rfl⟩:=qk ph;have:=qV pl;subst this;cases ro.tupI with
  | @mk ta vs n g z' rr =>
  have hz:=be rr;have hpos:0 < l.length:=by
   induction l using List.casesOn with
   | nil=>exact Bool.noConfusion h2
   | cons _ _=>exact succ_pos _
  refine eP (k:=l.length - 1) ⟨_,g,rfl,_,rfl⟩ hs (hz.trans (Nat.sub_add_cancel hpos).symm) ?_ (eZ hz (le_succ_of_le z'));exact jC R (rr.take _) z s.toks
 | c k i e =>
  (refine ai e ?_);clear e;rintro h1 e;(refine bj e ?_);clear e;rintro l _ hl e;obtain ⟨z,rfl,rfl⟩:=bH e;cases ro.refI with
  | mk ka =>
  cases (R.objs _ _ _ _ hl ka).listI with
  | @mk vs n' g rr z' =>
  have hz:=be rr;refine wpAny_getItem_list_slice ⟨_,g,rfl,_,rfl⟩ hs pl ph .none (by simp) ?_ (eZ hz z');have h2:0<=i:=of_decide_eq_true h1;refine (kU vs i h2).symm▸?_;exact gz R (rr.take _) z 0 s.toks
end
end
section
open PySem PyProof.Rows PySem.Calls
noncomputable def Wr (sc:B0)(env:Env)(b:BQ):Prop:=b=env.locals\/∃ x,sc.names.lookup x=some .cell/\env.cells.lookup x=some b
inductive yA (h:BW)(as:List BQ)(env:Env)(sc:B0)(ρ:Loc):Prop
 | mk (m:Str->Option BO) (hn:h.Ns env.locals m) (hm:∀ x d,sc.names.lookup x=some .local->ρ.lookup x=some (some d)->∃ v,m x=some v/\Rep h as v d):yA h as env sc ρ
inductive uU (h:BW)(as:List BQ)(env:Env)(ρ:Loc)(x:Str):Prop
 | mk (c:BQ) (u:Option BO) (h1:env.cells.lookup x=some c) (h2:h.IsCell c u) (h3:∀ d,ρ.lookup x=some (some d)->∃ v,u=some v/\Rep h as v d):uU h as env ρ x
structure Frm (h₀ h:BW)(as:List BQ)(env:Env)(sc:B0)(ρ:Loc):Prop where
 scope:env.scope=sc
 kind:sc.kind = .function
 glob:env.globals=CP
 blt:env.builtins=C3
 loc:yA h as env sc ρ
 cell:∀ x,(sc.names.lookup x=some .cell\/sc.names.lookup x=some .free)->uU h as env ρ x
 apart:∀ x y c,env.cells.lookup x=some c->env.cells.lookup y=some c->x=y
 offL:env.locals ∉ as/\h₀.get? env.locals=none
 offC:∀ x c,env.cells.lookup x=some c->c ∉ as/\h₀.get? c=none/\∃ u,h.IsCell c u
 plain:∀ x k,sc.names.lookup x=some k->(x==("__debug__" : Str))=false/\(x==("__classdict__" : Str))=false
section
variable {prog:BX}{w:BY}{C:BQ}{h₀ h:BW}{σ σ':Sto}{as as':List BQ}{s s':BU}{A:BZ}{d:D}{n:Nat}{env:Env}{sc sc2:B0}{ρ:Loc}{X:BQ->Prop}
theorem Loc.lookup_put (x:Str)(d:D)(ρ:Loc)(y:Str):(Loc.put x d ρ).lookup y=if y=x then (ρ.lookup y).map λ_=>some d else ρ.lookup y:=by
 induction ρ with
 | nil=>exact (ite_self _).symm
 | cons p r ih =>
  induction p using Prod.casesOn with
  | mk a b =>
  by_cases ha:(a==x)=true
  ·rw [show Loc.put x d ((a,b)::r)=(a,some d)::r from if_pos ha,<- beq_iff_eq.mp ha,List.lookup_cons,List.lookup_cons];by_cases hy:y=a
   ·(refine (if_pos hy).symm▸?_;exact (beq_iff_eq.mpr hy).symm▸rfl)
   ·(refine (if_neg hy).symm▸?_;exact (beq_false_of_ne hy).symm▸rfl)
  ·rw [show Loc.put x d ((a,b)::r)=(a,b)::Loc.put x d r from if_neg ha,List.lookup_cons,List.lookup_cons];by_cases hy:y=a
   ·(refine (beq_iff_eq.mpr hy).symm▸?_;exact (if_neg λe=>ha (beq_iff_eq.mpr (hy.symm.trans e))).symm▸rfl)
   ·refine (beq_false_of_ne hy).symm▸?_;exact ih
theorem Loc.put_ne {x y:Str}(d:D)(ρ:Loc)(h:y≠x):(Loc.put x d ρ).lookup y=ρ.lookup y:=by rw [Loc.lookup_put,if_neg h]
theorem Loc.put_eq {x:Str}{d e:D}{ρ:Loc}(h:(Loc.put x d ρ).lookup x=some (some e)):d=e:=by
 rw [Loc.lookup_put,if_pos rfl] at h;obtain ⟨_,hq⟩:=map_eq_some_iff.mp h;have h:=hq.2;exact Option.some.inj h
theorem fP {h:BW}{a:BQ}{m:Str->Option BO}(hn:h.Ns a m)(vs:Array BO)(k:Nat):¬ IsT h a vs k:=by
 intro i;obtain ⟨o,es,ep,ho,hd,_⟩:=hn;unfold IsT at i;rw [ho] at i;(have:=Option.some.inj i;subst this);cases hd
theorem kN {h:BW}{a:BQ}{u:Option BO}(hn:h.IsCell a u)(vs:Array BO)(k:Nat):¬ IsT h a vs k:=by
 intro i;obtain ⟨o,ho,hd⟩:=hn;unfold IsT at i;rw [ho] at i;(have:=Option.some.inj i;subst this);cases hd
theorem fH {h:BW}{a c:BQ}{m:Str->Option BO}{u:Option BO}(hn:h.Ns a m)(hc:h.IsCell c u):c≠a:=by
 intro e;subst e;obtain ⟨o,es,ep,hq⟩:=hn;have ho:=hq.1;have hd:=hq.2.1;obtain ⟨o',hq⟩:=hc;have ho':=hq.1;have hd':=hq.2;replace ho':=ho▸ho';(have:=Option.some.inj ho';subst this);replace hd':=hd▸hd';cases hd'
theorem Frm.go (F:Frm h₀ s.heap as env sc ρ)(G:Go X prog w C h₀ σ as s σ' as' s')(hL:¬ X env.locals)(hC:∀ x c,env.cells.lookup x=some c->¬ X c):Frm h₀ s'.heap as' env sc ρ:=by
 have old:∀ b,b ∉ as->(s.heap.get? b≠none)->b ∉ as':=λb h1 h2 h3=>h2 (G.fresh b h3 h1);obtain ⟨m,hn,hm⟩:=F.loc;have cellK:∀ x c u,env.cells.lookup x=some c->s.heap.IsCell c u->s'.heap.IsCell c u:=λx c u h1 h2=>by
  obtain ⟨o,hq⟩:=h2;have ho:=hq.1;have hd:=hq.2;exact ⟨o,G.kp _ o (F.offC x c h1).1 (hC x c h1) ho,hd⟩
 refine ⟨F.scope,F.kind,F.glob,F.blt,⟨m,?_,λx d h1 h2=>?_⟩,λx hx=>?_,F.apart,⟨?_,F.offL.2⟩,λx c hx=>?_,F.plain⟩
 ·exact hn.at' λo e=>G.kp _ o F.offL.1 hL e
 ·obtain ⟨v,hq⟩:=hm x d h1 h2;have h3:=hq.1;have h4:=hq.2;exact ⟨v,h3,G.rep h4⟩
 ·obtain ⟨c,u,h1,h2,h3⟩:=F.cell x hx;refine ⟨c,u,h1,cellK x c u h1 h2,λd hd=>?_⟩;obtain ⟨v,hq⟩:=h3 d hd;have h4:=hq.1;have h5:=hq.2;exact ⟨v,h4,G.rep h5⟩
 ·refine old _ F.offL.1 ?_;obtain ⟨o,es,ep,hq⟩:=hn;have ho:=hq.1;refine ho.symm▸?_;exact λe=>by cases e
 ·obtain ⟨h1,h2,u,h3⟩:=F.offC x c hx;refine ⟨old _ h1 ?_,h2,u,cellK x c u hx h3⟩;obtain ⟨o,hq⟩:=h3;have ho:=hq.1;refine ho.symm▸?_;exact λe=>by cases e
theorem Frm.noX (F:Frm h₀ s.heap as env sc ρ)(G:Go NoX prog w C h₀ σ as s σ' as' s'):Frm h₀ s'.heap as' env sc ρ:=F.go G (λx=>x) λ_ _ _ x=>x
theorem Frm.offW (F:Frm h₀ h as env sc ρ):∀ a∈as,¬ Wr sc2 env a:=by
 rintro a ha (rfl | ⟨x,_,h2⟩)
 ·exact F.offL.1 ha
 ·exact (F.offC x a h2).1 ha
theorem dN {x:Str}{v:BO}(R:Rel prog w C h₀ σ as s.heap)(F:Frm h₀ s.heap as env sc ρ)(hk:(sc2.names.lookup x=some .local/\sc.names.lookup x=some .local)\/(sc2.names.lookup x=some .cell/\sc.names.lookup x=some .cell))
  (r:Rep s.heap as v d):BR (BS prog w) A (storeName env x v) (λ_ s'=>Go (Wr sc2 env) prog w C h₀ σ as s σ as s'/\Frm h₀ s'.heap as env sc (ρ.put x d)) NoE s:=by
 obtain ⟨m,hn,hm⟩:=F.loc;have hkf:env.scope.kind = .function:=by exact F.scope▸F.kind
 rcases hk with ⟨h1,h2⟩ | ⟨h1,h2⟩
 ·refine wpAny_storeName_local (by unfold Env.kindOf;exact F.scope▸h2) hn (λh' hn' hs'=>?_) (hkf▸rfl);have kp:∀ b o,b≠env.locals->s.heap.get? b=some o->h'.get? b=some o:=λb o hb e=>hs'.extBut b o hb e;have G:Go (Wr sc2 env) prog w C h₀ σ as s σ as {s with heap:=h',toks:=s.toks+1} := Go.at R (.inl rfl) F.offW F.offL.2 (fP hn) kp;refine ⟨G,F.scope,F.kind,F.glob,F.blt,⟨_,hn',λy e h3 h4=>?_⟩,λy hy=>?_,F.apart,F.offL,λy c hy=>?_,F.plain⟩
  ·by_cases hyx:y=x
   ·subst hyx;exact ⟨v,if_pos rfl,Loc.put_eq h4▸G.rep r⟩
   ·obtain ⟨u,hq⟩:=hm y e h3 (Loc.put_ne d ρ hyx▸h4);have h5:=hq.1;have h6:=hq.2;exact ⟨u,(if_neg hyx).trans h5,G.rep h6⟩
  ·obtain ⟨c,u,h3,h4,h5⟩:=F.cell y hy;refine ⟨c,u,h3,h4.sameBut hs' (fH hn h4),λe h6=>?_⟩;have hyx:y≠x:=λq=>hy.elim (λhy=>NameKind.noConfusion (Option.some.inj (h2.symm.trans (q▸hy)))) λhy=>NameKind.noConfusion (Option.some.inj (h2.symm.trans (q▸hy)));obtain ⟨z,hq⟩:=h5 e (Loc.put_ne d ρ hyx▸h6);have h7:=hq.1;have h8:=hq.2;exact ⟨z,h7,G.rep h8⟩
  ·obtain ⟨h3,h4,u,h5⟩:=F.offC y c hy;exact ⟨h3,h4,u,h5.sameBut hs' (fH hn h5)⟩
 ·obtain ⟨c,u,h3,h4,h5⟩:=F.cell x (.inl h2);refine wpAny_storeName_cell hkf (by unfold Env.kindOf;exact F.scope▸h2) h3 h4 λh' hc' hs'=>?_;have kp:∀ b o,b≠c->s.heap.get? b=some o->h'.get? b=some o:=λb o hb e=>hs'.extBut b o hb e;have G:Go (Wr sc2 env) prog w C h₀ σ as s σ as {s with heap:=h',toks:=s.toks} := Go.at R (.inr ⟨x,h1,h3⟩) F.offW (F.offC x c h3).2.1 (kN h4) kp;refine ⟨G,F.scope,F.kind,F.glob,F.blt,⟨m,hn.sameBut hs' (λe=>fH hn h4 e.symm),λy e h6 h7=>?_⟩,λy hy=>?_,F.apart,F.offL,λy c' hy=>?_,F.plain⟩
  ·have hyx:y≠x:=λq=>NameKind.noConfusion (Option.some.inj (h2.symm.trans (q▸h6)));obtain ⟨z,hq⟩:=hm y e h6 (Loc.put_ne d ρ hyx▸h7);have h8:=hq.1;have h9:=hq.2;exact ⟨z,h8,G.rep h9⟩
  ·obtain ⟨c',u',h6,h7,h8⟩:=F.cell y hy;by_cases hcc:c'=c
   ·subst hcc;have hyx:y=x:=F.apart y x c' h6 h3;subst hyx;exact ⟨c',some v,h6,hc',λe h9=>⟨v,rfl,Loc.put_eq h9▸G.rep r⟩⟩
   ·refine ⟨c',u',h6,h7.sameBut hs' hcc,λe h9=>?_⟩;have hyx:y≠x:=λq=>hcc (Option.some.inj (h6.symm.trans (q▸h3)));obtain ⟨z,hq⟩:=h8 e (Loc.put_ne d ρ hyx▸h9);have h10:=hq.1;have h11:=hq.2;exact ⟨z,h10,G.rep h11⟩
  ·obtain ⟨h6,h7,u',h8⟩:=F.offC y c' hy;by_cases hcc:c'=c
   ·subst hcc;exact ⟨h6,h7,_,hc'⟩
   ·exact ⟨h6,h7,u',h8.sameBut hs' hcc⟩
inductive zd (h:BW)(a:BQ)(fd:Fd):Prop
 | mk (o:Obj) (fdat:EB) (ho:h.get? a=some o) (hd:o.data = .func fdat) (hr:h.CodeRec fdat.code fdat.qualname) (hb:fdat.body = .stmts fd.body) (hs:fdat.scope=fd.scope) (hc:fdat.closure=[]) (hg:fdat.globals=CP) (hB:fdat.builtins=C3)
  (hv:∀ vals:List BO,vals.length=fd.params.length->bindArgs fdat ⟨vals,[]⟩=pure (fd.params.zip vals)):zd h a fd
structure tH (h:BW)(a:BQ)(fd:Fd):Prop where
 fn:zd h a fd
noncomputable def d7 (x:Str):Option BO :=
 [(("tuple" : Str),Value.type "tuple"),("list",.type "list"),("dict",.type "dict"),("set",.type "set"),("int",.type "int"),("bool",.type "bool"),("range",.type "range"),("sorted",.builtin "sorted"),("len",.builtin "len"),("sum",.builtin "sum"),("any",.builtin "any"),
  ("all",.builtin "all"),("repr",.builtin "repr"),("isinstance",.builtin "isinstance")].lookup x
inductive vp (h₀:BW)(C:BQ):Prop
 | mk (mg mb:Str->Option BO) (hg:h₀.Ns CP mg) (hb:h₀.Ns C3 mb)
  (gl:∀ x d,xR.lookup x=some d->∃ v,mg x=some v/\∀ h as,(∀ b o,h₀.get? b=some o->h.get? b=some o)->Rep h as v d)
  (bl:∀ x v,d7 x=some v->mg x=none/\mb x=some v)
  (fn:∀ f fd,aM f=some fd->(f.cps.contains 46)=false->∃ a,mg f=some (.ref a)/\tH h₀ a fd)
  (ev:mg ("Evaluator" : Str)=some (.ref C)):vp h₀ C
structure j0 (h₀:BW)(C:BQ):Prop where
 nolimit:h₀.NoLimit
 ns:vp h₀ C
theorem dZ {x:Str}{k:Cc}(F:Frm h₀ h as env sc ρ)(hl:sc.names.lookup x=some k):env.kindOf x=some k:=by
 unfold Env.kindOf;exact F.scope▸hl
theorem ez (F:Frm h₀ h as env sc ρ):env.scope.kind = .function:=by exact F.scope▸F.kind
theorem Loc.get_inv {x:Str}(e:ρ.get x σ=some (d,σ')):ρ.lookup x=some (some d)/\σ'=σ:=by
 unfold Loc.get at e;cases h:ρ.lookup x with
 | none=>rw [h] at e;exact an e
 | some o =>
  rw [h] at e;induction o using Option.casesOn with
  | none=>exact an e
  | some a=>cases e;exact ⟨rfl,rfl⟩
theorem vU {x:Str}{pos:Pos}(U:j0 h₀ C)(R:Rel prog w C h₀ σ as s.heap)(F:Frm h₀ s.heap as env sc ρ)(e:wB sc ρ x σ=some (d,σ')) :
  BR (BS prog w) A (B3 (.Name x pos) env) (Ans prog w C h₀ σ as s σ' d) NoE s:=by
 unfold wB at e;obtain ⟨m,hn,hm⟩:=F.loc;cases hl:sc.names.lookup x with
 | none=>rw [hl] at e;exact af (σ:=σ) e
 | some k =>
 replace e:=hl▸e;have loc:k = .local->BR (BS prog w) A (B3 (.Name x pos) env) (Ans prog w C h₀ σ as s σ' d) NoE s:=by
  rintro rfl;obtain ⟨h1,rfl⟩:=Loc.get_inv e;obtain ⟨v,hq⟩:=hm x d hl h1;have h2:=hq.1;have h3:=hq.2;exact Ee (wpAny_loadName_local (ez F) (dZ F hl) hn h2 (c5 R h3)) (F.plain x _ hl).1
 have cel:k = .cell->BR (BS prog w) A (B3 (.Name x pos) env) (Ans prog w C h₀ σ as s σ' d) NoE s:=by
  rintro rfl;obtain ⟨h1,rfl⟩:=Loc.get_inv e;obtain ⟨c,u,h2,h3,h4⟩:=F.cell x (.inl hl);obtain ⟨v,rfl,h5⟩:=h4 d h1;exact Ee (wpAny_loadName_cell (ez F) (dZ F hl) h2 h3 (c5 R h5)) (F.plain x _ hl).1
 have fre:k = .free->BR (BS prog w) A (B3 (.Name x pos) env) (Ans prog w C h₀ σ as s σ' d) NoE s:=by
  rintro rfl;obtain ⟨h1,rfl⟩:=Loc.get_inv e;obtain ⟨c,u,h2,h3,h4⟩:=F.cell x (.inr hl);obtain ⟨v,rfl,h5⟩:=h4 d h1;exact Ee (wpAny_loadName_free (ez F) (dZ F hl) h2 h3 (c5 R h5) (F.plain x _ hl).2) (F.plain x _ hl).1
 cases k with
 | «local» => exact loc rfl
 | cell=>exact cel rfl
 | free=>exact fre rfl
 | globalImplicit =>
  obtain ⟨h1,rfl⟩:=bW e;obtain ⟨mg,mb,hg,_,h2,_⟩:=U.ns;obtain ⟨v,hq⟩:=h2 x d h1;have h3:=hq.1;have h4:=hq.2;exact Name_function_global (ez F) (dZ F hl) (loadGlobal_global (F.glob▸hg.keeps R.kept) h3 (c5 R (h4 _ _ R.kept))) (F.plain x _ hl).1
 | _=>exact af (σ:=σ) e
theorem iX {x:Str}(e:bk sc x=true):sc.names.lookup x=some .globalImplicit:=by
 unfold bk at e;simpa using e
theorem qY {x:Str}{pos:Pos}{v:BO}{Q:BO->BU->Prop}(U:j0 h₀ C)(R:Rel prog w C h₀ σ as s.heap)(F:Frm h₀ s.heap as env sc ρ)(hl:bk sc x=true)(hv:d7 x=some v)(h:Q v s) :
  BR (BS prog w) A (B3 (.Name x pos) env) Q NoE s:=by
 have hl:=iX hl;obtain ⟨mg,mb,hg,hb,_,h2,_⟩:=U.ns;have hq:=h2 x v hv;have h3:=hq.1;have h4:=hq.2;exact Name_function_global (ez F) (dZ F hl) (loadGlobal_builtin (F.glob▸hg.keeps R.kept) h3 (F.blt▸hb.keeps R.kept) h4 h) (F.plain x _ hl).1
end
section
variable {prog:BX}{w:BY}{C:BQ}{h₀ h:BW}{σ σ':Sto}{as as':List BQ}{s s':BU}{A:BZ}{d:D}{n:Nat}{env:Env}{sc sc2:B0}{ρ ρ':Loc}{X Y:BQ->Prop}
theorem aD.one {vs:List BO}{x:D}(r:aD h as vs [x]):∃ v,vs=[v]/\Rep h as v x:=by
 cases r.consI with | mk a b=>cases b.nilI;exact ⟨_,rfl,a⟩
theorem aD.two {vs:List BO}{x y:D}(r:aD h as vs [x,y]):∃ v u,vs=[v,u]/\Rep h as v x/\Rep h as u y:=by
 cases r.consI with | mk a b=>obtain ⟨u,rfl,c⟩:=b.one;exact ⟨_,_,rfl,a,c⟩
theorem aD.getV {vs:List BO}{l:List D}(rr:aD h as vs l){j:Nat}{v:BO}(hj:vs[j]? = some v):∃ d,l[j]? = some d/\Rep h as v d:=by
 have hlt:=(List.getElem?_eq_some_iff.mp hj).1;replace hlt:=(rr.length)▸hlt;obtain ⟨v',h3,h4⟩:=rr.get (List.getElem?_eq_getElem hlt);replace h3:=hj▸h3;(have:=Option.some.inj h3;subst this);exact ⟨_,List.getElem?_eq_getElem hlt,h4⟩
structure sI (sc2 sc:B0):Prop where
 loc:∀ x,sc2.names.lookup x=some .local->sc.names.lookup x=some .local
 cell:∀ x,sc2.names.lookup x=some .cell->sc.names.lookup x=some .cell
theorem sI.rfl' (sc:B0):sI sc sc:=⟨λ_ h=>h,λ_ h=>h⟩
theorem fC {x:Str}(ft:sI sc2 sc)(h:(sc2.names.lookup x==some .local || sc2.names.lookup x==some .cell)=true) :
  (sc2.names.lookup x=some .local/\sc.names.lookup x=some .local)\/(sc2.names.lookup x=some .cell/\sc.names.lookup x=some .cell):=by
 rcases Bool.or_eq_true_iff.mp h with h | h
 ·have h:=beq_iff_eq.mp h;exact .inl ⟨h,ft.loc x h⟩
 ·have h:=beq_iff_eq.mp h;exact .inr ⟨h,ft.cell x h⟩
theorem Frm.goW (F:Frm h₀ s.heap as env sc ρ)(k:∀ b o,s.heap.get? b=some o->h.get? b=some o)(R:Rel prog w C h₀ σ as s.heap)(tk:Nat):Frm h₀ h as env sc ρ :=
 F.noX (s':={s with heap:=h,toks:=tk}) (Go.grow (X:=NoX) R k (λ_ _ x=>x))
theorem ji {tg:Expr}{x:D}{v:BO}(hh:A.handled=none)(ft:sI sc2 sc)(R:Rel prog w C h₀ σ as s.heap)(F:Frm h₀ s.heap as env sc ρ)(r:Rep s.heap as v x)(e:ge sc2 tg x ρ σ=some (ρ',σ')) :
  BR (BS prog w) A (Cg tg env v) (λ_ s'=>σ'=σ/\Go (Wr sc2 env) prog w C h₀ σ as s σ as s'/\Frm h₀ s'.heap as env sc ρ') NoE s:=by
 cases tv tg with
 | sub=>exact af (σ:=σ) e
 | attr=>exact af (σ:=σ) e
 | other _ h =>
  rw [h] at e;exact af e
 | name =>
  (refine ai e ?_);clear e;rintro h1 e;(refine aj e ?_);clear e;exact PySem.wpAny_assign_Name (BV (dN R F (fC ft h1) r) (λ_ _ q=>⟨rfl,q⟩) λ_ _ q=>q)
 | pair a pa b pb k tp =>
  (refine ai e ?_);clear e;rintro h1 e;(refine ai e ?_);clear e;rintro h2 e;cases hp:fj x with
  | none =>
   replace e:=hp▸e;exact af e
  | some pq =>
   replace e:=hp▸e;(refine aj e ?_);clear e;have hx:=iZ hp;subst hx;cases r.tupI with
   | @mk t vs n ht hz rr =>
   obtain ⟨v1,v2,hq⟩:=rr.two;have hv:=hq.1;have r1:=hq.2.1;have r2:=hq.2.2;have hs2:vs.size=2:=by (refine (length_toList)▸?_;exact hv.symm▸rfl)
   refine assign_Tuple_tuple hh ⟨_,ht,rfl,_,rfl⟩ (by exact hs2▸rfl) rfl λh' he=>?_;have k:∀ b o,s.heap.get? b=some o->h'.get? b=some o:=λb o e=>he b o (ne_of_lt (Heap.lt_size e)) e;have G1:Go (Wr sc2 env) prog w C h₀ _ as s _ as {s with heap:=h'} := Go.grow R k F.offW;have F1:Frm h₀ h' as env sc ρ:=F.goW k R s.toks;refine hv.symm▸?_;refine (?_:BR _ _ (do CN [v2] (Cg (.Name a pa) env v1);DI [Cg (.Name b pb) env] [v2]) _ _ _);refine BN (B1 (PySem.wpAny_assign_Name (BV (dN (s:={s with heap:=h'}) G1.rel F1 (fC ft h1) (G1.rep r1)) (λ_ s2 q=>?_) λ_ _ q=>q)));have G2:=q.1;have F2:=q.2;refine (?_:BR _ _ (do CN [] (Cg (.Name b pb) env v2);pure ()) _ _ _);refine BN (B1 (PySem.wpAny_assign_Name (BV (dN G2.rel F2 (fC ft h2) (G2.rep (G1.rep r2))) (λ_ s3 q=>?_) λ_ _ q=>q)));have G3:=q.1;have F3:=q.2;exact BP ⟨rfl,(G1.trans G2).trans G3,F3⟩
noncomputable def wJ:List String:=["list_iterator","tuple_iterator","range_iterator","dict_keyiterator"]
inductive y6 (prog:BX)(w:BY)(A:BZ)(as:List BQ)(src:Src)(I:BQ)(h:BW)(i:Nat):Prop
 | mk (fp:List BQ) (P:Nat->BO->Prop) (St:Nat->BW->Prop) (W:De prog w A I fp [I] src.items.length P St) (st:St i h) (hP:∀ j v,j < src.items.length->P j v->∃ d,src.items[j]? = some d/\Rep h as v d)
  (hfp:∀ b∈fp,b≠I->(∃ vs k,IsT h b vs k)\/(∃ k v l,src = .at k v l/\as[k]? = some b)) (hc:∀ j h,St j h->∃ o T,h.get? I=some o/\o.cls = .type T/\T∈wJ):y6 prog w A as src I h i
structure Itr (prog:BX)(w:BY)(A:BZ)(h₀:BW)(as:List BQ)(src:Src)(I:BQ)(h:BW)(i:Nat):Prop where
 nin:I ∉ as
 new:h₀.get? I=none
 ex:y6 prog w A as src I h i
theorem io {k v:Nat}{l:List D}{u:Unit}(e:(Src.at k v l).still σ=some (u,σ')):ver σ k=v/\σ'=σ:=by
 (refine j3 e ?_);clear e;rintro p h1 e;obtain ⟨h2,rfl⟩:=t9 e;refine ⟨?_,rfl⟩;unfold ver;exact h1▸(beq_iff_eq.mp h2)
theorem ck {src:Src}{u:Unit}(e:src.still σ=some (u,σ')):σ'=σ:=by
 induction src using Src.casesOn with
 | «at» k v l=>exact (io e).2
 | tup l=>exact (aC e).2
 | rng n=>exact (aC e).2
theorem fq {β:Type}{src:Src}{f:Unit->PM β}{r:β}{P:Prop}(e:(src.still >>= f) σ=some (r,σ'))(k:src.still σ=some ((),σ)->f () σ=some (r,σ')->P):P :=
 ac e λ_ σ1 e1 e2=>k (ck e1▸e1) (ck e1▸e2)
theorem Itr.go {src:Src}{I:BQ}{i:Nat}{u u':Unit}(T:Itr prog w A h₀ as src I s.heap i)(G:Go X prog w C h₀ σ as s σ' as' s')(hX:¬ X I)(e:src.still σ=some (u,σ))(e':src.still σ'=some (u',σ')) :
  Itr prog w A h₀ as' src I s'.heap i:=by
 obtain ⟨fp,P,St,W,st,hP,hfp,hc⟩:=T.ex;obtain ⟨oI,TI,hq⟩:=hc _ _ st;have hoI:=hq.1;have hnin:I ∉ as':=λhm=>by
  have:=G.fresh I hm T.nin;replace this:=hoI▸this;cases this
 have kI:∀ o,s.heap.get? I=some o->s'.heap.get? I=some o:=λo e=>G.kp I o T.nin hX e;have kb:∀ b∈fp,∀ o,s.heap.get? b=some o->s'.heap.get? b=some o:=λb hb o eo=>by
  by_cases hbI:b=I
  ·subst hbI;exact kI o eo
  ·rcases hfp b hb hbI with ⟨vs,k,i⟩ | ⟨k,v,l,rfl,ek⟩
   ·have i':=G.tup _ _ _ i;replace eo:=i▸eo;(have:=Option.some.inj eo;subst this);exact i'
   ·have hq:=io e;have h1:=hq.1;have hq:=io e';have h2:=hq.1;exact (G.vers k b ek).2 (h1.trans h2.symm) o eo
 refine ⟨hnin,T.new,fp,P,St,W,W.frame _ _ _ st kb,λj v hj p=>?_,λb hb hbI=>?_,hc⟩
 ·obtain ⟨d,hq⟩:=hP j v hj p;have h1:=hq.1;have h2:=hq.2;exact ⟨d,h1,G.rep h2⟩
 ·rcases hfp b hb hbI with ⟨vs,k,i⟩ | ⟨k,v,l,h1,ek⟩
  ·exact .inl ⟨vs,k,G.tup _ _ _ i⟩
  ·exact .inr ⟨k,v,l,h1,getElem?_of_prefix G.pre ek⟩
theorem Itr.wr {src:Src}{I:BQ}{i:Nat}(T:Itr prog w A h₀ as src I s.heap i)(R:Rel prog w C h₀ σ as s.heap){h':BW}{tk:Nat}(k:∀ b o,b ∉ [I]->s.heap.get? b=some o->h'.get? b=some o) :
  Go (· = I) prog w C h₀ σ as s σ as {s with heap:=h',toks:=tk} := by
 obtain ⟨fp,P,St,W,st,hP,hfp,hc⟩:=T.ex;obtain ⟨oI,TI,hoI,hcI,hT⟩:=hc _ _ st;refine Go.at R rfl (λa ha e=>T.nin (e▸ha)) T.new (λvs n i=>?_) λb o hb e=>k b o (by simpa using hb) e;replace hoI:=i▸hoI;(have:=Option.some.inj hoI;subst this);cases hcI;revert hT;decide
theorem Itr.next {src:Src}{I:BQ}{i:Nat}(T:Itr prog w A h₀ as src I s.heap i)(R:Rel prog w C h₀ σ as s.heap){x:D}(hx:src.items[i]? = some x) :
  BR (BS prog w) A (CU (.ref I)) (λr s'=>∃ v,r=some v/\Go (· = I) prog w C h₀ σ as s σ as s'/\Rep s'.heap as v x/\Itr prog w A h₀ as src I s'.heap (i+1)) NoE s:=by
 obtain ⟨fp,P,St,W,st,hP,hfp,hc⟩:=id T.ex;have hi:=(List.getElem?_eq_some_iff.mp hx).1;refine W.item i s _ _ hi st λv h' tk pv st' k=>?_;have G:=T.wr R (tk:=tk) k;obtain ⟨d,hq⟩:=hP i v hi pv;have h1:=hq.1;have h2:=hq.2;replace h1:=hx▸h1;(have:=Option.some.inj h1;subst this);refine ⟨v,rfl,G,G.rep h2,T.nin,T.new,fp,P,St,W,st',λj v hj p=>?_,λb hb hbI=>?_,hc⟩
 ·obtain ⟨d,hq⟩:=hP j v hj p;have h1:=hq.1;have h2:=hq.2;exact ⟨d,h1,G.rep h2⟩
 ·rcases hfp b hb hbI with ⟨vs,k,i⟩ | q
  ·exact .inl ⟨vs,k,G.tup _ _ _ i⟩
  ·exact .inr q
theorem Itr.done {src:Src}{I:BQ}(T:Itr prog w A h₀ as src I s.heap src.items.length)(R:Rel prog w C h₀ σ as s.heap) :
  BR (BS prog w) A (CU (.ref I)) (λr s'=>r=none/\Go (· = I) prog w C h₀ σ as s σ as s') NoE s:=by
 obtain ⟨fp,P,St,W,st,hP,hfp,hc⟩:=id T.ex;exact W.done s _ _ st λh' tk k=>⟨rfl,T.wr R k⟩
theorem Itr.self {src:Src}{I:BQ}{i:Nat}{Q:BO->BU->Prop}{E:BO->BU->Prop}(T:Itr prog w A h₀ as src I s.heap i)(h:Q (.ref I) s):BR (BS prog w) A (Cq (.ref I)) Q E s:=by
 obtain ⟨fp,P,St,W,st,hP,hfp,hc⟩:=id T.ex;exact W.self i s _ _ st h
theorem Itr.noOwned {src:Src}{I:BQ}{i:Nat}{tg:Expr}{v:BO}{Q:Unit->BU->Prop}{E:BO->BU->Prop}(T:Itr prog w A h₀ as src I s.heap i)(h:Q () s):BR (BS prog w) A (Dr tg (.ref I) v) Q E s:=by
 obtain ⟨fp,P,St,W,st,hP,hfp,hc⟩:=id T.ex;obtain ⟨oI,TI,hoI,hcI,hT⟩:=hc _ _ st;have key:BR (BS prog w) A (do
   let (.ref r,.ref a):=((Value.ref I:BO),v) | return
   let o <- load r
   match o.cls,o.data with
   | .type n,.fields vs =>
    if ["enumerate","zip","dict_itemiterator","dict_reverseitemiterator","odict_iterator","itertools.zip_longest","itertools.pairwise"].contains n && vs[0]? == some (B6 a) then
     rule "for.unpacks-the-owned-tuple"
     updateField r 0 .none
   | _,_=>pure ()) Q E s:=by
  induction v using Value.casesOn with
  | ref a =>
   refine BN (CX hoI ?_);refine hcI.symm▸?_;have hno:(["enumerate","zip","dict_itemiterator","dict_reverseitemiterator","odict_iterator","itertools.zip_longest","itertools.pairwise"]:List String).contains TI=false:=by
    simp only [wJ,mem_cons,not_mem_nil,or_false] at hT;rcases hT with rfl | rfl | rfl | rfl <;> decide
   cases oI.data with
   | fields vs=>dsimp only;exact hno▸(BP h)
   | _=>exact BP h
  | _=>exact BP h
 induction tg using Expr.casesOn with
 | Tuple=>exact key
 | List=>exact key
 | _=>exact BP h
theorem ms {X:BQ->Prop}{o:Obj}(R:Rel prog w C h₀ σ as s.heap)(hx:∀ a∈as,¬ X a):Go X prog w C h₀ σ as s σ as {s with heap:=s.heap.push o} :=
 Go.grow R (λb o e=>Heap.get?_push_of_some _ e) hx
theorem dX (R:Rel prog w C h₀ σ as s.heap):s.heap.objs.size ∉ as:=λhm=>by
 obtain ⟨k,hq⟩:=mem_iff_getElem.mp hm;have hk:=hq.1;have ek:=hq.2;have hk':k < σ.length:=by exact R.len▸hk
 obtain ⟨ob,hq⟩:=(R.objs k σ[k].1 σ[k].2 _ (List.getElem?_eq_getElem hk') (by rw [List.getElem?_eq_getElem hk,ek])).get;have eb:=hq.1;rw [aR] at eb;exact an eb
theorem ju (R:Rel prog w C h₀ σ as s.heap):h₀.get? s.heap.objs.size=none:=by
 cases e:h₀.get? s.heap.objs.size with
 | none=>rfl
 | some o=>have:=R.kept _ _ e;rw [aR] at this;exact an this
inductive gW (prog:BX)(w:BY)(C:BQ)(A:BZ)(h₀:BW)(σ:Sto)(as:List BQ)(s:BU)(σ':Sto)(src:Src)(v:BO)(s':BU):Prop
 | intro (as':List BQ) (I:BQ) (hv:v = .ref I) (g:Go NoX prog w C h₀ σ as s σ' as' s') (hf:s.heap.get? I=none) (T:Itr prog w A h₀ as' src I s'.heap 0) (hl:src.items.length<=aQ+1) (hs:∃ u,src.still σ'=some (u,σ')):gW prog w C A h₀ σ as s σ' src v s'
theorem tw {k:Nat}{o:PO}{v:Nat}{l:List D}(e:σ[k]? = some (o,v)):(Src.at k v l).still σ=some ((),σ):=by
 refine (?_:(getP k σ >>= λp=>(must (p.1.2==v)) p.2)=_);unfold getP;rw [e];refine (?_:must (v==v) σ=_);rw [beq_self_eq_true];rfl
theorem yR {I x b:BQ}(h:b∈[I,x])(hn:b≠I):b=x:=(mem_cons.mp h).elim (λe=>absurd e hn) List.eq_of_mem_singleton
theorem jO {o:Obj}{src:Src}{T:String}{x:BQ}{P:Nat->BO->Prop}{St:Nat->BW->Prop}(R:Rel prog w C h₀ σ as s.heap)(W:De prog w A s.heap.objs.size [s.heap.objs.size,x] [s.heap.objs.size] src.items.length P St)(st:St 0 (s.heap.push o))
  (hP:∀ j v,P j v->∃ d,src.items[j]? = some d/\Rep s.heap as v d) (hx:(∃ vs k,IsT s.heap x vs k)\/∃ k v l,src = .at k v l/\as[k]? = some x) (hc:∀ j h,St j h->∃ o,h.get? s.heap.objs.size=some o/\o.cls = .type T) (hT:T∈wJ)
  (hl:src.items.length<=aQ+1) (hs:src.still σ=some ((),σ)):gW prog w C A h₀ σ as s σ src (.ref s.heap.objs.size) {s with heap:=s.heap.push o} := by
 have G:=ms (X:=NoX) (o:=o) R (λ_ _ x=>x);refine ⟨as,_,rfl,G,aR _,⟨dX R,ju R,_,P,St,W,st,λj v _ p=>?_,λb hb hbI=>?_,λj h st=>?_⟩,hl,(),hs⟩
 ·obtain ⟨d,hq⟩:=hP j v p;have h1:=hq.1;have h4:=hq.2;exact ⟨d,h1,G.rep h4⟩
 ·refine (yR hb hbI).symm▸?_;rcases hx with ⟨vs,k,i⟩ | q
  ·exact .inl ⟨vs,k,G.tup _ _ _ i⟩
  ·exact .inr q
 ·obtain ⟨o,hq⟩:=hc j h st;have ho:=hq.1;have hc:=hq.2;exact ⟨o,T,ho,hc,hT⟩
theorem xL {kvs:List (Str×BO)}{l:List (Str×D)}(kk:kvs.map (·.1)=l.map (·.1)){j:Nat}{kx:Str}{x:BO}(hx:kvs[j]? = some (kx,x)):(l.map λp=>D.str p.1)[j]? = some (.str kx):=by
 have h1:(kvs.map (·.1))[j]? = some kx:=by rw [List.getElem?_map,hx];rfl
 rw [kk] at h1;rw [show (l.map λp=>D.str p.1)=(l.map (·.1)).map D.str by rw [List.map_map];rfl,List.getElem?_map,h1];rfl
theorem t8 {v:BO}{src:Src}(hh:A.handled=none)(R:Rel prog w C h₀ σ as s.heap)(r:Rep s.heap as v d)(e:gS d σ=some (src,σ')) :
  BR (BS prog w) A (Cq v) (gW prog w C A h₀ σ as s σ' src) NoE s:=by
 induction d using D.casesOn with
 | tup l =>
  (refine aj e ?_);clear e;cases r.tupI with
  | @mk t vs n ht hz rr =>
  have hist:s.heap.IsTuple t vs:=⟨_,ht,rfl,_,rfl⟩;refine wpAny_pyIter_tuple hist ?_;have W:=Walks.tuple (prog:=prog) (w:=w) (A:=A) hh s.heap.objs.size t (ne_of_lt (Heap.lt_size ht)) vs;rw [be rr] at W;refine jO (src:=.tup l) (T:="tuple_iterator") R W ⟨⟨_,Heap.get?_push_size _ rfl,rfl,rfl⟩,hist.push _⟩ (λj v p=>rr.getV (Array.getElem?_toList.trans p)) (.inl ⟨_,_,ht⟩) (λj h st=>?_) (by decide) (le_succ_of_le hz) rfl;obtain ⟨o,hq⟩:=st.1;have ho:=hq.1;have hc:=hq.2.1;exact ⟨o,ho,hc⟩
 | ref k =>
  (refine j3 e ?_);clear e;rintro p hk e;(refine aP e ?_);clear e;rintro l hl e;(refine aj e ?_);clear e;cases r.refI with
  | @mk a ka =>
  have r:=R.objs _ p.1 p.2 _ hk ka;generalize hsrc:Src.at k p.2 l=src;have hs:src.still σ=some ((),σ):=hsrc▸tw (o:=p.1) hk;have hx:∃ k v l,src = .at k v l/\as[k]? = some a:=⟨k,p.2,l,hsrc.symm,ka⟩;have hit:src.items=l:=hsrc▸rfl;clear hsrc;generalize p.1=po at r hl;induction po using PO.casesOn with
  | list ds =>
   have hl:=Option.some.inj hl;subst hl;cases r.listI with
   | @mk vs n g rr z =>
   have hist:s.heap.IsList a vs:=⟨_,g,rfl,_,rfl⟩;refine CB hist ?_;have W:=Walks.list (prog:=prog) (w:=w) (A:=A) hh s.heap.objs.size a (ne_of_lt (Heap.lt_size g)) vs;rw [be rr,<- hit] at W;refine jO (T:="list_iterator") R W ⟨⟨_,Heap.get?_push_size _ rfl,rfl,rfl⟩,hist.push _⟩ (λj v p=>hit▸rr.getV (Array.getElem?_toList.trans p)) (.inr hx) (λj h st=>?_) (by decide) (hit▸z) hs;obtain ⟨o,hq⟩:=st.1;have ho:=hq.1;have hc:=hq.2.1;exact ⟨o,ho,hc⟩
  | dS ks =>
   have hl:=Option.some.inj hl;subst hl;cases r.dSI with
   | @mk kvs g kk rr z =>
   obtain ⟨ep,ga⟩:=g.dictAt;have htl:a < s.heap.objs.size:=let ⟨_,_,hoo,_⟩:=ga;Heap.lt_size hoo
   refine wpAny_pyIter_dict (R.not_sys ka) ga ?_;have W:=Walks.dictKeys (prog:=prog) (w:=w) (knd:=PySem.strKind prog w) (A:=A) hh s.heap.objs.size a (ne_of_lt htl) kvs ep;have hits:kvs.length=src.items.length:=by rw [hit,length_map,<- length_map (f:=(·.1)),kk,length_map]
   have W':De prog w A s.heap.objs.size [s.heap.objs.size,a] [s.heap.objs.size] src.items.length (λi v=>∃ k x,kvs[i]? = some (k,x)/\(PySem.strKind prog w).is k v=true)
     (λi h=>h.IsKeyIter s.heap.objs.size a i kvs.length ep/\Heap.DictAt (PySem.strKind prog w) h a kvs ep):=hits▸W
   refine jO (T:="dict_keyiterator") R W' ⟨⟨_,Heap.get?_push_size _ rfl,rfl,rfl⟩,ga.keep λb o e=>Heap.get?_push_of_some _ e⟩ (λj v p=>?_) (.inr hx) (λj h st=>?_) (by decide) (hit▸(length_map (as:=ks) (f:=λp=>D.str p.1)).symm▸z) hs
   ·obtain ⟨kx,x,hq⟩:=p;have hx:=hq.1;have hkx:=hq.2;obtain ⟨t,rfl⟩:=Value.isStrOf_shape hkx;exact ⟨.str kx,hit▸xL kk hx,.str kx t⟩
   ·obtain ⟨o,hq⟩:=st.1;have ho:=hq.1;have hc:=hq.2.1;exact ⟨o,ho,hc⟩
  | _=>exact an hl
 | _=>exact af (σ:=σ) e
end
inductive y9 (h:BW)(as:List BQ)(d:D)(fl:Eh):Prop
 | intro (v:BO) (e:fl = .ret v) (r:Rep h as v d):y9 h as d fl
noncomputable def Bj (h:BW)(as:List BQ):Fl->Eh->Prop
 | .next,fl=>fl = .next
 | .ret d,fl=>y9 h as d fl
inductive dv (prog:BX)(w:BY)(C:BQ)(h₀:BW)(env:Env)(sc:B0)(σ:Sto)(as:List BQ)(s:BU)(σ':Sto)(f:Fl)(ρ:Loc)(fl:Eh)(s':BU):Prop
 | intro (as':List BQ) (g:Go (Wr sc env) prog w C h₀ σ as s σ' as' s') (F:Frm h₀ s'.heap as' env sc ρ) (q:Bj s'.heap as' f fl):dv prog w C h₀ env sc σ as s σ' f ρ fl s'
inductive su (prog:BX)(w:BY)(C:BQ)(h₀:BW)(σ:Sto)(as:List BQ)(s:BU)(σ':Sto)(b:Bool)(b':Bool)(s':BU):Prop
 | intro (e:b'=b) (as':List BQ) (g:Go NoX prog w C h₀ σ as s σ' as' s'):su prog w C h₀ σ as s σ' b b' s'
section
variable {prog:BX}{w:BY}{C:BQ}{h₀ h:BW}{σ σ':Sto}{as as':List BQ}{s s':BU}{A:BZ}{d:D}{n:Nat}{env:Env}{sc sc2:B0}{ρ ρ':Loc}{X Y:BQ->Prop}
theorem bt {α:Type}{M:Model}{m:Sem α}{Q Q':α->BU->Prop}{E:BO->BU->Prop}(h:BR M A m Q NoE s)(q:∀ a s',Q a s'->Q' a s'):BR M A m Q' E s:=BV h q λ_ _ e=>e.elim
theorem Frm.wr_there (F:Frm h₀ h as env sc ρ):∀ a,Wr sc2 env a->h.get? a≠none:=by
 rintro a (rfl | ⟨x,_,h2⟩)
 ·obtain ⟨m,⟨o,es,ep,ho,_⟩,_⟩:=F.loc;refine ho.symm▸?_;exact λe=>by cases e
 ·obtain ⟨_,_,u,o,hq⟩:=F.offC x a h2;have ho:=hq.1;refine ho.symm▸?_;exact λe=>by cases e
theorem Itr.there {src:Src}{I:BQ}{i:Nat}(T:Itr prog w A h₀ as src I h i):h.get? I≠none:=by
 obtain ⟨fp,P,St,W,st,hP,hfp,hc⟩:=T.ex;obtain ⟨oI,TI,hq⟩:=hc _ _ st;have hoI:=hq.1;refine hoI.symm▸?_;exact λe=>by cases e
theorem iu {α:Type}{l xs:List α}{x:α}{i:Nat}(h:l.drop i=x::xs):l[i]? = some x/\l.drop (i+1)=xs:=by
 constructor
 ·have:=List.getElem?_drop (xs:=l) (i:=i) (j:=0);rw [h] at this;simpa using this.symm
 ·have:=List.drop_drop (l:=l) (i:=1) (j:=i);rw [h] at this;simpa [add_comm] using this.symm
theorem drop_nil {α:Type}{l:List α}{i:Nat}(h:l.drop i=[])(hi:i<=l.length):i=l.length:=by
 exact le_antisymm hi (Nat.le_of_sub_eq_zero ((List.length_drop).symm.trans (congrArg List.length h)))
structure iM (env:Env)(I:BQ):Prop where
 loc:env.locals≠I
 cell:∀ x c,env.cells.lookup x=some c->c≠I
theorem iM.wr {I:BQ}(a:iM env I):¬ Wr sc env I:=by
 rintro (e | ⟨x,_,h⟩)
 ·exact a.loc e.symm
 ·exact a.cell x I h rfl
theorem Frm.apart_of {I:BQ}(F:Frm h₀ s.heap as env sc ρ)(e:s.heap.get? I=none):iM env I:=by
 refine ⟨?_,λx c hc=>?_⟩
 ·rintro rfl;exact F.wr_there (sc2:=sc) _ (.inl rfl) e
 ·rintro rfl;obtain ⟨_,_,u,o,hq⟩:=F.offC x c hc;have ho:=hq.1;replace e:=ho▸e;cases e
theorem Frm.goI {I:BQ}(F:Frm h₀ s.heap as env sc ρ)(a:iM env I)(G:Go (· = I) prog w C h₀ σ as s σ' as' s'):Frm h₀ s'.heap as' env sc ρ:=F.go G a.loc a.cell
section
variable (prog:BX)(w:BY)(C:BQ)(h₀:BW)(env:Env)(sc:B0)(I:BQ)(σ:Sto)(as:List BQ)(s:BU)(σ':Sto)(f:Fl)(ρ':Loc)
noncomputable def XW (b:BQ):Prop:=Wr sc env b\/b=I
inductive BL (r:C8)(s':BU):Prop
 | intro (fl:Eh) (as':List BQ) (e:r = .ok fl) (g:Go (XW env sc I) prog w C h₀ σ as s σ' as' s') (F:Frm h₀ s'.heap as' env sc ρ') (q:Bj s'.heap as' f fl):BL r s'
inductive Bp (A:BZ)(src:Src)(bd:D->Loc->PM (Fl×Loc))(k:Nat)(s1:BU):Prop
 | intro (xs:List D) (i:Nat) (σ1:Sto) (as1:List BQ) (ρ1:Loc) (hk:xs.length+1=k) (hi:i<=src.items.length) (hx:src.items.drop i=xs) (e:d3 src bd xs ρ1 σ1=some ((f,ρ'),σ')) (g:Go (XW env sc I) prog w C h₀ σ as s σ1 as1 s1) (F:Frm h₀ s1.heap as1 env sc ρ1)
   (t:∀ u,src.still σ1=some (u,σ1)->Itr prog w A h₀ as1 src I s1.heap i):Bp A src bd k s1
inductive WhA (r:C8)(s':BU):Prop
 | intro (fl:Eh) (e:r = .ok fl) (q:dv prog w C h₀ env sc σ as s σ' f ρ' fl s'):WhA r s'
inductive WhI (ts:Loc->PM Bool)(bd:Loc->PM (Fl×Loc))(k:Nat)(s1:BU):Prop
 | intro (σ1:Sto) (as1:List BQ) (ρ1:Loc) (e:dy ts bd k ρ1 σ1=some ((f,ρ'),σ')) (g:Go (Wr sc env) prog w C h₀ σ as s σ1 as1 s1) (F:Frm h₀ s1.heap as1 env sc ρ1):WhI ts bd k s1
end
theorem uw {tg:Expr}{body:List B7}{src:Src}{I:BQ}{bd:D->Loc->PM (Fl×Loc)}{f:Fl}(hI:iM env I)
  (hturn:∀ σ as s x v ρ f ρ1 σ1,bd x ρ σ=some ((f,ρ1),σ1)->Rel prog w C h₀ σ as s.heap->Frm h₀ s.heap as env sc ρ->Rep s.heap as v x ->
   BR (BS prog w) A (Cg tg env v) (λ_ s1=>BR (BS prog w) A (EA body env) (dv prog w C h₀ env sc σ as s σ1 f ρ1) NoE s1) NoE s)
  (R0:Rel prog w C h₀ σ as s.heap) (F0:Frm h₀ s.heap as env sc ρ) (T0:Itr prog w A h₀ as src I s.heap 0) (e0:d3 src bd src.items ρ σ=some ((f,ρ'),σ')) :
  Ck (BS prog w) A (.forLoop tg (.ref I) body [] env) (BL prog w C h₀ env sc I σ as s σ' f ρ') s:=by
 refine codeAny_forLoop_any (Bp prog w C h₀ env sc I σ as s σ' f ρ' A src bd) ?_ (src.items.length+1)
  ⟨src.items,0,σ,as,ρ,rfl,zero_le _,rfl,e0,Go.refl R0 (λa ha q=>q.elim (F0.offW a ha) λe=>T0.nin (e▸ha)),F0,λ_ _=>T0⟩
 rintro k s1 ⟨xs,i,σ1,as1,ρ1,hk,hi,hx,e,G,F,hT⟩;have hoff:∀ a∈as1,¬ XW env sc I a:=G.off;induction xs using List.casesOn with
 | nil =>
  (refine fq e ?_);clear e;rintro e1 e;have hq:=aC e;have h1:=hq.1;have h2:=hq.2;have h1:=Prod.mk.inj h1;have T:=hT () e1;have hil:=drop_nil hx hi;replace T:=hil▸T;refine bt (T.done G.rel) λr s2 q=>?_;have G2:=q.2;have G3:=G2.mono (Y:=XW env sc I) (λb q => .inr q) hoff λa q=>q.elim (F.wr_there a) λe=>e▸T.there;refine (q.1).symm▸?_;exact BP ⟨.next,as1,rfl,h2▸G.trans G3,h1.2▸F.goI hI G2,h1.1▸rfl⟩
 | cons x xs =>
  (refine fq e ?_);clear e;rintro e1 e;(refine ac e ?_);clear e;rintro ⟨f1,ρ2⟩ σ3 e2 e;have T:=hT () e1;have hq:=iu hx;have hxi:=hq.1;have hxs:=hq.2;have hilt:i < src.items.length:=(List.getElem?_eq_some_iff.mp hxi).1;refine bt (T.next G.rel hxi) λr s2 q=>?_;obtain ⟨v,hq⟩:=q;have hr:=hq.1;have G2:=hq.2.1;have rv:=hq.2.2.1;have T2:=hq.2.2.2;have G3:=G2.mono (Y:=XW env sc I) (λb q => .inr q) hoff λa q=>q.elim (F.wr_there a) λe=>e▸T.there;have F2:=F.goI hI G2;refine hr.symm▸?_;refine T2.noOwned ?_;refine bt (hturn _ _ _ _ _ _ _ _ _ e2 G2.rel F2 rv) λ_ s3 q=>bt q λfl s4 q=>?_;obtain ⟨as4,G4,F4,hfl⟩:=q;have G5:=G4.mono (Y:=XW env sc I) (λb q => .inl q) G3.off λa q=>q.elim (F2.wr_there a) λe=>e▸T2.there;have G6:=(G.trans G3).trans G5;induction f1 using Fl.casesOn with
  | next =>
   rw [(hfl:fl = .next)];exact ⟨xs.length+1,Nat.lt_of_lt_of_eq (lt_succ_self _) hk,xs,i+1,σ3,as4,ρ2,rfl,hilt,hxs,e,G6,F4,λu' e'=>T2.go G4 hI.wr e1 e'⟩
  | ret d =>
   obtain ⟨v',hv,rv'⟩:=hfl;have hq:=aC e;have h1:=hq.1;have h2:=hq.2;have h1:=Prod.mk.inj h1;refine hv.symm▸?_;exact ⟨.ret v',as4,rfl,h2▸G6,h1.2▸F4,h1.1▸⟨v',rfl,rv'⟩⟩
theorem yS {tg it:Expr}{body:List B7}{pos:Pos}{src:Src}{bd:D->Loc->PM (Fl×Loc)}{f:Fl}{σ1:Sto}(R:Rel prog w C h₀ σ as s.heap)(F:Frm h₀ s.heap as env sc ρ)
  (hs:∀ x,B9 it env x=pure x)
  (hit:BR (BS prog w) A (B3 it env) (λx s1=>BR (BS prog w) A (Cq x) (gW prog w C A h₀ σ as s σ1 src) NoE s1) NoE s)
  (hturn:∀ σ as s x v ρ f ρ1 σ1,bd x ρ σ=some ((f,ρ1),σ1)->Rel prog w C h₀ σ as s.heap->Frm h₀ s.heap as env sc ρ->Rep s.heap as v x ->
   BR (BS prog w) A (Cg tg env v) (λ_ s1=>BR (BS prog w) A (EA body env) (dv prog w C h₀ env sc σ as s σ1 f ρ1) NoE s1) NoE s)
  (e:d3 src bd src.items ρ σ1=some ((f,ρ'),σ')) :
  BR (BS prog w) A (exec (.For tg it body [] pos) env) (dv prog w C h₀ env sc σ as s σ' f ρ') NoE s:=by
 refine wpAny_For (BV hit (λx s1 q=>BV q (λv s2 q=>?_) λ_ _ q=>q) λ_ _ q=>q) hs;obtain ⟨as2,I,rfl,G,hfree,T,hq⟩:=q;have F2:=F.noX G;have hI:iM env I:=F.apart_of hfree;refine Cj (uw hI hturn G.rel F2 T e) λr s3 q=>?_;obtain ⟨fl,as3,rfl,G3,F3,hfl⟩:=q;refine ⟨as3,?_,F3,hfl⟩;have G0:Go (XW env sc I) prog w C h₀ σ as s σ1 as2 s2:=by
  refine ⟨G.same,G.rel,G.pre,G.fresh,λa ha q=>?_,λb o hb _ e=>G.kp b o hb (λx=>x) e,G.tup,G.vers⟩;rcases q with q | rfl
  ·exact F2.offW a ha q
  ·exact T.nin ha
 exact (G0.trans G3).drop (λb q=>q.elim (λq => .inl q) λq => .inr (by subst q;exact hfree)) F3.offW
theorem pF {test:Expr}{body:List B7}{ts:Loc->PM Bool}{bd:Loc->PM (Fl×Loc)}{f:Fl}
  (htest:∀ σ as s ρ b σ1,ts ρ σ=some (b,σ1)->Rel prog w C h₀ σ as s.heap->Frm h₀ s.heap as env sc ρ->BR (BS prog w) A (isTrue test env (B3 test env)) (su prog w C h₀ σ as s σ1 b) NoE s)
  (hbody:∀ σ as s ρ f ρ1 σ1,bd ρ σ=some ((f,ρ1),σ1)->Rel prog w C h₀ σ as s.heap->Frm h₀ s.heap as env sc ρ->BR (BS prog w) A (EA body env) (dv prog w C h₀ env sc σ as s σ1 f ρ1) NoE s)
  (R0:Rel prog w C h₀ σ as s.heap) (F0:Frm h₀ s.heap as env sc ρ) (N:Nat) (e0:dy ts bd N ρ σ=some ((f,ρ'),σ')) :
  Ck (BS prog w) A (.whileLoop test body [] env) (WhA prog w C h₀ env sc σ as s σ' f ρ') s:=by
 refine codeAny_whileLoop (WhI prog w C h₀ env sc σ as s σ' f ρ' ts bd) ?_ N ⟨σ,as,ρ,e0,Go.refl R0 F0.offW,F0⟩;rintro k s1 ⟨σ1,as1,ρ1,e,G,F⟩;induction k using Nat.casesOn with
 | zero=>exact af (σ:=σ1) e
 | succ k =>
  refine ac e λb σ2 e1 e=>?_;refine bt (htest _ _ _ _ _ _ e1 G.rel F) λb' s2 q=>?_;obtain ⟨hb,as2,G2⟩:=q;refine hb.symm▸?_;have F2:=F.noX G2;have G3:=G2.mono (Y:=Wr sc env) (λ_ q=>q.elim) F.offW F.wr_there;induction b using Bool.casesOn with
  | false =>
   have hq:=aC e;have h1:=hq.1;have h2:=hq.2;have h1:=Prod.mk.inj h1;rw [if_neg (by decide)];exact BP ⟨.next,rfl,as2,h2▸G.trans G3,h1.2▸F2,h1.1▸rfl⟩
  | true =>
   refine (if_pos rfl).symm▸?_;(refine ac e ?_);clear e;rintro ⟨f1,ρ2⟩ σ3 e2 e;refine bt (hbody _ _ _ _ _ _ _ e2 G2.rel F2) λfl s3 q=>?_;obtain ⟨as3,G4,F3,hfl⟩:=q;have G5:=(G.trans G3).trans G4;induction f1 using Fl.casesOn with
   | next =>
    rw [(hfl:fl = .next)];exact ⟨k,lt_succ_self k,σ3,as3,ρ2,e,G5,F3⟩
   | ret d =>
    obtain ⟨v',hv,rv'⟩:=hfl;have hq:=aC e;have h1:=hq.1;have h2:=hq.2;have h1:=Prod.mk.inj h1;refine hv.symm▸?_;exact ⟨.ret v',rfl,as3,h2▸G5,h1.2▸F3,h1.1▸⟨v',rfl,rv'⟩⟩
end
section
variable {prog:BX}{w:BY}{C:BQ}{h₀ h:BW}{σ σ':Sto}{as as':List BQ}{s s':BU}{A:BZ}{d:D}{n:Nat}{env:Env}{sc sc2 scope:B0}{ρ ρ':Loc}{X Y:BQ->Prop}
noncomputable def jX (env:Env):List (Str×Cc)->List (Str×BQ)->List (Str×BQ)
 | [],acc=>acc
 | (x,k)::r,acc=>if k == .free then jX env r ((x,(env.cells.lookup x).getD 0)::acc) else jX env r acc
theorem oO (f:Str×Cc->List (Str×BQ)->Sem (ForInStep (List (Str×BQ))))
  (hf:∀ x k cs,f (x,k) cs=if k == .free then (do let a <- cellOf env x;pure (.yield ((x,a)::cs))) else pure (.yield cs)) (names:List (Str×Cc)) :
  ∀ (acc:List (Str×BQ)),(∀ x,(x,NameKind.free)∈names->∃ c,env.cells.lookup x=some c)->forIn names acc f=pure (jX env names acc):=by
 induction names with
 | nil=>intro acc _;exact List.forIn_nil
 | cons p r ih =>
  intro acc h;induction p using Prod.casesOn with
  | mk x k =>
  have h':∀ x,(x,NameKind.free)∈r->∃ c,env.cells.lookup x=some c:=λy hy=>h y (mem_cons_of_mem _ hy);rw [forIn_cons,hf,show jX env ((x,k)::r) acc=if k == .free then jX env r ((x,(env.cells.lookup x).getD 0)::acc) else jX env r acc from rfl];by_cases hk:(k==NameKind.free)=true
  ·rw [if_pos hk,if_pos hk];obtain ⟨c,hc⟩:=h x (beq_iff_eq.mp hk▸mem_cons_self);rw [show cellOf env x=pure c by unfold cellOf;rw [hc],hc];exact ih _ h'
  ·rw [if_neg hk,if_neg hk];exact ih _ h'
section
variable {x:Str}{c:BQ}
theorem nJ {P:List (Str×Cc)->List (Str×BQ)->List (Str×BQ)->Prop}(h0:∀ acc,P [] acc acc)(h1:∀ y r acc l,P r ((y,(env.cells.lookup y).getD 0)::acc) l->P ((y,.free)::r) acc l)(h2:∀ y k r acc l,k ≠ .free->P r acc l->P ((y,k)::r) acc l)(names:List (Str×Cc)) :
  ∀ acc,P names acc (jX env names acc):=by
 induction names with
 | nil=>exact h0
 | cons p r ih =>
  intro acc;induction p using Prod.casesOn with
  | mk y k =>
  refine (?_:P _ _ (if k == .free then jX env r ((y,(env.cells.lookup y).getD 0)::acc) else jX env r acc));by_cases hk:(k==NameKind.free)=true
  ·(refine (if_pos hk).symm▸?_;refine (beq_iff_eq.mp hk).symm▸?_);exact h1 _ _ _ _ (ih _)
  ·refine (if_neg hk).symm▸?_;exact h2 _ _ _ _ _ (λe=>hk (beq_iff_eq.mpr e)) (ih _)
theorem ny (names:List (Str×Cc))(acc:List (Str×BQ))(x:Str)(c:BQ)(h1:∀ x,(x,NameKind.free)∈names->∃ c,env.cells.lookup x=some c)(h2:∀ x c,(x,c)∈acc->env.cells.lookup x=some c)(h:(x,c)∈jX env names acc):env.cells.lookup x=some c:=by
 refine nJ (env:=env) (P:=λnames acc l=>(∀ x,(x,NameKind.free)∈names->∃ c,env.cells.lookup x=some c)->(∀ x c,(x,c)∈acc->env.cells.lookup x=some c)->(x,c)∈l->env.cells.lookup x=some c)
  (λ_ _ h2 h=>h2 x c h) (λy r acc l ih h1 h2=>ih (λx hx=>h1 x (mem_cons_of_mem _ hx)) λx' c' hm=>?_) (λ_ _ _ _ _ _ ih h1=>ih λx hx=>h1 x (mem_cons_of_mem _ hx)) names acc h1 h2 h
 rcases mem_cons.mp hm with e | hm
 ·obtain ⟨h3,h4⟩:=Prod.mk.inj e;obtain ⟨c0,hc0⟩:=h1 y mem_cons_self;(refine h3.symm▸?_;refine h4.symm▸?_;exact hc0.symm▸rfl)
 ·exact h2 _ _ hm
theorem pf (names:List (Str×Cc))(acc:List (Str×BQ))(h:∃ c,(x,c)∈acc):∃ c,(x,c)∈jX env names acc :=
 nJ (env:=env) (P:=λ_ acc l=>(∃ c,(x,c)∈acc)->∃ c,(x,c)∈l) (λ_ h=>h) (λ_ _ _ _ ih h=>h.elim λc h=>ih ⟨c,mem_cons_of_mem _ h⟩) (λ_ _ _ _ _ _ ih=>ih) names acc h
theorem uC (names:List (Str×Cc))(acc:List (Str×BQ))(x:Str)(h:(x,NameKind.free)∈names):∃ c,(x,c)∈jX env names acc:=by
 induction names generalizing acc with
 | nil=>exact absurd h not_mem_nil
 | cons p r ih =>
  induction p using Prod.casesOn with
  | mk y k =>
  show ∃ c,(x,c)∈(if k == .free then jX env r ((y,(env.cells.lookup y).getD 0)::acc) else jX env r acc);rcases mem_cons.mp h with e | h
  ·obtain ⟨h3,h4⟩:=Prod.mk.inj e;rw [<- h4,if_pos (beq_self_eq_true _),<- h3];exact pf r _ ⟨_,mem_cons_self⟩
  ·by_cases hk:(k==NameKind.free)=true
   ·refine (if_pos hk).symm▸?_;exact ih _ h
   ·refine (if_neg hk).symm▸?_;exact ih _ h
end
theorem jb {α:Type}{l:List (Str×α)}{x:Str}{c:α}(h:(x,c)∈l):∃ c',l.lookup x=some c':=by
 induction l with
 | nil=>exact absurd h not_mem_nil
 | cons p r ih =>
  induction p using Prod.casesOn with
  | mk y b =>
  rw [List.lookup_cons];by_cases hb:x=y
  ·rw [beq_iff_eq.mpr hb];exact ⟨b,rfl⟩
  ·rw [beq_false_of_ne hb];exact (mem_cons.mp h).elim (λe=>absurd (Prod.mk.inj e).1 hb) ih
structure NmOk (scope sc:B0)(x:Str)(k:Cc):Prop where
 dbg:(x==("__debug__" : Str))=false
 cd:(x==("__classdict__" : Str))=false
 ncell:k ≠ .cell
 loc:k = .local->scope.names.lookup x=some .local
 fre:k = .free->(sc.names.lookup x=some .cell\/sc.names.lookup x=some .free)/\scope.names.lookup x=some .free
theorem ew (e:cD scope sc=true):scope.kind = .function/\∀ x k,(x,k)∈scope.names->NmOk scope sc x k:=by
 unfold cD at e;rw [and_eq_true] at e;refine ⟨beq_iff_eq.mp e.1,λx k hm=>?_⟩;have:=all_eq_true.mp e.2 (x,k) hm;dsimp only at this;simp only [and_eq_true,or_eq_true,bne_iff_ne,ne_eq,beq_iff_eq] at this;obtain ⟨⟨⟨⟨h1,h2⟩,h3⟩,h4⟩,h5⟩:=this;refine ⟨by simpa using h1,by simpa using h2,h3,λhk=>h4.resolve_left λq=>q hk,λhk=>h5.resolve_left λq=>q hk⟩
theorem pg (f:Str->Cc->Cc)(names:List (Str×Cc))(x:Str):(names.map λp=>(p.1,f p.1 p.2)).lookup x=(names.lookup x).map (f x):=by
 induction names with
 | nil=>rfl
 | cons p r ih =>
  induction p using Prod.casesOn with
  | mk y k =>
  rw [map_cons,List.lookup_cons,List.lookup_cons];by_cases hb:x=y
  ·(refine (beq_iff_eq.mpr hb).symm▸?_;exact hb.symm▸rfl)
  ·refine (beq_false_of_ne hb).symm▸?_;exact ih
theorem eh (x:Str):(DA scope env).names.lookup x=(scope.names.lookup x).map λk=>if k == .free && env.scope.kind == .function && env.kindOf x==some .cell then .cell else k :=
by
 rw [<- pg (λx k=>if k == .free && env.scope.kind == .function && env.kindOf x==some .cell then .cell else k)];show (scope.names.map λ(p:Str×Cc)=>if p.2 == .free && env.scope.kind == .function && env.kindOf p.1==some .cell then (p.1,NameKind.cell) else (p.1,p.2)).lookup x=_;congr 2;funext p;split <;> rfl
theorem mK {x:Str}{o:Option D}(h:(x,o)∈bL scope ρ):((x,NameKind.local)∈scope.names/\o=none)\/((x,NameKind.free)∈scope.names/\ρ.lookup x=some o):=by
 obtain ⟨⟨y,k⟩,hm,he⟩:=List.mem_filterMap.mp h;induction k using NameKind.casesOn with
 | «local» =>
  dsimp only at he;split at he
  ·exact an he
  ·obtain ⟨e1,e2⟩:=Prod.mk.inj (Option.some.inj he);exact .inl ⟨e1▸hm,e2.symm⟩
 | free =>
  obtain ⟨q,hl,he⟩:=map_eq_some_iff.mp he;obtain ⟨e1,e2⟩:=Prod.mk.inj he;exact .inr ⟨e1▸hm,e1▸e2▸hl⟩
 | _=>exact an he
theorem d6 {x:Str}{d:D}(h:(bL scope ρ).lookup x=some (some d)):(x,NameKind.free)∈scope.names/\ρ.lookup x=some (some d):=by
 rcases mK (mem_of_lookup h) with ⟨_,h⟩ | h
 ·cases h
 ·exact h
theorem Frm.comp {cl:List (Str×BQ)}{L:BQ}{cenv:Env}(F:Frm h₀ h as env sc ρ)(ok:cD scope sc=true)(hcl:cl=jX env scope.names [])(hsc:cenv.scope=DA scope env)(hL:cenv.locals=L)(hg:cenv.globals=env.globals)(hb:cenv.builtins=env.builtins)(hcs:cenv.cells=cl)
  (hns:h.Ns L λ_=>none) (hLn:L ∉ as) (hL0:h₀.get? L=none):Frm h₀ h as cenv (ay scope sc) (bL scope ρ):=by
 have hq:=ew ok;have ok1:=hq.1;have ok2:=hq.2;have hfree:∀ x,(x,NameKind.free)∈scope.names->∃ c,env.cells.lookup x=some c:=λx hx=>by
  obtain ⟨c,u,h1,_⟩:=F.cell x ((ok2 x _ hx).fre rfl).1;exact ⟨c,h1⟩
 have hcell:∀ x c,cl.lookup x=some c->env.cells.lookup x=some c:=λx c hx=>by
  subst hcl;exact ny scope.names [] x c hfree (λ_ _ h=>absurd h not_mem_nil) (mem_of_lookup hx)
 have hscS:ay scope sc=DA scope env:=by
  exact (F.scope).symm▸rfl
 have hk:∀ x k,(ay scope sc).names.lookup x=some k->∃ k',scope.names.lookup x=some k'/\(k = .local->k' = .local)/\((k = .cell\/k = .free)->k' = .free):=λx k hx=>by
  (replace hx:=hscS▸hx;replace hx:=(eh _)▸hx);cases hl:scope.names.lookup x with
  | none=>replace hx:=hl▸hx;cases hx
  | some k' =>
   replace hx:=hl▸hx;simp only [map_some,Option.some.injEq] at hx;refine ⟨k',rfl,λe=>?_,λe=>?_⟩
   ·subst e;split at hx
    ·cases hx
    ·exact hx
   ·split at hx
    ·rename_i hh;simp only [and_eq_true] at hh;exact beq_iff_eq.mp hh.1.1
    ·subst hx;rcases e with e | e
     ·exact absurd e (ok2 x _ (mem_of_lookup hl)).ncell
     ·exact e
 refine ⟨by rw [hsc,hscS],by show scope.kind=_;exact ok1,by rw [hg];exact F.glob,by rw [hb];exact F.blt,⟨_,by rw [hL];exact hns,λx d h1 h2=>?_⟩,λx hx=>?_,λx y c h1 h2=>?_,by rw [hL];exact ⟨hLn,hL0⟩,λx c hx=>?_,λx k hx=>?_⟩
 ·exfalso;have hq:=d6 h2;have h3:=hq.1;obtain ⟨k',hq⟩:=hk x _ h1;have h4:=hq.1;have h5:=hq.2.1;have:=((ok2 x _ h3).fre rfl).2;(replace this:=h4▸this;replace this:=(h5 rfl)▸this);cases this
 ·obtain ⟨k',h4,_,h5⟩:∃ k',scope.names.lookup x=some k'/\True/\k' = .free:=by
   rcases hx with hx | hx
   ·(obtain ⟨k',hq⟩:=hk x _ hx;have h4:=hq.1;have h5:=hq.2.2);exact ⟨k',h4,trivial,h5 (.inl rfl)⟩
   ·(obtain ⟨k',hq⟩:=hk x _ hx;have h4:=hq.1;have h5:=hq.2.2);exact ⟨k',h4,trivial,h5 (.inr rfl)⟩
  subst h5;have hm:=mem_of_lookup h4;obtain ⟨c0,hm2⟩:=uC (env:=env) scope.names [] x hm;obtain ⟨c,hc⟩:=jb hm2;obtain ⟨c',u,h1,h2,h3⟩:=F.cell x ((ok2 x _ hm).fre rfl).1;have:=hcell x c (by refine hcl.symm▸?_;exact hc);replace this:=h1▸this;have hcc:=Option.some.inj this;refine ⟨c,u,by (refine hcs.symm▸?_;refine hcl.symm▸?_);exact hc,hcc▸h2,λd hd=>h3 d (d6 hd).2⟩
 ·rw [hcs] at h1 h2;exact F.apart x y c (hcell x c h1) (hcell y c h2)
 ·replace hx:=hcs▸hx;exact F.offC x c (hcell x c hx)
 ·obtain ⟨k',hq⟩:=hk x k hx;have h4:=hq.1;have:=ok2 x _ (mem_of_lookup h4);exact ⟨this.dbg,this.cd⟩
theorem Frm.less (F:Frm h₀ h as env sc ρ')(hl:∀ x d,ρ.lookup x=some (some d)->ρ'.lookup x=some (some d)):Frm h₀ h as env sc ρ:=by
 obtain ⟨m,hn,hm⟩:=F.loc;exact ⟨F.scope,F.kind,F.glob,F.blt,⟨m,hn,λx d h1 h2=>hm x d h1 (hl x d h2)⟩,λx hx=>(by obtain ⟨c,u,h1,h2,h3⟩:=F.cell x hx;exact ⟨c,u,h1,h2,λd hd=>h3 d (hl x d hd)⟩),F.apart,F.offL,F.offC,F.plain⟩
theorem sF {x y:Str}{d d':D}(hb:bare ρ x=true)(h:ρ.lookup y=some (some d)):(ρ.put x d').lookup y=some (some d):=by
 refine (Loc.lookup_put _ _ _ _).symm▸?_;by_cases hyx:y=x
 ·subst hyx;unfold bare at hb;rw [h] at hb;cases hb
 ·refine (if_neg hyx).symm▸?_;exact h
theorem gN {tg:Expr}{x:D}(e:d4 sc tg x ρ σ=some (ρ',σ')):ge sc tg x ρ σ=some (ρ',σ')/\∀ y d,ρ.lookup y=some (some d)->ρ'.lookup y=some (some d):=by
 (refine ai e ?_);clear e;rintro h1 e;refine ⟨e,λy d hy=>?_⟩;cases tv tg with
 | sub=>exact af (σ:=σ) e
 | attr=>exact af (σ:=σ) e
 | other _ h =>
  rw [h] at e;exact af e
 | name =>
  (refine ai e ?_);clear e;rintro _ e;(refine aj e ?_);clear e;exact sF h1 hy
 | pair a _ b _ _ _ =>
  (refine ai e ?_);clear e;rintro _ e;(refine ai e ?_);clear e;rintro _ e;replace h1:=and_eq_true_iff.mp h1;cases hp:fj x with
  | none =>
   rw [hp] at e;exact af e
  | some uv =>
   rw [hp] at e;obtain ⟨u,v⟩:=uv;(refine aj e ?_);clear e;have h2:=sF (d':=u) h1.1 hy;rw [Loc.lookup_put];by_cases hyb:y=b
   ·subst hyb;have:=h1.2;unfold bare at this;rw [hy] at this;cases this
   ·rw [if_neg hyb];exact h2
end
noncomputable abbrev c4 (ifs:List Expr)(env:Env):Sem Bool:=forIn ifs true λc r=>if r=true then do let ok <- isTrue c env (B3 c env);pure (ForInStep.yield ok) else pure (ForInStep.yield r)
noncomputable def fS (p:Pos)(tg:Expr)(ifs:List Expr)(inner:Sem Unit)(e:Expr)(k:Nat)(it acc:BO)(env:Env):Sem Fin:=do
 Di p
 match <- CU it with
 | none=>pure (.done .next)
 | some v =>
  Dr tg it v
  Cg tg env v
  let mut ok:=true
  for c in ifs do
   if ok then ok <- isTrue c env (B3 c env)
  if ok then inner
  again (.compLoop e k it acc env)
noncomputable def lj (elt:Expr)(acc:BO)(env:Env):Sem Unit:=do let _ <- call (.builtin "list.append") [acc,<- B3 elt env]
noncomputable def iB (e:Expr)(k:Nat)(iter:Expr)(acc:BO)(env:Env):Sem Unit:=do
 let x <- B3 iter env
 Di iter.pos
 let x <- B9 iter env x
 let _ <- runOwn (.compStart e k (<- CN [x] (Cq x)) acc env) env
theorem nA (elt tg it1:Expr)(ifs:List Expr)(scope:B0)(pos:Pos)(it acc:BO)(env:Env) :
  CS (.ListComp elt [⟨tg,it1,ifs,0⟩] scope pos) 0 it acc env=fS it1.pos tg ifs (lj elt acc env) (.ListComp elt [⟨tg,it1,ifs,0⟩] scope pos) 0 it acc env:=rfl
theorem kQ (elt tg it1 tg2 it2:Expr)(ifs ifs2:List Expr)(scope:B0)(pos:Pos)(it acc:BO)(env:Env) :
  CS (.ListComp elt [⟨tg,it1,ifs,0⟩,⟨tg2,it2,ifs2,0⟩] scope pos) 0 it acc env=fS it1.pos tg ifs (iB (.ListComp elt [⟨tg,it1,ifs,0⟩,⟨tg2,it2,ifs2,0⟩] scope pos) 1 it2 acc env) (.ListComp elt [⟨tg,it1,ifs,0⟩,⟨tg2,it2,ifs2,0⟩] scope pos) 0 it acc env:=by
 unfold CS fS iB;simp only [List.getElem?_cons_zero,List.getElem?_cons_succ,bind_assoc,pure_bind,bne_self_eq_false,false_eq_true,if_false];rfl
theorem rM (elt tg it1 tg2 it2:Expr)(ifs ifs2:List Expr)(scope:B0)(pos:Pos)(it acc:BO)(env:Env) :
  CS (.ListComp elt [⟨tg,it1,ifs,0⟩,⟨tg2,it2,ifs2,0⟩] scope pos) 1 it acc env=fS it2.pos tg2 ifs2 (lj elt acc env) (.ListComp elt [⟨tg,it1,ifs,0⟩,⟨tg2,it2,ifs2,0⟩] scope pos) 1 it acc env:=rfl
section
variable {prog:BX}{w:BY}{C:BQ}{h₀ h:BW}{σ σ':Sto}{as as':List BQ}{s s':BU}{A:BZ}{d:D}{n:Nat}{env cenv:Env}{sc sc2 scope:B0}{ρ ρ':Loc}{X Y:BQ->Prop}
theorem jv {R:C8->BU->Prop}{elt:Expr}{gens:List Cv}{pos p:Pos}{k:Nat}{tg:Expr}{ifs:List Expr}{inner:Sem Unit}{it acc:BO}
  (heq:CS (.ListComp elt gens scope pos) k it acc env=fS p tg ifs inner (.ListComp elt gens scope pos) k it acc env) (I:Nat->BU->Prop)
  (turn:∀ n s,I n s->BR (BS prog w) A (CU it) (λr s₁=>match r with
   | none=>R (.ok .next) s₁
   | some v=>BR (BS prog w) A (Dr tg it v) (λ_ s₁'=>BR (BS prog w) A (Cg tg env v) (λ_ s₂=>BR (BS prog w) A (c4 ifs env) (λok s₃ =>
      if ok=true then BR (BS prog w) A inner (λ_ s₄=>∃ m,m < n/\I m s₄) NoE s₃
      else ∃ m,m < n/\I m s₃) NoE s₂) NoE s₁') NoE s₁) NoE s)
  (n:Nat) (h:I n s):Ck (BS prog w) A (.compLoop (.ListComp elt gens scope pos) k it acc env) R s:=by
 refine codeAny_loop rfl I (λn s hI=>?_) n h;refine (?_:BR _ A ((CS (.ListComp elt gens scope pos) k it acc env).onRaise (λx=>do noteFrame x env;theTreesLotGoes x)) _ _ s);refine wpAny_noted ?_;refine heq.symm▸?_;refine BN (Cf (BN (bt (turn n s hI) λr s₁ h₁=>?_)));induction r using Option.casesOn with
 | none=>exact BP h₁
 | some v =>
  refine BN (bt h₁ λ_ s₁' h₁'=>?_);refine BN (bt h₁' λ_ s₂ h₂=>BN (bt h₂ λok s₃ h₃=>?_));induction ok using Bool.casesOn with
  | false=>exact BP ⟨rfl,h₃⟩
  | true=>exact BN (bt h₃ λ_ s₄ h₄=>BP ⟨rfl,h₄⟩)
inductive zm (h:BW)(as:List BQ)(L:BQ)(ds:List D):Prop
 | mk (vs:Array BO) (n:Nat) (e:h.get? L=some {cls:=.type "list",data:=.seq vs n}) (r:aD h as vs.toList ds):zm h as L ds
structure eC (h₀:BW)(cenv:Env)(sc:B0)(ρ:Loc)(L:BQ)(as:List BQ)(h:BW)(ds:List D):Prop where
 frm:Frm h₀ h as cenv sc ρ
 acc:zm h as L ds
 nin:L ∉ as
 new:h₀.get? L=none
noncomputable def CW (cenv:Env)(L:BQ)(b:BQ):Prop:=b=cenv.locals\/b=L
theorem eC.off {L:BQ}{ds:List D}(V:eC h₀ cenv sc ρ L as h ds):∀ a∈as,¬ CW cenv L a:=by
 rintro a ha (rfl | rfl)
 ·exact V.frm.offL.1 ha
 ·exact V.nin ha
theorem eC.there {L:BQ}{ds:List D}(V:eC h₀ cenv sc ρ L as h ds):∀ a,CW cenv L a->h.get? a≠none:=by
 rintro a (rfl | rfl)
 ·exact V.frm.wr_there (sc2:=sc) _ (.inl rfl)
 ·obtain ⟨vs,n,e,_⟩:=V.acc;refine e.symm▸?_;exact λe=>by cases e
theorem eC.ne {L:BQ}{ds:List D}(V:eC h₀ cenv sc ρ L as h ds):L≠cenv.locals:=by
 rintro rfl;obtain ⟨m,⟨o,es,ep,ho,hd,_⟩,_⟩:=V.frm.loc;obtain ⟨vs,n,e,_⟩:=V.acc;replace e:=ho▸e;cases e;cases hd
theorem eC.ne_cell {L:BQ}{ds:List D}(V:eC h₀ cenv sc ρ L as h ds){x:Str}{c:BQ}(hc:cenv.cells.lookup x=some c):c≠L:=by
 rintro rfl;obtain ⟨_,_,u,o,ho,hd⟩:=V.frm.offC x c hc;obtain ⟨vs,n,e,_⟩:=V.acc;replace e:=ho▸e;cases e;cases hd
theorem j2 {h:BW}{a:BQ}{ws:Array BO}{m:Nat}(e:h.get? a=some {cls:=.type "list",data:=.seq ws m})(vs:Array BO)(k:Nat):¬ IsT h a vs k:=by
 intro i;unfold IsT at i;rw [e] at i;have:=congrArg Obj.cls (Option.some.inj i);simp at this
theorem eC.go {L:BQ}{ds:List D}(V:eC h₀ cenv sc ρ L as s.heap ds)(G:Go X prog w C h₀ σ as s σ' as' s')(h1:¬ X cenv.locals)(h2:∀ x c,cenv.cells.lookup x=some c->¬ X c)(h3:¬ X L):eC h₀ cenv sc ρ L as' s'.heap ds:=by
 obtain ⟨vs,n,e,r⟩:=V.acc;refine ⟨V.frm.go G h1 h2,⟨vs,n,G.kp _ _ V.nin h3 e,G.repL r⟩,λhm=>?_,V.new⟩;have:=G.fresh L hm V.nin;replace this:=e▸this;cases this
theorem eC.noX {L:BQ}{ds:List D}(V:eC h₀ cenv sc ρ L as s.heap ds)(G:Go NoX prog w C h₀ σ as s σ' as' s'):eC h₀ cenv sc ρ L as' s'.heap ds:=V.go G (λx=>x) (λ_ _ _ x=>x) λx=>x
theorem Go.anyX (G:Go NoX prog w C h₀ σ as s σ' as' s')(ha:∀ a∈as,¬ Y a)(hl:∀ a,Y a->s.heap.get? a≠none):Go Y prog w C h₀ σ as s σ' as' s':=G.mono (λ_ q=>q.elim) ha hl
theorem rf {L:BQ}{ds:List D}{v:BO}{x:D}(R:Rel prog w C h₀ σ as s.heap)(V:eC h₀ cenv sc ρ L as s.heap ds)(r:Rep s.heap as v x)(hz:ds.length+1<=aQ) :
  BR (BS prog w) A (call (.builtin "list.append") [.ref L,v]) (λ_ s'=>Go (CW cenv L) prog w C h₀ σ as s σ as s'/\eC h₀ cenv sc ρ L as s'.heap (ds++[x])) NoE s:=by
 obtain ⟨vs,n,e,rr⟩:=V.acc;refine Do ⟨n,e⟩ (λh' hl hs=>?_) ?_
 ·obtain ⟨n',e'⟩:=hl;have k:∀ b o,b≠L->s.heap.get? b=some o->h'.get? b=some o:=λb o hb e=>hs.extBut b o hb e;have G0:Go (· = L) prog w C h₀ σ as s σ as {s with heap:=h'} := Go.at R rfl (λa ha e=>V.nin (e▸ha)) V.new (j2 e) k;have G:Go (CW cenv L) prog w C h₀ σ as s σ as {s with heap:=h'} := G0.mono (λb q => .inr q) V.off V.there;refine ⟨G,V.frm.go G0 (λq=>V.ne q.symm) (λx c hc q=>V.ne_cell hc q),⟨_,n',e',?_⟩,V.nin,V.new⟩;refine (Array.toList_push).symm▸?_;exact (G.repL rr).append (.cons (G.rep r) .nil)
 ·have:=be rr;have:=ct;exact eZ (be rr) (le_succ_of_le (le_of_succ_le hz))
inductive ow (prog:BX)(w:BY)(C:BQ)(h₀:BW)(cenv:Env)(sc:B0)(ρ:Loc)(L:BQ)(σ:Sto)(as:List BQ)(s:BU)(σ':Sto)(ds:List D)(s':BU):Prop
 | intro (as':List BQ) (g:Go (CW cenv L) prog w C h₀ σ as s σ' as' s') (I:eC h₀ cenv sc ρ L as' s'.heap ds):ow prog w C h₀ cenv sc ρ L σ as s σ' ds s'
section
variable (prog:BX)(w:BY)(C:BQ)(h₀:BW)(cenv:Env)(sc:B0)(ρ:Loc)(L I:BQ)(σ:Sto)(as:List BQ)(s:BU)(σ':Sto)
noncomputable def XC (b:BQ):Prop:=CW cenv L b\/b=I
inductive CpA (ds:List D)(r:C8)(s':BU):Prop
 | intro (e:r = .ok .next) (as':List BQ) (g:Go (XC cenv L I) prog w C h₀ σ as s σ' as' s') (V:eC h₀ cenv sc ρ L as' s'.heap ds):CpA ds r s'
inductive CpI (A:BZ)(src:Src)(bd:D->PM (List D))(ds:List D)(m:Nat)(s1:BU):Prop
 | intro (xs:List D) (i:Nat) (σ1:Sto) (as1:List BQ) (ds1 l1:List D) (hm:xs.length+1=m) (hi:i<=src.items.length) (hx:src.items.drop i=xs) (e:bJ src bd xs σ1=some (l1,σ')) (hds:ds1++l1=ds) (g:Go (XC cenv L I) prog w C h₀ σ as s σ1 as1 s1) (V:eC h₀ cenv sc ρ L as1 s1.heap ds1)
   (t:∀ u,src.still σ1=some (u,σ1)->Itr prog w A h₀ as1 src I s1.heap i):CpI A src bd ds m s1
end
theorem j5 {elt:Expr}{gens:List Cv}{pos p:Pos}{k:Nat}{tg:Expr}{ifs:List Expr}{inner:Sem Unit}{L I:BQ}{src:Src}{bd:D->PM (List D)}{l ds:List D}{u:Unit}
  (heq:CS (.ListComp elt gens scope pos) k (.ref I) (.ref L) cenv=fS p tg ifs inner (.ListComp elt gens scope pos) k (.ref I) (.ref L) cenv) (hI:iM cenv I) (hIL:L≠I)
  (hturn:∀ σ as s ds x v l σ1,bd x σ=some (l,σ1)->ds.length+l.length<=aQ->Rel prog w C h₀ σ as s.heap->eC h₀ cenv sc ρ L as s.heap ds->Rep s.heap as v x ->
   BR (BS prog w) A (Cg tg cenv v) (λ_ s₂=>BR (BS prog w) A (c4 ifs cenv) (λok s₃ =>
    if ok=true then BR (BS prog w) A inner (λ_ s₄=>ow prog w C h₀ cenv sc ρ L σ as s σ1 (ds++l) s₄) NoE s₃
    else ow prog w C h₀ cenv sc ρ L σ as s σ1 (ds++l) s₃) NoE s₂) NoE s)
  (R0:Rel prog w C h₀ σ as s.heap) (V0:eC h₀ cenv sc ρ L as s.heap ds) (T0:Itr prog w A h₀ as src I s.heap 0) (hz:ds.length+l.length<=aQ) (e0:bJ src bd src.items σ=some (l,σ')) (es:src.still σ'=some (u,σ')) :
  Ck (BS prog w) A (.compLoop (.ListComp elt gens scope pos) k (.ref I) (.ref L) cenv) (CpA prog w C h₀ cenv sc ρ L I σ as s σ' (ds++l)) s:=by
 have hIC:¬ CW cenv L I:=λq=>q.elim (λq=>hI.loc q.symm) λq=>hIL q.symm;refine jv heq (CpI prog w C h₀ cenv sc ρ L I σ as s σ' A src bd (ds++l)) ?_ (src.items.length+1)
  ⟨src.items,0,σ,as,ds,l,rfl,zero_le _,rfl,e0,rfl,Go.refl R0 (λa ha q=>q.elim (V0.off a ha) λe=>T0.nin (e▸ha)),V0,λ_ _=>T0⟩
 rintro m s1 ⟨xs,i,σ1,as1,ds1,l1,hm,hi,hx,e,hds,G,V,hT⟩;have hoff:=G.off;have hz1:ds1.length+l1.length<=aQ:=by (refine (length_append)▸?_;refine hds.symm▸?_;refine (length_append).symm▸?_);exact hz
 induction xs using List.casesOn with
 | nil =>
  have hq:=aC e;have h1:=hq.1;have h2:=hq.2;(replace hds:=h1▸hds;replace hds:=(append_nil _)▸hds);have T:=hT u (h2▸es);replace T:=(drop_nil hx hi)▸T;refine bt (T.done G.rel) λr s2 q=>?_;have G3:=q.2.mono (Y:=XC cenv L I) (λb q => .inr q) hoff λa q=>q.elim (V.there a) λe=>e▸T.there;refine (q.1).symm▸?_;exact ⟨rfl,as1,h2▸G.trans G3,hds▸V.go q.2 hI.loc hI.cell hIL⟩
 | cons x xs =>
  (refine fq e ?_);clear e;rintro e1 e;refine ac e λa σ3 e2 e=>?_;refine ac e λrest σ4 e3 e=>?_;have hq:=aC e;have hl1:=hq.1;have hs4:=hq.2;rw [hl1] at hds hz1;have T:=hT () e1;have hq:=iu hx;have hxi:=hq.1;have hxs:=hq.2;have hilt:i < src.items.length:=(List.getElem?_eq_some_iff.mp hxi).1;refine bt (T.next G.rel hxi) λr s2 q=>?_;obtain ⟨v,hq⟩:=q;have hr:=hq.1;have G2:=hq.2.1;have rv:=hq.2.2.1;have T2:=hq.2.2.2;refine hr.symm▸?_;have G3:=G2.mono (Y:=XC cenv L I) (λb q => .inr q) hoff λa q=>q.elim (V.there a) λe=>e▸T.there;have V2:=V.go G2 hI.loc hI.cell hIL;have hza:ds1.length+a.length<=aQ:=le_trans (add_le_add_left (by refine (length_append).symm▸?_;exact le_add_right _ _) _) hz1;have fin:∀ s3,ow prog w C h₀ cenv sc ρ L σ1 as1 s2 σ3 (ds1++a) s3->∃ m',m' < m/\CpI prog w C h₀ cenv sc ρ L I σ as s σ' A src bd (ds++l) m' s3:=by
   rintro s3 ⟨as3,G4,V4⟩;have G5:=G4.mono (Y:=XC cenv L I) (λb q => .inl q) G3.off λa q=>q.elim (V2.there a) λe=>e▸T2.there;exact ⟨xs.length+1,Nat.lt_of_lt_of_eq (lt_succ_self _) hm,xs,i+1,σ3,as3,ds1++a,rest,rfl,hilt,hxs,hs4.symm▸e3,(append_assoc _ _ _).trans hds,(G.trans G3).trans G5,V4,λu' e'=>T2.go G4 hIC e1 e'⟩
  refine T2.noOwned ?_;refine bt (hturn _ _ _ _ _ _ _ _ e2 hza G2.rel V2 rv) λ_ s3 q=>bt q λok s4 q=>?_;induction ok using Bool.casesOn with
  | false=>exact fin s4 q
  | true=>exact bt q λ_ s5 q=>fin s5 q
end
section
variable {prog:BX}{w:BY}{C:BQ}{h₀ h:BW}{σ σ':Sto}{as as':List BQ}{s s':BU}{A:BZ}{d:D}{n:Nat}{env cenv:Env}{sc sc' sc2 scope:B0}{ρ ρ' ρ0:Loc}{X Y:BQ->Prop}
noncomputable def wN (prog:BX)(w:BY)(C:BQ)(h₀:BW)(A:BZ)(cenv:Env)(sc':B0)(ifs:List Expr)(ts:Loc->PM Bool):Prop :=
 ∀ σ as s ρ b σ1,ts ρ σ=some (b,σ1)->Rel prog w C h₀ σ as s.heap->Frm h₀ s.heap as cenv sc' ρ->BR (BS prog w) A (c4 ifs cenv) (su prog w C h₀ σ as s σ1 b) NoE s
noncomputable def zf (prog:BX)(w:BY)(C:BQ)(h₀:BW)(A:BZ)(cenv:Env)(sc':B0)(elt:Expr)(el:Loc->PM D):Prop :=
 ∀ σ as s ρ d σ1,el ρ σ=some (d,σ1)->Rel prog w C h₀ σ as s.heap->Frm h₀ s.heap as cenv sc' ρ->BR (BS prog w) A (B3 elt cenv) (Ans prog w C h₀ σ as s σ1 d) NoE s
noncomputable def Ag (prog:BX)(w:BY)(C:BQ)(h₀:BW)(A:BZ)(cenv:Env)(sc':B0)(it:Expr)(sr:Loc->PM Src):Prop :=
 ∀ σ as s ρ src σ1,sr ρ σ=some (src,σ1)->Rel prog w C h₀ σ as s.heap->Frm h₀ s.heap as cenv sc' ρ->BR (BS prog w) A (B3 it cenv) (λx s1=>BR (BS prog w) A (Cq x) (gW prog w C A h₀ σ as s σ1 src) NoE s1) NoE s
structure f2 (scope sc':B0):Prop where
 fits:sI scope sc'
 none:∀ x,scope.names.lookup x≠some .cell
theorem qQ (ok:cD scope sc=true)(F:Frm h₀ h as env sc ρ):f2 scope (ay scope sc):=by
 obtain ⟨ok1,ok2⟩:=ew ok;have no:∀ x,scope.names.lookup x≠some .cell:=λx hx=>(ok2 x _ (mem_of_lookup hx)).ncell rfl;have hscS:ay scope sc=DA scope env:=by
  exact (F.scope).symm▸rfl
 refine ⟨⟨λx hx=>?_,λx hx=>absurd hx (no x)⟩,no⟩;(refine hscS.symm▸?_;refine (eh _).symm▸?_;refine hx.symm▸?_);rfl
theorem f2.wr {b L:BQ}(nc:f2 scope sc')(q:Wr scope cenv b):CW cenv L b:=by
 rcases q with q | ⟨x,q,_⟩
 ·exact .inl q
 ·exact absurd q (nc.none x)
theorem eC.less {L:BQ}{ds:List D}(V:eC h₀ cenv sc ρ' L as h ds)(hl:∀ x d,ρ.lookup x=some (some d)->ρ'.lookup x=some (some d)):eC h₀ cenv sc ρ L as h ds:=⟨V.frm.less hl,V.acc,V.nin,V.new⟩
theorem nT {tg:Expr}{x:D}{v:BO}{L:BQ}{ds:List D}(hh:A.handled=none)(nc:f2 scope sc')(R:Rel prog w C h₀ σ as s.heap)(V:eC h₀ cenv sc' ρ0 L as s.heap ds)(r:Rep s.heap as v x)(e:d4 scope tg x ρ0 σ=some (ρ',σ')) :
  BR (BS prog w) A (Cg tg cenv v) (λ_ s'=>σ'=σ/\Go (CW cenv L) prog w C h₀ σ as s σ as s'/\eC h₀ cenv sc' ρ' L as s'.heap ds) NoE s:=by
 have hq:=gN e;have e1:=hq.1;refine BV (ji hh nc.fits R V.frm r e1) (λ_ s2 q=>?_) λ_ _ q=>q;have h1:=q.1;have G:=q.2.1;have F:=q.2.2;have hL:¬ Wr scope cenv L:=λq=>by
  rcases q with q | ⟨x,q,_⟩
  ·exact V.ne q
  ·exact nc.none x q
 obtain ⟨vs,n,ea,ra⟩:=V.acc;exact ⟨h1,G.mono (λb q=>nc.wr q) V.off V.there,F,⟨vs,n,G.kp _ _ V.nin hL ea,G.repL ra⟩,V.nin,V.new⟩
theorem ik {elt tg:Expr}{ifs:List Expr}{L:BQ}{ts:Loc->PM Bool}{el:Loc->PM D}(hh:A.handled=none)(nc:f2 scope sc')(hts:wN prog w C h₀ A cenv sc' ifs ts)(hel:zf prog w C h₀ A cenv sc' elt el) :
  ∀ σ as s ds x v l σ1,(do let ρ1 <- d4 scope tg x ρ0;if <- ts ρ1 then do let v <- el ρ1;pure [v] else pure []:PM (List D)) σ=some (l,σ1)->ds.length+l.length<=aQ->Rel prog w C h₀ σ as s.heap->eC h₀ cenv sc' ρ0 L as s.heap ds->Rep s.heap as v x ->
   BR (BS prog w) A (Cg tg cenv v) (λ_ s₂=>BR (BS prog w) A (c4 ifs cenv) (λok s₃ =>
    if ok=true then BR (BS prog w) A (lj elt (.ref L) cenv) (λ_ s₄=>ow prog w C h₀ cenv sc' ρ0 L σ as s σ1 (ds++l) s₄) NoE s₃
    else ow prog w C h₀ cenv sc' ρ0 L σ as s σ1 (ds++l) s₃) NoE s₂) NoE s:=by
 intro σ as s ds x v l σ1 e hz R V r;(refine ac e ?_);clear e;rintro ρ1 σ2 e1 e;have hk:=(gN e1).2;refine BV (nT hh nc R V r e1) (λ_ s2 q=>?_) λ_ _ q=>q;have hs:=q.1;have G2:=q.2.1;have V2:=q.2.2;replace e:=hs▸e;(refine ac e ?_);clear e;rintro b σ3 e3 e;refine BV (hts _ _ _ _ _ _ e3 G2.rel V2.frm) (λok s3 q=>?_) λ_ _ q=>q;obtain ⟨rfl,as3,G3⟩:=q;have V3:=V2.noX G3;have G4:=G2.trans (G3.anyX V2.off V2.there);induction ok using Bool.casesOn with
 | false =>
  rw [if_neg (by decide)] at e;(refine aj e ?_);clear e;rw [if_neg (by decide),append_nil];exact ⟨as3,G4,V3.less hk⟩
 | true =>
  replace e:=(if_pos rfl)▸e;(refine ac e ?_);clear e;rintro y σ4 e4 e;obtain ⟨rfl,rfl⟩:=bp e;refine (if_pos rfl).symm▸?_;refine BN (BV (hel _ _ _ _ _ _ e4 G3.rel V3.frm) (λyv s4 q=>?_) λ_ _ q=>q);obtain ⟨as4,G5,ry⟩:=q;have V4:=V3.noX G5;have G6:=G4.trans (G5.anyX V3.off V3.there);refine BN (BV (rf G5.rel V4 ry (by simpa using hz)) (λ_ s5 q=>?_) λ_ _ q=>q);have G7:=q.1;have V5:=q.2;exact BP ⟨as4,G6.trans G7,V5.less hk⟩
theorem iP {R:C8->BU->Prop}{elt tg it1 tg2 it2:Expr}{ifs ifs2:List Expr}{pos:Pos}{it acc:BO}
  (h0:Ck (BS prog w) A (.compLoop (.ListComp elt [⟨tg,it1,ifs,0⟩,⟨tg2,it2,ifs2,0⟩] scope pos) 1 it acc env) R s)
  (h:BR (BS prog w) A (Cq it) (λit' s'=>Ck (BS prog w) A (.compLoop (.ListComp elt [⟨tg,it1,ifs,0⟩,⟨tg2,it2,ifs2,0⟩] scope pos) 1 it' acc env) R s')
   (notedBy (BS prog w) A env λx s'=>R (.error x) s') s) :
  Ck (BS prog w) A (.compStart (.ListComp elt [⟨tg,it1,ifs,0⟩,⟨tg2,it2,ifs2,0⟩] scope pos) 1 it acc env) R s:=by
 refine Dp ?_;refine (?_:BR _ _ ((compStart (.ListComp elt [⟨tg,it1,ifs,0⟩,⟨tg2,it2,ifs2,0⟩] scope pos) 1 it acc env).onRaise (λx=>do noteFrame x env;Di theWindowsPlace)) _ _ s);refine wpAny_notedAt ?_;refine (?_:BR _ _ (ask >>= _) _ _ s);refine BN (CJ (wpAny_ite ?_));split
 ·first
   | exact BN (BP (BP (And.intro rfl h0)))
   | exact BP (And.intro rfl h0)
 ·first
   | exact BN (C6 (BN (Cf (BN (BV h (λit' s' h'=>BP (And.intro rfl h')) λ_ _ x=>x)))))
   | (refine BN (C6 ?_);refine (?_:BR _ _ (Di it2.pos >>= _) _ _ s);exact BN (Cf (BN (BV h (λit' s' h'=>BP (And.intro rfl h')) λ_ _ x=>x))))
theorem Go.toX (G:Go NoX prog w C h₀ σ as s σ' as' s')(ha:∀ a∈as',¬ Y a):Go Y prog w C h₀ σ as s σ' as' s' :=
 ⟨G.same,G.rel,G.pre,G.fresh,ha,λb o hb _ e=>G.kp b o hb (λx=>x) e,G.tup,G.vers⟩
theorem iV {elt tg it1 tg2 it2:Expr}{ifs ifs2:List Expr}{pos:Pos}{L:BQ}{ts:Loc->PM Bool}{ts2:Loc->PM Bool}{el:Loc->PM D}{sr:Loc->PM Src}(hh:A.handled=none)(nc:f2 scope sc')(hfs:∀ x,B9 it2 cenv x=pure x)
  (hts:wN prog w C h₀ A cenv sc' ifs ts) (hts2:wN prog w C h₀ A cenv sc' ifs2 ts2) (hsr:Ag prog w C h₀ A cenv sc' it2 sr) (hel:zf prog w C h₀ A cenv sc' elt el) :
  ∀ σ as s ds x v l σ1,(do let ρ1 <- d4 scope tg x ρ0;if <- ts ρ1 then (do let src2 <- sr ρ1;let l2 <- bJ src2 (λy=>do let ρ2 <- d4 scope tg2 y ρ1;if <- ts2 ρ2 then do let v <- el ρ2;pure [v] else pure []) src2.items;src2.still;pure l2) else pure []:PM (List D)) σ=some (l,σ1) ->
   ds.length+l.length<=aQ->Rel prog w C h₀ σ as s.heap->eC h₀ cenv sc' ρ0 L as s.heap ds->Rep s.heap as v x ->
   BR (BS prog w) A (Cg tg cenv v) (λ_ s₂=>BR (BS prog w) A (c4 ifs cenv) (λok s₃ =>
    if ok=true then BR (BS prog w) A (iB (.ListComp elt [⟨tg,it1,ifs,0⟩,⟨tg2,it2,ifs2,0⟩] scope pos) 1 it2 (.ref L) cenv) (λ_ s₄=>ow prog w C h₀ cenv sc' ρ0 L σ as s σ1 (ds++l) s₄) NoE s₃
    else ow prog w C h₀ cenv sc' ρ0 L σ as s σ1 (ds++l) s₃) NoE s₂) NoE s:=by
 intro σ as s ds x v l σ1 e hz R V r;(refine ac e ?_);clear e;rintro ρ1 σ2 e1 e;have hk:=(gN e1).2;refine BV (nT hh nc R V r e1) (λ_ s2 q=>?_) λ_ _ q=>q;have hs:=q.1;have G2:=q.2.1;have V2:=q.2.2;rw [hs] at e;(refine ac e ?_);clear e;rintro b σ3 e3 e;refine BV (hts _ _ _ _ _ _ e3 G2.rel V2.frm) (λok s3 q=>?_) λ_ _ q=>q;obtain ⟨rfl,as3,G3⟩:=q;have V3:=V2.noX G3;have G4:=G2.trans (G3.anyX V2.off V2.there);induction ok using Bool.casesOn with
 | false =>
  rw [if_neg (by decide)] at e;(refine aj e ?_);clear e;rw [if_neg (by decide),append_nil];exact ⟨as3,G4,V3.less hk⟩
 | true =>
  rw [if_pos rfl] at e;(refine ac e ?_);clear e;rintro src2 σ4 e4 e;(refine ac e ?_);clear e;rintro l2 σ5 e5 e;(refine ac e ?_);clear e;rintro u σ6 e6 e;have hsame:=ck e6;rw [hsame] at e6 e;obtain ⟨rfl,rfl⟩:=aC e;rw [if_pos rfl];refine BN (BV (hsr _ _ _ _ _ _ e4 G3.rel V3.frm) (λxv s4 q=>?_) λ_ _ q=>q);refine BN (Cf (BN (C1 (hfs xv) (BN (B1 (BV q (λitv s5 q=>?_) λ_ _ q=>q))))));obtain ⟨as5,I,rfl,G5,hfree,T,hq⟩:=q;have V5:=V3.noX G5;have G6:=G4.trans (G5.anyX V3.off V3.there);have hI:iM cenv I:=V3.frm.apart_of hfree;have hIL:L≠I:=by
   rintro rfl;exact V3.there L (.inr rfl) hfree
  have loop:Ck (BS prog w) A (.compLoop (.ListComp elt [⟨tg,it1,ifs,0⟩,⟨tg2,it2,ifs2,0⟩] scope pos) 1 (.ref I) (.ref L) cenv) (λr s'=>match r with | .ok _=>ow prog w C h₀ cenv sc' ρ0 L σ as s σ1 (ds++l) s' | .error x=>cameBackBy (BS prog w) A cenv NoE x s') s5:=by
   refine Cj (j5 (rM elt tg it1 tg2 it2 ifs ifs2 scope pos (.ref I) (.ref L) cenv) hI hIL (ik hh nc hts2 hel) G5.rel V5 T hz e5 e6) λr s6 q=>?_;obtain ⟨rfl,as6,G7,V6⟩:=q;refine ⟨as6,?_,V6.less hk⟩;have hZ:∀ a∈as5,¬ (CW cenv L a\/a=I):=λa ha q=>q.elim (V5.off a ha) λe=>T.nin (e▸ha);have G8:=(G5.toX hZ).trans G7;have G9:Go (CW cenv L) prog w C h₀ σ3 as3 s3 σ1 as6 s6:=G8.drop (λb q=>q.elim (λq => .inl q) λq => .inr (by subst q;exact hfree)) V6.off;exact G4.trans G9
  refine BN (wpAny_runOwn ?_);exact iP (Cj loop λr s' q=>by
   induction r using Except.casesOn with
   | ok f=>exact BP q
   | error x=>exact q) (T.self (Cj loop λr s' q=>by
   induction r using Except.casesOn with
   | ok f=>exact BP q
   | error x=>exact q))
end
section
variable {prog:BX}{w:BY}{C:BQ}{h₀ h:BW}{σ σ':Sto}{as as':List BQ}{s s':BU}{A:BZ}{d:D}{n:Nat}{env cenv:Env}{sc sc' sc2 scope:B0}{ρ ρ' ρ0:Loc}{X Y:BQ->Prop}
theorem Go.adopt {L:BQ}{vs:Array BO}{m:Nat}{l:List D}(G:Go X prog w C h₀ σ as s σ' as' s')(hL:s.heap.get? L=none)(hn:L ∉ as')(h0:h₀.get? L=none)(hx:¬ X L)(e:s'.heap.get? L=some {cls:=.type "list",data:=.seq vs m})(r:aD s'.heap as' vs.toList l)(hz:l.length<=aQ) :
  Go X prog w C h₀ σ as s (σ'++[(.list l,0)]) (as'++[L]) s':=by
 have R:=G.rel;have kpr:as' <+: as'++[L]:=prefix_append _ _;refine ⟨G.same,⟨R.kept,by simp [R.len],?_,?_,R.sys,?_⟩,G.pre.trans kpr,?_,?_,G.kp,G.tup,?_⟩
 ·rw [nodup_append];refine ⟨R.nodup,by simp,?_⟩;intro x hxm y hy;simp only [mem_singleton] at hy;subst hy;intro e;subst e;exact hn hxm
 ·intro b hb;rcases mem_append.mp hb with hb | hb
  ·exact R.new b hb
  ·simp only [mem_singleton] at hb;subst hb;exact h0
 ·intro i o' v' b e1 e2;by_cases hi:i < σ'.length
  ·replace e1:=(List.getElem?_append_left hi)▸e1;rw [List.getElem?_append_left (by refine (R.len).symm▸?_;exact hi)] at e2;exact (R.objs i o' v' b e1 e2).kp (λ_ _ _ e=>e) kpr λo e=>e
  ·have hle:σ'.length<=i:=le_of_not_lt hi;replace e1:=(List.getElem?_append_right hle)▸e1;rw [List.getElem?_append_right (by refine (R.len).symm▸?_;exact hle),R.len] at e2;have hz0:i - σ'.length=0:=by
    have:=(List.getElem?_eq_some_iff.mp e1).1;exact Nat.lt_one_iff.mp this
   rw [hz0] at e1 e2;simp only [List.getElem?_cons_zero,Option.some.injEq] at e1 e2;cases e1;subst e2;exact .list e (r.kp (λ_ _ _ e=>e) kpr) (le_succ_of_le hz)
 ·intro b h1 h2;rcases mem_append.mp h1 with h1 | h1
  ·exact G.fresh b h1 h2
  ·simp only [mem_singleton] at h1;subst h1;exact hL
 ·intro b h1;rcases mem_append.mp h1 with h1 | h1
  ·exact G.off b h1
  ·simp only [mem_singleton] at h1;subst h1;exact hx
 ·intro i b e1;obtain ⟨h1,h2⟩:=G.vers i b e1;have hi:i < σ'.length:=by
   refine (R.len)▸?_;exact (List.getElem?_eq_some_iff.mp (getElem?_of_prefix G.pre e1)).1
  refine (fD _ _ hi).symm▸?_;exact ⟨h1,h2⟩
theorem Go.free_back {a:BQ}(G:Go NoX prog w C h₀ σ as s σ' as' s')(h1:a ∉ as')(h2:s'.heap.get? a=none):s.heap.get? a=none:=by
 cases e:s.heap.get? a with
 | none=>rfl
 | some o =>
  by_cases hm:a∈as
  ·exact absurd (G.pre.subset hm) h1
  ·have:=G.kp a o hm (λx=>x) e;replace this:=h2▸this;cases this
theorem cX (h:BW){a:BQ}(e:h.objs.size<=a):h.get? a=none:=by
 cases q:h.get? a with
 | none=>rfl
 | some o=>exact absurd (Heap.lt_size q) (not_lt.mpr e)
theorem iz {elt tg it1:Expr}{ifs:List Expr}{gens:List Cv}{pos fpos:Pos}{src:Src}{bd:D->PM (List D)}{l:List D}{σ1 σ2:Sto}{u:Unit}{use:Option (BO->Sem Unit)}{Q:BO->BU->Prop}{inner:BQ->Env->Sem Unit}
  (R:Rel prog w C h₀ σ as s.heap) (F:Frm h₀ s.heap as env sc ρ) (ok:cD scope sc=true) (hs:∀ x,B9 it1 env x=pure x)
  (hit:BR (BS prog w) A (B3 it1 env) (λx s1=>BR (BS prog w) A (Cq x) (gW prog w C A h₀ σ as s σ1 src) NoE s1) NoE s)
  (heq:∀ cenv I L,CS (.ListComp elt (⟨tg,it1,ifs,0⟩::gens) scope pos) 0 (.ref I) (.ref L) cenv=fS it1.pos tg ifs (inner L cenv) (.ListComp elt (⟨tg,it1,ifs,0⟩::gens) scope pos) 0 (.ref I) (.ref L) cenv)
  (hturn:∀ cenv L,cenv.scope=ay scope sc->f2 scope (ay scope sc)->∀ σ as s ds x v l σ1,bd x σ=some (l,σ1)->ds.length+l.length<=aQ->Rel prog w C h₀ σ as s.heap->eC h₀ cenv (ay scope sc) (bL scope ρ) L as s.heap ds->Rep s.heap as v x ->
   BR (BS prog w) A (Cg tg cenv v) (λ_ s₂=>BR (BS prog w) A (c4 ifs cenv) (λok s₃ =>
    if ok=true then BR (BS prog w) A (inner L cenv) (λ_ s₄=>ow prog w C h₀ cenv (ay scope sc) (bL scope ρ) L σ as s σ1 (ds++l) s₄) NoE s₃
    else ow prog w C h₀ cenv (ay scope sc) (bL scope ρ) L σ as s σ1 (ds++l) s₃) NoE s₂) NoE s)
  (e:bJ src bd src.items σ1=some (l,σ2)) (es:src.still σ2=some (u,σ2)) (em:mkList l σ2=some (d,σ'))
  (hpost:∀ Cl L as' s5,Go (· = Cl) prog w C h₀ σ as s σ' as' s5->s.heap.get? Cl=none->(∃ m,s5.heap.Ns Cl m)->(∃ k,d = .ref k/\as'[k]? = some L)->ED (BS prog w) A NoE use Q (.ref L) Cl (.ok .next) s5) :
  BR (BS prog w) A (DJ (.ListComp elt (⟨tg,it1,ifs,0⟩::gens) scope pos) scope env fpos (newList []) false (B3 it1 env) use) Q NoE s:=by
 have hq:=ew ok;have ok1:=hq.1;have ok2:=hq.2;have nc:=qQ ok F;have hscS:ay scope sc=DA scope env:=by
  exact (F.scope).symm▸rfl
 have hfree:∀ x,(x,NameKind.free)∈scope.names->∃ c,env.cells.lookup x=some c:=λx hx=>by
  obtain ⟨c,u,h1,_⟩:=F.cell x ((ok2 x _ hx).fre rfl).1;exact ⟨c,h1⟩
 have hclos:closureFor scope env=pure (jX env scope.names []):=by
  unfold closureFor;dsimp only;rw [oO (env:=env) _ (λx k cs=>by cases hk:k==NameKind.free <;> simp [hk]) scope.names [] hfree];rfl
 have hcell:∀ x∈scope.names,x.2 ≠ .cell:=λx hx=>(ok2 x.1 x.2 hx).ncell;have hnames:∀ x∈scope.names,x.2 = .local->scope.names.lookup x.1=some .local:=λx hx=>(ok2 x.1 x.2 hx).loc;refine wpAny_comprehension_free rfl hs hclos ok1 hnames (BV hit (λxv s1 q=>BV q (λitv s2 q=>?_) λ_ _ q=>q) λ_ _ q=>q);obtain ⟨as2,I,rfl,G,hIfree,T,hlen,⟨u2,hst⟩⟩:=q;have R2:=G.rel;have F2:=F.noX G;refine B4 (wpAny_newFunctionEnv hcell (by intro y hy;simp at hy) (λh₁ hns₁ hsb₁=>?_) ok1);dsimp only at hns₁ hsb₁ ⊢;generalize hH2:s2.heap.push {cls:=.type "list",dict:=none,data:=.seq ([]:List BO).toArray} = H2 at hns₁ hsb₁ ⊢;have hC:H2.objs.size=s2.heap.objs.size+1:=by (refine hH2▸?_;exact (Heap.size_push _ _).symm▸rfl)
 have hLC:s2.heap.objs.size≠H2.objs.size:=by refine hC.symm▸?_;exact ne_of_lt (lt_succ_self _)
 have old:∀ b o,s2.heap.get? b=some o->h₁.get? b=some o:=λb o e=>hsb₁.extBut b o (by refine hC.symm▸?_;exact ne_of_lt (lt_succ_of_lt (Heap.lt_size e))) (Heap.get?_push_of_some _ (hH2▸Heap.get?_push_of_some _ e));have hacc:h₁.get? s2.heap.objs.size=some {cls:=.type "list",data:=.seq ([]:List BO).toArray} := hsb₁.extBut _ _ hLC (Heap.get?_push_of_some _ (hH2▸Heap.get?_push_size _ rfl));have C0:s2.heap.get? H2.objs.size=none:=cX _ (by refine hC.symm▸?_;exact le_succ _);have Cn:H2.objs.size ∉ as2:=λhm=>by
  obtain ⟨k,hq⟩:=mem_iff_getElem.mp hm;have hk:=hq.1;have ek:=hq.2;have hk':k < σ1.length:=by refine (R2.len)▸?_;exact hk
  obtain ⟨ob,hq⟩:=(R2.objs k σ1[k].1 σ1[k].2 _ (List.getElem?_eq_getElem hk') (by rw [List.getElem?_eq_getElem hk,ek])).get;have eb:=hq.1;replace eb:=C0▸eb;cases eb
 have Ch:h₀.get? H2.objs.size=none:=by
  cases q:h₀.get? H2.objs.size with
  | none=>rfl
  | some o=>have:=R2.kept _ _ q;replace this:=C0▸this;cases this
 have G1:Go NoX prog w C h₀ σ1 as2 s2 σ1 as2 {s2 with heap:=h₁,toks:=s2.toks+([]:List (Str×BO)).length} := Go.grow R2 old (λ_ _ x=>x);have F3:Frm h₀ h₁ as2 env sc ρ:=F2.noX G1
 let cenv:Env:={newEnv scope H2.objs.size env.globals (jX env scope.names []) env.qual none .none (some env) 0 with scope:=DA scope env}
 have V:eC h₀ cenv (ay scope sc) (bL scope ρ) s2.heap.objs.size as2 h₁ []:=by
  refine ⟨F3.comp (cl:=jX env scope.names []) ok rfl rfl rfl rfl rfl rfl hns₁ Cn Ch,⟨_,_,hacc,.nil⟩,dX R2,ju R2⟩
 have T1:=T.go G1 (λx=>x) hst hst;have hI:iM cenv I:=by
  refine ⟨?_,λx c hc=>?_⟩
  ·rintro rfl;exact T.there C0
  ·exact (F.apart_of hIfree).cell x c (by
    exact ny scope.names [] x c hfree (λ_ _ h=>(nomatch h)) (mem_of_lookup hc))
 have hIL:s2.heap.objs.size≠I:=by
  rintro rfl;exact T.there (aR _)
 obtain ⟨hz,rfl,rfl⟩:=bH em;have loop:Ck (BS prog w) A (.compLoop (.ListComp elt (⟨tg,it1,ifs,0⟩::gens) scope pos) 0 (.ref I) (.ref s2.heap.objs.size) cenv) (ED (BS prog w) A NoE use Q (.ref s2.heap.objs.size) H2.objs.size) {s2 with heap:=h₁,toks:=s2.toks+([]:List (Str×BO)).length} := by
  refine Cj (j5 (heq cenv I s2.heap.objs.size) hI hIL (hturn cenv s2.heap.objs.size hscS.symm nc) G1.rel V T1 (by simpa using hz) e es) λr s5 q=>?_;obtain ⟨rfl,as5,G5,V5⟩:=q;replace V5:=(nil_append _)▸V5;obtain ⟨vs,n,ea,ra⟩:=V5.acc;have hZ:∀ a∈as2,¬ (CW cenv s2.heap.objs.size a\/a=I):=λa ha q=>q.elim (V.off a ha) λe=>T1.nin (e▸ha);have G6:=((G.trans G1).toX hZ).trans G5;have C0':=G.free_back Cn C0;have L0':=G.free_back (dX R2) (aR _);have G7:Go (· = H2.objs.size) prog w C h₀ σ as s σ2 as5 s5:=G6.drop (λb q=>by
   rcases q with (q | q) | q
   ·exact .inl q
   ·exact .inr (by refine q.symm▸?_;exact L0')
   ·exact .inr (by refine q.symm▸?_;exact hIfree)) λa ha q=>V5.off a ha (.inl q)
  have G8:=G7.adopt L0' V5.nin V5.new (λq=>hLC q) ea ra hz;obtain ⟨m,hm,_⟩:=V5.frm.loc;exact hpost H2.objs.size s2.heap.objs.size _ s5 G8 C0' ⟨m,hm⟩ ⟨_,rfl,by refine (G7.rel.len)▸?_;simp⟩
 exact codeAny_compStart_list loop (T1.self loop)
theorem Go.leave {Cl:BQ}{m:Str->Option BO}{h':BW}(G:Go (· = Cl) prog w C h₀ σ as s σ' as' s')(h1:s.heap.get? Cl=none)(hm:s'.heap.Ns Cl m)(hs:Heap.SameBut Cl s'.heap h')(R:Rel prog w C h₀ σ as s.heap) :
  Go NoX prog w C h₀ σ as s σ' as' {s' with heap:=h'} := by
 have h0:h₀.get? Cl=none:=by
  cases q:h₀.get? Cl with
  | none=>rfl
  | some o=>have:=R.kept _ _ q;replace this:=h1▸this;cases this
 have G2:Go (· = Cl) prog w C h₀ σ' as' s' σ' as' {s' with heap:=h'} := Go.at G.rel rfl G.off h0 (fP hm) λb o hb e=>hs.extBut b o hb e;exact (G.trans G2).drop (λb q => .inr (by subst q;exact h1)) (λ_ _ x=>x)
theorem sk {elt tg it1:Expr}{ifs:List Expr}{gens:List Cv}{pos:Pos}{src:Src}{bd:D->PM (List D)}{l:List D}{σ1 σ2:Sto}{u:Unit}{inner:BQ->Env->Sem Unit}
  (R:Rel prog w C h₀ σ as s.heap) (F:Frm h₀ s.heap as env sc ρ) (ok:cD scope sc=true) (hs:∀ x,B9 it1 env x=pure x)
  (hit:BR (BS prog w) A (B3 it1 env) (λx s1=>BR (BS prog w) A (Cq x) (gW prog w C A h₀ σ as s σ1 src) NoE s1) NoE s)
  (heq:∀ cenv I L,CS (.ListComp elt (⟨tg,it1,ifs,0⟩::gens) scope pos) 0 (.ref I) (.ref L) cenv=fS it1.pos tg ifs (inner L cenv) (.ListComp elt (⟨tg,it1,ifs,0⟩::gens) scope pos) 0 (.ref I) (.ref L) cenv)
  (hturn:∀ cenv L,cenv.scope=ay scope sc->f2 scope (ay scope sc)->∀ σ as s ds x v l σ1,bd x σ=some (l,σ1)->ds.length+l.length<=aQ->Rel prog w C h₀ σ as s.heap->eC h₀ cenv (ay scope sc) (bL scope ρ) L as s.heap ds->Rep s.heap as v x ->
   BR (BS prog w) A (Cg tg cenv v) (λ_ s₂=>BR (BS prog w) A (c4 ifs cenv) (λok s₃ =>
    if ok=true then BR (BS prog w) A (inner L cenv) (λ_ s₄=>ow prog w C h₀ cenv (ay scope sc) (bL scope ρ) L σ as s σ1 (ds++l) s₄) NoE s₃
    else ow prog w C h₀ cenv (ay scope sc) (bL scope ρ) L σ as s σ1 (ds++l) s₃) NoE s₂) NoE s)
  (e:bJ src bd src.items σ1=some (l,σ2)) (es:src.still σ2=some (u,σ2)) (em:mkList l σ2=some (d,σ')) :
  BR (BS prog w) A (B3 (.ListComp elt (⟨tg,it1,ifs,0⟩::gens) scope pos) env) (Ans prog w C h₀ σ as s σ' d) NoE s:=by
 rw [arm_eval_ListComp];refine iz R F ok hs hit heq hturn e es em λCl L as' s5 G h1 hm r=>?_;obtain ⟨m,hm⟩:=hm;refine ⟨m,hm,λh' hs'=>?_⟩;have G2:=G.leave h1 hm hs' R;obtain ⟨k,rfl,hk⟩:=r;exact ⟨as',G2,.ref hk⟩
end
section
variable {prog:BX}{w:BY}{C:BQ}{h₀ h:BW}{σ σ':Sto}{as as':List BQ}{s s':BU}{A:BZ}{d:D}{n:Nat}
theorem e9 {d:D}{v:BO}{h':BW}{tk:Nat}(R:Rel prog w C h₀ σ as s.heap)(k:∀ b o,s.heap.get? b=some o->h'.get? b=some o)(r:Rep h' as v d):Ans prog w C h₀ σ as s σ d v {s with heap:=h',toks:=tk} :=
 ⟨as,Go.grow R k (λ_ _ x=>x),r⟩
theorem Rep.grow {v:BO}(r:Rep h as v d){h':BW}(k:∀ b o,h.get? b=some o->h'.get? b=some o):Rep h' as v d:=r.kp (λ_ _ _ e=>k _ _ e) (prefix_refl _)
theorem aD.grow {vs:List BO}{l:List D}(r:aD h as vs l){h':BW}(k:∀ b o,h.get? b=some o->h'.get? b=some o):aD h' as vs l:=r.kp (λ_ _ _ e=>k _ _ e) (prefix_refl _)
theorem oS {vs:Array BO}{l:List D}{h':BW}(R:Rel prog w C h₀ σ as s.heap)(k:∀ b o,s.heap.get? b=some o->h'.get? b=some o)(r:aD s.heap as vs.toList l)(z:l.length<=aQ)(tk:Nat) :
  Ans prog w C h₀ σ as s σ (.tup l) (.ref h'.objs.size) {s with heap:=h'.push {cls:=.type "tuple",data:=.seq vs},toks:=tk} := by
 have k2:∀ b o,s.heap.get? b=some o->(h'.push {cls:=.type "tuple",data:=.seq vs}).get? b=some o:=λb o e=>Heap.get?_push_of_some _ (k b o e);exact e9 R k2 (.tup (Heap.get?_push_size _ rfl) z (r.grow k2))
theorem lP {vs:Array BO}{l:List D}{h':BW}{c:Nat}{L:BQ}(R:Rel prog w C h₀ σ as s.heap)(k:∀ b o,s.heap.get? b=some o->h'.get? b=some o)(r:aD s.heap as vs.toList l)(z:l.length<=aQ)(hL:s.heap.get? L=none)
  (e:h'.get? L=some {cls:=.type "list",dict:=none,data:=.seq vs c,slots:=#[]}) (tk:Nat):Ans prog w C h₀ σ as s (σ++[(.list l,0)]) (.ref σ.length) (.ref L) {s with heap:=h',toks:=tk} :=
 ⟨as++[L],Go.push R k hL (.list e (r.kp (λ_ _ _ e=>k _ _ e) (prefix_append _ _)) (le_succ_of_le z)),R.newRef _ _⟩
theorem qm {n:Nat}(h:n<=aQ+1):(n:Int) < 2 ^ 63:=by
 exact (Int.ofNat_lt.mpr (lt_of_le_of_lt h (by decide)):(n:Int) < (2 ^ 63:Nat))
theorem vJ {a:D}{v:BO}(R:Rel prog w C h₀ σ as s.heap)(r:Rep s.heap as v a)(e:A4 a σ=some (d,σ')) :
  BR (BS prog w) A (call (.builtin "len") [v]) (Ans prog w C h₀ σ as s σ' d) NoE s:=by
 induction a using D.casesOn with
 | tup l =>
  (refine aj e ?_);clear e;cases r.tupI with
  | @mk t vs n ht hz rr=>exact PySem.P.len_tuple ht (Int.not_le.mpr (be rr▸qm (le_succ_of_le hz))) (be rr▸bQ R _ _ _)
 | ref k =>
  (refine bj e ?_);clear e;rintro l _ hx e;(refine aj e ?_);clear e;cases r.refI with
  | mk ka =>
  cases (R.objs _ _ _ _ hx ka).listI with
  | @mk vs n g rr z=>exact call_len_list ⟨_,g,rfl,_,rfl⟩ (be rr▸qm z) (be rr▸bQ R _ _ _)
 | _=>exact af (σ:=σ) e
theorem wt {a:D}{v:BO}(R:Rel prog w C h₀ σ as s.heap)(r:Rep s.heap as v a)(e:intB a σ=some (d,σ')) :
  BR (BS prog w) A (call (.type "int") [v]) (Ans prog w C h₀ σ as s σ' d) NoE s:=by
 induction a using D.casesOn with
 | int i =>
  (refine aj e ?_);clear e;cases r.intI;exact call_int_int (c5 R (.int _ _))
 | bool b =>
  (refine aj e ?_);clear e;cases r.boolI;exact call_int_bool (bQ R _ _ _)
 | _=>exact af (σ:=σ) e
inductive uM (h:BW)(as:List BQ)(l:List D):BO->Prop
 | mk (t:BQ) (T:String) (vs:Array BO) (n:Nat) (o:Obj) (hT:T="list"\/T="tuple") (ho:h.get? t=some o) (hc:o.cls = .type T) (hd:o.data = .seq vs n) (rr:aD h as vs.toList l) (z:l.length<=aQ+1):uM h as l (.ref t)
theorem pu {a:D}{v:BO}{l:List D}(R:Rel prog w C h₀ σ as s.heap)(r:Rep s.heap as v a)(e:oD a σ=some (l,σ')):σ'=σ/\uM s.heap as l v:=by
 induction a using D.casesOn with
 | tup m =>
  (refine aj e ?_);clear e;cases r.tupI with
  | @mk t vs n ht hz rr=>exact ⟨rfl,t,"tuple",vs,n,_,.inr rfl,ht,rfl,rfl,rr,le_succ_of_le hz⟩
 | ref k =>
  obtain ⟨⟨_,hx⟩,rfl⟩:=iY e;cases r.refI with
  | @mk t ka =>
  cases (R.objs _ _ _ _ hx ka).listI with
  | @mk vs n g rr z=>exact ⟨rfl,t,"list",vs,n,_,.inl rfl,g,rfl,rfl,rr,z⟩
 | _=>exact af (σ:=σ) e
theorem pR {a:D}{v:BO}(R:Rel prog w C h₀ σ as s.heap)(r:Rep s.heap as v a)(e:vE a σ=some (d,σ')) :
  BR (BS prog w) A (call (.type "tuple") [v]) (Ans prog w C h₀ σ as s σ' d) NoE s:=by
 induction a using D.casesOn with
 | tup l =>
  (refine aj e ?_);clear e;cases r.tupI with
  | @mk t vs n ht hz rr=>exact call_tuple_same ⟨_,ht,rfl,_,rfl⟩ (c5 R (.tup ht hz rr))
 | ref k =>
  (refine bj e ?_);clear e;rintro l _ hx e;obtain ⟨z,rfl,rfl⟩:=dz e;cases r.refI with
  | mk ka =>
  cases (R.objs _ _ _ _ hx ka).listI with
  | @mk vs n g rr z'=>exact call_tuple_list ⟨_,g,rfl,_,rfl⟩ (λh' k=>oS R k rr z s.toks) (be rr▸le_trans (le_trans z' (le_add_right _ _)) ct)
 | _=>exact af (σ:=σ) e
theorem tI {a:D}{v:BO}(R:Rel prog w C h₀ σ as s.heap)(r:Rep s.heap as v a)(e:yH a σ=some (d,σ')) :
  BR (BS prog w) A (call (.type "list") [v]) (Ans prog w C h₀ σ as s σ' d) NoE s:=by
 (refine ac e ?_);clear e;rintro l σ1 e1 e;obtain ⟨z,rfl,rfl⟩:=bH e;obtain ⟨rfl,q⟩:=pu R r e1;obtain ⟨t,T,vs,n,o,hT,ho,hc,hd,rr,z'⟩:=q;exact call_list_seq t hT ho hc hd (λh' c' k e=>lP R k rr z (aR _) e s.toks) (be rr▸le_trans (le_trans z' (le_add_right _ _)) ct)
theorem iF {β:Type}{a:D}{v:BO}{f:List D->PM β}{x:β}{P:BO->Prop}(R:Rel prog w C h₀ σ as s.heap)(r:Rep s.heap as v a)(e:(qb a >>= f) σ=some (x,σ'))
  (k:∀ t vs n l,s.heap.get? t=some ({cls:=.type "list",data:=.seq vs n} : Obj)->aD s.heap as vs.toList l->l.length<=aQ+1->f l σ=some (x,σ')->P (.ref t)):P v:=by
 induction a using D.casesOn with
 | ref j =>
  (refine bj e ?_);clear e;rintro l _ hx e;cases r.refI with
  | mk ka =>
  cases (R.objs _ _ _ _ hx ka).listI with
  | @mk vs n g rr z=>exact k _ vs n l g rr z e
 | _=>exact af (σ:=σ) e
theorem kX {vs:List BO}{l:List D}(rr:aD h as vs l){bs:List Bool}(e:dj l=some bs):LSm.BoolsAre vs bs:=by
 induction l generalizing vs bs with
 | nil=>cases rr.nilI;exact Option.some.inj e ▸ .nil
 | cons x l ih =>
  cases rr.consI with
  | mk a b =>
  induction x using D.casesOn with
  | bool c =>
   obtain ⟨cs,hb,e⟩:=map_eq_some_iff.mp e;cases a.boolI;exact e ▸ .cons c (ih b hb)
  | _=>exact an e
theorem wZ {a:D}{v:BO}(hh:A.handled=none)(R:Rel prog w C h₀ σ as s.heap)(r:Rep s.heap as v a)(e:Bi a σ=some (d,σ')) :
  BR (BS prog w) A (call (.builtin "any") [v]) (Ans prog w C h₀ σ as s σ' d) NoE s:=by
 refine iF (P:=λv=>BR (BS prog w) A (call (.builtin "any") [v]) (Ans prog w C h₀ σ as s σ' d) NoE s) R r e λt vs n l g rr z e=>?_;(refine aP e ?_);clear e;rintro bs hb e;(refine aj e ?_);clear e;have hB:=kX rr hb;have hl:s.heap.IsList t vs:=⟨_,g,rfl,_,rfl⟩;refine call_any_walk (CB hl ?_);refine ⟨s.heap.objs.size,[s.heap.objs.size,t],[s.heap.objs.size],vs.size,_,_,λi=>(bs[i]?).getD false,rfl,Walks.list (A:=A.in1) hh _ t (ne_of_lt (Heap.lt_size g)) vs,
  ⟨⟨_,Heap.get?_push_size _ rfl,rfl,rfl⟩,hl.push _⟩,λi v s' Q' E' hP hQ=>?_,λh' tk hk=>?_⟩
 ·obtain ⟨b,e,rfl⟩:=hB.get i v (Array.getElem?_toList.trans hP);exact CD ((e▸hQ:Q' ((some b).getD false) s'))
 ·rw [show ((List.range vs.size).any λi=>(bs[i]?).getD false)=bs.any (λb=>b) by (refine (length_toList)▸?_;refine (hB.length).symm▸?_);exact LSm.range_any bs];exact e9 R (λb o e=>hk b o (λq=>ne_of_lt (Heap.lt_size e) (List.eq_of_mem_singleton q)) (Heap.get?_push_of_some _ e)) (.bool _)
theorem vQ {a:D}{v:BO}(hh:A.handled=none)(R:Rel prog w C h₀ σ as s.heap)(r:Rep s.heap as v a)(e:Bt a σ=some (d,σ')) :
  BR (BS prog w) A (call (.builtin "all") [v]) (Ans prog w C h₀ σ as s σ' d) NoE s:=by
 refine iF (P:=λv=>BR (BS prog w) A (call (.builtin "all") [v]) (Ans prog w C h₀ σ as s σ' d) NoE s) R r e λt vs n l g rr z e=>?_;(refine aP e ?_);clear e;rintro bs hb e;(refine aj e ?_);clear e;have hB:=kX rr hb;have hl:s.heap.IsList t vs:=⟨_,g,rfl,_,rfl⟩;refine call_all_walk (CB hl ?_);refine ⟨s.heap.objs.size,[s.heap.objs.size,t],[s.heap.objs.size],vs.size,_,_,λi=>(bs[i]?).getD true,rfl,Walks.list (A:=A.in1) hh _ t (ne_of_lt (Heap.lt_size g)) vs,
  ⟨⟨_,Heap.get?_push_size _ rfl,rfl,rfl⟩,hl.push _⟩,λi v s' Q' E' hP hQ=>?_,λh' tk hk=>?_⟩
 ·obtain ⟨b,e,rfl⟩:=hB.get i v (Array.getElem?_toList.trans hP);exact CD ((e▸hQ:Q' ((some b).getD true) s'))
 ·rw [show ((List.range vs.size).all λi=>(bs[i]?).getD true)=bs.all (λb=>b) by (refine (length_toList)▸?_;refine (hB.length).symm▸?_);exact LSm.range_all bs];exact e9 R (λb o e=>hk b o (λq=>ne_of_lt (Heap.lt_size e) (List.eq_of_mem_singleton q)) (Heap.get?_push_of_some _ e)) (.bool _)
theorem ti {vs:List BO}{l:List D}(rr:aD h as vs l){is:List Int}(e:cb l=some is):∃ xs:List (Int×Tok),vs=xs.map (λp => .int p.1 p.2)/\xs.map (·.1)=is:=by
 induction l generalizing vs is with
 | nil=>cases rr.nilI;exact ⟨[],rfl,Option.some.inj e⟩
 | cons x l ih =>
  cases rr.consI with
  | mk a b =>
  induction x using D.casesOn with
  | int i =>
   obtain ⟨cs,hq⟩:=map_eq_some_iff.mp e;have hb:=hq.1;have e:=hq.2;cases a.intI with
   | mk t =>
   obtain ⟨xs,hq⟩:=ih b hb;have h1:=hq.1;have h2:=hq.2;exact ⟨(i,t)::xs,h1▸rfl,e▸h2▸rfl⟩
  | _=>exact an e
theorem wX {a:D}{v:BO}(hh:A.handled=none)(R:Rel prog w C h₀ σ as s.heap)(r:Rep s.heap as v a)(e:BG a σ=some (d,σ')) :
  BR (BS prog w) A (call (.builtin "sum") [v]) (Ans prog w C h₀ σ as s σ' d) NoE s:=by
 refine iF (P:=λv=>BR (BS prog w) A (call (.builtin "sum") [v]) (Ans prog w C h₀ σ as s σ' d) NoE s) R r e λt vs n l g rr z e=>?_;(refine aP e ?_);clear e;rintro is hi e;refine ai e λ_ e=>?_;(refine aj e ?_);clear e;obtain ⟨xs,hq⟩:=ti rr hi;have h1:=hq.1;have h2:=hq.2;have hv:vs=intItems xs.toArray:=by
  unfold intItems;apply Array.toList_inj.mp;rw [h1];simp
 refine sum_intListG hh ⟨_,g,rfl,_,by rw [hv]⟩ λh' tk t' k=>?_;rw [show preSum (numAt xs.toArray) xs.toArray.size=is.foldl (· + ·) 0 by
  rw [preSum_eq,take_of_length_le (by simp)];refine (?_:(xs.map (·.1)).sum=_);refine h2.symm▸?_;exact List.sum_eq_foldl]
 exact e9 R k (.int _ _)
theorem sW:(∀ d:D,∀ p,d.py=some p->p.hasDict=false)/\∀ l:List D,∀ ps,D.pys l=some ps->PyData.hasDictAll ps=false:=by
 refine D.both (λp e=>Option.some.inj e▸rfl) (λ_ p e=>Option.some.inj e▸rfl) (λ_ p e=>Option.some.inj e▸rfl) (λ_ p e=>Option.some.inj e▸rfl) (λl ih p e=>?_) (λ_ _ e=>an e) (λp e=>Option.some.inj e▸rfl) λd l h1 h2 ps e=>?_
 ·obtain ⟨ps,hp,e⟩:=map_eq_some_iff.mp e;exact e▸ih ps hp
 ·obtain ⟨a,e1,e⟩:=bind_eq_some_iff.mp e;obtain ⟨b,e2,e⟩:=map_eq_some_iff.mp e;rw [<- e,PyData.hasDictAll,h1 a e1,h2 b e2];rfl
theorem D.noDict {d:D}{p:Ca}(e:d.py=some p):p.hasDict=false:=sW.1 d p e
theorem ug {a:D}{v:BO}(hr:dP A n)(R:Rel prog w C h₀ σ as s.heap)(r:Rep s.heap as v a)(e:x9 a σ=some (d,σ')) :
  BR (BS prog w) A (call (.builtin "repr") [v]) (Ans prog w C h₀ σ as s σ' d) NoE s:=by
 induction a using D.casesOn with
 | tup l =>
  (refine aP e ?_);clear e;rintro p hp e;refine ai e λhm e=>?_;(refine aj e ?_);clear e;have hm:=and_eq_true_iff.mp hm;have hm1:=and_eq_true_iff.mp hm.1;have hdp:=of_decide_eq_true hm.2;obtain ⟨bs,hR⟩:=r.reads hp;cases r.tupI with
  | @mk t vs n ht hz rr =>
  refine repr_of_reads' hR hm1.1 (λhd=>Bool.noConfusion ((D.noDict hp).symm.trans hd)) hr.guards ?_ (λ_ _ e=>e) (λh' u tk k=>e9 R k (.str _ _)) (of_decide_eq_true hm1.2);have:=hr.units;exact fW (.a (.a (.v 0) (.a (.v 1) (.n 1))) (.n 1)) (.v 2) [(1,.v 1,.n 64),(1,(.a (.a (.a (.v 0) (.n 100)) (.m 40 (.v 3))) (.n 1)),.v 2)] rfl hdp this
 | _=>exact af (σ:=σ) e
end
section
variable {prog:BX}{w:BY}{C:BQ}{h₀ h:BW}{σ σ':Sto}{as as':List BQ}{s s':BU}{A:BZ}{d:D}{n:Nat}
section
variable {K:Type}[DecidableEq K]
structure fc (h:BW)(as:List BQ)(kvs:List (K×BO))(l:List (K×D)):Prop where
 keys:kvs.map (·.1)=l.map (·.1)
 vals:aD h as (kvs.map (·.2)) (l.map (·.2))
theorem fc.length {kvs:List (K×BO)}{l:List (K×D)}(b:fc h as kvs l):kvs.length=l.length:=by simpa using congrArg List.length b.keys
theorem fc.cons_inv {p:K×BO}{kvs:List (K×BO)}{l:List (K×D)}(b:fc h as (p::kvs) l):∃ d r,l=(p.1,d)::r/\Rep h as p.2 d/\fc h as kvs r:=by
 induction l using List.casesOn with
 | nil=>exact absurd b.keys (by simp)
 | cons q r =>
  have k:=b.1;have v:=b.2;simp only [map_cons,List.cons.injEq] at k;cases v.consI with
  | mk r1 r2=>exact ⟨q.2,r,(k.1).symm▸rfl,r1,k.2,r2⟩
theorem fc.map {kvs:List (K×BO)}{k:K}{v:BO}{d:D}(r:Rep h as v d):∀ {l:List (K×D)},fc h as kvs l->fc h as (kvs.map λp=>if p.1=k then (p.1,v) else p) (l.map λp=>if p.1=k then (p.1,d) else p):=by
 induction kvs with
 | nil =>
  intro l b;induction l using List.casesOn with
  | nil=>exact b
  | cons _ _=>exact absurd b.keys (by simp)
 | cons p kvs ih =>
  intro l b;obtain ⟨e,l',rfl,r1,b1⟩:=b.cons_inv;obtain ⟨k1,v1⟩:=ih b1;simp only [map_cons];by_cases hp:p.1=k
  ·rw [if_pos hp,if_pos hp];exact ⟨by simp only [map_cons];rw [k1],.cons r v1⟩
  ·rw [if_neg hp,if_neg hp];exact ⟨by simp only [map_cons];rw [k1],.cons r1 v1⟩
theorem fc.any {kvs:List (K×BO)}{l:List (K×D)}(b:fc h as kvs l)(k:K):kvs.any (λp=>p.1=k)=l.any (λp=>p.1=k):=by
 have h1:kvs.any (λp=>p.1=k)=(kvs.map (·.1)).any λx=>decide (x=k):=by rw [any_map];rfl
 have h2:l.any (λp=>p.1=k)=(l.map (·.1)).any λx=>decide (x=k):=by rw [any_map];rfl
 rw [h1,h2,b.keys]
theorem fc.put {kvs:List (K×BO)}{l:List (K×D)}{k:K}{v:BO}{d:D}(b:fc h as kvs l)(r:Rep h as v d):fc h as (Cx kvs k v) (put k d l):=by
 unfold Cx Mine.put;rw [<- b.any k];split
 ·exact fc.map r b
 ·refine ⟨?_,?_⟩
  ·rw [map_append,map_append,b.keys];rfl
  ·rw [map_append,map_append];exact b.vals.append (.cons r .nil)
theorem fc.drop {kvs:List (K×BO)}{k:K} : ∀ {l:List (K×D)},fc h as kvs l->fc h as (without kvs k) (di k l):=by
 induction kvs with
 | nil =>
  intro l b;induction l using List.casesOn with
  | nil=>exact b
  | cons _ _=>exact absurd b.keys (by simp)
 | cons p kvs ih =>
  intro l b;obtain ⟨e,l',rfl,r1,b1⟩:=b.cons_inv;obtain ⟨k1,v1⟩:=ih b1;unfold without di;rw [filter_cons,filter_cons];by_cases hp:p.1=k
  ·rw [if_neg (by simpa using hp),if_neg (by simpa using hp)];exact ⟨k1,v1⟩
  ·rw [if_pos (by simpa using hp),if_pos (by simpa using hp)];refine ⟨?_,.cons r1 v1⟩;simp only [map_cons];exact congrArg _ k1
theorem bG {l:List (K×D)}(k:K)(d:D):(put k d l).length<=l.length+1:=by
 unfold put;split
 ·rw [length_map];exact le_succ _
 ·rw [length_append];exact le_refl _
theorem tQ {l:List (K×D)}{k:K}{d:D}{p:K×D}(hp:p∈put k d l):p.1=k\/∃ q∈l,q.1=p.1:=by
 unfold put at hp;split at hp
 ·obtain ⟨q,hq,rfl⟩:=mem_map.mp hp;refine .inr ⟨q,hq,?_⟩;split <;> rfl
 ·rcases mem_append.mp hp with hp | hp
  ·exact .inr ⟨p,hp,rfl⟩
  ·simp only [mem_singleton] at hp;subst hp;exact .inl rfl
theorem ma {l:List (K×D)}(k:K):(di k l).length<=l.length:=length_filter_le _ _
theorem fc.go {kvs:List (K×BO)}{l:List (K×D)}(b:fc h as kvs l){h':BW}(nt:∀ a vs n,IsT h a vs n->IsT h' a vs n):fc h' as kvs l:=⟨b.keys,b.vals.kp nt (prefix_refl _)⟩
theorem qo {xs:List (K×BQ×BO)}{l:List (K×D)}{k:K}{a:BQ}{v:BO}{d:D}(hk:xs.map (·.1)=l.map (·.1))(hv:aD h as (xs.map (·.2.2)) (l.map (·.2)))(r:Rep h as v d) :
  (C2 xs k a v).map (·.1)=(put k d l).map (·.1)/\aD h as ((C2 xs k a v).map (·.2.2)) ((put k d l).map (·.2)):=by
 have b:fc h as (xs.map λx=>(x.1,x.2.2)) l:=⟨by rw [List.map_map];exact hk,by rw [List.map_map];exact hv⟩;have hb:=b.put (k:=k) r;have hany:(atKey xs k).isSome=(xs.map λx=>(x.1,x.2.2)).any (λp=>p.1=k):=by
  unfold atKey;rw [Option.isSome_map,any_map,Bool.eq_iff_iff,List.find?_isSome,any_eq_true];rfl
 have e:(C2 xs k a v).map (λx=>(x.1,x.2.2))=Cx (xs.map λx=>(x.1,x.2.2)) k v:=by
  unfold C2 Cx;rw [hany];split
  ·rw [List.map_map,List.map_map];apply map_congr_left;intro x _;show ((putAt k v x).1,(putAt k v x).2.2)=if x.1=k then (x.1,v) else (x.1,x.2.2)
   unfold putAt;split <;> rfl
  ·rw [map_append];rfl
 have e1:(C2 xs k a v).map (·.1)=(Cx (xs.map λx=>(x.1,x.2.2)) k v).map (·.1):=by rw [<- e,List.map_map];rfl
 have e2:(C2 xs k a v).map (·.2.2)=(Cx (xs.map λx=>(x.1,x.2.2)) k v).map (·.2):=by rw [<- e,List.map_map];rfl
 rw [e1,e2];exact ⟨hb.keys,hb.vals⟩
theorem mN {xs:List (K×BQ×BO)}{k:K}{a:BQ}{v:BO}{x:K×BQ×BO}(hx:x∈C2 xs k a v):x.2.1=a\/∃ y∈xs,y.2.1=x.2.1:=by
 unfold C2 at hx;split at hx
 ·obtain ⟨y,hy,rfl⟩:=mem_map.mp hx;refine .inr ⟨y,hy,?_⟩;unfold putAt;split <;> rfl
 ·rcases mem_append.mp hx with hx | hx
  ·exact .inr ⟨x,hx,rfl⟩
  ·simp only [mem_singleton] at hx;subst hx;exact .inl rfl
end
theorem j8 {kvs:List (Str×BO)}{a:BQ}(g:h.DictOf (PySem.strKind prog w) a kvs)(hk:kvs.map (·.1)=([]:List (Str×D)).map (·.1)):h.DictOf (PySem.intKind prog w) a []:=by
 have hk:kvs=[]:=by simpa using hk
 subst hk;obtain ⟨oo,es,ep,hq⟩:=g;have hoo:=hq.1;have hc:=hq.2.1;have hd:=hq.2.2.1;have hp:=hq.2.2.2.2.1;have he:es = #[]:=by
  have:es.toList=[]:=by generalize es.toList=q at hp;cases hp;rfl
  exact Array.toList_eq_nil_iff.mp this
 subst he;exact ⟨oo,#[],ep,hoo,hc,hd,λ_ he=>by simp at he,Pairs.nil,nodup_nil⟩
theorem kY {kvs:List (Str×BO)}{a:BQ}(g:h.DictOf (PySem.strKind prog w) a kvs)(hk:kvs.map (·.1)=([]:List (Str×D)).map (·.1)):h.DictOfH (Cr (PySem.intKind prog w)) a []:=by
 have hk:kvs=[]:=by simpa using hk
 subst hk;obtain ⟨oo,es,ep,hq⟩:=g;have hoo:=hq.1;have hc:=hq.2.1;have hd:=hq.2.2.1;have hp:=hq.2.2.2.2.1;have he:es.toList=[]:=by generalize es.toList=q at hp;cases hp;rfl
 exact ⟨oo,es,ep,hoo,hc,hd,he,λ_ hx=>(nomatch hx),nodup_nil⟩
inductive nB:PO->List (Int×D)->Prop
 | i (l:List (Int×D)):nB (.dI l) l
 | e:nB (.dS []) []
theorem nB.rep {a:BQ}{po:PO}{l:List (Int×D)}(i:nB po l)(r:c6 prog w C h as a po):zR prog w h as a l:=by
 induction i using nB.casesOn with
 | i l=>exact r.dII
 | e=>cases r.dSI with
  | mk g k _ _=>exact .mk (j8 g k) rfl .nil (zero_le _)
theorem nB.size {po:PO}{l:List (Int×D)}(i:nB po l):f7 po=l.length:=by induction i using nB.casesOn <;> rfl
inductive tZ:PO->List (List Int×D)->Prop
 | t (l:List (List Int×D)):tZ (.dT l) l
 | e:tZ (.dS []) []
theorem tZ.rep {a:BQ}{po:PO}{l:List (List Int×D)}(i:tZ po l)(r:c6 prog w C h as a po):zO prog w h as a l:=by
 induction i using tZ.casesOn with
 | t l=>exact r.dTI
 | e=>cases r.dSI with
  | mk g k _ _=>exact .mk (kY g k) rfl .nil (zero_le _) (λ_ h=>absurd h not_mem_nil) (λ_ h=>absurd h not_mem_nil)
theorem tZ.size {po:PO}{l:List (List Int×D)}(i:tZ po l):f7 po=l.length:=by induction i using tZ.casesOn <;> rfl
inductive z6 (v:D)(o:PO):D->PO->Prop
 | s (l:List (Str×D)) (x:Str) (i:o = .dS l):z6 v o (.str x) (.dS (put x v l))
 | t (l:List (List Int×D)) (t:List D) (is:List Int) (h:cb t=some is) (i:tZ o l):z6 v o (.tup t) (.dT (put is v l))
 | i (l:List (Int×D)) (x:Int) (i:nB o l):z6 v o (.int x) (.dI (put x v l))
theorem u3 {o o':PO}{k v:D}(e:lG o k v=some o'):z6 v o k o':=by
 induction o using PO.casesOn with
 | dS l =>
  induction k using D.casesOn with
  | str x=>exact Option.some.inj e ▸ .s l x rfl
  | tup t =>
   induction l using List.casesOn with
   | nil=>(obtain ⟨is,hq⟩:=map_eq_some_iff.mp e;have hi:=hq.1;have h:=hq.2);exact h ▸ .t [] t is hi .e
   | cons=>exact an e
  | int x =>
   induction l using List.casesOn with
   | nil=>exact Option.some.inj e ▸ .i [] x .e
   | cons=>exact an e
  | _=>induction l using List.casesOn <;> exact an e
 | dI l =>
  induction k using D.casesOn with
  | int x=>exact Option.some.inj e ▸ .i l x (.i l)
  | _=>exact an e
 | dT l =>
  induction k using D.casesOn with
  | tup t=>(obtain ⟨is,hq⟩:=map_eq_some_iff.mp e;have hi:=hq.1;have h:=hq.2);exact h ▸ .t l t is hi (.t l)
  | _=>exact an e
 | _=>exact an e
theorem u9 {a:BQ}{po po':PO}{key v:BO}{k x:D}{Q:Unit->BU->Prop}(hu:A.units+1 < CA)(R:Rel prog w C h₀ σ as s.heap)(r:c6 prog w C s.heap as a po)(rk:Rep s.heap as key k)(rv:Rep s.heap as v x)(e:lG po k x=some po')(hz:f7 po<=aQ)
  (m:Sem Unit)
  (mS:∀ {kvs:List (Str×BO)} {kk:Str} (Q:Unit->BU->Prop),(PySem.strKind prog w).is kk key=true->s.heap.DictOf (PySem.strKind prog w) a kvs->kvs.length<=Ct->(∀ h',h'.DictOf (PySem.strKind prog w) a (Cx kvs kk v)->Heap.SameBut a s.heap h'->Q () {s with heap:=h',toks:=s.toks+1})->BR (BS prog w) A m Q NoE s)
  (mI:∀ {kvs:List (Int×BO)} {kk:Int} (Q:Unit->BU->Prop),(PySem.intKind prog w).is kk key=true->s.heap.DictOf (PySem.intKind prog w) a kvs->kvs.length<=Ct->(∀ h',h'.DictOf (PySem.intKind prog w) a (Cx kvs kk v)->Heap.SameBut a s.heap h'->Q () {s with heap:=h',toks:=s.toks+1})->BR (BS prog w) A m Q NoE s)
  (mT:∀ {xs:List (List Int×BQ×BO)} {kk:List Int} {ka:BQ} (Q:Unit->BU->Prop),key = .ref ka->(Cr (PySem.intKind prog w)).is s.heap kk ka->s.heap.DictOfH (Cr (PySem.intKind prog w)) a xs->xs.length<=Ct ->
   (∀ h',h'.DictOfH (Cr (PySem.intKind prog w)) a (C2 xs kk ka v)->Heap.SameBut a s.heap h'->Q () {s with heap:=h',toks:=s.toks+(Cr (PySem.intKind prog w)).draws kk})->BR (BS prog w) A m Q NoE s)
  (hQ:∀ h' tk,Heap.SameBut a s.heap h'->((∀ x vs n,IsT s.heap x vs n->IsT h' x vs n)->c6 prog w C h' as a po')->Q () {s with heap:=h',toks:=tk}) :
  BR (BS prog w) A m Q NoE s:=by
 have h4:aQ=4096:=rfl;have hm:=ct;cases u3 e with
 | s l kk i =>
  subst i;cases rk.strI with
  | mk t =>
  cases r.dSI with
  | @mk kvs g kk' rr z =>
  have b:fc s.heap as kvs l:=⟨kk',rr⟩;have hlen:=b.length;have hz':l.length<=aQ:=hz;refine mS _ (gL kk t) g (eZ hlen z) λh' g' hs=>hQ h' _ hs λnt=>?_;have b':=(b.go nt).put (k:=kk) (rv.kp nt (prefix_refl _));exact .dS g' b'.keys b'.vals (le_trans (bG _ _) (succ_le_succ hz'))
 | t l t is hi i =>
  have hz':l.length<=aQ:=i.size▸hz;cases i.rep r with
  | @mk xs g kk' rr z hy ht =>
  cases rk.tupI with
  | @mk ta vs nn ga za ra =>
  have hq:=Rep.key (prog:=prog) (w:=w) (.tup ga za ra) hi;have hkey:=hq.1;have hil:=hq.2.2.1;have hlen:xs.length=l.length:=by simpa using congrArg List.length kk'
  refine mT _ rfl hkey g (eZ hlen z) λh' g' hs=>hQ h' _ hs λnt=>?_;have hq:=qo (h:=h') (as:=as) (k:=is) (a:=ta) kk' (rr.kp nt (prefix_refl _)) (rv.kp nt (prefix_refl _));have k1:=hq.1;have v1:=hq.2;refine .dT g' k1 v1 (le_trans (bG _ _) (succ_le_succ hz')) (λp hp=>?_) λx hx=>?_
  ·rcases tQ hp with e | ⟨q,hq,e⟩
   ·exact e▸hil
   ·exact e▸hy q hq
  ·rcases mN hx with e | ⟨y,hy',e⟩
   ·exact e▸⟨vs,nn,nt _ _ _ ga⟩
   ·obtain ⟨vs',n',i⟩:=ht y hy';exact e▸⟨vs',n',nt _ _ _ i⟩
 | i l kk i =>
  have hz':l.length<=aQ:=i.size▸hz;cases rk.intI with
  | mk t =>
  cases i.rep r with
  | @mk kvs g kk' rr z =>
  have b:fc s.heap as kvs l:=⟨kk',rr⟩;have hlen:=b.length;refine mI _ (qj kk t) g (eZ hlen z) λh' g' hs=>hQ h' _ hs λnt=>?_;have b':=(b.go nt).put (k:=kk) (rv.kp nt (prefix_refl _));exact .dI g' b'.keys b'.vals (le_trans (bG _ _) (succ_le_succ hz'))
end
theorem lp:Df (.type "list") "keys"=pure none:=by (refine (CQ _ _).symm▸?_;refine builtinLookup_eq_fast.symm▸?_);kernel_rfl
theorem jZ {prog:BX}{w:BY}{A:BZ}{E:BO->BU->Prop}{s:BU}{a:BQ}{xs:Array BO}{k:Nat}{Q:Option BO->BU->Prop}
  (hx:s.heap.get? a=some {cls:=.type "list",data:=.seq xs k}) (hA:A.handled=none)
  (h:∀ h' tk,(∀ b o,s.heap.get? b=some o->h'.get? b=some o)->Q none {s with heap:=h',toks:=tk}):BR (BS prog w) A (getAttr? (.ref a) "keys") Q E s:=by
 obtain ⟨hp,g,d,tk,os⟩:=s;have hT:∀ tk',(⟨hp,g,d,tk',os⟩:BU).TypeIs (.ref a) "list":=λ_=>⟨_,hx,rfl⟩;have f1:=sub_AttributeError;have f3:=F.slot_list_getattribute.lookup;have f4:=F.slot_list_getattribute.bind (.ref a);have f5:=am_list_getattr_none
 repeat (any_goals (first | assumption | exact hT _ | ((with_reducible show BR _ _ (call (Value.builtin "list.__getattribute__") _ _) _ _ _);refine Ec F.slot_list_getattribute (hT _) am_entry_list_getattribute (F.args_list_getattribute_2 _ _) (meets_getattribute_miss_list a xs k #[] "keys" _ lp (by decide) (by decide +kernel)) ⟨hx,hA,λh' tk' e hx'=>?_⟩) | wp_step))
 obtain ⟨t',u',he⟩:=hx'.there;refine (?_:BR _ _ (getattributeRaised _ _ _ _ _ _ _) _ _ _)
 repeat (any_goals (first | assumption | wp_step))
 exact h _ _ hx'.keeps
section
variable {prog:BX}{w:BY}{C:BQ}{h₀ h:BW}{σ σ':Sto}{as as':List BQ}{s s':BU}{A:BZ}{d:D}{n:Nat}{X:BQ->Prop}
theorem Go.adoptO {L:BQ}{o:PO}(G:Go X prog w C h₀ σ as s σ' as' s')(hL:s.heap.get? L=none)(hn:L ∉ as')(h0:h₀.get? L=none)(hx:¬ X L)(r:c6 prog w C s'.heap as' L o) :
  Go X prog w C h₀ σ as s (σ'++[(o,0)]) (as'++[L]) s':=by
 have R:=G.rel;have kpr:as' <+: as'++[L]:=prefix_append _ _;refine ⟨G.same,⟨R.kept,by simp [R.len],?_,?_,R.sys,?_⟩,G.pre.trans kpr,?_,?_,G.kp,G.tup,?_⟩
 ·rw [nodup_append];refine ⟨R.nodup,by simp,?_⟩;intro x hxm y hy;simp only [mem_singleton] at hy;subst hy;intro e;subst e;exact hn hxm
 ·intro b hb;rcases mem_append.mp hb with hb | hb
  ·exact R.new b hb
  ·simp only [mem_singleton] at hb;subst hb;exact h0
 ·intro i o' v' b e1 e2;by_cases hi:i < σ'.length
  ·replace e1:=(List.getElem?_append_left hi)▸e1;rw [List.getElem?_append_left (by refine (R.len).symm▸?_;exact hi)] at e2;exact (R.objs i o' v' b e1 e2).kp (λ_ _ _ e=>e) kpr λo e=>e
  ·have hle:σ'.length<=i:=le_of_not_lt hi;replace e1:=(List.getElem?_append_right hle)▸e1;rw [List.getElem?_append_right (by refine (R.len).symm▸?_;exact hle),R.len] at e2;have hz0:i - σ'.length=0:=by
    have:=(List.getElem?_eq_some_iff.mp e1).1;simp at this;exact le_antisymm (bh (.v 0) (.n 0) [(1,.v 0,.n 0)] rfl (le_of_eq this)) (bh (.n 0) (.v 0) [(1,.n 0,.v 0)] rfl (le_of_eq this.symm))
   rw [hz0] at e1 e2;simp only [List.getElem?_cons_zero,Option.some.injEq] at e1 e2;cases e1;subst e2;exact r.kp (λ_ _ _ e=>e) kpr λo e=>e
 ·intro b h1 h2;rcases mem_append.mp h1 with h1 | h1
  ·exact G.fresh b h1 h2
  ·simp only [mem_singleton] at h1;subst h1;exact hL
 ·intro b h1;rcases mem_append.mp h1 with h1 | h1
  ·exact G.off b h1
  ·simp only [mem_singleton] at h1;subst h1;exact hx
 ·intro i b e1;obtain ⟨h1,h2⟩:=G.vers i b e1;have hi:i < σ'.length:=by
   refine (R.len)▸?_;exact (List.getElem?_eq_some_iff.mp (getElem?_of_prefix G.pre e1)).1
  refine (fD _ _ hi).symm▸?_;exact ⟨h1,h2⟩
theorem c6.unTup {a:BQ}{o:PO}(r:c6 prog w C h as a o)(vs:Array BO)(n:Nat):¬ IsT h a vs n:=by
 intro i;obtain ⟨ob,e,hc⟩:=r.get;replace e:=i▸e;cases e;exact hc rfl
theorem Rel.free {a:BQ}(R:Rel prog w C h₀ σ as h)(e:h.get? a=none):a ∉ as/\h₀.get? a=none:=by
 refine ⟨λhm=>?_,?_⟩
 ·obtain ⟨k,hk,ek⟩:=mem_iff_getElem.mp hm;have hk':k < σ.length:=by refine (R.len)▸?_;exact hk
  obtain ⟨ob,eb,_⟩:=(R.objs k σ[k].1 σ[k].2 _ (List.getElem?_eq_getElem hk') (by rw [List.getElem?_eq_getElem hk,ek])).get;replace eb:=e▸eb;cases eb
 ·cases q:h₀.get? a with
  | none=>rfl
  | some o=>have:=R.kept _ _ q;replace this:=e▸this;cases this
theorem m7 {o k x:D}{vo vk vx:BO}(hu:A.units+1 < CA)(R:Rel prog w C h₀ σ as s.heap)(ro:Rep s.heap as vo o)(rk:Rep s.heap as vk k)(rx:Rep s.heap as vx x){u:Unit}(e:jI o k x σ=some (u,σ')) :
  BR (BS prog w) A (setItem vo vk vx) (λ_ s'=>Go NoX prog w C h₀ σ as s σ' as s') NoE s:=by
 induction o using D.casesOn with
 | ref a =>
  (refine bD e ?_);clear e;rintro po v0 hp e;(refine ai e ?_);clear e;rintro hz e;(refine aP e ?_);clear e;rintro po' hp' e;cases e;cases ro.refI with
  | @mk t ka =>
  have r:=R.objs _ _ _ _ hp ka;refine u9 hu R r rk rx hp' (by simpa using hz) (setItem (.ref t) vk vx) (λQ h1 h2 h3 h4=>DQ h1 h2 h4 h3) (λQ h1 h2 h3 h4=>DQ h1 h2 h4 h3) (λQ h0 h1 h2 h3 h4=>by
   subst h0;exact wpAny_setItem_heap (Da hu) h1 h2 h4 h3) λh' tk hs hr=>?_
  exact Go.set R ka (λb o hb e=>hs.extBut b o hb e) hr
 | _=>exact af (σ:=σ) e
theorem mD {k:Nat}{l:List (Str×D)}{v:Nat}{a:BQ}(R:Rel prog w C h₀ σ as s.heap)(ka:as[k]? = some a)(hp:σ[k]? = some (.dS l,v)) :
  BR (BS prog w) A (call (.type "dict") [.ref a]) (Ans prog w C h₀ σ as s (σ++[(.dS l,0)]) (.ref σ.length)) NoE s:=by
 cases (R.objs _ _ _ _ hp ka).dSI with
 | @mk kvs g kk rr z =>
 have b:fc s.heap as kvs l:=⟨kk,rr⟩;have hlen:=b.length;have hm:=ct;refine kt_call_dict (R.not_sys ka) g (eZ hlen z) λh' g' hs=>?_;have kp:∀ b o,s.heap.get? b=some o->h'.get? b=some o:=λb o e=>hs.extBut b o (ne_of_lt (Heap.lt_size e)) (Heap.get?_push_of_some _ e);exact ⟨as++[s.heap.objs.size],Go.push R kp (aR _) (.dS g' kk (rr.kp (λ_ _ _ e=>kp _ _ e) (prefix_append _ _)) z),R.newRef _ _⟩
theorem cB {I l:BQ}{i:Nat}(st:h.IsListIter I l i)(vs:Array BO)(n:Nat):¬ IsT h I vs n:=by
 intro e;obtain ⟨o,hq⟩:=st;have ho:=hq.1;have hc:=hq.2.1;replace ho:=e▸ho;have:=Option.some.inj ho;replace hc:=this.symm▸hc;revert hc;refine (?_:¬ (Value.type "tuple"=Value.type "list_iterator"));decide
theorem ce:D8 table "dict.update.loop"=some Builtin.«dict.update.loop» := D9 (by kernel_rfl)
theorem a8:plainId "dict.update.loop"=true:=by decide +kernel
theorem qJ {po po':PO}{k v:D}(e:lG po k v=some po'):f7 po'<=f7 po+1:=by
 cases u3 e with
 | s l x i=>exact i▸bG _ _
 | i l x i=>exact i.size▸bG _ _
 | t l t is h i=>exact i.size▸bG _ _
inductive PcV (xs:List D)(po po':PO):D->Prop
 | mk (a b:D) (po1:PO) (h:lG po a b=some po1) (e:b8 xs po1=some po'):PcV xs po po' (.tup [a,b])
theorem oK {x:D}{xs:List D}{po po':PO}(e:b8 (x::xs) po=some po'):PcV xs po po' x:=by
 induction x using D.casesOn with
 | tup l =>
  induction l using List.casesOn with
  | nil=>exact an e
  | cons a l =>
  induction l using List.casesOn with
  | nil=>exact an e
  | cons b l =>
  induction l using List.casesOn with
  | cons _ _=>exact an e
  | nil =>
   obtain ⟨po1,hq⟩:=bind_eq_some_iff.mp e;have h:=hq.1;have e:=hq.2;exact .mk a b po1 h e
 | _=>exact an e
inductive yI (h:BW)(as:List BQ)(a b:D):BO->Prop
 | mk (t:BQ) (vs:Array BO) (n:Nat) (u v:BO) (ht:IsT h t vs n) (e:vs.toList=[u,v]) (r1:Rep h as u a) (r2:Rep h as v b):yI h as a b (.ref t)
theorem Rep.pair {a b:D}{v:BO}(r:Rep h as v (.tup [a,b])):yI h as a b v:=by
 cases r.tupI with
 | mk g _ rr =>
  obtain ⟨u,v,hq⟩:=rr.two;have e:=hq.1;have r1:=hq.2.1;have r2:=hq.2.2;exact .mk _ _ _ u v g e r1 r2
theorem pw {I Dx l:BQ}{items:Array BO}{Res:C8->BU->Prop}(hu:A.units+2 < CA)(W:De prog w A.in1 I [I,l] [I] items.size (λi v=>items[i]? = some v) (λi h=>h.IsListIter I l i/\h.IsList l items))(hDI:Dx≠I)(hDl:Dx≠l)
  (R0:Rel prog w C h₀ σ as s.heap) (hI:I ∉ as) (hI0:h₀.get? I=none) (hD:Dx ∉ as) (hD0:h₀.get? Dx=none) {ds:List D} (rr:aD s.heap as items.toList ds) :
  ∀ (xs:List D) (i:Nat) (po po':PO) (s1:BU) (t:Tok),ds.drop i=xs->i<=ds.length->b8 xs po=some po'->f7 po+xs.length<=aQ->Go (λb=>b=I\/b=Dx) prog w C h₀ σ as s σ as s1->(s1.heap.IsListIter I l i/\s1.heap.IsList l items)->c6 prog w C s1.heap as Dx po ->
   (∀ s2,Go (λb=>b=I\/b=Dx) prog w C h₀ σ as s σ as s2->c6 prog w C s2.heap as Dx po'->Res (.ok (.ret .none)) s2) ->
   Ck (BS prog w) A (.builtin "dict.update.loop" ⟨[.ref Dx,.ref I,.int i t,.none],[]⟩) Res s1:=by
 have hsz:=be rr;intro xs;induction xs with
 | nil =>
  intro i po po' s1 t hx hi e hz G st r hR;cases e;have hil:=drop_nil hx hi;subst hil;refine Ci ce ?_;refine (Around.under_plainId a8 _).symm▸?_;refine (?_:BR _ A.in1 (CU (.ref I) >>= _) _ _ s1);replace st:=hsz.symm▸st;refine BN (W.done s1 _ _ st λh' tk k=>?_);refine (?_:BR _ A.in1 (Builtin.Dict.addKeywords Dx [] >>= _) _ _ _);refine BN (BP (BP (hR _ ?_ ?_)))
  ·refine G.trans (Go.at G.rel (c:=I) (.inl rfl) G.off hI0 (cB st.1) λb o hb e=>k b o (by simpa using hb) e)
  ·exact r.kp (λx vs n i=>k x _ (by
    intro hm;simp only [mem_singleton] at hm;subst hm;exact cB st.1 _ _ i) i) (prefix_refl _) λo e=>k _ o (by simpa using hDI) e
 | cons x xs ih =>
  intro i po po' s1 t hx hi e hz G st r hR;have pc:=oK e;clear e;cases pc with
  | mk a b po1 hpo e =>
  have hq:=iu hx;have hxi:=hq.1;have hxs:=hq.2;have hilt:i < ds.length:=(List.getElem?_eq_some_iff.mp hxi).1;refine Ci ce ?_;refine (Around.under_plainId a8 _).symm▸?_;refine (?_:BR _ A.in1 (CU (.ref I) >>= _) _ _ s1);refine BN (W.item i s1 _ _ (aZ (.a (.v 0) (.n 1)) (.v 1) [(1,.v 2,.v 1),(1,(.a (.v 0) (.n 1)),.v 2)] rfl (le_of_eq hsz.symm) hilt) st λv h' tk pv st' k=>?_);have notI:∀ vs n,¬ IsT s1.heap I vs n:=cB st.1;have G2:Go (λb=>b=I\/b=Dx) prog w C h₀ σ as s1 σ as {s1 with heap:=h',toks:=tk} := Go.at G.rel (c:=I) (.inl rfl) G.off hI0 notI λb o hb e=>k b o (by simpa using hb) e;have r2:c6 prog w C h' as Dx po:=r.kp (λx vs n i=>k x _ (by
    intro hm;simp only [mem_singleton] at hm;subst hm;exact notI _ _ i) i) (prefix_refl _) λo e=>k _ o (by simpa using hDI) e
  obtain ⟨v',hq⟩:=rr.get hxi;have hv':=hq.1;have rv:=hq.2;have hvv:v'=v:=Option.some.inj (hv'.symm.trans (Array.getElem?_toList.trans pv));cases (G2.rep (G.rep (hvv▸rv))).pair with
  | mk ta vs nn v1 v2 ht hvs r1 r2' =>
  have hT:Shared.TypeIs {s1 with heap:=h',toks:=tk} (.ref ta) "tuple":=⟨_,ht,rfl⟩;refine BN (B1 (BN (wpAny_tryCatch ?_)));refine BN (CH hT ?_);rw [if_pos (by decide)];refine BN (m:=Dt (.ref ta)) ?_;refine BN (CX ht (BP ?_));refine BP ?_;refine (?_:BR _ _ (match (Array.toList vs:List BO) with | [k,v]=>CN [k,v] (dictSet Dx k v) | l=>_) _ _ _);refine hvs.symm▸?_;have hz0:f7 po<=aQ:=le_trans (le_add_right _ _) hz;refine B1 (bt ?_ λ_ _ q=>q);refine u9 (s:={s1 with heap:=h',toks:=tk}) (A:=A.in1) (by show A.units+1+1 < CA;exact a5 (.a (.a (.a (.v 0) (.n 1)) (.n 1)) (.n 1)) (.v 1) [(1,(.a (.a (.v 0) (.n 2)) (.n 1)),.v 1)] rfl hu) G2.rel r2 r1 r2' hpo hz0 (dictSet Dx v1 v2) (λQ h1 h2 h3 h4=>DP h1 h2 h4 h3) (λQ h1 h2 h3 h4=>DP h1 h2 h4 h3) (λQ h0 h1 h2 h3 h4=>by
   subst h0;exact wpAny_dictSet_heap (show (Cr (PySem.intKind prog w)).room A.in1 by show A.units+1 < CA;exact a5 (.a (.a (.v 0) (.n 1)) (.n 1)) (.v 1) [(1,(.a (.a (.v 0) (.n 2)) (.n 1)),.v 1)] rfl hu) h1 h2 h4 h3) λh3 tk3 hs3 hr3=>?_
  have kp3:∀ b o,b≠Dx->h'.get? b=some o->h3.get? b=some o:=λb o hb e=>hs3.extBut b o hb e;have notD:∀ vs n,¬ IsT h' Dx vs n:=r2.unTup;have nt3:∀ x vs n,IsT h' x vs n->IsT h3 x vs n:=λx vs n i=>kp3 x _ (λe=>notD vs n (e▸i)) i;have G3:Go (λb=>b=I\/b=Dx) prog w C h₀ σ as {s1 with heap:=h',toks:=tk} σ as {s1 with heap:=h3,toks:=tk3} :=
   Go.at (s:={s1 with heap:=h',toks:=tk}) G2.rel (c:=Dx) (.inr rfl) G2.off hD0 notD kp3
  have hz1:f7 po1+xs.length<=aQ:=by
   have hp:=qJ hpo;replace hz:=(length_cons)▸hz;exact fW (.a (.v 0) (.v 1)) (.v 2) [(1,.v 0,(.a (.v 3) (.n 1))),(1,(.a (.v 3) (.a (.v 1) (.n 1))),.v 2)] rfl hp hz
  refine BP ⟨CL a8 _,?_⟩;exact ih (i+1) po1 po' _ _ hxs hilt e hz1 ((G.trans G2).trans G3) ⟨st'.1.at λo e=>kp3 I o (λq=>hDI q.symm) e,st'.2.at λo e=>kp3 l o (λq=>hDl q.symm) e⟩ (hr3 nt3) λs2 q1 q2=>hR s2 q1 q2
theorem tM {a:D}{v:BO}(hh:A.handled=none)(hu:A.units+10 < CA)(R:Rel prog w C h₀ σ as s.heap)(r:Rep s.heap as v a)(e:jB a σ=some (d,σ')) :
  BR (BS prog w) A (call (.type "dict") [v]) (Ans prog w C h₀ σ as s σ' d) NoE s:=by
 induction a using D.casesOn with
 | ref k =>
  (refine bD e ?_);clear e;rintro po v0 hp e;cases r.refI with
  | @mk l ka =>
  induction po using PO.casesOn with
  | list ds =>
   (refine ai e ?_);clear e;rintro hz e;(refine aP e ?_);clear e;rintro po hpo e;cases e;cases (R.objs _ _ _ _ hp ka).listI with
   | @mk vs n g rr z =>
   have hz':ds.length<=aQ:=of_decide_eq_true hz;have hlt:l < s.heap.objs.size:=Heap.lt_size g;refine callType_codes (Q₁:=λobj s₁=>obj = .ref s.heap.objs.size/\s₁ = {s with heap:=s.heap.push {cls:=.type "dict",data:=.dict #[]} }) F.kt_called_dict (F.kt_typeCall_dict_1 _) F.entry_dict_init (kt_code_dict_new _ ⟨rfl,rfl⟩) ?_;rintro obj s₁ ⟨rfl,hs₁⟩;have k1:∀ b o,s.heap.get? b=some o->s₁.heap.get? b=some o:=hs₁▸λb o e=>Heap.get?_push_of_some _ e;have hnew:s₁.heap.DictOf (PySem.strKind prog w) s.heap.objs.size []:=hs₁▸Heap.DictOf.new s.heap;have g':=k1 _ _ g;refine ⟨hnew.typeIs,F.args_dict_init_2 _ _,?_⟩;refine BN ?_;refine BN (DF hnew.typeIs ?_);refine (?_:BR _ _ (pure (s.heap.objs.size,[Value.ref l])) _ _ _);refine BP ?_;refine (?_:BR _ _ (Builtin.Dict.updateFrom "dict.__init__" s.heap.objs.size (.ref l) [] .none) _ _ _);refine BN (CH ((⟨_,g',rfl⟩:Shared.TypeIs s₁ (.ref l) "list")) ?_);rw [if_pos (by decide)];refine BN (jZ (s:=s₁) g' (by exact hh) λh2 tk2 k2=>?_);rw [if_pos (by rfl)];have hl2:h2.IsList l vs:=⟨_,k2 _ _ g',rfl,_,rfl⟩;refine BN (C6 (BN (CB (s:={s₁ with heap:=h2,toks:=tk2}) hl2 ?_)));have kall:∀ b o,s.heap.get? b=some o->(h2.push {cls:=.type "list_iterator",data:=.fields #[.ref l,.int 0 0]}).get? b=some o:=λb o e=>Heap.get?_push_of_some _ (k2 _ _ (k1 _ _ e));have hIf:s.heap.get? h2.objs.size=none:=by
    cases q:s.heap.get? h2.objs.size with
    | none=>rfl
    | some o=>exact absurd (Heap.lt_size (k2 _ _ (k1 _ _ q))) (lt_irrefl _)
   obtain ⟨hI,hI0⟩:=R.free hIf;obtain ⟨hD,hD0⟩:=R.free (aR s.heap);have hDlt:s.heap.objs.size < h2.objs.size:=by
    obtain ⟨oo,_,_,hq⟩:=id hnew;have ho:=hq.1;exact Heap.lt_size (k2 _ _ ho)
   have hll:l < h2.objs.size:=Heap.lt_size (k2 _ _ g');have hsz:=be rr;have W:=Walks.list (prog:=prog) (w:=w) (A:=A.in1.in1) (by exact hh) h2.objs.size l (ne_of_lt hll) vs;have es:({s₁ with heap:=h2.push {cls:=.type "list_iterator",data:=.fields #[.ref l,.int 0 0]},toks:=tk2} : BU) = {s with heap:=h2.push {cls:=.type "list_iterator",data:=.fields #[.ref l,.int 0 0]},toks:=tk2} := by exact hs₁.symm▸rfl
   have G1:Go (λb=>b=h2.objs.size\/b=s.heap.objs.size) prog w C h₀ _ as s _ as {s₁ with heap:=h2.push {cls:=.type "list_iterator",data:=.fields #[.ref l,.int 0 0]},toks:=tk2} :=
    es▸Go.grow (X:=λb=>b=h2.objs.size\/b=s.heap.objs.size) R kall λa ha q=>q.elim (λq=>hI (q▸ha)) λq=>hD (q▸ha)
   have hnewD:c6 prog w C (h2.push {cls:=.type "list_iterator",data:=.fields #[.ref l,.int 0 0]}) as s.heap.objs.size (.dS []):=by
    obtain ⟨oo,es,ep,hq⟩:=hnew;have ho:=hq.1;have hc:=hq.2;exact .dS ⟨oo,es,ep,Heap.get?_push_of_some _ (k2 _ _ ho),hc⟩ rfl .nil (zero_le _)
   refine BP ⟨CL a8 _,?_⟩;refine pw (by show A.units+1+2 < CA;exact a5 (.a (.a (.a (.v 0) (.n 1)) (.n 2)) (.n 1)) (.v 1) [(1,(.a (.a (.v 0) (.n 10)) (.n 1)),.v 1)] rfl hu) W (ne_of_lt hDlt) (λq=>by replace hlt:=q▸hlt;exact lt_irrefl _ hlt) R hI hI0 hD hD0 rr ds 0 (.dS []) po _ 0 rfl (zero_le _) hpo (by show 0+ds.length<=aQ;exact a5 (.a (.n 0) (.v 0)) (.v 1) [(1,.v 0,.v 1)] rfl hz') G1 ⟨⟨_,Heap.get?_push_size _ rfl,rfl,rfl⟩,hl2.push _⟩ hnewD λs2 q1 q2=>?_;refine ⟨rfl,?_⟩;have G2:Go NoX prog w C h₀ _ as s _ as s2:=q1.drop (λb q => .inr (q.elim (λq=>by refine q.symm▸?_;exact hIf) λq=>by refine q.symm▸?_;exact aR _)) (λ_ _ x=>x);exact ⟨_,G2.adoptO (aR _) hD hD0 (λx=>x) q2,.ref (by refine (R.len)▸?_;simp)⟩
  | dS l0 =>
   cases e;exact mD R ka hp
  | _=>exact af (σ:=σ) e
 | _=>exact af (σ:=σ) e
end
inductive yb (prog:BX)(w:BY)(C:BQ)(h₀:BW)(σ:Sto)(as:List BQ)(s:BU)(σ':Sto)(ds:List D)(vs:List BO)(s':BU):Prop
 | intro (as':List BQ) (g:Go NoX prog w C h₀ σ as s σ' as' s') (r:aD s'.heap as' vs ds):yb prog w C h₀ σ as s σ' ds vs s'
inductive wC (prog:BX)(w:BY)(C:BQ)(h₀:BW)(σ:Sto)(as:List BQ)(s:BU)(σ':Sto)(o:Option Int)(v:BO)(s':BU):Prop
 | intro (p:DS v o) (as':List BQ) (g:Go NoX prog w C h₀ σ as s σ' as' s'):wC prog w C h₀ σ as s σ' o v s'
structure bC (prog:BX)(w:BY)(C:BQ)(h₀:BW)(A:BZ)(cf:Str->List D->PM D)(t:Nat):Prop where
 ev:∀ sc ρ e env σ as s d σ',ak cf t sc ρ e σ=some (d,σ')->Rel prog w C h₀ σ as s.heap->Frm h₀ s.heap as env sc ρ->BR (BS prog w) A (B3 e env) (Ans prog w C h₀ σ as s σ' d) NoE s
 tst:∀ sc ρ e env σ as s b σ',cR cf t sc ρ e σ=some (b,σ')->Rel prog w C h₀ σ as s.heap->Frm h₀ s.heap as env sc ρ->BR (BS prog w) A (PySem.isTrue e env (B3 e env)) (su prog w C h₀ σ as s σ' b) NoE s
 tsts:∀ sc ρ es env σ as s b σ',bI cf t sc ρ es σ=some (b,σ')->Rel prog w C h₀ σ as s.heap->Frm h₀ s.heap as env sc ρ->BR (BS prog w) A (c4 es env) (su prog w C h₀ σ as s σ' b) NoE s
 bool:∀ sc ρ op es pos env σ as s d σ',kD cf t sc ρ op es σ=some (d,σ')->Rel prog w C h₀ σ as s.heap->Frm h₀ s.heap as env sc ρ->BR (BS prog w) A (boolOp pos op (EF es env)) (Ans prog w C h₀ σ as s σ' d) NoE s
 part:∀ sc ρ e env σ as s o σ',kz cf t sc ρ e σ=some (o,σ')->Rel prog w C h₀ σ as s.heap->Frm h₀ s.heap as env sc ρ->BR (BS prog w) A (evalPart e env) (wC prog w C h₀ σ as s σ' o) NoE s
 iter:∀ sc ρ e env σ as s src σ',cz cf t sc ρ e σ=some (src,σ')->Rel prog w C h₀ σ as s.heap->Frm h₀ s.heap as env sc ρ->(∀ x,B9 e env x=pure x)/\BR (BS prog w) A (B3 e env) (λx s1=>BR (BS prog w) A (Cq x) (gW prog w C A h₀ σ as s σ' src) NoE s1) NoE s
section
variable {prog:BX}{w:BY}{C:BQ}{h₀ h:BW}{σ σ':Sto}{as as':List BQ}{s s':BU}{A:BZ}{d:D}{n t:Nat}{env cenv:Env}{sc sc' sc2 scope:B0}{ρ ρ' ρ0:Loc}{cf:Str->List D->PM D}
theorem iE {σ1:Sto}{as1:List BQ}{s1:BU}{v:BO}(G:Go NoX prog w C h₀ σ as s σ1 as1 s1)(a:Ans prog w C h₀ σ1 as1 s1 σ' d v s'):Ans prog w C h₀ σ as s σ' d v s':=(let ⟨as2,G2,r⟩:=a;⟨as2,G.trans G2,r⟩)
theorem xB {σ1:Sto}{as1:List BQ}{s1:BU}{b b':Bool}(G:Go NoX prog w C h₀ σ as s σ1 as1 s1)(a:su prog w C h₀ σ1 as1 s1 σ' b b' s'):su prog w C h₀ σ as s σ' b b' s':=(let ⟨e,as2,G2⟩:=a;⟨e,as2,G.trans G2⟩)
theorem fx {e:Sem BO}{σ1:Sto}{as1:List BQ}{s1:BU}(G:Go NoX prog w C h₀ σ as s σ1 as1 s1)(h:BR (BS prog w) A e (Ans prog w C h₀ σ1 as1 s1 σ' d) NoE s1):BR (BS prog w) A e (Ans prog w C h₀ σ as s σ' d) NoE s1 :=
 BV h (λ_ _ a=>iE G a) λ_ _ q=>q
theorem uH {c:Const}{k:Nat}{pos:Pos}(R:Rel prog w C h₀ σ as s.heap)(e:rD c σ=some (d,σ')):BR (BS prog w) A (B3 (.Constant c k pos) env) (Ans prog w C h₀ σ as s σ' d) NoE s:=by
 unfold rD at e;induction c using Const.casesOn with
 | none=>obtain ⟨rfl,rfl⟩:=bp e;exact wpAny_Constant_none (uq R)
 | bool b=>obtain ⟨rfl,rfl⟩:=bp e;exact wpAny_Constant_bool (cW R b)
 | int i=>obtain ⟨rfl,rfl⟩:=bp e;exact wpAny_Constant_int (bQ R i _ _)
 | str x=>obtain ⟨rfl,rfl⟩:=bp e;exact wpAny_Constant_str (dp R (.str x _) _)
 | _=>exact af e
theorem cn {e x:Expr}{p:Pos}(h:ak cf t sc ρ e σ=some (d,σ')):e ≠ .Starred x p:=by
 rintro rfl;induction t using Nat.casesOn with
 | zero=>exact af (σ:=σ) h
 | succ t=>exact af (σ:=σ) h
theorem c7 {e:Expr}{r:List Expr}{pos:Pos}(h:∀ x p,e ≠ .Starred x p):Cp pos (Ce (e::r) env)=(false,B3 e env)::Cp pos (Ce r env):=by
 cases e <;> first | rfl | exact absurd rfl (h _ _)
theorem lg {pos:Pos}(H:bC prog w C h₀ A cf t):∀ (es:List Expr) (σ:Sto) (as:List BQ) (s:BU) (ds:List D) (σ':Sto),bE (ak cf t sc ρ) es σ=some (ds,σ')->Rel prog w C h₀ σ as s.heap->Frm h₀ s.heap as env sc ρ ->
  BR (BS prog w) A (DY (Cp pos (Ce es env))) (yb prog w C h₀ σ as s σ' ds) NoE s:=λl=>by
 induction l using List.rec with
 | nil =>
  rintro σ as s ds σ' e R F;(refine aj e ?_);clear e;exact spliced_nil ⟨as,Go.refl R (λ_ _ x=>x),.nil⟩
 | cons x r ih =>
  rintro σ as s ds σ' e R F;refine ac e λd σ1 e1 e=>?_;refine ac e λds' σ2 e2 e=>?_;(refine aj e ?_);clear e;refine (c7 λy p=>cn e1).symm▸?_;refine spliced_cons (BV (H.ev _ _ _ _ _ _ _ _ _ e1 R F) (λv s1 q=>?_) λ_ _ q=>q);obtain ⟨as1,G1,r1⟩:=q;refine BV (ih _ _ _ _ _ e2 G1.rel (F.noX G1)) (λvs s2 q=>?_) λ_ _ q=>q;obtain ⟨as2,G2,r2⟩:=q;exact ⟨as2,G1.trans G2,.cons (G2.rep r1) r2⟩
theorem gF {pos:Pos} : ∀ (es:List Expr) (σ:Sto) (ds:List D) (σ':Sto),bE (ak cf t sc ρ) es σ=some (ds,σ')->(Cp pos (Ce es env)).any (·.1)=false/\(Cp pos (Ce es env)).all (λx => !x.1)=true:=λl=>by
 induction l using List.rec with
 | nil =>
  rintro _ _ _ _;exact ⟨rfl,rfl⟩
 | cons x r ih =>
  rintro σ ds σ' e;refine ac e λd σ1 e1 e=>?_;refine ac e λds' σ2 e2 e=>?_;refine (c7 λy p=>cn e1).symm▸?_;obtain ⟨h1,h2⟩:=ih _ _ _ e2;exact ⟨by (refine (any_cons).symm▸?_;exact h1.symm▸rfl),by (refine (List.all_cons).symm▸?_;exact h2.symm▸rfl)⟩
theorem rQ {v:BO}{i:Int}(r:Rep h as v (.int i)):DS v (some i):=by cases r.intI;exact .int i _
theorem bP {o:D}{v:BO}(R:Rel prog w C h₀ σ as s.heap)(ro:Rep s.heap as v o)(hno:∀ k dd v0,o = .ref k->σ[k]? = some (.inst dd,v0)->False)(hsh:(∃ l,o = .tup l)\/(∃ k po v0,o = .ref k/\σ[k]? = some (po,v0))) :
  ∃ T id,Df (.type T) "__getitem__"=pure (some (.builtin id))/\s.TypeIs v T:=by
 rcases hsh with ⟨l,rfl⟩ | ⟨k,po,v0,rfl,hk⟩
 ·cases ro.tupI with
  | @mk t vs n g z rr=>exact ⟨"tuple",_,PySem.F.slot_tuple_getitem.lookup,_,g,rfl⟩
 ·cases ro.refI with
  | mk ka =>
  cases R.objs _ _ _ _ hk ka with
  | list g _ _=>exact ⟨"list",_,PySem.F.slot_list_getitem.lookup,_,g,rfl⟩
  | dS g _ _ _=>exact ⟨"dict",_,slot_dict_getitem.lookup,g.typeIs⟩
  | dI g _ _ _=>exact ⟨"dict",_,slot_dict_getitem.lookup,g.typeIs⟩
  | dT g _ _ _ _ _=>exact ⟨"dict",_,slot_dict_getitem.lookup,g.typeIs⟩
  | inst _ _=>exact (hno _ _ _ rfl hk).elim
theorem A2 (sl:Expr)(o i:BO):∃ vs,subscripted sl false o i=operate vs (Dh o i):=by
 induction sl using Expr.casesOn with
 | Slice a b c p=>induction c using Option.casesOn <;> exact ⟨_,rfl⟩
 | _=>exact ⟨_,rfl⟩
theorem d9 {value slice:Expr}{pos:Pos}{Q:BO->BU->Prop}
  (h:BR (BS prog w) A (B3 value env) (λo s₁=>BR (BS prog w) A (B3 slice env) (λi s₂=>(∃ T id,Df (.type T) "__getitem__"=pure (some (.builtin id))/\s₂.TypeIs o T)/\BR (BS prog w) A (Dh o i) Q NoE s₂) NoE s₁) NoE s) :
  BR (BS prog w) A (B3 (.Subscript value slice pos) env) Q NoE s:=by
 refine (arm_eval_Subscript _ _ _ _).symm▸?_;refine BN (BV h (λo s₁ h₁=>BN (B1 (BV h₁ (λi s₂ h₂=>BN (Cf ?_)) λ_ _ x=>x))) λ_ _ x=>x);obtain ⟨⟨T,id,hl,hT⟩,hq⟩:=h₂;refine BN ?_;refine (getitemInPython_of_ne hT.not_modules).symm▸?_;refine BN (C7 hT hl ?_);refine BP (BN ?_);have fin:∀ vs,BR (BS prog w) A (operate vs (Dh o i)) (λr s₃=>BR (BS prog w) A (letTemporaryGo value o r >>= λ_=>pure r) Q NoE s₃) NoE s₂:=λvs =>
  wpAny_operating (BV hq (λr s₃ h₃=>BN (DH (BP h₃))) λ_ _ x=>x)
 obtain ⟨vs,hv⟩:=A2 slice o i;refine hv.symm▸?_;exact fin vs
end
section
variable {prog:BX}{w:BY}{C:BQ}{h₀ h:BW}{σ σ':Sto}{as as':List BQ}{s s':BU}{A:BZ}{d:D}{n t:Nat}{env cenv:Env}{sc sc' sc2 scope:B0}{ρ ρ' ρ0:Loc}{cf:Str->List D->PM D}
theorem tc {es:List Expr}{k:Nat}{pos:Pos}(H:bC prog w C h₀ A cf t)(R:Rel prog w C h₀ σ as s.heap)(F:Frm h₀ s.heap as env sc ρ)(e:ak cf (t+1) sc ρ (.Tuple es k pos) σ=some (d,σ')) :
  BR (BS prog w) A (B3 (.Tuple es k pos) env) (Ans prog w C h₀ σ as s σ' d) NoE s:=by
 (refine ac e ?_);clear e;rintro ds σ1 e1 e;refine wpAny_Tuple (BV (lg H es _ _ _ _ _ e1 R F) (λvs s1 q=>?_) λ_ _ q=>q);obtain ⟨as1,G1,rr⟩:=q;obtain ⟨z,rfl,rfl⟩:=dz e;have:=ct;exact ⟨by refine (rr.length).symm▸?_;exact eZ rfl (le_succ_of_le z),iE G1 (jC G1.rel rr z s1.toks)⟩
theorem xc {es:List Expr}{pos:Pos}(H:bC prog w C h₀ A cf t)(R:Rel prog w C h₀ σ as s.heap)(F:Frm h₀ s.heap as env sc ρ)(e:ak cf (t+1) sc ρ (.List es pos) σ=some (d,σ')) :
  BR (BS prog w) A (B3 (.List es pos) env) (Ans prog w C h₀ σ as s σ' d) NoE s:=by
 (refine ac e ?_);clear e;rintro ds σ1 e1 e;refine wpAny_List (BV (lg H es _ _ _ _ _ e1 R F) (λvs s1 q=>?_) λ_ _ q=>q);obtain ⟨as1,G1,rr⟩:=q;obtain ⟨z,rfl,rfl⟩:=bH e;have:=ct;exact ⟨by refine (rr.length).symm▸?_;exact eZ rfl (le_succ_of_le z),iE G1 (gz G1.rel rr z 0 s1.toks)⟩
theorem lx {ev:Expr->PM D}{P:List (Option Expr)->List Expr->Sto->List (D×D)->Sto->Prop}(h0:∀ σ,P [] [] σ [] σ)
  (h1:∀ k v ks vs σ a σ1 b σ2 r σ3,ev k σ=some (a,σ1)->ev v σ1=some (b,σ2)->P ks vs σ2 r σ3->P (some k::ks) (v::vs) σ ((a,b)::r) σ3) (ks:List (Option Expr)):∀ (vs:List Expr) (σ:Sto) (ps:List (D×D)) (σ':Sto),eE ev ks vs σ=some (ps,σ')->P ks vs σ ps σ':=by
 induction ks with
 | nil =>
  intro vs σ ps σ' e;induction vs using List.casesOn with
  | nil=>exact aj e (h0 σ)
  | cons=>exact af (σ:=σ) e
 | cons k ks ih =>
  intro vs σ ps σ' e;induction k using Option.casesOn with
  | none=>exact af (σ:=σ) e
  | some k =>
   induction vs using List.casesOn with
   | nil=>exact af (σ:=σ) e
   | cons v vs =>
    refine ac e λa σ1 e1 e=>?_;refine ac e λb σ2 e2 e=>?_;refine ac e λr σ3 e3 e=>?_;exact aj e (h1 _ _ _ _ _ _ _ _ _ _ _ e1 e2 (ih _ _ _ _ e3))
inductive wL (prog:BX)(w:BY)(C:BQ)(h₀:BW)(σ:Sto)(as:List BQ)(s:BU)(σ':Sto)(ps:List (D×D))(rs:List (BO×BO))(s':BU):Prop
 | mk (as':List BQ) (g:Go NoX prog w C h₀ σ as s σ' as' s') (r1:aD s'.heap as' (rs.map (·.1)) (ps.map (·.1))) (r2:aD s'.heap as' (rs.map (·.2)) (ps.map (·.2))):wL prog w C h₀ σ as s σ' ps rs s'
theorem tj {pos:Pos}(H:bC prog w C h₀ A cf t)(ks:List (Option Expr))(vs:List Expr)(σ:Sto)(as:List BQ)(s:BU)(ps:List (D×D))(σ':Sto)(e:eE (ak cf t sc ρ) ks vs σ=some (ps,σ'))(R:Rel prog w C h₀ σ as s.heap)(F:Frm h₀ s.heap as env sc ρ) :
  BR (BS prog w) A (evalPairs (pairTrees ks vs env pos)) (wL prog w C h₀ σ as s σ' ps) NoE s:=by
 refine lx (P:=λks vs σ ps σ'=>∀ as s,Rel prog w C h₀ σ as s.heap->Frm h₀ s.heap as env sc ρ->BR (BS prog w) A (evalPairs (pairTrees ks vs env pos)) (wL prog w C h₀ σ as s σ' ps) NoE s)
  (λσ as s R F=>pairTrees_nil_walk ⟨as,Go.refl R (λ_ _ x=>x),.nil,.nil⟩) (λk v ks vs σ a σ1 b σ2 r σ3 e1 e2 ih as s R F=>?_) ks vs σ ps σ' e as s R F
 refine pairTrees_cons_walk (BV (H.ev _ _ _ _ _ _ _ _ _ e1 R F) (λkv s1 q=>?_) λ_ _ q=>q);obtain ⟨as1,G1,r1⟩:=q;have F1:=F.noX G1;refine BV (H.ev _ _ _ _ _ _ _ _ _ e2 G1.rel F1) (λvv s2 q=>?_) λ_ _ q=>q;obtain ⟨as2,G2,r2⟩:=q;refine BV (ih _ _ G2.rel (F1.noX G2)) (λrs s3 q=>?_) λ_ _ q=>q;obtain ⟨as3,G3,r3,r4⟩:=q;exact ⟨as3,(G1.trans G2).trans G3,.cons (G3.rep (G2.rep r1)) r3,.cons (G3.rep r2) r4⟩
theorem mR (ps:List (D×D)):∀ (rs:List (BO×BO)) (l l':List (Str×D)) (kvs:List (Str×BO)),fh ps l=some l'->aD h as (rs.map (·.1)) (ps.map (·.1))->aD h as (rs.map (·.2)) (ps.map (·.2))->fc h as kvs l ->
  ∃ more,Carries (PySem.strKind prog w) rs more/\fc h as (merged kvs more) l':=by
 induction ps with
 | nil =>
  intro rs l l' kvs e r _ b;induction rs using List.casesOn with
  | nil=>exact Option.some.inj e▸⟨[],trivial,b⟩
  | cons=>exact (Nat.succ_ne_zero _ r.length).elim
 | cons p ps ih =>
  intro rs l l' kvs e r1 r2 b;induction rs using List.casesOn with
  | nil=>exact (Nat.succ_ne_zero _ r1.length.symm).elim
  | cons q rs =>
   induction p using Prod.casesOn with
   | mk k v =>
   induction q using Prod.casesOn with
   | mk kv vv =>
   induction k using D.casesOn with
   | str x =>
    have rv:=r2.head;cases r1.head.strI with
    | mk tk =>
    obtain ⟨more,hq⟩:=ih rs _ l' _ e r1.tail r2.tail (b.put (k:=x) rv);have h1:=hq.1;have h2:=hq.2;exact ⟨(x,vv)::more,⟨gL x tk,rfl,h1⟩,h2⟩
   | _=>exact an e
theorem mz (ps:List (D×D)):∀ (l l':List (Str×D)),fh ps l=some l'->l'.length<=l.length+ps.length:=by
 induction ps with
 | nil=>intro l l' e;exact Option.some.inj e▸le_refl _
 | cons p ps ih =>
  intro l l' e;induction p using Prod.casesOn with
  | mk k v =>
  induction k using D.casesOn with
  | str x=>exact le_trans (ih _ l' e) (le_trans (add_le_add_right (bG x v) _) (le_of_eq (Nat.succ_add_eq_add_succ _ _)))
  | _=>exact an e
theorem rG (ks:List (Option Expr))(vs:List Expr)(σ:Sto)(ps:List (D×D))(σ':Sto)(e:eE (ak cf t sc ρ) ks vs σ=some (ps,σ')):ps.length=ks.length/\ks.all (·.isSome)=true :=
 lx (P:=λks _ _ ps _=>ps.length=ks.length/\ks.all (·.isSome)=true) (λ_=>⟨rfl,rfl⟩) (λ_ _ _ _ _ _ _ _ _ _ _ _ _ ih=>⟨congrArg (· + 1) ih.1,ih.2⟩) ks vs σ ps σ' e
theorem wg {ks:List (Option Expr)}{vs:List Expr}{pos:Pos}(H:bC prog w C h₀ A cf t)(R:Rel prog w C h₀ σ as s.heap)(F:Frm h₀ s.heap as env sc ρ)(e:ak cf (t+1) sc ρ (.Dict ks vs pos) σ=some (d,σ')) :
  BR (BS prog w) A (B3 (.Dict ks vs pos) env) (Ans prog w C h₀ σ as s σ' d) NoE s:=by
 (refine ai e ?_);clear e;rintro hm e;simp only [and_eq_true,decide_eq_true_eq,beq_iff_eq] at hm;(refine ac e ?_);clear e;rintro ps σ1 e1 e;(refine aP e ?_);clear e;rintro l hl e;cases e;obtain ⟨hn,hall⟩:=rG _ _ _ _ _ e1;have hz:l.length<=aQ:=by
  have h1:=mz ps [] l hl;have h4:aQ=4096:=rfl;have h5:([]:List (Str×D)).length=0:=rfl;exact sX (.v 0) (.v 1) [(1,.v 2,.n 15),(1,.v 3,.v 2),(1,.v 0,(.a (.v 4) (.v 3))),(1,.n 4096,.v 1),(1,.v 4,.n 0)] rfl hm.1 (le_of_eq hn) h1 (le_of_eq h4.symm) (le_of_eq h5)
 by_cases h0:ks=[]
 ·subst h0;have hvs:vs=[]:=List.eq_nil_of_length_eq_zero hm.2.symm;subst hvs;obtain ⟨rfl,rfl⟩:=bp e1;cases hl;refine wpAny_Dict_empty ?_;have hnew:(s.heap.push {cls:=.type "dict",data:=.dict #[]}).DictOf (PySem.strKind prog w) s.heap.objs.size []:=Heap.DictOf.new s.heap;exact ⟨as++[s.heap.objs.size],Go.push R (λb o e=>Heap.get?_push_of_some _ e) (aR _) (.dS hnew rfl .nil (zero_le _)),R.newRef _ _⟩
 ·refine wpAny_Dict_walk (knd:=PySem.strKind prog w) hall hm.2 h0 hm.1 ?_;have hnew:(s.heap.push {cls:=.type "dict",data:=.dict #[]}).DictOf (PySem.strKind prog w) s.heap.objs.size []:=Heap.DictOf.new s.heap;have G0:Go NoX prog w C h₀ _ as s _ as {s with heap:=s.heap.push {cls:=.type "dict",data:=.dict #[]} } := ms R (λ_ _ x=>x);refine BV (tj H ks vs _ _ _ _ _ e1 G0.rel (F.noX G0)) (λrs s1 q=>?_) λ_ _ q=>q;obtain ⟨as1,G1,r1,r2⟩:=q;obtain ⟨more,hc,hb⟩:=mR (prog:=prog) (w:=w) ps rs [] l [] hl r1 r2 ⟨rfl,.nil⟩;obtain ⟨hDn,hD0⟩:=R.free (aR s.heap);have hold:(s.heap.push {cls:=.type "dict",data:=.dict #[]}).get? s.heap.objs.size≠none:=by
   rw [Heap.get?_push_size _ rfl];exact λe=>by cases e
  have hD1:s.heap.objs.size ∉ as1:=λhm=>hold (G1.fresh _ hm hDn);refine ⟨more,hc,?_,λh' g' hs=>?_⟩
  ·obtain ⟨oo,es,ep,ho,hh⟩:=hnew;exact ⟨oo,es,ep,G1.kp _ _ hDn (λx=>x) ho,hh⟩
  ·have kp:∀ b o,b≠s.heap.objs.size->s1.heap.get? b=some o->h'.get? b=some o:=λb o hb e=>hs.extBut b o hb e;have notD:∀ vs n,¬ IsT s1.heap s.heap.objs.size vs n:=by
    obtain ⟨oo,es,ep,ho,hh⟩:=hnew;have ho':=G1.kp _ _ hDn (λx=>x) ho;intro vs n i;unfold IsT at i;rw [ho'] at i;have h1:=hh.1.1;replace h1:=(Option.some.inj i)▸h1;revert h1;refine (?_:¬ (Value.type "tuple"=Value.type "dict"));decide
   have nt:∀ x vs n,IsT s1.heap x vs n->IsT h' x vs n:=λx vs n i=>kp x _ (λe=>notD vs n (e▸i)) i;have G2:Go (· = s.heap.objs.size) prog w C h₀ _ as1 s1 _ as1 {s1 with heap:=h',toks:=s1.toks+rs.length} := Go.at G1.rel rfl (λa ha q=>hD1 (q▸ha)) hD0 notD kp;have hoff:∀ a∈as1,¬ (a=s.heap.objs.size):=λa ha q=>hD1 (q▸ha);have G3:=((G0.trans G1).toX hoff).trans G2;have G4:Go NoX prog w C h₀ _ as s _ as1 {s1 with heap:=h',toks:=s1.toks+rs.length} := G3.drop (λb q => .inr (by refine q.symm▸?_;exact aR _)) (λ_ _ x=>x);have hb':=hb.go nt;have G5:=G4.adoptO (o:=.dS l) (aR _) hD1 hD0 (λx=>x) (.dS g' hb'.keys hb'.vals (le_succ_of_le hz));exact ⟨_,G5,.ref (by refine (G4.rel.len)▸?_;simp)⟩
theorem zt {l r:Expr}{op:Dj}{pos:Pos}(H:bC prog w C h₀ A cf t)(R:Rel prog w C h₀ σ as s.heap)(F:Frm h₀ s.heap as env sc ρ)(e:ak cf (t+1) sc ρ (.BinOp l op r pos) σ=some (d,σ')) :
  BR (BS prog w) A (B3 (.BinOp l op r pos) env) (Ans prog w C h₀ σ as s σ' d) NoE s:=by
 refine ac e λa σ1 e1 e=>?_;refine ac e λb σ2 e2 e=>?_;refine PySem.wpAny_BinOp (BV (H.ev _ _ _ _ _ _ _ _ _ e1 R F) (λva s1 q=>?_) λ_ _ q=>q);obtain ⟨as1,G1,r1⟩:=q;refine BV (H.ev _ _ _ _ _ _ _ _ _ e2 G1.rel (F.noX G1)) (λvb s2 q=>?_) λ_ _ q=>q;obtain ⟨as2,G2,r2⟩:=q;exact fx (G1.trans G2) (xE G2.rel (G2.rep r1) r2 e)
theorem wT {e:Expr}(h:ak cf t sc ρ e σ=some (d,σ'))(es:List Expr)(k:Nat)(p:Pos):e ≠ .Set es k p:=by
 rintro rfl;induction t using Nat.casesOn with
 | zero=>exact af (σ:=σ) h
 | succ t=>exact af (σ:=σ) h
theorem tT {e:Expr}(op:DG)(h:∀ es k p,e ≠ .Set es k p):behindInMarks op e=false:=by
 cases e <;> first | rfl | exact absurd rfl (h _ _ _)
theorem yc {l r:Expr}{op:DG}{pos:Pos}(hr:dP A n)(H:bC prog w C h₀ A cf t)(R:Rel prog w C h₀ σ as s.heap)(F:Frm h₀ s.heap as env sc ρ)(e:ak cf (t+1) sc ρ (.Compare l [op] [r] pos) σ=some (d,σ')) :
  BR (BS prog w) A (B3 (.Compare l [op] [r] pos) env) (Ans prog w C h₀ σ as s σ' d) NoE s:=by
 refine ac e λa σ1 e1 e=>?_;refine ac e λb σ2 e2 e=>?_;refine wpAny_Compare1 (BV (H.ev _ _ _ _ _ _ _ _ _ e1 R F) (λva s1 q=>?_) λ_ _ q=>q) (tT op (wT e2));obtain ⟨as1,G1,r1⟩:=q;refine BV (H.ev _ _ _ _ _ _ _ _ _ e2 G1.rel (F.noX G1)) (λvb s2 q=>?_) λ_ _ q=>q;obtain ⟨as2,G2,r2⟩:=q;exact fx (G1.trans G2) (wj hr G2.rel (G2.rep r1) r2 e)
theorem zo {x:Expr}{op:UnaryOp}{pos:Pos}(H:bC prog w C h₀ A cf t)(R:Rel prog w C h₀ σ as s.heap)(F:Frm h₀ s.heap as env sc ρ)(e:ak cf (t+1) sc ρ (.UnaryOp op x pos) σ=some (d,σ')) :
  BR (BS prog w) A (B3 (.UnaryOp op x pos) env) (Ans prog w C h₀ σ as s σ' d) NoE s:=by
 (refine ac e ?_);clear e;rintro a σ1 e1 e;refine wpAny_UnaryOp (BV (H.ev _ _ _ _ _ _ _ _ _ e1 R F) (λva s1 q=>?_) λ_ _ q=>q);obtain ⟨as1,G1,r1⟩:=q;refine fx G1 ?_;induction op using UnaryOp.casesOn with
 | USub =>
  (refine dW e ?_);clear e;rintro i rfl e;(refine ai e ?_);clear e;rintro _ e;(refine aj e ?_);clear e;cases r1.intI;exact PyProof.Rows.neg_int (bQ G1.rel _ _ _)
 | Not =>
  (refine et e ?_);clear e;rintro i rfl e;(refine aj e ?_);clear e;cases r1.boolI;exact BN (CD (BP (cW G1.rel _)))
 | _=>exact af (σ:=σ1) e
theorem ye {c a b:Expr}{pos:Pos}(H:bC prog w C h₀ A cf t)(R:Rel prog w C h₀ σ as s.heap)(F:Frm h₀ s.heap as env sc ρ)(e:ak cf (t+1) sc ρ (.IfExp c a b pos) σ=some (d,σ')) :
  BR (BS prog w) A (B3 (.IfExp c a b pos) env) (Ans prog w C h₀ σ as s σ' d) NoE s:=by
 refine ac e λq σ1 e1 e=>?_;refine wpAny_IfExp (BV (H.tst _ _ _ _ _ _ _ _ _ e1 R F) (λv s1 x=>?_) λ_ _ q=>q);obtain ⟨rfl,as1,G1⟩:=x;induction v using Bool.casesOn with
 | true=>rw [if_pos rfl] at e ⊢;exact fx G1 (H.ev _ _ _ _ _ _ _ _ _ e G1.rel (F.noX G1))
 | false=>rw [if_neg (by decide)] at e ⊢;exact fx G1 (H.ev _ _ _ _ _ _ _ _ _ e G1.rel (F.noX G1))
theorem yu {v i:Expr}{pos:Pos}(H:bC prog w C h₀ A cf t)(R:Rel prog w C h₀ σ as s.heap)(F:Frm h₀ s.heap as env sc ρ){o j:D}{σ1 σ2:Sto}(e1:ak cf t sc ρ v σ=some (o,σ1))(e2:ak cf t sc ρ i σ1=some (j,σ2))(e:l8 o j σ2=some (d,σ')) :
  BR (BS prog w) A (B3 (.Subscript v i pos) env) (Ans prog w C h₀ σ as s σ' d) NoE s:=by
 refine d9 (BV (H.ev _ _ _ _ _ _ _ _ _ e1 R F) (λva s1 q=>?_) λ_ _ q=>q);obtain ⟨as1,G1,r1⟩:=q;refine BV (H.ev _ _ _ _ _ _ _ _ _ e2 G1.rel (F.noX G1)) (λvb s2 q=>?_) λ_ _ q=>q;obtain ⟨as2,G2,r2⟩:=q;refine ⟨?_,fx (G1.trans G2) (v7 G2.rel (G2.rep r1) r2 e)⟩;induction o using D.casesOn with
 | tup=>exact bP G2.rel (G2.rep r1) (λ_ _ _ h=>by cases h) (.inl ⟨_,rfl⟩)
 | ref k =>
  (refine bD e ?_);clear e;rintro po v0 hp e;refine bP G2.rel (G2.rep r1) (λk' dd v1 h1 h2=>?_) (.inr ⟨k,po,v0,rfl,hp⟩);cases h1;replace h2:=hp▸h2;cases h2;exact af (σ:=σ2) e
 | _=>exact af (σ:=σ2) e
end
structure gP (h₀:BW)(C:BQ):Prop where
 get:∀ {prog:BX} {w:BY} {A:BZ} {E:BO->BU->Prop} {Q:BO->BU->Prop} {s:BU} {x:BQ} {ox od:Obj} {name:Str} {v:BO} {expr:Bool},bY.contains name=true->(∀ b o,h₀.get? b=some o->s.heap.get? b=some o) ->
  PySem.W.InstAt s.heap x ox C (some od)->PySem.W.lookIn name od=some (some v)->PySem.W.handedIn v=true->Q v {s with toks:=s.toks+1} -> BR (BS prog w) A (getAttr (.ref x) name expr) Q E s
 set:∀ {prog:BX} {w:BY} {A:BZ} {E:BO->BU->Prop} {Q:Unit->BU->Prop} {s:BU} {x dx:BQ} {kvs:List (Str×BO)} {name:Str} {v:BO},bY.contains name=true->(∀ b o,h₀.get? b=some o->s.heap.get? b=some o) ->
  s.heap.get? x=some ({cls:=.ref C,dict:=some dx} : Obj)->s.heap.DictOf (PySem.strKind prog w) dx kvs->kvs.length<=900->(∀ h' tk,h'.DictOf (PySem.strKind prog w) dx (Cx kvs name v)->Heap.SameBut dx s.heap h'->Q () {s with heap:=h',toks:=tk})->BR (BS prog w) A (setAttr (.ref x) name v) Q E s
section
variable {prog:BX}{w:BY}{C:BQ}{h₀ h:BW}{σ σ':Sto}{as as':List BQ}{s s':BU}{A:BZ}{d:D}{n t:Nat}{env cenv:Env}{sc sc' sc2 scope:B0}{ρ ρ' ρ0:Loc}{cf:Str->List D->PM D}
theorem tE {v:Expr}{lo hi:Option Expr}{p pos:Pos}(H:bC prog w C h₀ A cf t)(R:Rel prog w C h₀ σ as s.heap)(F:Frm h₀ s.heap as env sc ρ)(e:ak cf (t+1) sc ρ (.Subscript v (.Slice lo hi none p) pos) σ=some (d,σ')) :
  BR (BS prog w) A (B3 (.Subscript v (.Slice lo hi none p) pos) env) (Ans prog w C h₀ σ as s σ' d) NoE s:=by
 (refine ac e ?_);clear e;rintro o σ1 e1 e;(refine ac e ?_);clear e;rintro a σ2 e2 e;(refine ac e ?_);clear e;rintro b σ3 e3 e;refine d9 (BV (H.ev _ _ _ _ _ _ _ _ _ e1 R F) (λva s1 q=>?_) λ_ _ q=>q);obtain ⟨as1,G1,r1⟩:=q;have F1:=F.noX G1;refine wpAny_Slice (BV (H.part _ _ _ _ _ _ _ _ _ e2 G1.rel F1) (λvl s2 q=>?_) λ_ _ q=>q);obtain ⟨pl,as2,G2⟩:=q;refine BV (H.part _ _ _ _ _ _ _ _ _ e3 G2.rel (F1.noX G2)) (λvh s3 q=>?_) λ_ _ q=>q;obtain ⟨ph,as3,G3⟩:=q;refine BP ?_;have G4:Go NoX prog w C h₀ σ3 as3 s3 σ3 as3 {s3 with heap:=s3.heap.push {cls:=.type "slice",data:=.fields #[vl,vh,.none]} } := ms G3.rel (λ_ _ x=>x);have G:=((G1.trans G2).trans G3).trans G4;have ro:=G4.rep (G3.rep (G2.rep r1));refine ⟨?_,fx G (re G4.rel ro pl ph (Heap.IsSliceOf.new _ _ _ _) e)⟩;cases Bc e with
 | a=>exact bP G4.rel ro (λ_ _ _ h=>by cases h) (.inl ⟨_,rfl⟩)
 | b=>exact bP G4.rel ro (λ_ _ _ h=>by cases h) (.inl ⟨_,rfl⟩)
 | c k _ e =>
  (refine ai e ?_);clear e;rintro _ e;(refine bj e ?_);clear e;rintro l v0 hp e;refine bP G4.rel ro (λk' dd v1 h1 h2=>?_) (.inr ⟨k,_,v0,rfl,hp⟩);cases h1;replace h2:=hp▸h2;cases h2
theorem pU {o:Expr}{name:Str}{whole:Sem BO}(hb:nW o=true):attributeBase o name env whole=whole:=by
 induction o using Expr.casesOn with
 | Call f args kws pos =>
  induction f using Expr.casesOn with
  | Name=>cases hb
  | _=>rfl
 | _=>rfl
theorem pE {v:BO}{d:D}(r:Rep h as v d):PySem.W.handedIn v=true:=by cases r <;> rfl
theorem rB (x name:Str)(t:Tok):Value.isStr (.str x t) name=decide (x=name):=by
 unfold Value.isStr;by_cases hn:x=name
 ·subst hn;simp
 ·simp [hn]
theorem oy {name:Str}{es:List Cw}{kvs:List (Str×BO)}(r:Pairs (PySem.strKind prog w) es kvs):(es.find? (·.key.isStr name)).map (·.val)=DB kvs name/\es.any (·.refKey)=false:=by
 induction r with
 | nil=>exact ⟨rfl,rfl⟩
 | @cons e kv es kvs h1 h2 _ ih =>
  obtain ⟨tk,hk⟩:=Value.isStrOf_shape ((h1:Value.isStrOf kv.1 e.key=true));have hs:e.key.isStr name=decide (kv.1=name):=hk▸rB _ _ _;refine ⟨?_,?_⟩
  ·refine (?_:((e::es).find? (·.key.isStr name)).map (·.val)=((kv::kvs).find? λkv=>kv.1=name).map (·.2));(refine (List.find?_cons).symm▸?_;refine (List.find?_cons).symm▸?_;refine hs.symm▸?_);cases decide (kv.1=name) with
   | true=>exact congrArg some h2
   | false=>exact ih.1
  ·(refine (any_cons).symm▸?_;refine (ih.2).symm▸?_;refine (Bool.or_false _).symm▸?_);unfold DictEntry.refKey;rw [hk]
theorem gJ {a:BQ}{kvs:List (Str×BO)}{name:Str}(g:h.DictOf (PySem.strKind prog w) a kvs):∃ od,h.get? a=some od/\PySem.W.lookIn name od=some (DB kvs name):=by
 obtain ⟨o,es,ep,hq⟩:=g;have ho:=hq.1;have hc:=hq.2.1;have hd:=hq.2.2.1;have hk:=hq.2.2.2.1;have hp:=hq.2.2.2.2.1;have hn:=hq.2.2.2.2.2;refine ⟨o,ho,?_⟩;have hq:=oy (name:=name) hp;have h1:=hq.1;have h2:=hq.2;unfold PySem.W.lookIn;rw [hd];dsimp only;cases hf:es.toList.find? (·.key.isStr name) with
 | some e=>rw [hf] at h1;rw [<- h1];rfl
 | none=>rw [hf] at h1;rw [<- h1,h2];rfl
theorem mV {k dk v0 v1:Nat}{a:BQ}{l:List (Str×D)}(R:Rel prog w C h₀ σ as s.heap)(ka:as[k]? = some a)(hk:σ[k]? = some (.inst dk,v0))(hd:σ[dk]? = some (.dS l,v1)) :
  ∃ dx kvs,as[dk]? = some dx/\s.heap.get? a=some ({cls:=.ref C,dict:=some dx} : Obj)/\s.heap.DictOf (PySem.strKind prog w) dx kvs/\fc s.heap as kvs l/\l.length<=aQ+1:=by
 cases R.objs _ _ _ _ hk ka with
 | @inst _ dx hdx g =>
 cases (R.objs _ _ _ _ hd hdx).dSI with
 | @mk kvs gd kk rr z=>exact ⟨dx,kvs,hdx,g,gd,⟨kk,rr⟩,z⟩
theorem iC {k dk:Nat}{l:List (Str×D)}(e:uE k σ=some ((dk,l),σ')):σ'=σ/\∃ v0 v1,σ[k]? = some (.inst dk,v0)/\σ[dk]? = some (.dS l,v1):=by
 (refine bD e ?_);clear e;rintro po v0 hp e;induction po using PO.casesOn with
 | inst d =>
  (refine bD e ?_);clear e;rintro po2 v1 hp2 e;induction po2 using PO.casesOn with
  | dS l' =>
   have hq:=bp e;have h1:=hq.1;have h2:=hq.2;have hq:=Prod.mk.inj h1;have h3:=hq.1;have h4:=hq.2;exact ⟨h2.symm,v0,v1,h3▸hp,h4▸h3▸hp2⟩
  | _=>exact af (σ:=σ) e
 | _=>exact af (σ:=σ) e
theorem vI {v:Expr}{attr:Str}{pos:Pos}(CO:gP h₀ C)(H:bC prog w C h₀ A cf t)(R:Rel prog w C h₀ σ as s.heap)(F:Frm h₀ s.heap as env sc ρ)(e:ak cf (t+1) sc ρ (.Attribute v attr pos) σ=some (d,σ')) :
  BR (BS prog w) A (B3 (.Attribute v attr pos) env) (Ans prog w C h₀ σ as s σ' d) NoE s:=by
 (refine ai e ?_);clear e;rintro hm e;replace hm:=(and_eq_true _ _)▸hm;(refine ac e ?_);clear e;rintro o σ2 e2 e;(refine (arm_eval_Attribute _ _ _ _).symm▸?_;refine (pU hm.1).symm▸?_);refine BN (BV (H.ev _ _ _ _ _ _ _ _ _ e2 R F) (λva s1 q=>?_) λ_ _ q=>q);obtain ⟨as1,G1,r1⟩:=q;refine BN (Cf (BN (B1 ?_)));induction o using D.casesOn with
 | ref k =>
  (refine ac e ?_);clear e;rintro ⟨dk,l⟩ σ3 e3 e;obtain ⟨hs3,v0,v1,hk,hd⟩:=iC e3;replace e:=hs3▸e;obtain ⟨hl,hs4⟩:=bW e;refine hs4.symm▸?_;cases r1.refI with
  | @mk a ka =>
  obtain ⟨dx,kvs,hq⟩:=mV G1.rel ka hk hd;have hdx:=hq.1;have g:=hq.2.1;have gd:=hq.2.2.1;have b:=hq.2.2.2.1;have z:=hq.2.2.2.2;obtain ⟨od,hq⟩:=gJ (name:=attr) gd;have ho:=hq.1;have hlo:=hq.2;rcases a6 b.keys b.vals attr with ⟨h1,h2⟩ | ⟨u,d',h1,h2,ru⟩
  ·replace hl:=h2▸hl;exact an hl
  ·replace hl:=h2▸hl;(have:=Option.some.inj hl;subst this);replace hlo:=h1▸hlo;refine CO.get hm.2 G1.rel.kept ⟨g,rfl,rfl,ho⟩ hlo (pE ru) ?_;exact BN (DH (BP (iE G1 (dp G1.rel ru _))))
 | _=>exact af (σ:=σ2) e
theorem tD {elt tg it:Expr}{ifs:List Expr}{pos:Pos}(hh:A.handled=none)(H:bC prog w C h₀ A cf t)(R:Rel prog w C h₀ σ as s.heap)(F:Frm h₀ s.heap as env sc ρ){src:Src}{l:List D}{σ1 σ2:Sto}{u:Unit}
  (ei:cz cf t sc ρ it σ=some (src,σ1)) (ok:cD scope sc=true)
  (eg:bJ src (λx=>do let ρ1 <- d4 scope tg x (bL scope ρ);if <- bI cf t (ay scope sc) ρ1 ifs then do let v <- ak cf t (ay scope sc) ρ1 elt;pure [v] else pure []) src.items σ1=some (l,σ2))
  (es:src.still σ2=some (u,σ2)) (em:mkList l σ2=some (d,σ')) :
  BR (BS prog w) A (B3 (.ListComp elt [⟨tg,it,ifs,0⟩] scope pos) env) (Ans prog w C h₀ σ as s σ' d) NoE s:=by
 obtain ⟨hs,hit⟩:=H.iter _ _ _ _ _ _ _ _ _ ei R F;refine sk (inner:=λL cenv=>lj elt (.ref L) cenv) R F ok hs hit (λcenv I L=>nA elt tg it ifs scope pos (.ref I) (.ref L) cenv) (λcenv L hsc nc=>?_) eg es em;exact ik hh nc (ts:=λρ1=>bI cf t (ay scope sc) ρ1 ifs) (el:=λρ1=>ak cf t (ay scope sc) ρ1 elt) (λσ as s ρ b σ1 e R F=>H.tsts _ _ _ _ _ _ _ _ _ e R F) (λσ as s ρ d σ1 e R F=>H.ev _ _ _ _ _ _ _ _ _ e R F)
theorem um {elt tg it tg2 it2:Expr}{ifs ifs2:List Expr}{pos:Pos}(hh:A.handled=none)(H:bC prog w C h₀ A cf t)(R:Rel prog w C h₀ σ as s.heap)(F:Frm h₀ s.heap as env sc ρ){src:Src}{l:List D}{σ1 σ2:Sto}{u:Unit}
  (ei:cz cf t sc ρ it σ=some (src,σ1)) (ok:cD scope sc=true) (hnset:∀ cenv x,B9 it2 cenv x=pure x)
  (eg:bJ src (λx=>do let ρ1 <- d4 scope tg x (bL scope ρ);if <- bI cf t (ay scope sc) ρ1 ifs then (do let src2 <- cz cf t (ay scope sc) ρ1 it2;let l2 <- bJ src2 (λy=>do let ρ2 <- d4 scope tg2 y ρ1;if <- bI cf t (ay scope sc) ρ2 ifs2 then do let v <- ak cf t (ay scope sc) ρ2 elt;pure [v] else pure []) src2.items;src2.still;pure l2) else pure []) src.items σ1=some (l,σ2))
  (es:src.still σ2=some (u,σ2)) (em:mkList l σ2=some (d,σ')) :
  BR (BS prog w) A (B3 (.ListComp elt [⟨tg,it,ifs,0⟩,⟨tg2,it2,ifs2,0⟩] scope pos) env) (Ans prog w C h₀ σ as s σ' d) NoE s:=by
 obtain ⟨hs,hit⟩:=H.iter _ _ _ _ _ _ _ _ _ ei R F;refine sk (inner:=λL cenv=>iB (.ListComp elt [⟨tg,it,ifs,0⟩,⟨tg2,it2,ifs2,0⟩] scope pos) 1 it2 (.ref L) cenv) R F ok hs hit (λcenv I L=>kQ elt tg it tg2 it2 ifs ifs2 scope pos (.ref I) (.ref L) cenv) (λcenv L hsc nc=>?_) eg es em;exact iV hh nc (hnset cenv) (ts:=λρ1=>bI cf t (ay scope sc) ρ1 ifs) (ts2:=λρ1=>bI cf t (ay scope sc) ρ1 ifs2) (el:=λρ1=>ak cf t (ay scope sc) ρ1 elt) (sr:=λρ1=>cz cf t (ay scope sc) ρ1 it2)
  (λσ as s ρ b σ1 e R F=>H.tsts _ _ _ _ _ _ _ _ _ e R F) (λσ as s ρ b σ1 e R F=>H.tsts _ _ _ _ _ _ _ _ _ e R F) (λσ as s ρ src σ1 e R F=>(H.iter _ _ _ _ _ _ _ _ _ e R F).2) (λσ as s ρ d σ1 e R F=>H.ev _ _ _ _ _ _ _ _ _ e R F)
end
section
variable {prog:BX}{w:BY}{C:BQ}{h₀ h:BW}{σ σ':Sto}{as as':List BQ}{s s':BU}{A:BZ}{d:D}{n t:Nat}{env cenv:Env}{sc sc' sc2 scope:B0}{ρ ρ' ρ0:Loc}{cf:Str->List D->PM D}
theorem oY {l r:Expr}{op:DG}{pos:Pos}{whole:Sem BO}{Q:Bool->BU->Prop}{E:BO->BU->Prop}(h:BR (BS prog w) A (B3 (.Compare l [op] [r] pos) env) (λv s1=>BR (BS prog w) A (DV v) Q E s1) E s) :
  BR (BS prog w) A (PySem.isTrue (.Compare l [op] [r] pos) env whole) Q E s:=by
 have e:PySem.isTrue (.Compare l [op] [r] pos) env whole=(B3 (.Compare l [op] [r] pos) env >>= λc=>CN [c] (DV c)):=by
  rw [isTrue_Compare1,arm_eval_Compare];show _=((B3 l env >>= λa=>(do let rv <- CN [a] (markedBehindIn op r (B3 r env));Di pos;operate [a,rv] (CT op a rv):Sem BO)) >>= λc=>CN [c] (DV c));simp only [bind_assoc]
 rw [e];exact BN (BV h (λv s1 q=>B1 q) λ_ _ q=>q)
theorem eF {o:D}{v:BO}{b:Bool}{σ1:Sto}{as1:List BQ}{s1:BU}(G:Go NoX prog w C h₀ σ as s σ1 as1 s1)(r:Rep s1.heap as1 v o)(e:df o σ1=some (b,σ')) :
  BR (BS prog w) A (DV v) (su prog w C h₀ σ as s σ' b) NoE s1:=by
 obtain ⟨rfl,rfl⟩:=iS e;cases r.boolI;exact CD ⟨rfl,as1,G⟩
theorem vH {e:Expr}{b:Bool}(H:bC prog w C h₀ A cf t)(R:Rel prog w C h₀ σ as s.heap)(F:Frm h₀ s.heap as env sc ρ)(he:cR cf (t+1) sc ρ e σ=some (b,σ')) :
  BR (BS prog w) A (PySem.isTrue e env (B3 e env)) (su prog w C h₀ σ as s σ' b) NoE s:=by
 have gen:∀ e,cR cf (t+1) sc ρ e σ=(do df (<- ak cf t sc ρ e):PM Bool) σ->PySem.isTrue e env (B3 e env)=(do let v <- B3 e env;Di e.pos;CN [v] (DV v))->cR cf (t+1) sc ρ e σ=some (b,σ') ->
   BR (BS prog w) A (PySem.isTrue e env (B3 e env)) (su prog w C h₀ σ as s σ' b) NoE s:=by
  intro e h1 h2 h3;rw [h1] at h3;refine ac h3 λo σ1 e1 h3=>?_;refine wpAny_isTrue_value (BV (H.ev _ _ _ _ _ _ _ _ _ e1 R F) (λv s1 q=>?_) λ_ _ q=>q) h2;obtain ⟨as1,G1,r⟩:=q;exact eF G1 r h3
 induction e using Expr.casesOn with
 | UnaryOp op x pos =>
  induction op using UnaryOp.casesOn with
  | Not =>
   refine ac he λq σ1 e1 he=>?_;(refine aj he ?_);clear he;refine wpAny_isTrue_Not (BV (H.tst _ _ _ _ _ _ _ _ _ e1 R F) (λv s1 x=>?_) λ_ _ q=>q);obtain ⟨rfl,as1,G1⟩:=x;exact ⟨rfl,as1,G1⟩
  | _=>exact gen _ rfl rfl he
 | BoolOp=>exact af (σ:=σ) he
 | IfExp=>exact af (σ:=σ) he
 | Compare l ops rs pos =>
  have h1:cR cf (t+1) sc ρ (.Compare l ops rs pos) σ=(do df (<- ak cf t sc ρ (.Compare l ops rs pos)):PM Bool) σ:=rfl;rw [h1] at he;(refine ac he ?_);clear he;rintro o σ1 e1 he;have shape:∃ op r,ops=[op]/\rs=[r]:=by
   induction t using Nat.casesOn with
   | zero=>exact af (σ:=σ) e1
   | succ t =>
    induction ops using iD with
    | h1 op=>induction rs using iD with
     | h1 r=>exact ⟨op,r,rfl,rfl⟩
     | _=>exact af (σ:=σ) e1
    | _=>exact af (σ:=σ) e1
  obtain ⟨op,r,rfl,rfl⟩:=shape;refine oY (BV (H.ev _ _ _ _ _ _ _ _ _ e1 R F) (λv s1 q=>?_) λ_ _ q=>q);obtain ⟨as1,G1,r⟩:=q;exact eF G1 r he
 | _=>exact gen _ rfl rfl he
theorem mQ {Q:Bool->BU->Prop}{E:BO->BU->Prop}(h:Q false s):∀ ifs:List Expr,BR (BS prog w) A (forIn ifs false λc r=>if r=true then do let ok <- PySem.isTrue c env (B3 c env);pure (ForInStep.yield ok) else pure (ForInStep.yield r)) Q E s:=λl=>by
 induction l using List.rec with
 | nil =>
  exact BP h
 | cons c r ih =>
  rw [forIn_cons,if_neg (by decide)];exact BN (BP (ih))
theorem tn {es:List Expr}{b:Bool}(H:bC prog w C h₀ A cf t)(R:Rel prog w C h₀ σ as s.heap)(F:Frm h₀ s.heap as env sc ρ)(he:bI cf (t+1) sc ρ es σ=some (b,σ')) :
  BR (BS prog w) A (c4 es env) (su prog w C h₀ σ as s σ' b) NoE s:=by
 induction es using List.casesOn with
 | nil =>
  (refine aj he ?_);clear he;exact BP ⟨rfl,as,Go.refl R (λ_ _ x=>x)⟩
 | cons e r =>
  refine ac he λq σ1 e1 he=>?_;unfold c4;rw [forIn_cons,if_pos rfl];refine BN (BN (BV (H.tst _ _ _ _ _ _ _ _ _ e1 R F) (λv s1 x=>?_) λ_ _ q=>q));obtain ⟨rfl,as1,G1⟩:=x;refine BP ?_;induction v using Bool.casesOn with
  | true =>
   rw [if_pos rfl] at he;exact BV (H.tsts _ _ _ _ _ _ _ _ _ he G1.rel (F.noX G1)) (λ_ _ q=>xB G1 q) λ_ _ q=>q
  | false =>
   rw [if_neg (by decide)] at he;(refine aj he ?_);clear he;exact mQ ⟨rfl,as1,G1⟩ r
theorem qp {op:BoolOp}{es:List Expr}{pos:Pos}(H:bC prog w C h₀ A cf t)(R:Rel prog w C h₀ σ as s.heap)(F:Frm h₀ s.heap as env sc ρ)(he:kD cf (t+1) sc ρ op es σ=some (d,σ')) :
  BR (BS prog w) A (boolOp pos op (EF es env)) (Ans prog w C h₀ σ as s σ' d) NoE s:=by
 induction es using List.casesOn with
 | nil=>exact af (σ:=σ) he
 | cons e r =>
  induction r using List.casesOn with
  | nil=>exact H.ev _ _ _ _ _ _ _ _ _ he R F
  | cons e2 r =>
  (refine ac he ?_);clear he;rintro a σ1 e1 he;(refine ac he ?_);clear he;rintro q σ2 e2' he;refine (?_:BR _ _ (do let v <- B3 e env;Di pos;let t <- CN [v] (DV v);match op,t with | .And,false | .Or,true=>pure v | _,_=>boolOp pos op (EF (e2::r) env)) _ _ s);refine BN (BV (H.ev _ _ _ _ _ _ _ _ _ e1 R F) (λv s1 x=>?_) λ_ _ q=>q);obtain ⟨as1,G1,r1⟩:=x;obtain ⟨rfl,rfl⟩:=iS e2';cases r1.boolI;refine BN (Cf (BN (B1 (CD ?_))));cases op <;> cases q
  ·(refine aj he ?_);clear he;exact BP ⟨as1,G1,.bool _⟩
  ·exact fx G1 (H.bool _ _ _ _ _ _ _ _ _ _ _ he G1.rel (F.noX G1))
  ·exact fx G1 (H.bool _ _ _ _ _ _ _ _ _ _ _ he G1.rel (F.noX G1))
  ·(refine aj he ?_);clear he;exact BP ⟨as1,G1,.bool _⟩
theorem w9 {e:Option Expr}{o:Option Int}(H:bC prog w C h₀ A cf t)(R:Rel prog w C h₀ σ as s.heap)(F:Frm h₀ s.heap as env sc ρ)(he:kz cf (t+1) sc ρ e σ=some (o,σ')) :
  BR (BS prog w) A (evalPart e env) (wC prog w C h₀ σ as s σ' o) NoE s:=by
 induction e using Option.casesOn with
 | none =>
  (refine aj he ?_);clear he;refine (evalPart_none _).symm▸?_;exact BP ⟨.none,as,Go.refl R (λ_ _ x=>x)⟩
 | some e =>
  (refine ac he ?_);clear he;rintro a σ1 e1 he;(refine ac he ?_);clear he;rintro i σ2 e2 he;obtain ⟨rfl,rfl⟩:=qC e2;(refine aj he ?_);clear he;refine (evalPart_some _ _).symm▸?_;refine BV (H.ev _ _ _ _ _ _ _ _ _ e1 R F) (λv s1 q=>?_) λ_ _ q=>q;obtain ⟨as1,G1,r1⟩:=q;exact ⟨rQ r1,as1,G1⟩
theorem gV {e:Expr}(h:oj e=false)(x:BO):B9 e env x=pure x:=by
 cases e <;> first | rfl | cases h
theorem tS {v:BO}{i:Int}{src:Src}(hh:A.handled=none)(R:Rel prog w C h₀ σ as s.heap)(r:Rep s.heap as v (.int i))(e:nu i σ=some (src,σ')) :
  BR (BS prog w) A (call (.type "range") [v]) (λx s1=>BR (BS prog w) A (Cq x) (gW prog w C A h₀ σ as s σ' src) NoE s1) NoE s:=by
 refine ai e λhm e=>?_;(refine aj e ?_);clear e;simp only [and_eq_true,decide_eq_true_eq] at hm;cases r with
 | int _ tk =>
 refine call_range_1 ?_;refine wpAny_pyIter_range (IsRange.new ..) (small_one (by decide) (by decide) (Int.le_trans (by decide) hm.1) (Int.lt_of_le_of_lt hm.2 (by decide))) ?_;have hsz:Builtin.Range.rangeSize 0 i 1=(i.toNat:Int):=by
  rw [rangeSize_one,Int.sub_zero,Int.toNat_of_nonneg hm.1];by_cases h:(0:Int) < i
  ·exact if_pos h
  ·exact (if_neg h).trans (Int.le_antisymm hm.1 (Int.not_lt.mp h))
 have e1':(0+((0:Nat):Int) * 1)=0:=by simp
 have e2':((i.toNat:Int) - ((0:Nat):Int))=Builtin.Range.rangeSize 0 i 1:=by rw [hsz];simp
 have W:=Walks.range (prog:=prog) (w:=w) (A:=A) hh (s.heap.push {cls:=.type "range",data:=.fields #[.int 0 s.toks,.int i tk,.int 1 (s.toks+1)]}).objs.size 0 1 i.toNat;have hfree:s.heap.get? (s.heap.push {cls:=.type "range",data:=.fields #[.int 0 s.toks,.int i tk,.int 1 (s.toks+1)]}).objs.size=none:=cX _ (by rw [Heap.size_push];exact le_succ _);have hq:=R.free hfree;have hI:=hq.1;have hI0:=hq.2;have hits:(Src.rng i.toNat).items.length=i.toNat:=by simp [Src.items]
 refine ⟨as,_,rfl,Go.grow R (λb o e=>Heap.get?_push_of_some _ (Heap.get?_push_of_some _ e)) (λ_ _ x=>x),hfree,⟨hI,hI0,_,_,_,by rw [hits];exact W,?_,λj v hj p=>?_,λb hb hbI=>?_,λj h st=>?_⟩,?_,(),rfl⟩
 ·show IsRangeIter _ _ _ _ _;rw [e1',e2'];exact Heap.get?_push_size _ rfl
 ·obtain ⟨t',rfl⟩:=p;rw [hits] at hj;refine ⟨.int (j:Nat),?_,?_⟩
  ·show ((List.range i.toNat).map λ(i:Nat)=>D.int i)[j]? = _;rw [List.getElem?_map,List.getElem?_range hj];rfl
  ·have:(0+(j:Int) * 1)=(j:Int):=(Int.zero_add _).trans (Int.mul_one _);rw [this];exact .int _ _
 ·simp only [mem_singleton] at hb;exact absurd hb hbI
 ·exact ⟨_,_,st,rfl,by decide⟩
 ·rw [hits];exact le_trans (Int.toNat_le.mpr hm.2) (show 64<=aQ+1 by decide)
theorem gH {x:Str}{np pos:Pos}{args:List Expr}{Q:BO->BU->Prop}(h:BR (BS prog w) A (B3 (.Name x np) env) (λf s₁=>BR (BS prog w) A (D7 pos f [] (Cp pos (Ce args env)) []) Q NoE s₁) NoE s) :
  BR (BS prog w) A (B3 (.Call (.Name x np) args [] pos) env) Q NoE s:=wpAny_Call_ofName (keywords:=[]) h
theorem wQ {e:Expr}{src:Src}(hh:A.handled=none)(U:j0 h₀ C)(H:bC prog w C h₀ A cf t)(R:Rel prog w C h₀ σ as s.heap)(F:Frm h₀ s.heap as env sc ρ)(he:cz cf (t+1) sc ρ e σ=some (src,σ')) :
  (∀ x,B9 e env x=pure x)/\BR (BS prog w) A (B3 e env) (λx s1=>BR (BS prog w) A (Cq x) (gW prog w C A h₀ σ as s σ' src) NoE s1) NoE s:=by
 have gen:∀ e,cz cf (t+1) sc ρ e σ=(do gS (<- ak cf t sc ρ e):PM Src) σ->oj e=false->cz cf (t+1) sc ρ e σ=some (src,σ') ->
   (∀ x,B9 e env x=pure x)/\BR (BS prog w) A (B3 e env) (λx s1=>BR (BS prog w) A (Cq x) (gW prog w C A h₀ σ as s σ' src) NoE s1) NoE s:=by
  intro e h1 h2 h3;rw [h1] at h3;refine ac h3 λo σ1 e1 h3=>?_;refine ⟨gV h2,BV (H.ev _ _ _ _ _ _ _ _ _ e1 R F) (λv s1 q=>?_) λ_ _ q=>q⟩;obtain ⟨as1,G1,r⟩:=q;refine BV (t8 hh G1.rel r h3) (λv s2 q=>?_) λ_ _ q=>q;obtain ⟨as2,I,rfl,G2,hf,T,hl,hs⟩:=q;refine ⟨as2,I,rfl,G1.trans G2,G1.free_back (λhm=>?_) hf,T,hl,hs⟩;have:=G1.rel.free hf;exact this.1 hm
 induction e using Expr.casesOn with
 | Set=>exact af (σ:=σ) he
 | Call f args kws pos =>
  induction f using Expr.casesOn with
  | Name id np =>
   have he2:=he;induction args using iD with
   | h1 a=>induction kws using List.casesOn with
    | cons=>exact gen _ rfl rfl he
    | nil =>
    have form:cz cf (t+1) sc ρ (.Call (.Name id np) [a] [] pos)=(if id==("range" : Str) then (do must (bk sc id);nu (<- co (<- ak cf t sc ρ a))) else (do gS (<- ak cf t sc ρ (.Call (.Name id np) [a] [] pos)):PM Src)):=rfl;by_cases hid:(id==("range" : Str))=true
    ·rw [form,if_pos hid] at he2;(refine ai he2 ?_);clear he2;rintro hg he2;(refine ac he2 ?_);clear he2;rintro o σ2 e2 he2;(refine ac he2 ?_);clear he2;rintro i σ3 e3 he2;obtain ⟨rfl,hs3⟩:=eQ e3;rw [hs3] at he2;have hid':=beq_iff_eq.mp hid;subst hid';refine ⟨λ_=>rfl,gH (qY U R F hg (v:=.type "range") (by decide) ?_)⟩;rw [c7 λy p=>cn e2];refine PySem.callWith_type rfl (evalArgs_plain (spliced_cons (BV (H.ev _ _ _ _ _ _ _ _ _ e2 R F) (λv s1 q=>spliced_nil ?_) λ_ _ q=>q)));obtain ⟨as1,G1,r⟩:=q;refine BV (tS hh G1.rel r he2) (λv s2 q=>BV q (λv s3 q=>?_) λ_ _ q=>q) λ_ _ q=>q;obtain ⟨as2,I,rfl,G2,hf,T,hl,hs⟩:=q;exact ⟨as2,I,rfl,G1.trans G2,G1.free_back (G1.rel.free hf).1 hf,T,hl,hs⟩
    ·refine gen _ ?_ rfl he2;rw [form,if_neg hid]
   | _=>exact gen _ rfl rfl he
  | _=>exact gen _ rfl rfl he
 | _=>exact gen _ rfl rfl he
end
noncomputable def pO (h₀:BW)(v:BO):Prop:=∀ (M:Model) (h:BW),(∀ b o,h₀.get? b=some o->h.get? b=some o)->∃ k,(k=Keeper.frame\/k=Keeper.machine\/k=Keeper.boundFrame)/\PySem.W.Looks M h (keeperOf v) k
noncomputable def vy (h₀:BW)(C:BQ)(name:Str)(f:BQ):Prop:=∀ {prog:BX} {w:BY} {A:BZ} {E:BO->BU->Prop} {Q:BO×List BO->BU->Prop} {s:BU} {x:BQ} {ox od:Obj} {pl:Sem Bool},(∀ b o,h₀.get? b=some o->s.heap.get? b=some o) ->
 PySem.W.InstAt s.heap x ox C (some od)->PySem.W.lookIn name od=some none->Q (.ref f,[.ref x]) s->BR (BS prog w) A (Dq (.ref x) name pl) Q E s
structure Orc (prog:BX)(w:BY)(C:BQ)(h₀:BW)(A:BZ)(cf:Str->List D->PM D):Prop where
 glob:∀ id args σ d σ',id.cps.contains 46=false->cf id args σ=some (d,σ')->∃ v,(∃ mg,h₀.Ns CP mg/\mg id=some v)/\pO h₀ v/\∀ as s vals,Rel prog w C h₀ σ as s.heap->aD s.heap as vals args->BR (BS prog w) A (call v vals []) (Ans prog w C h₀ σ as s σ' d) NoE s
 meth:∀ name k args σ d σ',cf (("Evaluator." : Str)++name) (.ref k::args) σ=some (d,σ')->∃ f,vy h₀ C name f/\pO h₀ (.ref f)/\∀ as s x vals,Rel prog w C h₀ σ as s.heap->aD s.heap as (x::vals) (.ref k::args)->BR (BS prog w) A (call (.ref f) (x::vals) []) (Ans prog w C h₀ σ as s σ' d) NoE s
structure pL (prog:BX)(w:BY)(C:BQ)(h₀:BW)(A:BZ):Prop where
 sorted:∀ σ as s a v d σ',mZ a σ=some (d,σ')->Rel prog w C h₀ σ as s.heap->Rep s.heap as v a->BR (BS prog w) A (call (.builtin "sorted") [v]) (Ans prog w C h₀ σ as s σ' d) NoE s
 sortSet:∀ σ as s a v d σ',(do mkList (<- cV (<- qb a)):PM D) σ=some (d,σ')->Rel prog w C h₀ σ as s.heap->Rep s.heap as v a ->
  BR (BS prog w) A (call (.type "set") [v]) (λsv s1=>BR (BS prog w) A (call (.builtin "sorted") [sv]) (Ans prog w C h₀ σ as s σ' d) NoE s1) NoE s
 items:∀ (σ:Sto) (as:List BQ) (s:BU) (k:Nat) (a:BQ) (l:List (Str×D)) (v0:Nat) (d:D) (σ':Sto),σ[k]? = some (.dS l,v0)->as[k]? = some a->mkList (l.map λp => .tup [.str p.1,p.2]) σ=some (d,σ')->Rel prog w C h₀ σ as s.heap ->
  BR (BS prog w) A (call (.builtin "dict.items") [.ref a]) (λiv s1=>BR (BS prog w) A (call (.type "list") [iv]) (Ans prog w C h₀ σ as s σ' d) NoE s1) NoE s
section
variable {prog:BX}{w:BY}{C:BQ}{h₀ h:BW}{σ σ':Sto}{as as':List BQ}{s s':BU}{A:BZ}{d:D}{n t:Nat}{env cenv:Env}{sc sc' sc2 scope:B0}{ρ ρ' ρ0:Loc}{cf:Str->List D->PM D}
theorem cA {f:BO}{trees:List (Bool×Sem BO)}{Q:Args->BU->Prop}(hp:trees.any (·.1)=false)(h:BR (BS prog w) A (DY trees) (λvs s'=>Q ⟨vs,[]⟩ s') NoE s):BR (BS prog w) A (evalArgs f true trees []) Q NoE s:=by
 induction trees using List.casesOn with
 | nil =>
  show BR _ A (DY [] >>= _) Q NoE s;refine BN (BV h (λvs s' q=>?_) λ_ _ q=>q);refine BN (BP ?_);refine B1 ?_;exact BN (BP (BN (BP (BP q))))
 | cons x r =>
  obtain ⟨b,x⟩:=x;have hb:b=false:=by
   rw [any_cons] at hp;cases b
   ·rfl
   ·cases hp
  subst hb;exact evalArgs_plain h
theorem t7 {nm:Str}{f v:BO}{a:D}(hr:dP A n)(T:pL prog w C h₀ A)(hb:d7 nm=some f)(R:Rel prog w C h₀ σ as s.heap)(r:Rep s.heap as v a)(e:b9 nm a σ=some (d,σ')) :
  BR (BS prog w) A (call f [v]) (Ans prog w C h₀ σ as s σ' d) NoE s:=by
 have hu:=hr.units;have u10:A.units+10 < CA:=aZ (.a (.a (.v 0) (.n 10)) (.n 1)) (.v 1) [(1,(.a (.a (.a (.v 0) (.n 100)) (.m 40 (.v 2))) (.n 1)),.v 1)] rfl hu;have all:∀ p∈AK,∀ f,d7 p.1=some f->p.2 a σ=some (d,σ')->BR (BS prog w) A (call f [v]) (Ans prog w C h₀ σ as s σ' d) NoE s :=
  forall_mem_cons.mpr ⟨λf hb e=>Option.some.inj hb▸pR R r e,forall_mem_cons.mpr ⟨λf hb e=>Option.some.inj hb▸tI R r e,forall_mem_cons.mpr ⟨λf hb e=>Option.some.inj hb▸tM hr.handled u10 R r e,
   forall_mem_cons.mpr ⟨λf hb e=>Option.some.inj hb▸T.sorted _ _ _ _ _ _ _ e R r,forall_mem_cons.mpr ⟨λf hb e=>Option.some.inj hb▸vJ R r e,forall_mem_cons.mpr ⟨λf hb e=>Option.some.inj hb▸wX hr.handled R r e,
   forall_mem_cons.mpr ⟨λf hb e=>Option.some.inj hb▸wZ hr.handled R r e,forall_mem_cons.mpr ⟨λf hb e=>Option.some.inj hb▸vQ hr.handled R r e,forall_mem_cons.mpr ⟨λf hb e=>Option.some.inj hb▸wt R r e,
   forall_mem_cons.mpr ⟨λf hb e=>Option.some.inj hb▸ug hr R r e,λ_ h=>absurd h not_mem_nil⟩⟩⟩⟩⟩⟩⟩⟩⟩⟩
 unfold b9 at e;cases hl:AK.lookup nm with
 | none=>rw [hl] at e;exact af (σ:=σ) e
 | some g=>rw [hl] at e;exact all (nm,g) (mem_of_lookup hl) f hb e
theorem sh {x:Str}{f:BO}(hb:d7 x=some f):(∃ T,f = .type T)\/∃ i,f = .builtin i:=by
 have:=mem_of_lookup hb;simp only [mem_cons,Prod.mk.injEq,not_mem_nil,or_false] at this;rcases this with ⟨_,rfl⟩ | ⟨_,rfl⟩ | ⟨_,rfl⟩ | ⟨_,rfl⟩ | ⟨_,rfl⟩ | ⟨_,rfl⟩ | ⟨_,rfl⟩ | ⟨_,rfl⟩ | ⟨_,rfl⟩ | ⟨_,rfl⟩ | ⟨_,rfl⟩ | ⟨_,rfl⟩ | ⟨_,rfl⟩ | ⟨_,rfl⟩ <;> first | exact .inl ⟨_,rfl⟩ | exact .inr ⟨_,rfl⟩
theorem eT {x:Str}{np pos:Pos}{args:List Expr}{f:BO}{Q:BO->BU->Prop}(U:j0 h₀ C)(R:Rel prog w C h₀ σ as s.heap)(F:Frm h₀ s.heap as env sc ρ)(hg:bk sc x=true)(hb:d7 x=some f)(hp:(Cp pos (Ce args env)).any (·.1)=false)
  (h:BR (BS prog w) A (DY (Cp pos (Ce args env))) (λvs s1=>BR (BS prog w) A (call f vs) Q NoE s1) NoE s) :
  BR (BS prog w) A (B3 (.Call (.Name x np) args [] pos) env) Q NoE s:=by
 refine gH (qY U R F hg hb ?_);rcases sh hb with ⟨T,rfl⟩ | ⟨i,rfl⟩
 ·exact PySem.callWith_type hp (cA hp h)
 ·exact callWith_builtin hp (cA hp h)
theorem xn {x:Str}{np pos:Pos}{a:Expr}{f:BO}{o:D}{σ1:Sto}(hr:dP A n)(U:j0 h₀ C)(T:pL prog w C h₀ A)(H:bC prog w C h₀ A cf t)(R:Rel prog w C h₀ σ as s.heap)(F:Frm h₀ s.heap as env sc ρ)(hg:bk sc x=true)(hb:d7 x=some f)
  (e1:ak cf t sc ρ a σ=some (o,σ1)) (e:b9 x o σ1=some (d,σ')):BR (BS prog w) A (B3 (.Call (.Name x np) [a] [] pos) env) (Ans prog w C h₀ σ as s σ' d) NoE s:=by
 have st:Cp pos (Ce [a] env)=[(false,B3 a env)]:=c7 λy p=>cn e1;refine eT U R F hg hb (by rw [st];rfl) ?_;rw [st];refine spliced_cons (BV (H.ev _ _ _ _ _ _ _ _ _ e1 R F) (λv s1 q=>spliced_nil ?_) λ_ _ q=>q);obtain ⟨as1,G1,r1⟩:=q;exact fx G1 (t7 hr T hb G1.rel r1 e)
theorem vP {np pos p2:Pos}{a:Expr}{o:D}{σ1:Sto}{Q:BO->BU->Prop}(U:j0 h₀ C)(H:bC prog w C h₀ A cf t)(R:Rel prog w C h₀ σ as s.heap)(F:Frm h₀ s.heap as env sc ρ)(hg:bk sc ("isinstance" : Str)=true)(hg2:bk sc ("bool" : Str)=true)
  (e1:ak cf t sc ρ a σ=some (o,σ1))
  (e:(match (generalizing:=false) o with | .bool _=>pure (.bool true) | .ref k=>do let _ <- listAt k;pure (.bool false) | _=>aT:PM D) σ1=some (d,σ')) :
  BR (BS prog w) A (B3 (.Call (.Name "isinstance" np) [a,.Name "bool" p2] [] pos) env) (Ans prog w C h₀ σ as s σ' d) NoE s:=by
 have st:Cp pos (Ce [a,.Name "bool" p2] env)=[(false,B3 a env),(false,B3 (.Name "bool" p2) env)]:=by
  rw [c7 λy p=>cn e1];rfl
 refine eT (f:=.builtin "isinstance") U R F hg (by decide) (by rw [st];rfl) ?_;rw [st];refine spliced_cons (BV (H.ev _ _ _ _ _ _ _ _ _ e1 R F) (λv s1 q=>?_) λ_ _ q=>q);obtain ⟨as1,G1,r1⟩:=q;refine spliced_cons (qY U G1.rel (F.noX G1) hg2 (v:=.type "bool") (by decide) (spliced_nil ?_));have hty:typeOf (.type "bool")=pure (.type "type"):=by rfl
 induction o using D.casesOn with
 | bool =>
  (refine aj e ?_);clear e;cases r1.boolI;exact call_isinstance_yes (Tx:="bool") (by rfl) hty (by rw [CF];kernel_rfl) ⟨as1,G1,.bool _⟩
 | ref k =>
  (refine bj e ?_);clear e;rintro l _ hx e;(refine aj e ?_);clear e;cases r1.refI with
  | mk ka =>
  cases (G1.rel.objs _ _ _ _ hx ka).listI with
  | mk g _ _ =>
  exact call_isinstance (isinstance_false_list (by decide) hty (by rw [CF];kernel_rfl)) ⟨⟨_,g,rfl⟩,iE G1 (iG G1.rel _ _)⟩
 | _=>exact af (σ:=σ1) e
theorem li {o:Expr}{name:Str}{apos pos:Pos}{args:List Expr}{Q:BO->BU->Prop}(hm:c8 o apos pos args.length=true)(hp:(Cp pos (Ce args env)).all (λx => !x.1)=true)
  (h:BR (BS prog w) A (B3 o env) (λov s1=>∀ pl,BR (BS prog w) A (Dq ov name pl) (λp s2=>BR (BS prog w) A (D7 pos p.1 p.2 (Cp pos (Ce args env)) []) Q NoE s2) NoE s1) NoE s) :
  BR (BS prog w) A (B3 (.Call (.Attribute o name apos) args [] pos) env) Q NoE s:=by
 unfold c8 at hm;simp only [and_eq_true,decide_eq_true_eq] at hm;(refine (arm_eval_Call _ _ _ _ _ _ _).symm▸?_;refine (pU hm.1.1).symm▸?_);refine BN (BV h (λov s₁ h₁=>BN (Cf ?_)) λ_ _ e=>e);have hform:methodCallForm (args.length+([]:List Keyword).length) (Cp pos (Ce args env)) (backToKw pos (keywordEach [] env))=true:=by
  refine (?_:((Cp pos (Ce args env)).all (λx => !x.1) && true && decide (args.length+0+0 < 30))=true);rw [hp,decide_eq_true (by exact bh (.a (.a (.a (.v 0) (.n 0)) (.n 0)) (.n 1)) (.n 30) [(1,(.a (.v 0) (.n 1)),.n 20)] rfl hm.2)];rfl
 have hpos:Er true o env apos pos=pure pos:=by unfold Er;simp [hm.1.2]
 unfold methodCall;rw [hform];refine BN (B1 ?_);refine (?_:BR _ A (Dq ov name _) _ _ _);exact BV (h₁ _) (λp s2 q=>BN (C1 hpos q)) λ_ _ e=>e
end
section
variable {prog:BX}{w:BY}{C:BQ}{h₀ h:BW}{σ σ':Sto}{as as':List BQ}{s s':BU}{A:BZ}{d:D}{n t:Nat}{env cenv:Env}{sc sc' sc2 scope:B0}{ρ ρ' ρ0:Loc}{cf:Str->List D->PM D}
theorem oC {k:Nat}{a:BQ}{l:List D}{v0:Nat}{v:BO}{x:D}(R:Rel prog w C h₀ σ as s.heap)(ka:as[k]? = some a)(hk:σ[k]? = some (.list l,v0))(rv:Rep s.heap as v x)(e:lT k l x σ=some (d,σ')) :
  BR (BS prog w) A (call (.builtin "list.append") [.ref a,v]) (Ans prog w C h₀ σ as s σ' d) NoE s:=by
 (refine ai e ?_);clear e;rintro hz e;cases e;cases (R.objs _ _ _ _ hk ka).listI with
 | @mk vs nn g rr z =>
 have hz':l.length<=aQ:=of_decide_eq_true hz;have hsz:=be rr;refine Do ⟨nn,g⟩ (λh' hl hs=>?_) ?_
 ·obtain ⟨n',e'⟩:=hl;refine ⟨as,Go.set R ka (λb o hb e=>hs.extBut b o hb e) λnt=>?_,.none⟩;refine .list e' ?_ (by simp;exact hz');refine (Array.toList_push).symm▸?_;exact (rr.kp nt (prefix_refl _)).append (.cons (rv.kp nt (prefix_refl _)) .nil)
 ·have:=ct;exact eZ hsz z
theorem dH {v:BO}{x:Str}(r:Rep h as v (.str x)):(PySem.strKind prog w).is x v=true:=by cases r.strI with | mk t=>exact gL x t
theorem fT {v:BO}{x:Int}(r:Rep h as v (.int x)):(PySem.intKind prog w).is x v=true:=by cases r.intI with | mk t=>exact qj x t
theorem gY {v:BO}{x:Str}(r:Rep h as v (.str x)):(keyPart v).isSome=true:=by cases r.strI;rfl
theorem nB.put {k:Nat}{po:PO}{l:List (Int×D)}(i:nB po l)(x:Int)(v:D):lG po (.int x) v=some (.dI (Mine.put x v l))/\f7 po=l.length:=by
 induction i using nB.casesOn with
 | i l=>exact ⟨rfl,rfl⟩
 | e=>exact ⟨rfl,rfl⟩
inductive xj (o:PO):D->Option D->Prop
 | s (l:List (Str×D)) (x:Str) (h:o = .dS l):xj o (.str x) (l.lookup x)
 | i (l:List (Int×D)) (x:Int) (h:nB o l):xj o (.int x) (l.lookup x)
theorem zK {o:PO}{k:D}{r:Option D}(e:wP o k=some r):∃ l x,k = .int x/\nB o l/\l.lookup x=r:=by
 induction o using PO.casesOn with
 | dS l =>
  induction k using D.casesOn with
  | int x =>
   induction l using List.casesOn with
   | nil=>exact ⟨[],x,rfl,.e,Option.some.inj e⟩
   | cons=>exact an e
  | _=>induction l using List.casesOn <;> exact an e
 | dI l =>
  induction k using D.casesOn with
  | int x=>exact ⟨l,x,rfl,.i l,Option.some.inj e⟩
  | _=>exact an e
 | _=>exact an e
theorem yU {o:PO}{k:D}{r:Option D}(e:wV o k=some r):xj o k r:=by
 induction o using PO.casesOn with
 | dS l =>
  induction k using D.casesOn with
  | str x=>exact Option.some.inj e ▸ .s l x rfl
  | int x =>
   induction l using List.casesOn with
   | nil=>exact Option.some.inj e ▸ .i [] x .e
   | cons=>exact an e
  | _=>induction l using List.casesOn <;> exact an e
 | dI l =>
  induction k using D.casesOn with
  | int x=>exact Option.some.inj e ▸ .i l x (.i l)
  | _=>exact an e
 | _=>exact an e
noncomputable def Ay (name:Str):String:=if name==("get" : Str) then "dict.get" else if name==("setdefault" : Str) then "dict.setdefault" else "dict.pop"
section
variable {k:Nat}{a:BQ}{vx vd:BO}{dd:D}
theorem uO {K:Type}[DecidableEq K][BEq K][LawfulBEq K]{knd:PySem.KeyKind prog w K}{kvs:List (K×BO)}{l:List (K×D)}{y:K}(R:Rel prog w C h₀ σ as s.heap)(hsys:(a==CV)=false)(hk:knd.is y vx=true)(g:s.heap.DictOf knd a kvs)
  (kk:kvs.map (·.1)=l.map (·.1)) (rr:aD s.heap as (kvs.map (·.2)) (l.map (·.2))) (rd:Rep s.heap as vd dd):BR (BS prog w) A (call (.builtin "dict.get") [.ref a,vx,vd]) (Ans prog w C h₀ σ as s σ ((l.lookup y).getD dd)) NoE s:=by
 refine C4 PySem.F.slot_dict_get g.typeIs PySem.F.entry_dict_get (PySem.F.args_dict_get_3 _ _ _) (meets_dict_get_default knd a hk hsys vd) ⟨_,g.mapOf,?_⟩;refine (?_:Ans prog w C h₀ _ as s _ _ ((DB kvs y).getD vd) _);rcases a6 kk rr y with ⟨h1,h2⟩ | ⟨u,d',h1,h2,ru⟩
 ·(refine h1.symm▸?_;refine h2.symm▸?_);exact dp R rd _
 ·(refine h1.symm▸?_;refine h2.symm▸?_);exact dp R ru _
theorem iK {kvs:List (Int×BO)}{l:List (Int×D)}{y:Int}(R:Rel prog w C h₀ σ as s.heap)(ka:as[k]? = some a)(hk:(PySem.intKind prog w).is y vx=true)(g:s.heap.DictOf (PySem.intKind prog w) a kvs)
  (kk:kvs.map (·.1)=l.map (·.1)) (rr:aD s.heap as (kvs.map (·.2)) (l.map (·.2))) (z:l.length<=aQ+1) (rd:Rep s.heap as vd dd) (old:∀ v,l.lookup y=some v->v=d/\σ=σ')
  (new:l.lookup y=none->l.length<=aQ/\dd=d/\σ.set k (.dI (put y dd l),ver σ k+1)=σ'):BR (BS prog w) A (call (.builtin "dict.setdefault") [.ref a,vx,vd]) (Ans prog w C h₀ σ as s σ' d) NoE s:=by
 have b:fc s.heap as kvs l:=⟨kk,rr⟩;have hlen:=b.length;have hm:=ct;refine C4 PySem.F.slot_dict_setdefault g.typeIs PySem.F.entry_dict_setdefault (PySem.F.args_dict_setdefault_3 _ _ _) (kt_meets_setdefault (PySem.intKind prog w) a hk (R.not_sys ka) vd) ⟨kvs,g,eZ hlen z,λv hv=>?_,λhn h' g' hs=>?_⟩
 ·rcases a6 kk rr y with ⟨h1,h2⟩ | ⟨u,d',h1,h2,ru⟩
  ·exact an (h1.symm.trans hv)
  ·obtain ⟨e1,e2⟩:=old _ h2;exact e2▸e1▸Option.some.inj (h1.symm.trans hv)▸dp R ru _
 ·rcases a6 kk rr y with ⟨h1,h2⟩ | ⟨u,d',h1,h2,ru⟩
  ·obtain ⟨hz,e1,e2⟩:=new h2;refine e2▸e1▸⟨as,Go.set R ka (λb o hb e=>hs.extBut b o hb e) λnt=>?_,?_⟩
   ·have b':=(b.go nt).put (k:=y) (rd.kp nt (prefix_refl _));exact .dI g' b'.keys b'.vals (le_trans (bG _ _) (succ_le_succ hz))
   ·exact rd.kp (λx vs n i=>hs.extBut x _ (λe=>(c6.dI (prog:=prog) (w:=w) (C:=C) g kk rr z).unTup vs n (e▸i)) i) (prefix_refl _)
  ·exact an (hn.symm.trans h1)
theorem y0 {l:List (Str×D)}{y:Str}(R:Rel prog w C h₀ σ as s.heap)(ka:as[k]? = some a)(r:c6 prog w C s.heap as a (.dS l))(rx:Rep s.heap as vx (.str y))(rd:Rep s.heap as vd dd)(e:yn k l y dd σ=some (d,σ')) :
  BR (BS prog w) A (call (.builtin "dict.pop") [.ref a,vx,vd]) (Ans prog w C h₀ σ as s σ' d) NoE s:=by
 have hsys:=R.not_sys ka;have hm:=ct;cases r.dSI with
 | @mk kvs g kk rr z =>
 have b:fc s.heap as kvs l:=⟨kk,rr⟩;have hlen:=b.length;unfold yn at e;rcases a6 kk rr y with ⟨h1,h2⟩ | ⟨u,d',h1,h2,ru⟩
 ·rw [h2] at e;(refine aj e ?_);clear e;exact C4 PySem.F.slot_dict_pop g.typeIs PySem.F.entry_dict_pop (PySem.F.args_dict_pop_3 _ _ _) (meets_dict_pop_default (PySem.strKind prog w) a (dH rx) hsys (gY rx) vd) ⟨kvs,g,h1,dp R rd _⟩
 ·replace e:=h2▸e;cases e;refine C4 PySem.F.slot_dict_pop g.typeIs PySem.F.entry_dict_pop (PySem.F.args_dict_pop_3 _ _ _) (meets_dict_pop_there (PySem.strKind prog w) a (dH rx) [vd] (.inr ⟨vd,rfl⟩) (gY rx)) ⟨kvs,u,g,eZ hlen z,h1,λh' g' hs=>?_⟩;refine ⟨as,Go.set R ka (λb o hb e=>hs.extBut b o hb e) λnt=>?_,?_⟩
  ·have b':=(b.go nt).drop (k:=y);exact .dS g' b'.keys b'.vals (le_trans (ma _) z)
  ·exact ru.kp (λx vs n i=>hs.extBut x _ (λe=>r.unTup vs n (e▸i)) i) (prefix_refl _)
theorem mH {po:PO}{v0:Nat}{x:D}{name:Str}(R:Rel prog w C h₀ σ as s.heap)(ka:as[k]? = some a)(hk:σ[k]? = some (po,v0))(rx:Rep s.heap as vx x)(rd:Rep s.heap as vd dd)(e:cG k po name x dd σ=some (d,σ')) :
  BR (BS prog w) A (call (.builtin (Ay name)) [.ref a,vx,vd]) (Ans prog w C h₀ σ as s σ' d) NoE s:=by
 have r:=R.objs _ _ _ _ hk ka;unfold cG at e;unfold Ay;by_cases h1:(name==("get" : Str))=true
 ·rw [if_pos h1] at e;rw [if_pos h1];(refine aP e ?_);clear e;rintro r0 hl e;(refine aj e ?_);clear e;cases yU hl with
  | s l y h =>
   cases (h▸r:c6 prog w C s.heap as a (.dS l)).dSI with
   | mk g kk rr _=>exact uO R (R.not_sys ka) (dH rx) g kk rr rd
  | i l y h =>
   cases h.rep r with
   | mk g kk rr _=>exact uO R (R.not_sys ka) (fT rx) g kk rr rd
 rw [if_neg h1] at e;rw [if_neg h1];by_cases h2:(name==("setdefault" : Str))=true
 ·rw [if_pos h2] at e;rw [if_pos h2];(refine aP e ?_);clear e;rintro r0 hl e;obtain ⟨l,y,rfl,i,h⟩:=zK hl;obtain ⟨p1,p2⟩:=i.put (k:=k) y dd;cases i.rep r with
  | mk g kk rr z =>
  refine iK R ka (fT rx) g kk rr z rd (λv hv=>?_) λhn=>?_
  ·rw [<- h,hv] at e;exact bp e
  ·rw [<- h,hn] at e;refine ai e λhz e=>?_;(refine aP e ?_);clear e;rintro po' hp e;rw [<- Option.some.inj (p1.symm.trans hp)] at e;exact ⟨p2▸of_decide_eq_true hz,(Prod.mk.inj (Option.some.inj e)).1,(Prod.mk.inj (Option.some.inj e)).2⟩
 rw [if_neg h2] at e;rw [if_neg h2];by_cases h3:(name==("pop" : Str))=true
 ·rw [if_pos h3] at e;induction po using PO.casesOn with
  | dS l =>
   induction x using D.casesOn with
   | str y=>exact y0 R ka r rx rd e
   | _=>exact af (σ:=σ) e
  | _=>exact af (σ:=σ) e
 rw [if_neg h3] at e;exact af (σ:=σ) e
end
end
section
variable {prog:BX}{w:BY}{C:BQ}{h₀ h:BW}{σ σ':Sto}{as as':List BQ}{s s':BU}{A:BZ}{d:D}{n t:Nat}{env cenv:Env}{sc sc' sc2 scope:B0}{ρ ρ' ρ0:Loc}{cf:Str->List D->PM D}
theorem gC {f:BO}{first:List BO}{pos:Pos}{trees:List (Bool×Sem BO)}{Q:BO->BU->Prop}(hk:pO h₀ f)(hp:trees.any (·.1)=false)
  (h:BR (BS prog w) A (DY trees) (λvs s1=>(∀ b o,h₀.get? b=some o->s1.heap.get? b=some o)/\BR (BS prog w) A (call f (first++vs) []) Q NoE s1) NoE s):BR (BS prog w) A (D7 pos f first trees []) Q NoE s :=
 PySem.W.callWith_of (P:=λh'=>∀ b o,h₀.get? b=some o->h'.get? b=some o) (hp.symm▸rfl) (λh' k=>hk _ _ k) (cA hp h)
theorem rh {P:Prop}(e:false=true):P:=Bool.noConfusion e
section
variable {k tag:Nat}{name:Str}{ds:List D}
theorem md0 (e:l6 cf 0 (.ref k) name ds σ=some (d,σ')):cf (("Evaluator." : Str)++name) (.ref k::ds) σ=some (d,σ'):=by
 (refine bD e ?_);clear e;rintro po v0 _ e;(refine ai e ?_);clear e;rintro ht e;induction po using PO.casesOn with
 | inst=>exact e
 | _=>exact rh ht
inductive Md1 (σ:Sto)(k:Nat)(d:D)(σ':Sto):List D->Prop
 | mk (l:List D) (x:D) (v:Nat) (hp:σ[k]? = some (.list l,v)) (e:lT k l x σ=some (d,σ')):Md1 σ k d σ' [x]
theorem md1 (e:l6 cf 1 (.ref k) name ds σ=some (d,σ')):Md1 σ k d σ' ds:=by
 (refine bD e ?_);clear e;rintro po v0 hp e;(refine ai e ?_);clear e;rintro ht e;induction po using PO.casesOn with
 | list l =>
  induction ds using List.casesOn with
  | nil=>exact af (σ:=σ) e
  | cons x r=>induction r using List.casesOn with
   | nil=>exact .mk l x v0 hp e
   | cons=>exact af (σ:=σ) e
 | _=>exact rh ht
inductive Md2 (σ:Sto)(k:Nat)(name:Str)(d:D)(σ':Sto):List D->Prop
 | mk (po:PO) (x dd:D) (v:Nat) (hp:σ[k]? = some (po,v)) (e:cG k po name x dd σ=some (d,σ')):Md2 σ k name d σ' [x,dd]
theorem s0 {ds:List D}{f:D->D->PM D}{P:List D->Prop}(e:(match ds with | [x,d]=>f x d | _=>aT:PM D) σ=some (d,σ'))(h:∀ x y,f x y σ=some (d,σ')->P [x,y]):P ds:=by
 induction ds using List.casesOn with
 | nil=>exact af (σ:=σ) e
 | cons x r=>induction r using List.casesOn with
  | nil=>exact af (σ:=σ) e
  | cons y r=>induction r using List.casesOn with
   | nil=>exact h x y e
   | cons=>exact af (σ:=σ) e
theorem md2 (e:l6 cf 2 (.ref k) name ds σ=some (d,σ')):Md2 σ k name d σ' ds:=by
 (refine bD e ?_);clear e;rintro po v0 hp e;(refine ai e ?_);clear e;rintro ht e;induction po using PO.casesOn with
 | inst=>exact rh ht
 | list=>exact rh ht
 | _=>exact s0 e λx y e => .mk _ x y v0 hp e
inductive MpV (σ:Sto)(k:Nat)(name:Str):PO->Nat->Prop
 | i (dk:Nat) (l:List (Str×D)) (v3 v4:Nat) (hk:σ[k]? = some (.inst dk,v3)) (hd:σ[dk]? = some (.dS l,v4)) (hno:(l.lookup name).isNone=true) (d:Nat):MpV σ k name (.inst d) 0
 | l (l:List D) (hn:name=("append" : Str)):MpV σ k name (.list l) 1
 | s (l:List (Str×D)) (hn:(name==("get" : Str) || name==("pop" : Str) || name==("setdefault" : Str))=true):MpV σ k name (.dS l) 2
 | d (l:List (Int×D)) (hn:(name==("get" : Str) || name==("pop" : Str) || name==("setdefault" : Str))=true):MpV σ k name (.dI l) 2
theorem mp_v (e:iI (.ref k) name σ=some (tag,σ')):∃ po v,σ[k]? = some (po,v)/\MpV σ k name po tag/\σ=σ':=by
 (refine bD e ?_);clear e;rintro po v0 hp e;refine ⟨po,v0,hp,?_⟩;induction po using PO.casesOn with
 | inst dk =>
  (refine ac e ?_);clear e;rintro ⟨dk',l⟩ σ7 e8 e;obtain ⟨hs7,v3,v4,hq⟩:=iC e8;have hk:=hq.1;have hd:=hq.2;replace e:=hs7▸e;refine ai e λhno e=>?_;exact aj e ⟨.i dk' l v3 v4 hk hd hno dk,rfl⟩
 | list l =>
  refine ai e λhn e=>?_;exact aj e ⟨.l l (beq_iff_eq.mp hn),rfl⟩
 | dT l=>exact af (σ:=σ) e
 | dS l =>
  refine ai e λhn e=>?_;exact aj e ⟨.s l hn,rfl⟩
 | dI l =>
  refine ai e λhn e=>?_;exact aj e ⟨.d l hn,rfl⟩
end
section
variable {name:Str}{pos:Pos}{args:List Expr}{as1:List BQ}{s1:BU}{σ1 σ3:Sto}{a:BQ}{k:Nat}{ds:List D}{pl:Sem Bool}
noncomputable abbrev yh (prog:BX)(w:BY)(C:BQ)(h₀:BW)(A:BZ)(env:Env)(pos:Pos)(args:List Expr)(σ:Sto)(as:List BQ)(s:BU)(σ':Sto)(d:D)(p:BO×List BO)(s2:BU):Prop :=
 BR (BS prog w) A (D7 pos p.1 p.2 (Cp pos (Ce args env)) []) (Ans prog w C h₀ σ as s σ' d) NoE s2
theorem dU (H:bC prog w C h₀ A cf t)(hp1:(Cp pos (Ce args env)).any (·.1)=false)(e3:bE (ak cf t sc ρ) args σ1=some (ds,σ3))(G1:Go NoX prog w C h₀ σ as s σ1 as1 s1)(F1:Frm h₀ s1.heap as1 env sc ρ)(ka:as1[k]? = some a)
  {T:String} {id:String} (slot:Slot T name id) (pa:PlainAttrs T) (hty:typeOf (.builtin id)=pure (.type "method_descriptor")) (hT:s1.TypeIs (.ref a) T) (hd:∃ ob,s1.heap.get? a=some ob/\ob.dict=none)
  (hcall:∀ as3 s3 vs,Rel prog w C h₀ σ3 as3 s3.heap->as3[k]? = some a->aD s3.heap as3 vs ds->BR (BS prog w) A (call (.builtin id) ([.ref a]++vs) []) (Ans prog w C h₀ σ3 as3 s3 σ' d) NoE s3) :
  BR (BS prog w) A (Dq (.ref a) name pl) (yh prog w C h₀ A env pos args σ as s σ' d) NoE s1:=by
 refine DZ hT pa slot hty (λa' ha'=>Value.ref.inj ha'▸hd) ?_;refine callWith_builtin hp1 (cA hp1 (BV (lg H args _ _ _ _ _ e3 G1.rel F1) (λvs s3 q=>?_) λ_ _ q=>q));obtain ⟨as3,G3,rr⟩:=q;exact fx (G1.trans G3) (hcall as3 s3 vs G3.rel (getElem?_of_prefix G3.pre ka) rr)
theorem ll (H:bC prog w C h₀ A cf t)(hp1:(Cp pos (Ce args env)).any (·.1)=false)(e3:bE (ak cf t sc ρ) args σ1=some (ds,σ3))(G1:Go NoX prog w C h₀ σ as s σ1 as1 s1)(F1:Frm h₀ s1.heap as1 env sc ρ)(ka:as1[k]? = some a)
  (hname:(name==("get" : Str) || name==("pop" : Str) || name==("setdefault" : Str))=true) (hT:s1.TypeIs (.ref a) "dict") (hd:∃ ob,s1.heap.get? a=some ob/\ob.dict=none) (e4:l6 cf 2 (.ref k) name ds σ3=some (d,σ')) :
  BR (BS prog w) A (Dq (.ref a) name pl) (yh prog w C h₀ A env pos args σ as s σ' d) NoE s1:=by
 have hcall:∀ as3 s3 vs,Rel prog w C h₀ σ3 as3 s3.heap->as3[k]? = some a->aD s3.heap as3 vs ds->BR (BS prog w) A (call (.builtin (Ay name)) ([.ref a]++vs) []) (Ans prog w C h₀ σ3 as3 s3 σ' d) NoE s3:=by
  intro as3 s3 vs R3 k3 rr;cases md2 e4 with
  | mk po x dd v hp e =>
  obtain ⟨v1,v2,rfl,hq⟩:=rr.two;have rx:=hq.1;have rd:=hq.2;exact mH R3 k3 hp rx rd e
 rw [or_eq_true,or_eq_true,beq_iff_eq,beq_iff_eq,beq_iff_eq] at hname;rcases hname with (h1 | h1) | h1
 ·subst h1;exact dU H hp1 e3 G1 F1 ka PySem.F.slot_dict_get PySem.F.plainAttrs_dict PySem.F.type_dict_get hT hd hcall
 ·subst h1;exact dU H hp1 e3 G1 F1 ka PySem.F.slot_dict_pop PySem.F.plainAttrs_dict PySem.F.type_dict_pop hT hd hcall
 ·subst h1;exact dU H hp1 e3 G1 F1 ka PySem.F.slot_dict_setdefault PySem.F.plainAttrs_dict PySem.F.type_dict_setdefault hT hd hcall
theorem iU {K:Type}[DecidableEq K]{knd:PySem.KeyKind prog w K}{kvs:List (K×BO)}(g:h.DictOf knd a kvs):∃ ob,h.get? a=some ob/\ob.dict=none:=by
 obtain ⟨oo,es,ep,hq⟩:=g;have ho:=hq.1;have hc:=hq.2.1;exact ⟨oo,ho,hc.2.1⟩
end
theorem qD {o:Expr}{name:Str}{apos pos:Pos}{args:List Expr}(O:Orc prog w C h₀ A cf)(H:bC prog w C h₀ A cf t)(R:Rel prog w C h₀ σ as s.heap)(F:Frm h₀ s.heap as env sc ρ)(hm:c8 o apos pos args.length=true)
  {ov:D} {σ1 σ2 σ3:Sto} {tag:Nat} {ds:List D} (e1:ak cf t sc ρ o σ=some (ov,σ1)) (e2:iI ov name σ1=some (tag,σ2)) (e3:bE (ak cf t sc ρ) args σ2=some (ds,σ3)) (e4:l6 cf tag ov name ds σ3=some (d,σ')) :
  BR (BS prog w) A (B3 (.Call (.Attribute o name apos) args [] pos) env) (Ans prog w C h₀ σ as s σ' d) NoE s:=by
 obtain ⟨hp1,hp2⟩:=gF (env:=env) (pos:=pos) args _ _ _ e3;refine li hm hp2 (BV (H.ev _ _ _ _ _ _ _ _ _ e1 R F) (λvo s1 q=>?_) λ_ _ q=>q);intro pl;obtain ⟨as1,G1,r1⟩:=q;have F1:=F.noX G1;induction ov using D.casesOn with
 | ref k =>
  obtain ⟨po,v0,hp,mv,hs⟩:=mp_v e2;subst hs;clear e1 e2;cases r1.refI with
  | @mk a ka =>
  have r:=G1.rel.objs _ _ _ _ hp ka;cases mv with
  | i dk l v3 v4 hk hd hno d0 =>
   obtain ⟨f,hmeth,hkeep,hcall⟩:=O.meth name k ds σ3 d σ' (md0 e4);obtain ⟨dx,kvs,hdx,g,gd,b,z⟩:=mV G1.rel ka hk hd;obtain ⟨od,ho,hlo⟩:=gJ (name:=name) gd;have hva:DB kvs name=none:=by
    rcases a6 b.keys b.vals name with ⟨h1,_⟩ | ⟨u,d',h1,h2,_⟩
    ·exact h1
    ·rw [h2] at hno;exact rh hno
   rw [hva] at hlo;refine hmeth G1.rel.kept ⟨g,rfl,rfl,ho⟩ hlo ?_;refine gC hkeep hp1 (BV (lg H args _ _ _ _ _ e3 G1.rel F1) (λvs s3 q=>?_) λ_ _ q=>q);obtain ⟨as3,G3,rr⟩:=q;exact ⟨G3.rel.kept,fx (G1.trans G3) (hcall as3 s3 (.ref a) vs G3.rel (.cons (.ref (getElem?_of_prefix G3.pre ka)) rr))⟩
  | l l hn =>
   subst hn;cases r.listI with
   | mk g rr0 z =>
   refine dU H hp1 e3 G1 F1 ka PySem.F.slot_list_append PySem.F.plainAttrs_list PySem.F.type_list_append ⟨_,g,rfl⟩ ⟨_,g,rfl⟩ λas3 s3 vs R3 k3 rr=>?_;cases md1 e4 with
   | mk l x v hp e =>
   obtain ⟨v,rfl,rx⟩:=rr.one;exact oC R3 k3 hp rx e
  | s l hname =>
   cases r.dSI with
   | mk g kk rr z=>exact ll H hp1 e3 G1 F1 ka hname g.typeIs (iU g) e4
  | d l hname =>
   cases r.dII with
   | mk g kk rr z=>exact ll H hp1 e3 G1 F1 ka hname g.typeIs (iU g) e4
 | _=>exact af (σ:=σ1) e2
end
section
variable {prog:BX}{w:BY}{C:BQ}{h₀ h:BW}{σ σ':Sto}{as as':List BQ}{s s':BU}{A:BZ}{d:D}{n t:Nat}{env cenv:Env}{sc sc' sc2 scope:B0}{ρ ρ' ρ0:Loc}{cf:Str->List D->PM D}
theorem oz {np np2 pos pos2:Pos}{a:Expr}{o:D}{σ1:Sto}(U:j0 h₀ C)(T:pL prog w C h₀ A)(H:bC prog w C h₀ A cf t)(R:Rel prog w C h₀ σ as s.heap)(F:Frm h₀ s.heap as env sc ρ)(hg:bk sc ("sorted" : Str)=true)(hg2:bk sc ("set" : Str)=true)
  (e1:ak cf t sc ρ a σ=some (o,σ1)) (e:(do mkList (<- cV (<- qb o)):PM D) σ1=some (d,σ')) :
  BR (BS prog w) A (B3 (.Call (.Name "sorted" np) [.Call (.Name "set" np2) [a] [] pos2] [] pos) env) (Ans prog w C h₀ σ as s σ' d) NoE s:=by
 refine eT (f:=.builtin "sorted") U R F hg (by decide) (by rfl) ?_;refine spliced_cons (x:=B3 (.Call (.Name "set" np2) [a] [] pos2) env) ?_;have st:Cp pos2 (Ce [a] env)=[(false,B3 a env)]:=c7 λy p=>cn e1;refine eT (f:=.type "set") U R F hg2 (by decide) (by rw [st];rfl) ?_;rw [st];refine spliced_cons (BV (H.ev _ _ _ _ _ _ _ _ _ e1 R F) (λv s1 q=>spliced_nil ?_) λ_ _ q=>q);obtain ⟨as1,G1,r1⟩:=q;exact BV (T.sortSet _ _ _ _ _ _ _ e G1.rel r1) (λsv s2 q=>spliced_nil (BV q (λ_ _ a=>iE G1 a) λ_ _ q=>q)) λ_ _ q=>q
theorem th {np apos pos pos2:Pos}{ob:Expr}{k:Nat}{l:List (Str×D)}{v0:Nat}{σ1:Sto}(U:j0 h₀ C)(T:pL prog w C h₀ A)(H:bC prog w C h₀ A cf t)(R:Rel prog w C h₀ σ as s.heap)(F:Frm h₀ s.heap as env sc ρ)(hg:bk sc ("list" : Str)=true)(hm:c8 ob apos pos2 0=true)
  (e1:ak cf t sc ρ ob σ=some (.ref k,σ1)) (hk:σ1[k]? = some (.dS l,v0)) (e:mkList (l.map λp => .tup [.str p.1,p.2]) σ1=some (d,σ')) :
  BR (BS prog w) A (B3 (.Call (.Name "list" np) [.Call (.Attribute ob "items" apos) [] [] pos2] [] pos) env) (Ans prog w C h₀ σ as s σ' d) NoE s:=by
 refine eT (f:=.type "list") U R F hg (by decide) (by rfl) ?_;refine spliced_cons (x:=B3 (.Call (.Attribute ob "items" apos) [] [] pos2) env) ?_;refine li hm (by rfl) (BV (H.ev _ _ _ _ _ _ _ _ _ e1 R F) (λvo s1 q=>?_) λ_ _ q=>q);intro pl;obtain ⟨as1,G1,r1⟩:=q;cases r1 with
 | @ref _ a ka =>
 cases (G1.rel.objs _ _ _ _ hk ka).dSI with
 | mk g kk rr z =>
 refine DZ g.typeIs PySem.F.plainAttrs_dict PySem.F.slot_dict_items PySem.F.type_dict_items (λa' ha'=>by cases ha';(obtain ⟨oo,es,ep,hq⟩:=g;have ho:=hq.1;have hc:=hq.2.1);exact ⟨oo,ho,hc.2.1⟩) ?_;refine callWith_builtin (by rfl) (cA (by rfl) (spliced_nil ?_));exact BV (T.items _ _ _ _ _ _ _ _ _ hk ka e G1.rel) (λiv s2 q=>spliced_nil (BV q (λ_ _ a=>iE G1 a) λ_ _ q=>q)) λ_ _ q=>q
theorem kM {id:Str}(h:cx.contains id=true):∃ f,d7 id=some f:=by
 unfold cx at h;simp only [List.contains_cons,List.contains_nil,Bool.or_false,or_eq_true,beq_iff_eq] at h;rcases h with h | h | h | h | h | h | h | h | h | h <;> subst h <;> exact ⟨_,rfl⟩
theorem lU {id:Str}{np pos:Pos}{args:List Expr}{ds:List D}{σ1:Sto}(O:Orc prog w C h₀ A cf)(H:bC prog w C h₀ A cf t)(R:Rel prog w C h₀ σ as s.heap)(F:Frm h₀ s.heap as env sc ρ)(hg:bk sc id=true)(hdot:id.cps.contains 46=false)
  (e1:bE (ak cf t sc ρ) args σ=some (ds,σ1)) (e:cf id ds σ1=some (d,σ')):BR (BS prog w) A (B3 (.Call (.Name id np) args [] pos) env) (Ans prog w C h₀ σ as s σ' d) NoE s:=by
 have hq:=gF (env:=env) (pos:=pos) args _ _ _ e1;have hp1:=hq.1;have hp2:=hq.2;obtain ⟨v,⟨mg,hns,hmg⟩,hq⟩:=O.glob _ _ _ _ _ hdot e;have hkeep:=hq.1;have hcall:=hq.2;have hl:=iX hg;refine gH (Name_function_global (ez F) (dZ F hl) (loadGlobal_global (F.glob▸hns.keeps R.kept) hmg ?_) (F.plain id _ hl).1);refine gC hkeep hp1 (BV (lg H args _ _ _ _ _ e1 R F) (λvs s3 q=>?_) λ_ _ q=>q);obtain ⟨as3,G3,rr⟩:=q;exact ⟨G3.rel.kept,fx G3 (hcall as3 s3 vs G3.rel rr)⟩
theorem mX {id:Str}{np pos:Pos}{args:List Expr}(hr:dP A n)(U:j0 h₀ C)(O:Orc prog w C h₀ A cf)(T:pL prog w C h₀ A)(H:bC prog w C h₀ A cf t)(R:Rel prog w C h₀ σ as s.heap)(F:Frm h₀ s.heap as env sc ρ)
  (e:ak cf (t+1) sc ρ (.Call (.Name id np) args [] pos) σ=some (d,σ')):BR (BS prog w) A (B3 (.Call (.Name id np) args [] pos) env) (Ans prog w C h₀ σ as s σ' d) NoE s:=by
 (refine ai e ?_);clear e;rintro hg e;have sp:=i4 id args;generalize cJ id args=q at sp e;cases sp with
 | setOf a p p2 h ha =>
  subst h ha;(refine ai e ?_);clear e;rintro h2 e;(refine ac e ?_);clear e;rintro o σ2 e2 e;exact oz U T H R F hg h2 e2 e
 | items o ap p2 h ha =>
  subst h ha;(refine ai e ?_);clear e;rintro hm e;(refine ac e ?_);clear e;rintro o σ3 e3 e;induction o using D.casesOn with
  | ref k =>
   (refine ac e ?_);clear e;rintro po σ4 e4 e;obtain ⟨⟨v0,hk⟩,hs4⟩:=eL e4;replace e:=hs4▸e;induction po using PO.casesOn with
   | dS l=>exact th U T H R F hg hm e3 hk e
   | _=>exact af (σ:=σ3) e
  | _=>exact af (σ:=σ3) e
 | isb a p h ha =>
  subst h ha;(refine ai e ?_);clear e;rintro hm e;(refine ac e ?_);clear e;rintro o σ3 e3 e;exact vP (Q:=λ_ _=>True) U H R F hg hm e3 e
 | one a hb ha =>
  subst ha;(replace e:=bA e);obtain ⟨o,σ2,e2,e3⟩:=e;obtain ⟨f,hf⟩:=kM hb;exact xn hr U T H R F hg hf e2 e3
 | fn hdot =>
  (refine ac e ?_);clear e;rintro ds σ2 e2 e;exact lU O H R F hg hdot e2 e
 | no=>exact af (σ:=σ) e
theorem xP {e:Expr}(hr:dP A n)(U:j0 h₀ C)(CO:gP h₀ C)(O:Orc prog w C h₀ A cf)(T:pL prog w C h₀ A)(H:bC prog w C h₀ A cf t)(R:Rel prog w C h₀ σ as s.heap)(F:Frm h₀ s.heap as env sc ρ)(he:ak cf (t+1) sc ρ e σ=some (d,σ')) :
  BR (BS prog w) A (B3 e env) (Ans prog w C h₀ σ as s σ' d) NoE s:=by
 cases ev e with
 | const c k p=>exact uH R he
 | name x p=>exact vU U R F he
 | tup es k p=>exact tc H R F he
 | list es p=>exact xc H R F he
 | dict ks vs p=>exact wg H R F he
 | bin l op r p=>exact zt H R F he
 | una op x p=>exact zo H R F he
 | bool op vs p=>rw [arm_eval_BoolOp];exact H.bool _ _ _ _ _ _ _ _ _ _ _ he R F
 | ifx c a b p=>exact ye H R F he
 | cmp l op r p=>exact yc hr H R F he
 | slice v lo hi p2 p=>exact tE H R F he
 | sub v i p h =>
  rw [h] at he;refine ac he λo σ1 e1 he=>?_;refine ac he λj σ2 e2 he=>?_;exact yu H R F e1 e2 he
 | attr v a p=>exact vI CO H R F he
 | comp elt gens scope p =>
  induction gens using iD with
  | h0=>exact af (σ:=σ) he
  | h1 g =>
   obtain ⟨tg,it,ifs,a⟩:=g;(refine ai he ?_);clear he;rintro ha he;have ha:=beq_iff_eq.mp ha;subst ha;(refine ac he ?_);clear he;rintro src σ1 e1 he;(refine ai he ?_);clear he;rintro ok he;refine ac he λl σ3 e3 he=>?_;refine ac he λu σ4 e4 he=>?_;have hs4:=ck e4;rw [hs4] at e4 he;exact tD hr.handled H R F e1 ok e3 e4 he
  | h2 g g' =>
   obtain ⟨tg,it,ifs,a⟩:=g;obtain ⟨tg2,it2,ifs2,b⟩:=g';(refine ai he ?_);clear he;rintro hab he;rw [and_eq_true] at hab;have ha:=beq_iff_eq.mp hab.1;have hb:=beq_iff_eq.mp hab.2;subst ha;subst hb;(refine ac he ?_);clear he;rintro src σ1 e1 he;(refine ai he ?_);clear he;rintro ok he;rw [and_eq_true] at ok;refine ac he λl σ3 e3 he=>?_;refine ac he λu σ4 e4 he=>?_;have hs4:=ck e4;rw [hs4] at e4 he;exact um hr.handled H R F e1 ok.1 (λcenv x=>gV (by simpa using ok.2) x) e3 e4 he
  | h3 g g' =>
   obtain ⟨_,_,_,_⟩:=g;obtain ⟨_,_,_,_⟩:=g';exact af (σ:=σ) he
 | call id np args p=>exact mX hr U O T H R F he
 | meth o name apos args p =>
  refine ai he λhm he=>?_;refine ac he λov σ2 e2 he=>?_;refine ac he λtag σ3 e3 he=>?_;refine ac he λds σ4 e4 he=>?_;exact qD O H R F hm e2 e3 e4 he
 | other h =>
  rw [h] at he;exact af he
theorem Au (hr:dP A n)(U:j0 h₀ C)(CO:gP h₀ C)(O:Orc prog w C h₀ A cf)(T:pL prog w C h₀ A):∀ t,bC prog w C h₀ A cf t:=λl=>by
 induction l using Nat.rec with
 | zero =>
  exact ⟨λ_ _ _ _ σ _ _ _ _ e=>af (σ:=σ) e,λ_ _ _ _ σ _ _ _ _ e=>af (σ:=σ) e,λ_ _ _ _ σ _ _ _ _ e=>af (σ:=σ) e,λ_ _ _ _ _ _ σ _ _ _ _ e=>af (σ:=σ) e,λ_ _ _ _ σ _ _ _ _ e=>af (σ:=σ) e,λ_ _ _ _ σ _ _ _ _ e=>af (σ:=σ) e⟩
 | succ t ih =>
  have H:=ih;exact ⟨λ_ _ _ _ _ _ _ _ _ e R F=>xP hr U CO O T H R F e,λ_ _ _ _ _ _ _ _ _ e R F=>vH H R F e,λ_ _ _ _ _ _ _ _ _ e R F=>tn H R F e,λ_ _ _ _ _ _ _ _ _ _ _ e R F=>qp H R F e,λ_ _ _ _ _ _ _ _ _ e R F=>w9 H R F e,λ_ _ _ _ _ _ _ _ _ e R F=>wQ hr.handled U H R F e⟩
end
section
variable {prog:BX}{w:BY}{C:BQ}{h₀ h:BW}{σ σ':Sto}{as as':List BQ}{s s':BU}{A:BZ}{d:D}{n t:Nat}{env cenv:Env}{sc sc' sc2 scope:B0}{ρ ρ' ρ0:Loc}{cf:Str->List D->PM D}
theorem jc {elt:Expr}{gens:List Cv}{p fpos:Pos}{use:Option (BO->Sem Unit)}{Q:BO->BU->Prop}(hh:A.handled=none)(H:bC prog w C h₀ A cf t)(R:Rel prog w C h₀ σ as s.heap)(F:Frm h₀ s.heap as env sc ρ)
  (he:ak cf (t+1) sc ρ (.ListComp elt gens scope p) σ=some (d,σ'))
  (hpost:∀ Cl L as' s5,Go (· = Cl) prog w C h₀ σ as s σ' as' s5->s.heap.get? Cl=none->(∃ m,s5.heap.Ns Cl m)->(∃ k,d = .ref k/\as'[k]? = some L)->ED (BS prog w) A NoE use Q (.ref L) Cl (.ok .next) s5) :
  firstAsync gens=false/\BR (BS prog w) A (DJ (.ListComp elt gens scope p) scope env fpos (newList []) false (firstIter gens env) use) Q NoE s:=by
 induction gens using iD with
 | h0=>exact af (σ:=σ) he
 | h1 g =>
  obtain ⟨tg,it,ifs,a⟩:=g;(refine ai he ?_);clear he;rintro ha he;have ha:=beq_iff_eq.mp ha;subst ha;(refine ac he ?_);clear he;rintro src σ1 e1 he;(refine ai he ?_);clear he;rintro ok he;refine ac he λl σ3 e3 he=>?_;refine ac he λu σ4 e4 he=>?_;have hs4:=ck e4;rw [hs4] at e4 he;refine ⟨rfl,?_⟩;obtain ⟨hs,hit⟩:=H.iter _ _ _ _ _ _ _ _ _ e1 R F;refine iz (inner:=λL cenv=>lj elt (.ref L) cenv) R F ok hs hit (λcenv I L=>nA elt tg it ifs scope p (.ref I) (.ref L) cenv) (λcenv L hsc nc=>?_) e3 e4 he hpost;exact ik hh nc (ts:=λρ1=>bI cf t (ay scope sc) ρ1 ifs) (el:=λρ1=>ak cf t (ay scope sc) ρ1 elt) (λσ as s ρ b σ1 e R F=>H.tsts _ _ _ _ _ _ _ _ _ e R F) (λσ as s ρ d σ1 e R F=>H.ev _ _ _ _ _ _ _ _ _ e R F)
 | h2 g g' =>
  obtain ⟨tg,it,ifs,a⟩:=g;obtain ⟨tg2,it2,ifs2,b⟩:=g';(refine ai he ?_);clear he;rintro hab he;rw [and_eq_true] at hab;have ha:=beq_iff_eq.mp hab.1;have hb:=beq_iff_eq.mp hab.2;subst ha;subst hb;(refine ac he ?_);clear he;rintro src σ1 e1 he;(refine ai he ?_);clear he;rintro ok he;rw [and_eq_true] at ok;refine ac he λl σ3 e3 he=>?_;refine ac he λu σ4 e4 he=>?_;have hs4:=ck e4;rw [hs4] at e4 he;refine ⟨rfl,?_⟩;obtain ⟨hs,hit⟩:=H.iter _ _ _ _ _ _ _ _ _ e1 R F;refine iz (inner:=λL cenv=>iB (.ListComp elt [⟨tg,it,ifs,0⟩,⟨tg2,it2,ifs2,0⟩] scope p) 1 it2 (.ref L) cenv) R F ok.1 hs hit (λcenv I L=>kQ elt tg it tg2 it2 ifs ifs2 scope p (.ref I) (.ref L) cenv) (λcenv L hsc nc=>?_) e3 e4 he hpost;exact iV hh nc (λx=>gV (by simpa using ok.2) x) (ts:=λρ1=>bI cf t (ay scope sc) ρ1 ifs) (ts2:=λρ1=>bI cf t (ay scope sc) ρ1 ifs2) (el:=λρ1=>ak cf t (ay scope sc) ρ1 elt) (sr:=λρ1=>cz cf t (ay scope sc) ρ1 it2)
   (λσ as s ρ b σ1 e R F=>H.tsts _ _ _ _ _ _ _ _ _ e R F) (λσ as s ρ b σ1 e R F=>H.tsts _ _ _ _ _ _ _ _ _ e R F) (λσ as s ρ src σ1 e R F=>(H.iter _ _ _ _ _ _ _ _ _ e R F).2) (λσ as s ρ d σ1 e R F=>H.ev _ _ _ _ _ _ _ _ _ e R F)
 | h3 g g' =>
  obtain ⟨_,_,_,_⟩:=g;obtain ⟨_,_,_,_⟩:=g';exact af (σ:=σ) he
inductive vA (prog:BX)(w:BY)(C:BQ)(h₀:BW)(env:Env)(sc:B0)(σ:Sto)(as:List BQ)(s:BU)(σ':Sto)(ρ:Loc)(s':BU):Prop
 | intro (as':List BQ) (g:Go (Wr sc env) prog w C h₀ σ as s σ' as' s') (F:Frm h₀ s'.heap as' env sc ρ):vA prog w C h₀ env sc σ as s σ' ρ s'
theorem xh {σ1:Sto}{as1:List BQ}{s1:BU}(F:Frm h₀ s.heap as env sc ρ)(G:Go NoX prog w C h₀ σ as s σ1 as1 s1)(a:vA prog w C h₀ env sc σ1 as1 s1 σ' ρ' s'):vA prog w C h₀ env sc σ as s σ' ρ' s':=by
 obtain ⟨as2,G2,F2⟩:=a;exact ⟨as2,(G.anyX F.offW F.wr_there).trans G2,F2⟩
theorem lR {elt:Expr}{gens:List Cv}{p py pos:Pos}{y:Str}(hh:A.handled=none)(H:bC prog w C h₀ A cf t)(R:Rel prog w C h₀ σ as s.heap)(F:Frm h₀ s.heap as env sc ρ)
  (he:ak cf (t+1) sc ρ (.ListComp elt gens scope p) σ=some (d,σ')) (hl:(sc.names.lookup y==some .local || sc.names.lookup y==some .cell)=true) (hsw:Du (.ListComp elt gens scope p) (some (.Name y py)) pos.line env=pure true) :
  BR (BS prog w) A (exec (.Assign [.Name y py] (.ListComp elt gens scope p) pos) env) (λfl s'=>fl = .next/\vA prog w C h₀ env sc σ as s σ' (ρ.put y d) s') NoE s:=by
 refine (exec_Assign_Name_used _ _ _ _ hsw).symm▸?_;refine BN (Cf (BN ?_));have key:=jc (use:=some (Cg (.Name y py) env)) (fpos:=firstIterPos gens p) (Q:=λ_ s'=>vA prog w C h₀ env sc σ as s σ' (ρ.put y d) s') hh H R F he (λCl L as' s5 G h1 hm r=>?_)
 ·refine (?_:BR _ A (do let _ <- DJ (.ListComp elt gens scope p) scope env (firstIterPos gens p) (newList []) (firstAsync gens) (firstIter gens env) (some (Cg (.Name y py) env))) _ _ s);refine (key.1).symm▸?_;exact BN (BV key.2 (λ_ s' q=>BP (BP ⟨rfl,q⟩)) λ_ _ q=>q)
 ·obtain ⟨m,hm⟩:=hm;obtain ⟨k,rfl,hk⟩:=r;have apart:iM env Cl:=F.apart_of h1;have F5:Frm h₀ s5.heap as' env sc ρ:=F.goI apart G;have hnW:¬ Wr sc env Cl:=apart.wr;have hC0:=R.free h1;refine (?_:BR _ A (Cg (.Name y py) env (.ref L)) _ _ _);refine PySem.wpAny_assign_Name (BV (dN (sc2:=sc) G.rel F5 (fC (sI.rfl' sc) hl) (.ref hk)) (λ_ s6 q=>?_) λ_ _ q=>q);have G6:=q.1;have F6:=q.2;have hCn:Cl ∉ as':=λhm=>G.off _ hm rfl;have hm6:s6.heap.Ns Cl m:=hm.at' λo e=>G6.kp _ o hCn hnW e;refine ⟨m,hm6,λh' hs'=>?_⟩;have G7:Go (· = Cl) prog w C h₀ σ' as' s6 σ' as' {s6 with heap:=h'} := Go.at G6.rel rfl (λa ha q=>hCn (q▸ha)) hC0.2 (fP hm6) λb o hb e=>hs'.extBut b o hb e;have F7:Frm h₀ h' as' env sc (ρ.put y (.ref k)):=F6.goI apart G7
  let Z:BQ->Prop:=λb=>Wr sc env b\/b=Cl
  have z5:∀ a∈as',¬ Z a:=λa ha q=>q.elim (F5.offW a ha) λq=>hCn (q▸ha);have G1:Go Z prog w C h₀ σ as s σ' as' s5:=⟨G.same,G.rel,G.pre,G.fresh,z5,λb o hb hz e=>G.kp b o hb (λq=>hz (.inr q)) e,G.tup,G.vers⟩;have G2:Go Z prog w C h₀ σ' as' s5 σ' as' s6:=⟨G6.same,G6.rel,G6.pre,G6.fresh,z5,λb o hb hz e=>G6.kp b o hb (λq=>hz (.inl q)) e,G6.tup,G6.vers⟩;have G3:Go Z prog w C h₀ σ' as' s6 σ' as' {s6 with heap:=h'} := ⟨G7.same,G7.rel,G7.pre,G7.fresh,z5,λb o hb hz e=>G7.kp b o hb (λq=>hz (.inr q)) e,G7.tup,G7.vers⟩;exact ⟨as',((G1.trans G2).trans G3).drop (λb q=>q.elim (λq => .inl q) λq => .inr (by subst q;exact h1)) F7.offW,F7⟩
theorem uf {x y:Str}{a b:D}(h:x≠y):∀ ρ:Loc,(Loc.put x a (Loc.put y b ρ))=Loc.put y b (Loc.put x a ρ):=λl=>by
 induction l using List.rec with
 | nil =>
  exact rfl
 | cons pp r ih =>
  obtain ⟨z,o⟩:=pp;by_cases hx:z=x
  ·subst hx;have hzy:(z==y)=false:=by simpa using h
   simp only [Loc.put,hzy,beq_self_eq_true,if_true,false_eq_true,if_false]
  ·by_cases hy:z=y
   ·subst hy;have hzx:(z==x)=false:=by simpa using hx
    simp only [Loc.put,hzx,beq_self_eq_true,if_true,false_eq_true,if_false]
   ·have hzx:(z==x)=false:=by simpa using hx
    have hzy:(z==y)=false:=by simpa using hy
    simp only [Loc.put,hzx,hzy,false_eq_true,if_false];rw [ih]
end
section
variable {prog:BX}{w:BY}{C:BQ}{h₀ h:BW}{σ σ':Sto}{as as':List BQ}{s s':BU}{A:BZ}{d:D}{n t:Nat}{env cenv:Env}{sc sc' sc2 scope:B0}{ρ ρ' ρ0:Loc}{cf:Str->List D->PM D}
theorem lB {tg:Expr}{v:BO}(hr:dP A n)(CO:gP h₀ C)(H:bC prog w C h₀ A cf t)(R:Rel prog w C h₀ σ as s.heap)(F:Frm h₀ s.heap as env sc ρ)(rv:Rep s.heap as v d)(e:db cf t sc ρ tg d σ=some (ρ',σ')) :
  BR (BS prog w) A (Cg tg env v) (λ_ s'=>vA prog w C h₀ env sc σ as s σ' ρ' s') NoE s:=by
 have gen:ge sc tg d ρ σ=some (ρ',σ')->BR (BS prog w) A (Cg tg env v) (λ_ s'=>vA prog w C h₀ env sc σ as s σ' ρ' s') NoE s:=λe=>by
  refine BV (ji hr.handled (sI.rfl' sc) R F rv e) (λ_ s' q=>?_) λ_ _ q=>q;obtain ⟨hs,G,F'⟩:=q;refine hs.symm▸?_;exact ⟨as,G,F'⟩
 cases tv tg with
 | name=>exact gen e
 | pair=>exact gen e
 | other h _ =>
  rw [h] at e;exact af e
 | sub o i p =>
  refine ac e λov σ1 e1 e=>?_;refine ac e λiv σ2 e2 e=>?_;refine ac e λu σ3 e3 e=>?_;obtain ⟨hρ,hs⟩:=aC e;refine (arm_assign_Subscript _ _ _ _ _).symm▸?_;refine BN (B1 (BV (H.ev _ _ _ _ _ _ _ _ _ e1 R F) (λvo s1 q=>?_) λ_ _ q=>q));obtain ⟨as1,G1,r1⟩:=q;have F1:=F.noX G1;refine BN (B1 (BV (H.ev _ _ _ _ _ _ _ _ _ e2 G1.rel F1) (λvi s2 q=>?_) λ_ _ q=>q));obtain ⟨as2,G2,r2⟩:=q;refine BN (Cf (BN (B1 (BV (m7 (by have:=hr.units;exact aZ (.a (.a (.v 0) (.n 1)) (.n 1)) (.v 1) [(1,(.a (.a (.a (.v 0) (.n 100)) (.m 40 (.v 2))) (.n 1)),.v 1)] rfl this) G2.rel (G2.rep r1) r2 (G2.rep (G1.rep rv)) e3) (λ_ s3 q=>?_) λ_ _ q=>q))));refine Ew ?_;(refine hρ.symm▸?_;refine hs.symm▸?_);have G:=(G1.trans G2).trans q;exact ⟨as2,G.anyX F.offW F.wr_there,F.noX G⟩
 | attr o a p =>
  refine ai e λha e=>?_;refine ac e λov σ1 e1 e=>?_;refine (arm_assign_Attribute _ _ _ _ _).symm▸?_;refine BN (B1 (BV (H.ev _ _ _ _ _ _ _ _ _ e1 R F) (λvo s1 q=>?_) λ_ _ q=>q));obtain ⟨as1,G1,r1⟩:=q;refine BN (Cf ?_);induction ov using D.casesOn with
  | ref k =>
   (refine ac e ?_);clear e;rintro ⟨dk,l⟩ σ2 e2 e;obtain ⟨hs2,v0,v1,hk,hd⟩:=iC e2;replace e:=hs2▸e;refine ai e λhz e=>?_;refine ac e λ_ σ4 e4 e=>?_;obtain ⟨hρ,hs⟩:=aC e;(refine hρ.symm▸?_;refine hs.symm▸?_);cases e4;cases r1.refI with
   | @mk x kx =>
   obtain ⟨dx,kvs,hdx,g,gd,b,z⟩:=mV G1.rel kx hk hd;have hlen:=b.length;have hz':l.length<=800:=of_decide_eq_true hz;refine BN (B1 (CO.set ha G1.rel.kept g gd (a5 (.v 0) (.n 900) [(1,.v 0,.v 1),(1,.v 1,.n 800)] rfl (le_of_eq hlen) hz') λh' tk gd' hs'=>?_));refine Ew ?_;have G2:=Go.set (tk:=tk) G1.rel hdx (o:=.dS (put a d l)) (λb o hb e=>hs'.extBut b o hb e) λnt=>(by
    have b':=(b.go nt).put (k:=a) ((G1.rep rv).kp nt (prefix_refl _));exact c6.dS gd' b'.keys b'.vals (by have:=bG (l:=l) a d;have h4:aQ=4096:=rfl;exact aZ (.v 0) (.a (.v 1) (.n 1)) [(1,.v 2,.n 800),(1,.v 0,(.a (.v 2) (.n 1))),(1,.n 4096,.v 1)] rfl hz' this (le_of_eq h4.symm)))
   have G:=G1.trans G2;exact ⟨as1,G.anyX F.offW F.wr_there,F.noX G⟩
  | _=>exact af (σ:=σ1) e
noncomputable def SwP (tg:Expr)(m:Sem (Option (List Str))):Prop:=m=pure none\/∃ a pa b pb k tp,tg = .Tuple [.Name a pa,.Name b pb] k tp/\a≠b/\m=pure (some [a,b])
theorem nq {α:Type}{P:α->Prop}{c:Prop}[Decidable c]{a b:α}(ha:P a)(hb:¬ c->P b):P (if c then a else b):=by
 by_cases h:c
 ·exact (if_pos h).symm▸ha
 ·exact (if_neg h).symm▸hb h
theorem qy {a b:Str} : ∀ p q:Bool,∀ l,l=(if p=true then [a] else [])++(if q=true then [b] else [])->¬ ((l.length != 2 || l.eraseDups.length != l.length)=true)->a≠b/\l=[a,b]:=λp q=>by
 induction p using Bool.casesOn with
 | false=>induction q using Bool.casesOn <;> exact λ_ e hn=>absurd (e▸rfl) hn
 | true=>induction q using Bool.casesOn with
  | false=>exact λ_ e hn=>absurd (e▸rfl) hn
  | true=>exact λ_ e hn=>⟨λh=>hn (by rw [e,h];simp [List.eraseDups_cons]),e⟩
theorem oq {f:Expr->Option Str}{x y:Expr}{a b:Str}{p q:Bool}(h1:f x=if p=true then some a else none)(h2:f y=if q=true then some b else none):List.filterMap f [x,y]=(if p=true then [a] else [])++(if q=true then [b] else []):=by
 rw [List.filterMap_cons,List.filterMap_cons,h1,h2];cases p <;> cases q <;> rfl
theorem jS {tg v:Expr}{x:D}(hc:fb tg v=false)(eb:db cf t sc ρ tg x σ=some (ρ',σ')):Db [tg] v env=pure none\/∃ a pa b pb k tp,tg = .Tuple [.Name a pa,.Name b pb] k tp/\a≠b/\Db [tg] v env=pure (some [a,b]):=by
 refine (?_:SwP tg (Db [tg] v env));cases tv tg with
 | pair a pa b pb k tp =>
  cases tupV v with
  | other h=>exact .inl (h _ _ _ _)
  | tup vs k2 p2 =>
   refine nq (P:=SwP _) (.inl rfl) λh1=>nq (P:=SwP _) (.inl rfl) λh2=>nq (P:=SwP _) (.inl rfl) λh3=>nq (P:=SwP _) (.inl rfl) λh4=>?_;have hc':(vs.all (Dw 8) && !vs.all (DK 8))=false:=hc;have h4':vs.all (DK 8)=false:=Bool.eq_false_iff.mpr h4;have h5:¬ vs.all (Dw 8)=true:=λq=>by rw [q,h4'] at hc';cases hc'
   refine (if_neg h5:(ite _ _ _:Sem (Option (List Str)))=_).symm▸?_;obtain ⟨hab,hl⟩:=qy _ _ _ (oq rfl rfl) h3;exact .inr ⟨a,pa,b,pb,k,tp,rfl,hab,congrArg (λl=>(pure (some l):Sem (Option (List Str)))) hl⟩
 | other h _=>exact af ((congrFun (h _ _ _ _ _) σ).symm.trans eb)
 | _=>exact .inl rfl
end
structure wH (prog:BX)(w:BY)(C:BQ)(h₀:BW)(A:BZ)(cf:Str->List D->PM D)(t:Nat):Prop where
 ex:∀ sc ρ st env σ as s f ρ' σ',ey cf t sc ρ st σ=some ((f,ρ'),σ')->Rel prog w C h₀ σ as s.heap->Frm h₀ s.heap as env sc ρ->BR (BS prog w) A (exec st env) (dv prog w C h₀ env sc σ as s σ' f ρ') NoE s
 exs:∀ sc ρ ss env σ as s f ρ' σ',aE cf t sc ρ ss σ=some ((f,ρ'),σ')->Rel prog w C h₀ σ as s.heap->Frm h₀ s.heap as env sc ρ->BR (BS prog w) A (EA ss env) (dv prog w C h₀ env sc σ as s σ' f ρ') NoE s
section
variable {prog:BX}{w:BY}{C:BQ}{h₀ h:BW}{σ σ':Sto}{as as':List BQ}{s s':BU}{A:BZ}{d:D}{n t:Nat}{env cenv:Env}{sc sc' sc2 scope:B0}{ρ ρ' ρ0:Loc}{cf:Str->List D->PM D}{f:Fl}
theorem yj {σ1:Sto}{as1:List BQ}{s1:BU}{fl:Eh}(F:Frm h₀ s.heap as env sc ρ)(G:Go NoX prog w C h₀ σ as s σ1 as1 s1)(a:dv prog w C h₀ env sc σ1 as1 s1 σ' f ρ' fl s'):dv prog w C h₀ env sc σ as s σ' f ρ' fl s':=by
 obtain ⟨as2,G2,F2,h2⟩:=a;exact ⟨as2,(G.anyX F.offW F.wr_there).trans G2,F2,h2⟩
theorem uS {σ1:Sto}{as1:List BQ}{s1:BU}{fl:Eh}(G:Go (Wr sc env) prog w C h₀ σ as s σ1 as1 s1)(a:dv prog w C h₀ env sc σ1 as1 s1 σ' f ρ' fl s'):dv prog w C h₀ env sc σ as s σ' f ρ' fl s':=by
 obtain ⟨as2,G2,F2,h2⟩:=a;exact ⟨as2,G.trans G2,F2,h2⟩
theorem mB (a:vA prog w C h₀ env sc σ as s σ' ρ' s'):dv prog w C h₀ env sc σ as s σ' .next ρ' .next s':=by
 obtain ⟨as2,G2,F2⟩:=a;exact ⟨as2,G2,F2,rfl⟩
theorem oh {v:Expr}{tg:Option Expr}{line:Nat}(hv:∀ elt gens scope p,v ≠ .ListComp elt gens scope p)(e:ak cf t sc ρ v σ=some (d,σ')):Du v tg line env=pure false:=by
 induction v using Expr.casesOn with
 | ListComp=>exact absurd rfl (hv _ _ _ _)
 | SetComp=>cases t <;> exact af (σ:=σ) e
 | DictComp=>cases t <;> exact af (σ:=σ) e
 | _=>rfl
theorem mu {v tg:Expr}{line:Nat}(ht:∀ x p,tg ≠ .Name x p)(e:ak cf t sc ρ v σ=some (d,σ')):Du v (some tg) line env=pure false:=by
 induction v using Expr.casesOn with
 | ListComp=>cases tg <;> first | exact absurd rfl (ht _ _) | rfl
 | SetComp=>cases t <;> exact af (σ:=σ) e
 | DictComp=>cases t <;> exact af (σ:=σ) e
 | _=>rfl
theorem rI {C:Prop}{β:Type}{x:D}{k:D×D->PM β}{r:β×Sto}(e:(match fj x with | some p=>k p | Option.none=>aT) σ=some r)(h:∀ p q,x = .tup [p,q]->k (p,q) σ=some r->C):C:=by
 cases hx:fj x with
 | none=>rw [hx] at e;exact af e
 | some pq =>
  rw [hx] at e;exact h pq.1 pq.2 (iZ hx) e
theorem qO {tg v:Expr}{pos:Pos}(hr:dP A n)(CO:gP h₀ C)(HA:∀ t,bC prog w C h₀ A cf t)(R:Rel prog w C h₀ σ as s.heap)(F:Frm h₀ s.heap as env sc ρ){σ1:Sto}(hc:fb tg v=false)(e1:ak cf t sc ρ v σ=some (d,σ1))(e2:db cf t sc ρ tg d σ1=some (ρ',σ')) :
  BR (BS prog w) A (exec (.Assign [tg] v pos) env) (dv prog w C h₀ env sc σ as s σ' .next ρ') NoE s:=by
 have normal:Du v (some tg) pos.line env=pure false->BR (BS prog w) A (exec (.Assign [tg] v pos) env) (dv prog w C h₀ env sc σ as s σ' .next ρ') NoE s:=by
  intro hsw;rcases jS hc e2 with hw | ⟨a,pa,b,pb,k,tp,rfl,hab,hw⟩
  ·refine wpAny_Assign_stores (BV ((HA t).ev _ _ _ _ _ _ _ _ _ e1 R F) (λvv s1 q=>?_) λ_ _ q=>q) hsw hw;obtain ⟨as1,G1,r1⟩:=q;have hst:assignEach [tg] env=[(false,Cg tg env)]:=by
    cases tv tg with
    | other h _ =>
     rw [h] at e2;exact af e2
    | _=>rfl
   refine hst.symm▸?_;refine (?_:BR _ A (Cg tg env vv) _ _ s1);exact BV (lB hr CO (HA t) G1.rel (F.noX G1) r1 e2) (λ_ s2 q=>mB (xh F G1 q)) λ_ _ q=>q
  ·refine PyProof.Rows.Assign_Tuple_swapped (names:=[a,b]) (BV ((HA t).ev _ _ _ _ _ _ _ _ _ e1 R F) (λvv s1 q=>?_) λ_ _ q=>q) hsw hw;obtain ⟨as1,G1,r1⟩:=q;have F1:=F.noX G1;have e3:ge sc (.Tuple [.Name a pa,.Name b pb] k tp) d ρ σ1=some (ρ',σ'):=e2;refine ai e3 λh1 e3=>?_;refine ai e3 λh2 e3=>?_;refine rI e3 λp q hd e3=>?_;replace r1:=hd▸r1;have hq:=aC e3;have hρ:=hq.1;have hs:=hq.2;(refine hρ.symm▸?_;refine hs.symm▸?_);cases r1.tupI with
   | @mk t vs n ht hz rr =>
   obtain ⟨v1,v2,hq⟩:=rr.two;have hv:=hq.1;have r1:=hq.2.1;have r2:=hq.2.2;have hs2:vs.size=2:=by (refine (length_toList)▸?_;exact hv.symm▸rfl)
   have hist:IsTup s1.heap t vs:=⟨_,ht,rfl,_,rfl⟩;have:=unpackItems_tuple (prog:=prog) (w:=w) (A:=A) (E:=NoE) (s:=s1) (Q:=λitems s₂=>BR (BS prog w) A (DI (([a,b]:List Str).reverse.map λn=>D6 env n) items.reverse) (λ_=>dv prog w C h₀ env sc σ as s σ1 .next (Loc.put b q (Loc.put a p ρ)) .next) NoE s₂) hr.handled hist (λh' he=>?_)
   ·replace this:=hs2▸this;exact this
   ·refine hv.symm▸?_;have kp:∀ b o,s1.heap.get? b=some o->h'.get? b=some o:=λb o e=>he b o (ne_of_lt (Heap.lt_size e)) e;have G2:Go NoX prog w C h₀ σ1 as1 s1 σ1 as1 {s1 with heap:=h'} := Go.grow G1.rel kp (λ_ _ x=>x);have F2:Frm h₀ h' as1 env sc ρ:=F1.noX G2;refine (?_:BR _ _ (do CN [v1] (D6 env b v2);DI [λv=>D6 env a v] [v1]) _ _ _);refine BN (B1 (Ek (BV (dN (s:={s1 with heap:=h'}) (sc2:=sc) G2.rel F2 (fC (sI.rfl' sc) h2) (G2.rep r2)) (λ_ s3 x=>?_) λ_ _ q=>q)));have G3:=x.1;have F3:=x.2;refine (?_:BR _ _ (do CN [] (D6 env a v1);pure ()) _ _ _);refine BN (B1 (Ek (BV (dN (sc2:=sc) G3.rel F3 (fC (sI.rfl' sc) h1) (G3.rep (G2.rep r1))) (λ_ s4 x=>?_) λ_ _ q=>q)));have G4:=x.1;have F4:=x.2;refine BP (mB ⟨as1,(((G1.trans G2).anyX F.offW F.wr_there).trans G3).trans G4,?_⟩);refine (uf (λe=>hab e.symm) _).symm▸?_;exact F4
 induction v using Expr.casesOn with
 | ListComp elt gens scope p =>
  induction tg using Expr.casesOn with
  | Name x px =>
   have hb:∃ b,Du (.ListComp elt gens scope p) (some (.Name x px)) pos.line env=pure b:=⟨_,rfl⟩;obtain ⟨b,hb⟩:=hb;induction b using Bool.casesOn with
   | false=>exact normal hb
   | true =>
    induction t using Nat.casesOn with
    | zero=>exact af (σ:=σ) e1
    | succ t =>
     have e3:ge sc (.Name x px) d ρ σ1=some (ρ',σ'):=e2;refine ai e3 λh1 e3=>?_;have hq:=aC e3;have hρ:=hq.1;have hs:=hq.2;(refine hρ.symm▸?_;refine hs.symm▸?_);exact BV (lR hr.handled (HA t) R F e1 h1 hb) (λfl s' q=>by obtain ⟨rfl,q⟩:=q;exact mB q) λ_ _ q=>q
  | _=>exact normal (mu (λ_ _ q=>by cases q) e1)
 | _=>exact normal (oh (λ_ _ _ _ q=>by cases q) e1)
inductive SV:B7->Prop
 | expr (v:Expr) (p:Pos):SV (.Expr v p)
 | ret (v:Option Expr) (p:Pos):SV (.Return v p)
 | asg (tg v:Expr) (p:Pos):SV (.Assign [tg] v p)
 | ite (c:Expr) (a b:List B7) (p:Pos):SV (.If c a b p)
 | whl (c:Expr) (b:List B7) (p:Pos):SV (.While c b [] p)
 | fr (tg it:Expr) (b:List B7) (p:Pos):SV (.For tg it b [] p)
 | other {st:B7} (h:∀ cf t sc ρ,ey cf (t+1) sc ρ st=aT):SV st
theorem sv (st:B7):SV st:=by
 induction st using Stmt.casesOn with
 | Expr v p=>exact .expr v p
 | Return v p=>exact .ret v p
 | Assign ts v p =>
  induction ts using List.casesOn with
  | nil=>exact .other λ_ _ _ _=>rfl
  | cons t r =>
   induction r using List.casesOn with
   | nil=>exact .asg t v p
   | cons=>exact .other λ_ _ _ _=>rfl
 | If c a b p=>exact .ite c a b p
 | While c b r p =>
  induction r using List.casesOn with
  | nil=>exact .whl c b p
  | cons=>exact .other λ_ _ _ _=>rfl
 | For tg it b r p =>
  induction r using List.casesOn with
  | nil=>exact .fr tg it b p
  | cons=>exact .other λ_ _ _ _=>rfl
 | _=>exact .other λ_ _ _ _=>rfl
theorem rz {st:B7}(hr:dP A n)(U:j0 h₀ C)(CO:gP h₀ C)(HA:∀ t,bC prog w C h₀ A cf t)(X:wH prog w C h₀ A cf t)(R:Rel prog w C h₀ σ as s.heap)(F:Frm h₀ s.heap as env sc ρ)(e:ey cf (t+1) sc ρ st σ=some ((f,ρ'),σ')) :
  BR (BS prog w) A (exec st env) (dv prog w C h₀ env sc σ as s σ' f ρ') NoE s:=by
 have hint:interactive env=false:=by unfold interactive;exact (ez F).symm▸rfl
 cases sv st with
 | expr v pos =>
  (refine ai e ?_);clear e;rintro hc e;(refine ac e ?_);clear e;rintro d σ1 e1 e;obtain ⟨hf,hs⟩:=aC e;cases hf;refine hs.symm▸?_;refine wpAny_Expr_any (BV ((HA t).ev _ _ _ _ _ _ _ _ _ e1 R F) (λv s1 q=>?_) λ_ _ q=>q) hint (oh (λelt gens scope p q=>by subst q;cases hc) e1);obtain ⟨as1,G1,_⟩:=q;exact ⟨as1,G1.anyX F.offW F.wr_there,F.noX G1,rfl⟩
 | ret v pos =>
  induction v using Option.casesOn with
  | none =>
   obtain ⟨hf,hs⟩:=aC e;cases hf;refine hs.symm▸?_;exact wpAny_Return_none ⟨as,Go.refl R F.offW,F,.none,rfl,.none⟩
  | some x =>
   (refine ac e ?_);clear e;rintro d σ1 e1 e;obtain ⟨hf,hs⟩:=aC e;cases hf;refine hs.symm▸?_;refine wpAny_Return_some (BV ((HA t).ev _ _ _ _ _ _ _ _ _ e1 R F) (λv s1 q=>?_) λ_ _ q=>q);obtain ⟨as1,G1,r1⟩:=q;exact ⟨as1,G1.anyX F.offW F.wr_there,F.noX G1,v,rfl,r1⟩
 | asg tg v pos =>
  (refine ai e ?_);clear e;rintro hc e;(refine ac e ?_);clear e;rintro d σ1 e1 e;(refine ac e ?_);clear e;rintro ρ1 σ2 e2 e;obtain ⟨hf,hs⟩:=aC e;cases hf;refine hs.symm▸?_;exact qO hr CO HA R F (by simpa using hc) e1 e2
 | ite test a b pos =>
  (refine ac e ?_);clear e;rintro q σ1 e1 e;refine wpAny_If (BV ((HA t).tst _ _ _ _ _ _ _ _ _ e1 R F) (λv s1 x=>?_) λ_ _ q=>q);obtain ⟨rfl,as1,G1⟩:=x;induction v using Bool.casesOn with
  | true=>rw [if_pos rfl] at e ⊢;exact BV (X.exs _ _ _ _ _ _ _ _ _ _ e G1.rel (F.noX G1)) (λ_ _ q=>yj F G1 q) λ_ _ q=>q
  | false=>rw [if_neg (by decide)] at e ⊢;exact BV (X.exs _ _ _ _ _ _ _ _ _ _ e G1.rel (F.noX G1)) (λ_ _ q=>yj F G1 q) λ_ _ q=>q
 | whl test body pos =>
  refine wpAny_While (Cj (pF (λσ as s ρ b σ1 e R F=>(HA t).tst _ _ _ _ _ _ _ _ _ e R F) (λσ as s ρ f ρ1 σ1 e R F=>X.exs _ _ _ _ _ _ _ _ _ _ e R F) R F 6 e) λr s1 q=>?_);obtain ⟨fl,rfl,q⟩:=q;exact q
 | fr tg it body pos =>
  (refine ac e ?_);clear e;rintro src σ1 e1 e;obtain ⟨hs,hit⟩:=(HA t).iter _ _ _ _ _ _ _ _ _ e1 R F;refine yS R F hs hit (λσ as s x v ρ f ρ1 σ1 e R F r=>?_) e;(refine ac e ?_);clear e;rintro ρ2 σ2 e2 e;refine BV (ji hr.handled (sI.rfl' sc) R F r e2) (λ_ s1 q=>?_) λ_ _ q=>q;obtain ⟨hs2,G,F2⟩:=q;replace e:=hs2▸e;exact BV (X.exs _ _ _ _ _ _ _ _ _ _ e G.rel F2) (λ_ _ q=>uS G q) λ_ _ q=>q
 | other h =>
  rw [h] at e;exact af e
theorem oA {ss:List B7}(X:wH prog w C h₀ A cf t)(R:Rel prog w C h₀ σ as s.heap)(F:Frm h₀ s.heap as env sc ρ)(e:aE cf (t+1) sc ρ ss σ=some ((f,ρ'),σ')) :
  BR (BS prog w) A (EA ss env) (dv prog w C h₀ env sc σ as s σ' f ρ') NoE s:=by
 induction ss using List.casesOn with
 | nil =>
  obtain ⟨hf,hs⟩:=aC e;cases hf;refine hs.symm▸?_;exact wpAny_execs_nil ⟨as,Go.refl R F.offW,F,rfl⟩
 | cons st r =>
  (refine ac e ?_);clear e;rintro ⟨f1,ρ1⟩ σ1 e1 e;refine wpAny_execs_cons (BV (X.ex _ _ _ _ _ _ _ _ _ _ e1 R F) (λfl s1 q=>?_) λ_ _ q=>q);obtain ⟨as1,G1,F1,hfl⟩:=q;induction f1 using Fl.casesOn with
  | next =>
   cases hfl;exact BV (X.exs _ _ _ _ _ _ _ _ _ _ e G1.rel F1) (λ_ _ q=>uS G1 q) λ_ _ q=>q
  | ret d =>
   obtain ⟨v,rfl,rv⟩:=hfl;obtain ⟨hf,hs⟩:=aC e;cases hf;refine hs.symm▸?_;exact ⟨as1,G1,F1,v,rfl,rv⟩
theorem Ax (hr:dP A n)(U:j0 h₀ C)(CO:gP h₀ C)(O:Orc prog w C h₀ A cf)(T:pL prog w C h₀ A):∀ t,wH prog w C h₀ A cf t:=λl=>by
 induction l using Nat.rec with
 | zero =>
  exact ⟨λ_ _ _ _ σ _ _ _ _ _ e=>af (σ:=σ) e,λ_ _ _ _ σ _ _ _ _ _ e=>af (σ:=σ) e⟩
 | succ t ih =>
  have X:=ih;exact ⟨λ_ _ _ _ _ _ _ _ _ _ e R F=>rz hr U CO (Au hr U CO O T) X R F e,λ_ _ _ _ _ _ _ _ _ _ e R F=>oA X R F e⟩
end
noncomputable def zM (fd:Fd):Bool :=
 fd.scope.kind == .function && !fd.scope.isCoroutine && !fd.scope.isGenerator &&
 fd.scope.names.all (λp=>p.2 != .free && p.1 != ("__debug__" : Str) && p.1 != ("__classdict__" : Str)) &&
 fd.params.all λx=>fd.scope.names.lookup x==some .local || fd.scope.names.lookup x==some .cell
section
variable {prog:BX}{w:BY}{C:BQ}{h₀ h:BW}{σ σ':Sto}{as as':List BQ}{s s':BU}{A:BZ}{d:D}{n t:Nat}{env cenv:Env}{sc sc' sc2 scope:B0}{ρ ρ' ρ0:Loc}{cf:Str->List D->PM D}{f:Fl}
structure vM (h:BW)(as:List BQ)(kindOf:Str->Option Cc)(ρ:Loc)(m cm:Str->Option BO):Prop where
 loc:∀ x d,ρ.lookup x=some (some d)->kindOf x=some .local->∃ v,m x=some v/\Rep h as v d
 cell:∀ x d,ρ.lookup x=some (some d)->kindOf x=some .cell->∃ v,cm x=some v/\Rep h as v d
theorem n0 {p x:Str}{a d:D}{ρ0:Loc}(hx:(Loc.put p a ρ0).lookup x=some (some d)):(x=p/\d=a)\/(x≠p/\ρ0.lookup x=some (some d)):=by
 rw [Loc.lookup_put] at hx;by_cases hxp:x=p
 ·rw [if_pos hxp] at hx;refine .inl ⟨hxp,?_⟩;cases hl:ρ0.lookup x with
  | none=>rw [hl] at hx;exact an hx
  | some o=>rw [hl] at hx;exact (Option.some.inj (Option.some.inj hx)).symm
 ·exact .inr ⟨hxp,by rwa [if_neg hxp] at hx⟩
theorem vM.put {kindOf:Str->Option Cc}{p:Str}{a:D}{v:BO}{ρ0:Loc}{m cm:Str->Option BO}(B:vM h as kindOf ρ0 m cm)(r:Rep h as v a) :
  vM h as kindOf (Loc.put p a ρ0) (if kindOf p=some .local then λy=>if y=p then some v else m y else m) (if kindOf p=some .local then cm else λy=>if y=p then some v else cm y):=by
 refine ⟨λx d hx hk=>?_,λx d hx hk=>?_⟩
 ·rcases n0 hx with ⟨e,ed⟩ | ⟨hn,hx⟩
  ·refine ⟨v,?_,ed▸r⟩;rw [if_pos (e▸hk),if_pos e]
  ·split
   ·obtain ⟨v',hv,r'⟩:=B.loc x d hx hk;exact ⟨v',(if_neg hn).trans hv,r'⟩
   ·exact B.loc x d hx hk
 ·rcases n0 hx with ⟨e,ed⟩ | ⟨hn,hx⟩
  ·refine ⟨v,?_,ed▸r⟩;rw [if_neg (λq=>by rw [<- e,hk] at q;cases q),if_pos e]
  ·split
   ·exact B.cell x d hx hk
   ·obtain ⟨v',hv,r'⟩:=B.cell x d hx hk;exact ⟨v',(if_neg hn).trans hv,r'⟩
theorem nL {kindOf:Str->Option Cc}{ρ:Loc}(ps:List Str):∀ (vals:List BO) (args:List D) (ρ0:Loc) (m cm:Str->Option BO),jW ps args ρ0=some ρ->aD h as vals args->vM h as kindOf ρ0 m cm ->
  vals.length=ps.length/\vM h as kindOf ρ (bindL kindOf (ps.zip vals) m) (bindC kindOf (ps.zip vals) cm):=by
 induction ps using List.rec with
 | nil =>
  intro vals args ρ0 m cm e r B;induction args using List.casesOn with
  | nil=>cases r.nilI;exact ⟨rfl,Option.some.inj e▸B⟩
  | cons _ _=>exact an e
 | cons p ps ih =>
  intro vals args ρ0 m cm e r B;induction args using List.casesOn with
  | nil=>exact an e
  | cons a args =>
   cases r.consI with
   | @mk v vs r1 rs =>
   obtain ⟨l,q⟩:=ih vs args (Loc.put p a ρ0) _ _ e rs (B.put r1);exact ⟨congrArg (· + 1) l,q⟩
theorem eV {x:Str}{d:D}(h:(gB sc).lookup x=some (some d)):False:=by
 have:=mem_of_lookup h;obtain ⟨⟨y,k⟩,_,he⟩:=List.mem_filterMap.mp this;dsimp only at he;split at he
 ·cases he
 ·cases he
theorem vM.bare {kindOf:Str->Option Cc} : vM h as kindOf (gB sc) (λ_=>none) (λ_=>none):=⟨λ_ _ hx=>(eV hx).elim,λ_ _ hx=>(eV hx).elim⟩
theorem lL {n:Nat}(hr:dP A (n+1))(env:Env):dP (A.deeper env) n:=by
 have h1:=hr.depth;have h2:=hr.units;exact ⟨hr.handled,hr.guards,by show A.depth+1+4 * n+4 < Dz;exact aZ (.a (.a (.a (.a (.v 0) (.n 1)) (.m 4 (.v 1))) (.n 4)) (.n 1)) (.v 2) [(1,(.a (.a (.a (.v 0) (.m 4 (.a (.v 1) (.n 1)))) (.n 4)) (.n 1)),.v 2)] rfl h1,by show A.units+3+100+40 * n < CA;exact aZ (.a (.a (.a (.a (.v 0) (.n 3)) (.n 100)) (.m 40 (.v 1))) (.n 1)) (.v 2) [(1,(.a (.a (.a (.v 0) (.n 100)) (.m 40 (.a (.v 1) (.n 1)))) (.n 1)),.v 2)] rfl h2⟩
theorem jo {a:BQ}{fd:Fd}{args:List D}{vals:List BO}(hr:dP A (n+1))(U:j0 h₀ C)(CO:gP h₀ C)(O:∀ A,dP A n->Orc prog w C h₀ A cf)(T:∀ A,dP A n->pL prog w C h₀ A)(fa:tH h₀ a fd)(ok:zM fd=true)
  (R:Rel prog w C h₀ σ as s.heap) (rr:aD s.heap as vals args) (e:mG cf fd args σ=some (d,σ')) :
  Ck (BS prog w) A (.call (.ref a) ⟨vals,[]⟩) (λr s'=>∃ v,r = .ok (.ret v)/\Ans prog w C h₀ σ as s σ' d v s') s:=by
 refine ac e λρ σ1 e1 e=>?_;obtain ⟨hb,hs1⟩:=bW e1;replace e:=hs1▸e;(refine ac e ?_);clear e;rintro ⟨f,ρ1⟩ σ2 e2 e;unfold zM at ok;simp only [and_eq_true,beq_iff_eq,not_eq_true'] at ok;obtain ⟨⟨⟨⟨hkind,hco⟩,hgen⟩,hnames⟩,hparams⟩:=ok;obtain ⟨o,fdat,ho,hdata,hcode,hbody,hscope,hclo,hglob,hblt,hbind⟩:=fa.fn;have hpk:∀ p∈fd.params,fd.scope.names.lookup p=some .local\/fd.scope.names.lookup p=some .cell:=λp hp=>by
  have:=all_eq_true.mp hparams p hp;rcases Bool.or_eq_true_iff.mp this with q | q
  ·exact .inl (beq_iff_eq.mp q)
  ·exact .inr (beq_iff_eq.mp q)
 have hlen:vals.length=fd.params.length:=(nL (kindOf:=λx=>fd.scope.names.lookup x) fd.params vals args _ (λ_=>none) (λ_=>none) hb rr .bare).1;have hname:∀ x k,fd.scope.names.lookup x=some k->k ≠ .free/\(x==("__debug__" : Str))=false/\(x==("__classdict__" : Str))=false:=λx k hx=>by
  have:=all_eq_true.mp hnames (x,k) (mem_of_lookup hx);simp only [and_eq_true,bne_iff_ne,ne_eq] at this;exact ⟨this.1.1,by simpa using this.1.2,by simpa using this.2⟩
 refine codeAny_call_cells (body:=fd.body) (binds:=fd.params.zip vals) (by have:=hr.depth;exact aZ (.a (.v 0) (.n 1)) (.v 1) [(1,(.a (.a (.a (.v 0) (.m 4 (.a (.v 2) (.n 1)))) (.n 4)) (.n 1)),.v 1)] rfl this) (R.kept _ _ ho) hdata (U.nolimit.keeps R.kept) (hcode.keeps R.kept) hbody (hbind vals hlen) hclo (λx hx=>?_) (λs₁ x=>?_) (by refine hscope.symm▸?_;exact hco) (by refine hscope.symm▸?_;exact hgen) (by refine hscope.symm▸?_;exact hkind)
 ·have hmem:x.1∈fd.params:=(List.of_mem_zip hx).1;refine hscope.symm▸?_;rcases hpk _ hmem with q | q
  ·exact .inl q
  ·exact .inr ⟨q,PySem.W.cellsFrom_some _ _ _ (.inl q)⟩
 ·have hg0:s₁.heap=s₁.heap:=rfl;obtain ⟨h1,tk,hs1⟩:=x.toInCall.same;have keep:=x.toInCall.keep;have G0:Go NoX prog w C h₀ σ as s σ as s₁:=by
   rw [hs1] at keep ⊢;exact Go.grow R keep (λ_ _ x=>x)
  let env:=callEnvC fdat s.heap.objs.size a
  have hL:env.locals=s.heap.objs.size:=rfl;have hk:∀ y,env.kindOf y=fd.scope.names.lookup y:=λy=>by show fdat.scope.names.lookup y=_;exact hscope.symm▸rfl
  have bo:=(nL (h:=s₁.heap) (as:=as) (kindOf:=env.kindOf) fd.params vals args _ (λ_=>none) (λ_=>none) hb (G0.repL rr) .bare).2;have hcellsAbove:∀ x' c,env.cells.lookup x'=some c->s.heap.objs.size < c:=λx' c hc=>x.above x' c (mem_of_lookup hc);have cfree:∀ x' c,env.cells.lookup x'=some c->s.heap.get? c=none:=λx' c hc=>cX _ (le_of_lt (hcellsAbove x' c hc));have Fm:Frm h₀ s₁.heap as env fd.scope ρ:=by
   refine ⟨hscope,hkind,hglob,hblt,⟨_,x.toInCall.ns,λy d h1 h2=>?_⟩,λy hy=>?_,λy z c hy hz=>?_,⟨dX R,ju R⟩,λy c hc=>?_,λy k hy=>(hname y k hy).2⟩
   ·exact bo.loc y d h2 ((hk y).trans h1)
   ·rcases hy with hy | hy
    ·have hs:(env.cells.lookup y).isSome=true:=PySem.W.cellsFrom_some _ _ _ (.inl (by refine hscope.symm▸?_;exact hy));obtain ⟨c,hc⟩:=isSome_iff_exists.mp hs;refine ⟨c,_,hc,x.cell y c hc,λd hd=>?_⟩;exact bo.cell y d hd ((hk y).trans hy)
    ·exact absurd rfl (hname y _ hy).1
   ·exact name_of_addr x.apart (mem_of_lookup hy) (mem_of_lookup hz)
   ·obtain ⟨q1,q2⟩:=R.free (cfree y c hc);exact ⟨q1,q2,_,x.cell y c hc⟩
  have hr':=lL hr env;refine bt ((Ax hr' U CO (O _ hr') (T _ hr') 64).exs _ _ _ _ _ _ _ _ _ _ e2 G0.rel Fm) λfl s' q=>?_;obtain ⟨as2,G2,F2,hfl⟩:=q;have G3:Go NoX prog w C h₀ σ as s σ2 as2 s':=((G0.toX Fm.offW).trans G2).drop (λb q => .inr (by
   rcases q with q | ⟨y,_,hc⟩
   ·refine q.symm▸?_;exact aR _
   ·exact cfree y b hc)) (λ_ _ x=>x)
  induction f using Fl.casesOn with
  | next =>
   cases hfl;obtain ⟨hd,hs⟩:=aC e;(refine hd.symm▸?_;refine hs.symm▸?_);exact ⟨.none,rfl,as2,G3,.none⟩
  | ret d' =>
   obtain ⟨v,rfl,rv⟩:=hfl;obtain ⟨hd,hs⟩:=aC e;(refine hd.symm▸?_;refine hs.symm▸?_);exact ⟨v,rfl,as2,G3,rv⟩
end
structure vO (h₀:BW)(C:BQ):Prop where
 keep:pO h₀ (.ref C)
 init:∃ fI fd,aM "Evaluator.__init__"=some fd/\tH h₀ fI fd/\∀ {prog:BX} {w:BY} {A:BZ} {R:C8->BU->Prop} {s:BU} {vals:List BO},(∀ b o,h₀.get? b=some o->s.heap.get? b=some o) ->
  Ck (BS prog w) (A.under (.builtin "type.__call__" ⟨.ref C::vals,[]⟩)) (.call (.ref fI) ⟨.ref (s.heap.objs.size+1)::vals,[]⟩) (PySem.W.InitBack (s.heap.objs.size+1) R)
   {s with heap:=(s.heap.push {cls:=.type "dict",data:=.dict #[]}).push {cls:=.ref C,dict:=some s.heap.objs.size} } -> Ck (BS prog w) A (.call (.ref C) ⟨vals,[]⟩) R s
 meth:∀ name fd,aM (("Evaluator." : Str)++name)=some fd->∃ f,vy h₀ C name f/\tH h₀ f fd
 tabOk:∀ f fd,aM f=some fd->zM fd=true
section
variable {prog:BX}{w:BY}{C:BQ}{h₀ h:BW}{σ σ':Sto}{as as':List BQ}{s s':BU}{A:BZ}{d:D}{n t:Nat}
theorem tH.keeps {a:BQ}{fd:Fd}(fa:tH h₀ a fd):pO h₀ (.ref a):=by
 obtain ⟨o,fdat,ho,hdata,_⟩:=fa.fn;intro M h k;refine ⟨.frame,.inl rfl,λA Q E s k2 q=>?_⟩;refine BN (CX (k2 _ _ (k _ _ ho)) ?_);refine hdata.symm▸?_;exact BP q
theorem pJ {n:Nat}{vals:List BO}(hr:dP A (n+1)):dP (A.under (.builtin "type.__call__" ⟨.ref C::vals,[]⟩)) n:=by
 have h1:=hr.depth;have h2:=hr.units;refine ⟨hr.handled,?_,?_,?_⟩
 ·refine (?_:pushGuards (Code.builtin "type.__call__" ⟨.ref C::vals,[]⟩).guards A.guards=some []);have:(Code.builtin "type.__call__" ⟨.ref C::vals,[]⟩).guards=[]:=by rfl
  refine this.symm▸?_;exact hr.guards
 ·refine (?_:A.depth+(Code.builtin "type.__call__" ⟨.ref C::vals,[]⟩).weight+4 * n+4 < Dz);have:(Code.builtin "type.__call__" ⟨.ref C::vals,[]⟩).weight<=3:=by
   have:(Code.builtin "type.__call__" ⟨.ref C::vals,[]⟩).weight=1:=by first | rfl | decide | simp [Code.weight,Code.frames,Code.isCreation,Code.isGuard,Code.isCaller,Code.isFrame]
   exact bh (.v 0) (.n 3) [(1,.v 0,.n 1)] rfl (le_of_eq this)
  exact fW (.a (.a (.a (.a (.v 0) (.v 1)) (.m 4 (.v 2))) (.n 4)) (.n 1)) (.v 3) [(1,(.a (.a (.a (.v 0) (.m 4 (.a (.v 2) (.n 1)))) (.n 4)) (.n 1)),.v 3),(1,.v 1,.n 3)] rfl h1 this
 ·refine (?_:A.units+(Code.builtin "type.__call__" ⟨.ref C::vals,[]⟩).cUnits+100+40 * n < CA);have:(Code.builtin "type.__call__" ⟨.ref C::vals,[]⟩).cUnits<=10:=by
   have:(Code.builtin "type.__call__" ⟨.ref C::vals,[]⟩).cUnits=1:=by first | rfl | decide | simp [Code.cUnits,Code.frames,Code.isFrame]
   exact bh (.v 0) (.n 10) [(1,.v 0,.n 1)] rfl (le_of_eq this)
  exact fW (.a (.a (.a (.a (.v 0) (.v 1)) (.n 100)) (.m 40 (.v 2))) (.n 1)) (.v 3) [(1,(.a (.a (.a (.v 0) (.n 100)) (.m 40 (.a (.v 2) (.n 1)))) (.n 1)),.v 3),(1,.v 1,.n 10)] rfl h2 this
theorem jy (name:Str):((("Evaluator." : Str)++name)==("Evaluator" : Str))=false:=by
 cases h:(("Evaluator." : Str)++name)==("Evaluator" : Str) with
 | false=>rfl
 | true =>
  have:=congrArg Str.length (beq_iff_eq.mp h);rw [DL] at this;have h1:("Evaluator." : Str).length=10:=by decide
  have h2:("Evaluator" : Str).length=9:=by decide
  exact absurd (this▸le_add_right _ _:("Evaluator." : Str).length<=("Evaluator" : Str).length) (by decide)
noncomputable def xV (h:BW)(C:BQ):BW:=(h.push {cls:=.type "dict",data:=.dict #[]}).push {cls:=.ref C,dict:=some h.objs.size}
inductive A9 (prog:BX)(w:BY)(C:BQ)(h₀:BW)(σ:Sto)(as:List BQ)(s:BU)(σ2:Sto)(k:Nat):Prop
 | mk (as2:List BQ) (G:Go NoX prog w C h₀ σ as s σ2 as2 {s with heap:=xV s.heap C}) (h:as2[k]? = some (s.heap.objs.size+1))
theorem us (R:Rel prog w C h₀ σ as s.heap):A9 prog w C h₀ σ as s ((σ++[(.dS [],0)])++[(.inst σ.length,0)]) (σ++[(PO.dS [],0)]).length:=by
 have G1:=Go.push (o:=.dS []) (tk:=s.toks) R (a:=s.heap.objs.size) (h':=s.heap.push {cls:=.type "dict",data:=.dict #[]}) (λb o e=>Heap.get?_push_of_some _ e) (aR _) (.dS (Heap.DictOf.new s.heap) rfl .nil (zero_le _));have hsz:(s.heap.push {cls:=.type "dict",data:=.dict #[]}).objs.size=s.heap.objs.size+1:=Heap.size_push ..;have G2:=Go.push (s:={s with heap:=s.heap.push {cls:=.type "dict",data:=.dict #[]} }) (o:=.inst σ.length) (tk:=s.toks) G1.rel (a:=s.heap.objs.size+1) (h':=xV s.heap C)
  (λb o e=>Heap.get?_push_of_some _ e) (cX _ (le_of_eq hsz)) (.inst (dx:=s.heap.objs.size) (by refine (R.len)▸?_;simp) (hsz▸Heap.get?_push_size (h:=s.heap.push {cls:=.type "dict",data:=.dict #[]}) (o:={cls:=.ref C,dict:=some s.heap.objs.size}) rfl))
 exact ⟨_,G1.trans G2,by refine (G1.rel.len)▸?_;simp⟩
theorem wO {args:List D}{vals:List BO}{fd:Fd}{σ2 σ4:Sto}{k:Nat}(U:j0 h₀ C)(CO:gP h₀ C)(M:vO h₀ C)(T:∀ A n,dP A n->pL prog w C h₀ A)(O:∀ A,dP A (2 * n)->Orc prog w C h₀ A (aL n))(hr:dP A (2 * n+1+1))(hfd:aM "Evaluator.__init__"=some fd)
  (R:Rel prog w C h₀ σ as s.heap) (rr:aD s.heap as vals args) (N:A9 prog w C h₀ σ as s σ2 k) (e4:mG (aL n) fd (.ref k::args) σ2=some (.none,σ4)) :
  BR (BS prog w) A (call (.ref C) vals []) (Ans prog w C h₀ σ as s σ4 (.ref k)) NoE s:=by
 obtain ⟨fI,fd',hfd',fa,hmake⟩:=M.init;obtain ⟨as2,G,hk⟩:=N;refine Ef (hmake R.kept ?_);refine Cj (jo (n:=2 * n) (s:={s with heap:=xV s.heap C}) (pJ (n:=2 * n+1) hr) U CO O (λA r=>T A _ r) (Option.some.inj (hfd.symm.trans hfd')▸fa) (M.tabOk _ _ hfd) G.rel (.cons (.ref hk) (G.repL rr)) e4) λr' s' q=>?_;obtain ⟨v,e,as',G3,rv⟩:=q;cases rv.noneI;refine e.symm▸?_;exact ⟨rfl,as',G.trans G3,.ref (getElem?_of_prefix G3.pre hk)⟩
theorem u8 {f:BQ}{vals:List BO}(q:Ck (BS prog w) A (.call (.ref f) ⟨vals,[]⟩) (λr s'=>∃ v,r = .ok (.ret v)/\Ans prog w C h₀ σ as s σ' d v s') s):BR (BS prog w) A (call (.ref f) vals []) (Ans prog w C h₀ σ as s σ' d) NoE s :=
 Ef (Cj q λr s' q=>by
  obtain ⟨v,e,q⟩:=q;exact e.symm▸q)
noncomputable def AW (n:Nat)(o:D)(args:List D):PM D:=do
 let fd <- ofOpt (aM "Evaluator.__init__")
 let r <- mG (aL n) fd (o::args)
 match r with
 | .none=>pure o
 | _=>aT
theorem orc (U:j0 h₀ C)(CO:gP h₀ C)(M:vO h₀ C)(T:∀ A n,dP A n->pL prog w C h₀ A)(n:Nat):∀ A:BZ,dP A (2 * n)->Orc prog w C h₀ A (aL n):=by
 induction n using Nat.rec with
 | zero=>exact λA _=>⟨λ_ _ σ _ _ _ e=>af (σ:=σ) e,λ_ _ _ σ _ _ e=>af (σ:=σ) e⟩
 | succ n ih =>
  intro A hr;have O:∀ A,dP A (2 * n+1)->Orc prog w C h₀ A (aL n):=λA h=>ih A (h.le (le_succ _));refine ⟨λid args σ d σ' hdot e=>?_,λname k args σ d σ' e=>?_⟩
  ·by_cases hE:(id==("Evaluator" : Str))=true
   ·replace e:=(congrFun (if_pos hE) σ).symm.trans e;obtain ⟨mg,mb,hg,_,_,_,_,hmg⟩:=U.ns;refine ⟨.ref C,⟨mg,hg,beq_iff_eq.mp hE▸hmg⟩,M.keep,λas s vals R rr=>?_⟩;have e:AW n (.ref (σ++[(PO.dS [],0)]).length) args ((σ++[(PO.dS [],0)])++[(.inst σ.length,0)])=some (d,σ'):=e;refine ac e ?_;clear e;intro fd σ3 e3 e;obtain ⟨hfd,hs3⟩:=bW e3;refine ac e ?_;intro r σ4 e4 e;induction r using D.casesOn with
    | none =>
     obtain ⟨hd,hs4⟩:=aC e;exact hd.symm▸hs4.symm▸wO U CO M T ih hr hfd R rr (us R) (hs3▸e4)
    | _=>exact af (σ:=σ4) e
   ·replace e:=(congrFun (if_neg hE) σ).symm.trans e;refine ac e ?_;intro fd σ3 e3 e;obtain ⟨hfd,hs3⟩:=bW e3;obtain ⟨mg,mb,hg,_,_,_,hfn,_⟩:=U.ns;obtain ⟨a,hmg,fa⟩:=hfn id fd hfd hdot;exact ⟨.ref a,⟨mg,hg,hmg⟩,fa.keeps,λas s vals R rr=>u8 (jo hr U CO O (λA r=>T A _ r) fa (M.tabOk _ _ hfd) R rr (hs3▸e))⟩
  ·replace e:=(congrFun (if_neg (Bool.eq_false_iff.mp (jy name))) σ).symm.trans e;refine ac e ?_;intro fd σ3 e3 e;obtain ⟨hfd,hs3⟩:=bW e3;obtain ⟨f,hm,fa⟩:=M.meth name fd hfd;exact ⟨f,hm,fa.keeps,λas s x vals R rr=>u8 (jo hr U CO O (λA r=>T A _ r) fa (M.tabOk _ _ hfd) R rr (hs3▸e))⟩
end
theorem tW:Df (.type "dict") "__len__"=pure (some (.builtin "dict.__len__")):=by (refine (CQ _ _).symm▸?_;refine builtinLookup_eq_fast.symm▸?_);kernel_rfl
theorem wR:Df (.type "set") "__len__"=pure (some (.builtin "set.__len__")):=by (refine (CQ _ _).symm▸?_;refine builtinLookup_eq_fast.symm▸?_);kernel_rfl
section
variable {prog:BX}{w:BY}{A:BZ}{s:BU}
theorem rL {a b:BU}(h1:a.heap=b.heap)(h2:a.gens=b.gens)(h3:a.drawn=b.drawn)(h4:a.toks=b.toks)(h5:a.os=b.os):a=b:=by
 refine (?_:Shared.mk a.heap a.gens a.drawn a.toks a.os=Shared.mk b.heap b.gens b.drawn b.toks b.os);(refine h1.symm▸?_;refine h2.symm▸?_;refine h3.symm▸?_;refine h4.symm▸?_;exact h5.symm▸rfl)
theorem xi {x:BQ}{T:String}{Q:Bool->BU->Prop}{E:BO->BU->Prop}(hTm:T="dict"\/T="set")(hT:s.TypeIs (.ref x) T)(hQ:Q false s):BR (BS prog w) A (Builtin.List.listLengthHint (.ref x)) Q E s:=by
 rcases hTm with rfl | rfl
 ·refine BN (C7 hT tW ?_);generalize hid:("dict.__len__" : String)=id0;dsimp only;rw [show splitId id0=some ("dict","__len__") from by subst hid;decide +kernel];subst hid;refine BN (CK (b:=true) hT (by refine (CF _ _).symm▸?_;kernel_rfl) ?_);rw [if_neg (by decide),if_pos (by decide)];exact BN (CH hT (BP hQ))
 ·refine BN (C7 hT wR ?_);generalize hid:("set.__len__" : String)=id0;dsimp only;rw [show splitId id0=some ("set","__len__") from by subst hid;decide +kernel];subst hid;refine BN (CK (b:=true) hT (by refine (CF _ _).symm▸?_;kernel_rfl) ?_);rw [if_neg (by decide),if_pos (by decide)];exact BN (CH hT (BP hQ))
inductive ItW (prog:BX)(w:BY)(A:BZ)(s:BU)(h1:BW)(S:BQ)(fin:Ey->(Nat->BO->Prop)->Nat->Prop)(it:BO)(s2:BU):Prop
 | mk (I:BQ) (fp:List BQ) (n:Nat) (P:Nat->BO->Prop) (St:Nat->BW->Prop) (tk:Nat) (dr:Ey) (h2:BW) (e1:it = .ref I) (e2:s2 = {s with heap:=h2,toks:=tk,drawn:=dr}) (k:∀ b o,h1.get? b=some o->h2.get? b=some o)
  (W:De prog w A.in1 I fp [I] n P St) (hn:n<=Ct) (st:St 0 h2) (hS:S ∉ fp) (hI:h1.get? I=none) (hQ:fin dr P n):ItW prog w A s h1 S fin it s2
theorem lH {S x:BQ}{T:String}{res:BO}{c₀:Nat}{R:C8->BU->Prop}(hTm:T="dict"\/T="set")(hT:s.TypeIs (.ref x) T)(hxS:S≠x)(hS:s.heap.get? S=some {cls:=.type "list",data:=.seq #[] c₀})
  (hit:BR (BS prog w) A.in1 (Cq (.ref x)) (ItW prog w A s s.heap S λdr P n=>∀ h3 tk acc c,ItemsOf P acc n->(∀ b o,b≠S->s.heap.get? b=some o->h3.get? b=some o)->h3.get? S=some {cls:=.type "list",dict:=none,data:=.seq acc c,slots:=#[]} -> R (.ok (.ret res)) {s with heap:=h3,toks:=tk,drawn:=dr}) NoE s) :
  BR (BS prog w) A.in1 (Builtin.List.listExtendWith (.ref S) (.ref x) res)
   (λfin s'=>match fin with | .done f=>R (.ok f) s' | .again c'=>c'.quiet=true/\Ck (BS prog w) A c' R s') (λe s'=>R (.error e) s') s:=by
 refine BN (CH hT ?_);have h1:Builtin.List.listSameRef (.ref S) (.ref x)=false:=by simp [Builtin.List.listSameRef,hxS]
 have h2:(Value.type T==Value.type "list")=false:=by rcases hTm with rfl | rfl <;> decide
 have h3:(Value.type T==Value.type "tuple")=false:=by rcases hTm with rfl | rfl <;> decide
 simp only [h1,h2,h3,Bool.or_false,false_eq_true,if_false];refine BN (bt hit λit s2 q=>?_);obtain ⟨I,fp,n,P,St,tk,dr,h2',rfl,rfl,k2,W,hn,hst,hLf,hIf,hQ⟩:=q;have hT2:Shared.TypeIs {s with heap:=h2',toks:=tk,drawn:=dr} (.ref x) T:=by
  obtain ⟨o,ho,hc⟩:=hT;exact ⟨o,k2 _ _ ho,hc⟩
 refine BN (B1 (xi hTm hT2 ?_));refine wpAny_ite ?_;split;rotate_left
 ·rename_i hno;exact absurd (by rcases hTm with rfl | rfl <;> rfl) hno
 refine BN (C6 ?_);have hS2:=k2 _ _ hS;refine BN ?_;refine BN (Eg hS2 rfl ?_);have hS3:=Heap.get?_update_self (Obj.mapSeq (·.push Value.none)) hS2 rfl;refine Eg hS3 rfl ?_;have hS4:=Heap.get?_update_self (Obj.mapSeq (·.pop)) hS3 rfl;have oth:∀ b o,b≠S->h2'.get? b=some o->((h2'.update S (Obj.mapSeq (·.push Value.none))).update S (Obj.mapSeq (·.pop))).get? b=some o :=
  λb o hb e=>(Heap.get?_update_other _ _ (Ne.symm hb)).trans ((Heap.get?_update_other _ _ (Ne.symm hb)).trans e)
 have st3:St 0 ((h2'.update S (Obj.mapSeq (·.push Value.none))).update S (Obj.mapSeq (·.pop))):=W.frame 0 h2' _ hst λb hb o e=>oth b o (λh=>hLf (h▸hb)) e;refine BP ⟨CL PySem.F.plain_extend_loop _,codeAny_extend_loopS W.toS hn _ hLf _ n 0 _ _ _ rfl (zero_le _) st3 hS4 (ItemsOf.nil P) λs' acc' c' hm hS' hacc=>?_⟩;have keep:∀ b o,b≠S->s.heap.get? b=some o->s'.heap.get? b=some o:=λb o hbL e=>by
  have hbI:b≠I:=λq=>by rw [q,hIf] at e;exact an e
  exact hm.heap b o (by simp [hbL,hbI]) (oth b o hbL (k2 _ _ e))
 have es:s' = {s with heap:=s'.heap,toks:=s'.toks,drawn:=dr} := rL rfl hm.gens hm.drawn rfl hm.os;rw [es];exact hQ s'.heap s'.toks acc' c' hacc keep hS'
noncomputable def nI (v:BO):Sem (List BO):=match v with
 | .ref a=>do
  match (<- load a).data with
  | .seq xs _=>pure xs.toList
  | _=>unsupported "internal:collect"
 | _=>unsupported "internal:collect"
theorem oE (x:BO):Dg x=(runValue (.builtin "proto.collect" ⟨[x],[]⟩) >>= nI):=rfl
theorem f0 {x:BQ}{T:String}{Q:List BO->BU->Prop}(hTm:T="dict"\/T="set")(hT:s.TypeIs (.ref x) T)
  (hit:∀ h1,(∀ b o,s.heap.get? b=some o->h1.get? b=some o)->h1.objs.size=s.heap.objs.size+1->BR (BS prog w) A.in1 (Cq (.ref x)) (ItW prog w A s h1 s.heap.objs.size λdr P n=>∀ h3 tk acc,ItemsOf P acc n->(∀ b o,s.heap.get? b=some o->h3.get? b=some o)->Q acc.toList {s with heap:=h3,toks:=tk,drawn:=dr}) NoE {s with heap:=h1}) :
  BR (BS prog w) A (Dg (.ref x)) Q NoE s:=by
 refine (oE _).symm▸?_;refine BN (Eo (Ci PySem.F.entry_proto_collect ?_));refine (Around.under_plainId PySem.F.plain_proto_collect _).symm▸?_;refine BN (B4 ?_);refine BP ⟨CL PySem.F.plain_list_iadd _,Ci PySem.F.entry_list_iadd ?_⟩;refine (Around.under_plainId PySem.F.plain_list_iadd _).symm▸?_;have k1:∀ b o,s.heap.get? b=some o->(s.heap.push {cls:=.type "list",data:=.seq ([]:List BO).toArray}).get? b=some o:=λb o e=>Heap.get?_push_of_some _ e;have hT1:Shared.TypeIs {s with heap:=s.heap.push {cls:=.type "list",data:=.seq ([]:List BO).toArray} } (.ref x) T:=by
  obtain ⟨o,hq⟩:=hT;have ho:=hq.1;have hc:=hq.2;exact ⟨o,k1 _ _ ho,hc⟩
 have hxL:s.heap.objs.size≠x:=by
  obtain ⟨o,hq⟩:=hT;have ho:=hq.1;exact ne_of_gt (Heap.lt_size ho)
 have hS1:(s.heap.push {cls:=.type "list",data:=.seq ([]:List BO).toArray}).get? s.heap.objs.size=some {cls:=.type "list",data:=.seq ([]:List BO).toArray} := Heap.get?_push_size _ rfl;refine lH (R:=λr s'=>match r with | .ok (.ret v)=>BR (BS prog w) A (nI v) Q NoE s' | .ok _=>False | .error e=>NoE e s') (s:={s with heap:=s.heap.push {cls:=.type "list",data:=.seq ([]:List BO).toArray} }) hTm hT1 hxL hS1 (BV (hit _ k1 (Heap.size_push ..)) (λit s2 q=>?_) λ_ _ q=>q);obtain ⟨I,fp,n,P,St,tk,dr,h2,rfl,rfl,k2,W,hn,hst,hLf,hIf,hQ⟩:=q;refine ⟨I,fp,n,P,St,tk,dr,h2,rfl,rfl,k2,W,hn,hst,hLf,hIf,λh3 tk3 acc c hacc keep hS'=>?_⟩;refine BN (CX hS' (BP (hQ h3 tk3 acc hacc λb o e=>keep b o (ne_of_lt (Heap.lt_size e)) (k1 _ _ e))))
end
end
section
open PySem PyProof.Rows PySem.Calls PySem.W
noncomputable def x5 {α:Type}(n:Nat)(lt:Nat->Nat->Bool):KasT α->Option α
 | .ret a=>some a
 | .ask i j k=>if i < n/\j < n then x5 n lt (k (lt i j)) else none
theorem xO {α:Type}{n:Nat}{lt:Nat->Nat->Bool}{cmp:Nat->Nat->(Bool->BU->Prop)->BU->Prop}{s:BU}(hc:∀ i j (C:Bool->BU->Prop),i < n->j < n->C (lt i j) s->cmp i j C s){Q:α->BU->Prop}
  (t:KasT α) {a:α} (e:x5 n lt t=some a) (q:Q a s):t.kasWp cmp Q s:=by
 induction t with
 | ret x=>exact Option.some.inj e▸q
 | ask i j k ih =>
  rw [show x5 n lt (.ask i j k)=if i < n/\j < n then x5 n lt (k (lt i j)) else none from rfl] at e;by_cases h:i < n/\j < n
  ·rw [if_pos h] at e;exact hc i j _ h.1 h.2 (ih _ e)
  ·rw [if_neg h] at e;exact an e
noncomputable def i9 (c:List Nat):Bool:=match x5 c.length (λi j=>decide (c.getD i 0 < c.getD j 0)) (kas_sort c.length) with
 | some p=>p.size==c.length && p.toList.map (c.getD · 0)==d5 c && p.toList.all (· < c.length)
 | none=>false
theorem y4:∀ a b:Fin 4,i9 [a.val,b.val]=true:=by decide +kernel
theorem yg:∀ a b c:Fin 4,i9 [a.val,b.val,c.val]=true:=by decide +kernel
theorem yQ:∀ a b c d:Fin 4,i9 [a.val,b.val,c.val,d.val]=true:=by decide +kernel
theorem qi {c:List Nat}(h2:2<=c.length)(h4:c.length<=4)(hb:∀ x∈c,x < 4):i9 c=true:=by
 obtain ⟨d,rfl⟩:=vF hb;rw [length_map] at h2 h4;exact zs (P:=λd=>2<=d.length->i9 (d.map Fin.val)=true) (λh=>absurd h (by decide)) (λ_ h=>absurd h (Nat.not_le_of_lt (lt_succ_self 1))) (λa b _=>y4 a b) (λa b c _=>yg a b c) (λa b c d _=>yQ a b c d) h4 h2
noncomputable def bnd:Un->Nat
 | .one=>2
 | .two=>4
 | .str=>2
theorem nw {p q:Prop}[Decidable p][Decidable q]{a b c:Nat}{o:Option Nat}{P:Prop}(e:(if p then some a else if q then some b else o)=some c)(h1:p->a=c->P)(h2:q->b=c->P)(h3:o=some c->P):P:=by
 by_cases hp:p
 ·rw [if_pos hp] at e;exact h1 hp (Option.some.inj e)
 ·rw [if_neg hp] at e;by_cases hq:q
  ·rw [if_pos hq] at e;exact h2 hq (Option.some.inj e)
  ·rw [if_neg hq] at e;exact h3 e
theorem xC {p q:Prop}[Decidable p][Decidable q]{o1 o2:Option Nat}{c:Nat}{P:Prop}(e:(if p then o1 else if q then o2 else none)=some c)(h1:p->o1=some c->P)(h2:q->o2=some c->P):P:=by
 by_cases hp:p
 ·rw [if_pos hp] at e;exact h1 hp e
 ·rw [if_neg hp] at e;by_cases hq:q
  ·rw [if_pos hq] at e;exact h2 hq e
  ·rw [if_neg hq] at e;exact an e
theorem w6 {u:Un}{d:D}{c:Nat}(e:enc u d=some c):d=dec u c/\c < bnd u:=by
 induction d using D.casesOn with
 | str x =>
  induction u using Un.casesOn with
  | str=>exact nw e (λh k=>by subst h;subst k;exact ⟨rfl,by decide⟩) (λh k=>by subst h;subst k;exact ⟨rfl,by decide⟩) nofun
  | _=>exact an e
 | tup l =>
  induction l using List.casesOn with
  | nil=>induction u using Un.casesOn <;> exact an e
  | cons x r =>
   induction x using D.casesOn with
   | int a =>
    induction r using List.casesOn with
    | nil =>
     induction u using Un.casesOn with
     | one=>exact nw e (λh k=>by subst h;subst k;exact ⟨rfl,by decide⟩) (λh k=>by subst h;subst k;exact ⟨rfl,by decide⟩) nofun
     | _=>exact an e
    | cons y r =>
     induction y using D.casesOn with
     | int b =>
      induction r using List.casesOn with
      | nil =>
       induction u using Un.casesOn with
       | two=>exact xC e (λh e=>nw e (λh' k=>by subst h;subst h';subst k;exact ⟨rfl,by decide⟩) (λh' k=>by subst h;subst h';subst k;exact ⟨rfl,by decide⟩) nofun) (λh e=>nw e (λh' k=>by subst h;subst h';subst k;exact ⟨rfl,by decide⟩) (λh' k=>by subst h;subst h';subst k;exact ⟨rfl,by decide⟩) nofun)
       | _=>exact an e
      | cons=>induction u using Un.casesOn <;> exact an e
     | _=>induction u using Un.casesOn <;> exact an e
   | _=>induction u using Un.casesOn <;> exact an e
 | _=>induction u using Un.casesOn <;> exact an e
theorem jN {u:Un}{l:List D}{cs:List Nat}(e:pi u l=some cs):l=cs.map (dec u)/\∀ x∈cs,x < bnd u:=by
 induction l generalizing cs with
 | nil=>exact Option.some.inj e▸⟨rfl,λ_ h=>absurd h not_mem_nil⟩
 | cons d r ih =>
  obtain ⟨a,hq⟩:=bind_eq_some_iff.mp e;have h1:=hq.1;have e:=hq.2;obtain ⟨b,hq⟩:=map_eq_some_iff.mp e;have h2:=hq.1;have e:=hq.2;have hq:=w6 h1;have k1:=hq.1;have h3:=hq.2;have hq:=ih h2;have k2:=hq.1;have h4:=hq.2;exact e▸⟨k1▸k2▸rfl,λx hx=>(mem_cons.mp hx).elim (λq=>q▸h3) (h4 x)⟩
theorem n6 {l:List D}{u:Un}{cs:List Nat}(e:x4 l=some (u,cs)):l=cs.map (dec u)/\∀ x∈cs,x < bnd u:=by
 unfold x4 at e;cases h1:pi .one l with
 | some c=>rw [h1] at e;obtain ⟨e1,e2⟩:=Prod.mk.inj (Option.some.inj e);exact e1▸e2▸jN h1
 | none =>
  replace e:=h1▸e;cases h2:pi .two l with
  | some c=>replace e:=h2▸e;obtain ⟨e1,e2⟩:=Prod.mk.inj (Option.some.inj e);exact e1▸e2▸jN h2
  | none =>
   replace e:=h2▸e;cases h3:pi .str l with
   | some c=>replace e:=h3▸e;obtain ⟨e1,e2⟩:=Prod.mk.inj (Option.some.inj e);exact e1▸e2▸jN h3
   | none=>replace e:=h3▸e;exact an e
noncomputable def kindOf:Un->SortKind
 | .str=>oneType'
 | _=>tuples' true
section
variable {prog:BX}{w:BY}{C:BQ}{h₀ h:BW}{σ σ':Sto}{as as':List BQ}{s s':BU}{A:BZ}{E:BO->BU->Prop}{d:D}{n:Nat}
theorem aD.intA {vs:List BO}{i:Int}(r:aD h as vs [.int i]):∃ t,vs=[.int i t]:=by
 obtain ⟨v,hv,r⟩:=r.one;cases r.intI with
 | mk t=>exact ⟨t,hv⟩
theorem aD.intB {vs:List BO}{i j:Int}(r:aD h as vs [.int i,.int j]):∃ t u,vs=[.int i t,.int j u]:=by
 obtain ⟨v,u,hv,r,r2⟩:=r.two;cases r.intI with
 | mk t =>
 cases r2.intI with
 | mk u=>exact ⟨t,u,hv⟩
theorem pX:∀ a b:Fin 4,(((a.val / 2:Nat):Int)=((b.val / 2:Nat):Int)->((a.val % 2:Nat):Int)=((b.val % 2:Nat):Int)->decide (a.val < b.val)=false) /\
  (((a.val / 2:Nat):Int)=((b.val / 2:Nat):Int)->decide (((a.val % 2:Nat):Int) < ((b.val % 2:Nat):Int))=decide (a.val < b.val)) /\
  (¬ ((a.val / 2:Nat):Int)=((b.val / 2:Nat):Int)->decide (((a.val / 2:Nat):Int) < ((b.val / 2:Nat):Int))=decide (a.val < b.val)):=by decide +kernel
theorem AV {u:Un}{v1 v2:BO}{c1 c2:Nat}{Q:Bool->BU->Prop}(r1:Rep s.heap as v1 (dec u c1))(r2:Rep s.heap as v2 (dec u c2))(h1:c1 < bnd u)(h2:c2 < bnd u)(hQ:Q (decide (c1 < c2)) s) :
  BR (BS prog w) A (keyLt' (kindOf u) v1 v2) Q E s:=by
 induction u using Un.casesOn with
 | str =>
  cases r1.strI;cases r2.strI;refine kas_lt_str ?_;have:∀ a b:Fin 2,decide ((if a.val=0 then ("x" : Str) else "y").cps.toList < (if b.val=0 then ("x" : Str) else "y").cps.toList)=decide (a.val < b.val):=by decide
  refine (this ⟨c1,h1⟩ ⟨c2,h2⟩).symm▸?_;exact hQ
 | one =>
  cases r1.tupI with
  | @mk a1 xs1 n1 i1 z1 q1 =>
  cases r2.tupI with
  | @mk a2 xs2 n2 i2 z2 q2 =>
  obtain ⟨t1,e1⟩:=q1.intA;obtain ⟨t2,e2⟩:=q2.intA;refine kat_lt i1 rfl i2 rfl ?_;have y1:xs1.size=1:=by (refine (length_toList)▸?_;exact e1.symm▸rfl)
  have y2:xs2.size=1:=by (refine (length_toList)▸?_;exact e2.symm▸rfl)
  (refine e1.symm▸?_;refine e2.symm▸?_;refine y1.symm▸?_;refine y2.symm▸?_);refine kat_cons (Dm (kat_go (λe=>kat_yes (kat_nil ?_)) (λe=>kat_no (oneLt_int ?_))))
  ·have:c1=c2:=by
    have:(c1:Int)=(c2:Int):=by simpa using e
    exact Int.ofNat.inj this
   subst this;simpa using hQ
  ·simpa using hQ
 | two =>
  cases r1.tupI with
  | @mk a1 xs1 n1 i1 z1 q1 =>
  cases r2.tupI with
  | @mk a2 xs2 n2 i2 z2 q2 =>
  obtain ⟨t1,u1,e1⟩:=q1.intB;obtain ⟨t2,u2,e2⟩:=q2.intB;refine kat_lt i1 rfl i2 rfl ?_;have y1:xs1.size=2:=by (refine (length_toList)▸?_;exact e1.symm▸rfl)
  have y2:xs2.size=2:=by (refine (length_toList)▸?_;exact e2.symm▸rfl)
  (refine e1.symm▸?_;refine e2.symm▸?_;refine y1.symm▸?_;refine y2.symm▸?_);have b1:c1 < 4:=h1;have b2:c2 < 4:=h2;refine kat_cons (Dm (kat_go (λe=>kat_yes (kat_cons (Dm (kat_go (λe2=>kat_yes (kat_nil ?_)) (λe2=>kat_no (kat_one _ _ (wpAny_lt_int ?_))))))) (λe=>kat_no (oneLt_int ?_))))
  ·have x1:((c1 / 2:Nat):Int)=((c2 / 2:Nat):Int):=by simpa using e
   have x2:((c1 % 2:Nat):Int)=((c2 % 2:Nat):Int):=by simpa using e2
   replace hQ:=((pX ⟨c1,b1⟩ ⟨c2,b2⟩).1 x1 x2)▸hQ;exact hQ
  ·have x1:((c1 / 2:Nat):Int)=((c2 / 2:Nat):Int):=by simpa using e
   refine ((pX ⟨c1,b1⟩ ⟨c2,b2⟩).2.1 x1).symm▸?_;exact hQ
  ·have x1:¬ ((c1 / 2:Nat):Int)=((c2 / 2:Nat):Int):=by simpa using e
   refine ((pX ⟨c1,b1⟩ ⟨c2,b2⟩).2.2 x1).symm▸?_;exact hQ
theorem xK {vs:List BO}{l:List D}(r:aD s.heap as vs l)(hd:∀ d∈l,∃ i m,d = .tup (.int i::m)):∃ fs,KatTups s.heap vs fs/\fs.length=vs.length/\∀ f∈fs,∃ i t,f = .int i t:=by
 induction l generalizing vs with
 | nil=>cases r.nilI;exact ⟨[],.nil,rfl,λ_ h=>absurd h not_mem_nil⟩
 | cons d l ih =>
  cases r.consI with
  | mk ra rs =>
  obtain ⟨fs,hq⟩:=ih rs λd hm=>hd d (.tail _ hm);have k1:=hq.1;have k2:=hq.2.1;have k3:=hq.2.2;obtain ⟨i,m,rfl⟩:=hd _ (.head _);cases ra.tupI with
  | @mk a xs n it z q =>
  generalize hx:xs.toList=xl at q;cases q.consI with
  | mk qa qs =>
  cases qa.intI with
  | mk t =>
  refine ⟨.int i t::fs,.cons it rfl rfl ?_ k1,congrArg (· + 1) k2,λf hf=>?_⟩
  ·(refine (Array.getElem?_toList)▸?_;exact hx.symm▸rfl)
  ·exact (mem_cons.mp hf).elim (λe=>⟨i,t,e⟩) (k3 f)
theorem wl {vs:List BO}{cs:List Nat}(r:aD s.heap as vs (cs.map (dec .str))):∀ v∈vs,∃ x t,v=Value.str x t:=by
 induction cs generalizing vs with
 | nil=>cases r.nilI;exact λ_ h=>absurd h not_mem_nil
 | cons c cs ih =>
  cases r.consI with
  | mk a b =>
  cases a.strI with
  | mk t=>exact λv hv=>(mem_cons.mp hv).elim (λe=>⟨_,t,e⟩) (ih b v)
theorem nV {u:Un}{vs:List BO}{cs:List Nat}{Q:SortKind->BU->Prop}(r:aD s.heap as vs (cs.map (dec u)))(h2:2<=vs.length)(hd:∀ c,∃ i m,dec u c = .tup (.int i::m))(hQ:Q (tuples' true) s):BR (BS prog w) A (keyKind' vs.toArray) Q E s:=by
 obtain ⟨fs,k1,k2,k3⟩:=xK r λd hm=>by
  obtain ⟨c,hq⟩:=mem_map.mp hm;have e:=hq.2;exact e▸hd c
 refine kat_kind (T:=.type "int") k1 (a5 (.a (.n 0) (.n 1)) (.v 0) [(1,.n 2,.v 1),(1,.v 1,.v 0)] rfl h2 (le_of_eq k2.symm)) (λv hv=>?_) (by decide) hQ;obtain ⟨i,t,e⟩:=k3 v hv;exact e ▸ .now
theorem wA {u:Un}{vs:List BO}{cs:List Nat}{Q:SortKind->BU->Prop}(r:aD s.heap as vs (cs.map (dec u)))(h2:2<=vs.length)(hQ:Q (kindOf u) s):BR (BS prog w) A (keyKind' vs.toArray) Q E s:=by
 induction u using Un.casesOn with
 | one=>exact nV r h2 (λc=>⟨_,_,rfl⟩) hQ
 | two=>exact nV r h2 (λc=>⟨_,_,rfl⟩) hQ
 | str =>
  refine kas_kind (T:=.type "str") h2 (λv hv=>?_) (by decide) (by decide) hQ;obtain ⟨x,t,e⟩:=wl r v hv;exact e ▸ .now
theorem lN {c:List Nat}(h:c.length < 2):d5 c=c:=by
 induction c using List.casesOn with
 | nil=>rfl
 | cons a c=>induction c using List.casesOn with
  | nil=>rfl
  | cons=>exact absurd h (Nat.not_lt_of_le (succ_le_succ (succ_le_succ (zero_le _))))
theorem aD.pick {vs:List BO}{u:Un}{cs:List Nat}(r:aD h as vs (cs.map (dec u))){p:List Nat}(e:p.all (· < cs.length)=true):aD h as (p.map λi=>vs.getD i Value.none) ((p.map (cs.getD · 0)).map (dec u)):=by
 induction p with
 | nil=>exact .nil
 | cons i p ih =>
  have e:=and_eq_true_iff.mp (List.all_cons.symm.trans e);have hi:i < cs.length:=of_decide_eq_true e.1;obtain ⟨v,ev,rv⟩:=r.get (show (cs.map (dec u))[i]? = some (dec u (cs.getD i 0)) by (refine (List.getElem?_map).symm▸?_;refine (List.getD_eq_getElem?_getD).symm▸?_;exact (List.getElem?_eq_getElem hi).symm▸rfl));have rv:Rep h as (vs.getD i Value.none) (dec u (cs.getD i 0)):=(show v=vs.getD i Value.none by rw [List.getD_eq_getElem?_getD,ev];rfl)▸rv;exact .cons rv (ih e.2)
theorem vG (u:Un):bnd u<=4:=by induction u using Un.casesOn <;> decide
theorem vL {a:BQ}{n:Nat}{vs:List BO}{u:Un}{cs:List Nat}{P:PySem.Fin->BU->Prop}(ho:s.heap.get? a=some (seqObj "list" vs.toArray n))(r:∀ h',(∀ b o,b≠a->s.heap.get? b=some o->h'.get? b=some o)->aD h' as vs (cs.map (dec u)))(h4:cs.length<=4)(hb:∀ x∈cs,x < bnd u)
  (hP:∀ h' c ws,(∀ b o,b≠a->s.heap.get? b=some o->h'.get? b=some o)->h'.get? a=some (seqObj "list" (List.toArray ws) c)->aD h' as ws ((d5 cs).map (dec u))->P (.done (.ret .none)) {s with heap:=h'}) :
  BR (BS prog w) A (Builtin.«list.sort» ⟨[.ref a],[]⟩) P E s:=by
 have ha:a < s.heap.objs.size:=Heap.lt_size ho;have hlen:vs.length=cs.length:=by have:=(r s.heap (λ_ _ _ e=>e)).length;rw [length_map] at this;exact this
 have s1:=Heap.SameBut.update s.heap a (Obj.mapSeq λ_=>(#[]:Array BO));obtain ⟨e1,ho1⟩:∃ e1,(s.heap.update a (Obj.mapSeq λ_=>(#[]:Array BO))).get? a=some (seqObj "list" #[] e1):=⟨_,get?_update_seq ho λ_ => #[]⟩;have kb:∀ b o,b≠a->s.heap.get? b=some o->(((s.heap.update a (Obj.mapSeq λ_=>(#[]:Array BO))).push (seqObj "tuple" vs.toArray 0)).push (seqObj "list" #[] 0)).get? b=some o :=
  λb o hb e=>Heap.get?_push_of_some _ (Heap.get?_push_of_some _ ((s1.2 b hb).trans e))
 have ka:=Heap.get?_push_of_some (seqObj "list" #[] 0) (Heap.get?_push_of_some (seqObj "tuple" vs.toArray 0) ho1);rw [list_sort_plain];refine BN (listItems_at ho rfl ?_);refine BN (listUpdate_at ho rfl ?_ (by rw [size_toArray,Cz];exact a5 (.v 0) (.n 16777216) [(1,.v 1,.n 4),(1,.v 0,.v 1)] rfl h4 (le_of_eq hlen)) (zero_le _));refine BN (seqEpoch_at ho1 rfl ?_);refine BN (Em ?_ (by show vs.length<=_;rw [Cz];exact a5 (.v 0) (.n 16777216) [(1,.v 1,.n 4),(1,.v 0,.v 1)] rfl h4 (le_of_eq hlen)));refine BN (Ev ?_ (zero_le _));refine B1 ?_;show BR (BS prog w) A _ P E {s with heap:=((s.heap.update a (Obj.mapSeq λ_=>(#[]:Array BO))).push (seqObj "tuple" vs.toArray 0)).push (seqObj "list" #[] 0)};dsimp only;generalize ((s.heap.update a (Obj.mapSeq λ_=>(#[]:Array BO))).push (seqObj "tuple" vs.toArray 0)).push (seqObj "list" #[] 0)=h3 at kb ka;have fin:∀ (st':SortSt) (ws:List BO),((arrOf st').map (·.2))=List.toArray ws->ws.length<=4->failedOf st'=none->(∀ h',(∀ b o,b≠a->s.heap.get? b=some o->h'.get? b=some o)->aD h' as ws ((d5 cs).map (dec u))) ->
   BR (BS prog w) A (do
    let sorted:=(arrOf st').map (·.2)
    let touched:=(<- seqEpoch a) != e1
    Builtin.List.listUpdate (.ref a) λ_=>sorted
    if let some e:=failedOf st' then rule "list.sort.comparison-raised";throw e
    if touched then rule "list.sort.modified";raiseError "ValueError" "list modified during sort"
    ret .none) P E {s with heap:=h3} := by
  intro st' ws hw hz hf rw';dsimp only;rw [hw];have s2:=Heap.SameBut.update h3 a (Obj.mapSeq λ_=>List.toArray ws);obtain ⟨c2,hc2⟩:∃ c2,(h3.update a (Obj.mapSeq λ_=>List.toArray ws)).get? a=some (seqObj "list" (List.toArray ws) c2):=⟨_,get?_update_seq ka λ_=>List.toArray ws⟩;have k2:∀ b o,b≠a->s.heap.get? b=some o->(h3.update a (Obj.mapSeq λ_=>List.toArray ws)).get? b=some o:=λb o hb' e=>(s2.2 b hb').trans (kb b o hb' e);refine BN (seqEpoch_at ka rfl ?_);refine BN (listUpdate_at ka rfl ?_ (zero_le _) (by rw [size_toArray,Cz];exact bh (.v 0) (.a (.n 16777216) (.n 1)) [(1,.v 0,.n 4)] rfl hz));rw [hf];simp only [bne_self_eq_false,false_eq_true,if_false];exact BP (hP _ c2 ws k2 hc2 (rw' _ k2))
 by_cases h2:vs.toArray.size < 2
 ·rw [if_pos h2,if_pos h2];refine BN (BP ?_);rw [StateT.run_pure];refine BN (BP ?_);refine fin _ vs ?_ (a5 (.v 0) (.n 4) [(1,.v 1,.n 4),(1,.v 0,.v 1)] rfl h4 (le_of_eq hlen)) rfl λh' k=>?_
  ·show (vs.toArray.zip vs.toArray).map (·.2)=vs.toArray;apply Array.toList_inj.mp;rw [Array.toList_map,Array.toList_zip];exact List.map_snd_zip (le_refl _)
  ·rw [lN (by rw [size_toArray] at h2;exact a5 (.a (.v 0) (.n 1)) (.n 2) [(1,.v 0,.v 1),(1,(.a (.v 1) (.n 1)),.n 2)] rfl (le_of_eq hlen.symm) h2)];exact r h' k
 ·rw [if_neg h2,if_neg h2];rw [size_toArray] at h2;refine BN (wA (u:=u) (cs:=cs) (r _ kb) (bh (.n 2) (.v 0) [(1,.n 2,.v 0)] rfl (le_of_not_lt h2)) ?_);have est:SortSt.mk' (kindOf u) (vs.toArray.zip vs.toArray) #[] 7 none=kas_st (kindOf u) (pairsOf vs) (List.toArray (List.range vs.length)):=by
   have e:=kas_range (pairsOf vs);rw [pairsOf_size] at e;show SortSt.mk' (kindOf u) (pairsOf vs) #[] 7 none=SortSt.mk' (kindOf u) ((List.toArray (List.range vs.length)).map (kas_item (pairsOf vs))) #[] 7 none;rw [e]
  have srt:=qi (c:=cs) (a5 (.n 2) (.v 0) [(1,.v 1,.v 0),(1,.n 2,.v 1)] rfl (le_of_eq hlen) (le_of_not_lt h2)) h4 λx hx=>lt_of_lt_of_le (hb x hx) (vG u);unfold i9 at srt;cases hp0:x5 cs.length (λi j=>decide (cs.getD i 0 < cs.getD j 0)) (kas_sort cs.length) with
  | none=>rw [hp0] at srt;exact Bool.noConfusion srt
  | some p0 =>
  rw [hp0] at srt;have srt:=and_eq_true_iff.mp srt;have z3:=srt.2;have z1:p0.size=cs.length:=beq_iff_eq.mp (and_eq_true_iff.mp srt.1).1;have z2:p0.toList.map (cs.getD · 0)=d5 cs:=beq_iff_eq.mp (and_eq_true_iff.mp srt.1).2;have ask:(kas_sort vs.length).kasWp (kas_cmp prog w A (kindOf u) (pairsOf vs)) (λp s'=>p=p0/\s' = {s with heap:=h3}) {s with heap:=h3} := by
   rw [<- kas_ask_eq];rw [hlen];refine xO (n:=cs.length) (λi j C hi hj hC=>?_) _ hp0 ⟨rfl,rfl⟩;have rr:aD h3 as vs (cs.map (dec u)):=r _ kb;have gd:∀ i,i < cs.length->(cs.map (dec u))[i]? = some (dec u (cs.getD i 0))/\cs.getD i 0 < bnd u:=λi hi=>by
    rw [List.getElem?_map,List.getD_eq_getElem?_getD,List.getElem?_eq_getElem hi];exact ⟨rfl,hb _ (List.getElem_mem hi)⟩
   obtain ⟨vi,hq⟩:=rr.get (gd i hi).1;have ei:=hq.1;have ri:=hq.2;obtain ⟨vj,hq⟩:=rr.get (gd j hj).1;have ej:=hq.1;have rj:=hq.2;unfold kas_ask;rw [List.getD_eq_getElem?_getD,List.getD_eq_getElem?_getD,ei,ej];exact AV (s:={s with heap:=h3}) ri rj (gd i hi).2 (gd j hj).2 hC
  have run:=kas_runs (E:=E) (Q:=λ_ st' s'=>arrOf st'=p0.map (kas_item (pairsOf vs))/\failedOf st'=none/\s' = {s with heap:=h3})
   (by exact bh (.n 2) (.v 0) [(1,.n 2,.v 0)] rfl (le_of_not_lt h2)) (by exact a5 (.a (.v 0) (.n 1)) (.n 64) [(1,.v 1,.n 4),(1,.v 0,.v 1)] rfl h4 (le_of_eq hlen)) (G:=λp s'=>p=p0/\s' = {s with heap:=h3}) (λp' st' s' a1 a2 a3 a4=>⟨a4.1▸a2,a3,a4.2⟩) ask
  rw [<- est] at run;refine BN (BV run ?_ λ_ _ e=>e);rintro ⟨⟨⟩,st'⟩ s' ⟨har,hf,rfl⟩;refine fin st' (p0.toList.map λi=>vs.getD i Value.none) ?_ (by rw [length_map,length_toList];exact a5 (.v 0) (.n 4) [(1,.v 1,.n 4),(1,.v 0,.v 1)] rfl h4 (le_of_eq z1)) hf λh' k=>?_
  ·apply Array.toList_inj.mp;rw [har,Array.map_map,Array.toList_map];exact map_congr_left λi _=>by show (kas_item (pairsOf vs) i).2=_;rw [kas_item_eq]
  ·rw [<- z2];exact (r h' k).pick z3
end
section
variable {prog:BX}{w:BY}{C:BQ}{h₀ h:BW}{σ σ':Sto}{as as':List BQ}{s s':BU}{A:BZ}{E:BO->BU->Prop}{d:D}{n:Nat}
theorem fY {v:BO}{u:Un}{out:List Nat}{P:BO->BU->Prop}
  (hcol:BR (BS prog w) A.in1 (Dg v) (λvs s1=>∃ h1 tk dr cs,s1 = {s with heap:=h1,toks:=tk,drawn:=dr} /\ (∀ b o,s.heap.get? b=some o->h1.get? b=some o)/\aD h1 as vs (cs.map (dec u))/\cs.length<=4/\(∀ x∈cs,x < bnd u)/\d5 cs=out) NoE s)
  (hP:∀ L h' tk dr ws c,(∀ b o,s.heap.get? b=some o->h'.get? b=some o)->s.heap.get? L=none->h'.get? L=some {cls:=.type "list",dict:=none,data:=.seq (List.toArray ws) c,slots:=#[]} -> aD h' as ws (out.map (dec u))->P (.ref L) {s with heap:=h',toks:=tk,drawn:=dr}) :
  BR (BS prog w) A (call (.builtin "sorted") [v]) P NoE s:=by
 refine Calls.call_function_entry kind_sorted plain_sorted entry_sorted (args_sorted1 _) ?_;refine BN (m:=checkCount "sorted" 1 1 _) (BP ?_);refine BN (BV ((hcol:BR (BS prog w) A.in1 (Dg v) _ NoE s)) (λvs s1 q=>?_) λ_ _ x=>x.elim);obtain ⟨h1,tk,dr,cs,rfl,k1,r1,h4,hb,hout⟩:=q;subst hout;have hlen:vs.length=cs.length:=by have:=r1.length;replace this:=(length_map _)▸this;exact this
 refine BN (Ev ?_ (by refine sizeLine_eq.symm▸?_;exact a5 (.v 0) (.n 16777216) [(1,.v 1,.n 4),(1,.v 0,.v 1)] rfl h4 (le_of_eq hlen)));have hoL:(h1.push (seqObj "list" vs.toArray 0)).get? h1.objs.size=some (seqObj "list" vs.toArray 0):=Heap.get?_push_size _ rfl;have k2:∀ b o,h1.get? b=some o->(h1.push (seqObj "list" vs.toArray 0)).get? b=some o:=λb o e=>Heap.get?_push_of_some _ e;have hfree:s.heap.get? h1.objs.size=none:=by
  cases e:s.heap.get? h1.objs.size with
  | none=>rfl
  | some o=>exact absurd (Heap.lt_size (k1 _ _ e)) (lt_irrefl _)
 refine BN (B1 (B8 slot_list_sort ⟨_,hoL,rfl⟩ entry_list_sort ?body (args_list_sort _)));refine vL (s:={s with heap:=h1.push (seqObj "list" vs.toArray 0),toks:=tk,drawn:=dr}) (as:=as) (u:=u) (cs:=cs) hoL (λh' k=>?_) h4 hb λh' c ws k hL rw'=>?_
 ·exact r1.kp (λa xs m e=>k _ _ (ne_of_lt (Heap.lt_size e)) (k2 _ _ e)) (prefix_refl _)
 ·refine ⟨_,rfl,BP ⟨_,rfl,?_⟩⟩;exact hP h1.objs.size h' tk dr ws c (λb o e=>k _ _ (ne_of_lt (Heap.lt_size (k1 _ _ e))) (k2 _ _ (k1 _ _ e))) hfree hL rw'
theorem eA {v:BO}{u:Un}{cs:List Nat}{P:BO->BU->Prop}(h4:cs.length<=4)(hb:∀ x∈cs,x < bnd u)
  (hcol:BR (BS prog w) A.in1 (Dg v) (λvs s1=>∃ h1 tk dr,s1 = {s with heap:=h1,toks:=tk,drawn:=dr} /\ (∀ b o,s.heap.get? b=some o->h1.get? b=some o)/\aD h1 as vs (cs.map (dec u))) NoE s)
  (hP:∀ L h' tk dr ws c,(∀ b o,s.heap.get? b=some o->h'.get? b=some o)->s.heap.get? L=none->h'.get? L=some {cls:=.type "list",dict:=none,data:=.seq (List.toArray ws) c,slots:=#[]} -> aD h' as ws ((d5 cs).map (dec u))->P (.ref L) {s with heap:=h',toks:=tk,drawn:=dr}) :
  BR (BS prog w) A (call (.builtin "sorted") [v]) P NoE s :=
 fY (BV hcol (λ_ _ ⟨h1,tk,dr,e,k,r⟩=>⟨h1,tk,dr,cs,e,k,r,h4,hb,rfl⟩) λ_ _ x=>x) hP
noncomputable def pn (h:BW)(d:BQ)(es:Array Cw)(ep:Nat):Prop:=∃ o,h.get? d=some o/\o.ExactDict/\o.data = .dict es ep
theorem tG {d:BQ}{es:Array Cw}{ep:Nat}{Q:BO->BU->Prop}(hd:(d==CV)=false)(hm:pn s.heap d es ep)
  (hQ:Q (.ref s.heap.objs.size) {s with heap:=s.heap.push {cls:=.type "dict_keyiterator",data:=.fields #[.ref d,.int 0 0,.int es.size 0,.int ep 0]} }) :
  BR (BS prog w) A (Cq (.ref d)) Q E s:=by
 obtain ⟨o,hq⟩:=hm;have ho:=hq.1;have hc:=hq.2.1;have hdat:=hq.2.2;have hT:s.TypeIs (.ref d) "dict":=⟨o,ho,hc.1⟩;refine Dd hT F.slot_dict_iter (B8 F.slot_dict_iter hT F.entry_dict_iter ?_ (F.args_dict_iter_1 _));refine BN ?_;refine BN (DF hT ?_);refine (?_:BR _ _ (pure (Value.ref d)) _ _ s);refine BP ?_;refine (?_:BR _ _ (Builtin.Dict.showsAll d >>= _) _ _ s);unfold Builtin.Dict.showsAll;rw [if_neg (hd▸Bool.false_ne_true)];refine BN (BP ?_);refine BN (Dc ho hdat ?_);refine BN (Dv ho hdat ?_);refine BN (B4 (BP ⟨_,rfl,"dict_keyiterator",_,⟨_,Heap.get?_push_size _ rfl,rfl⟩,F.slot_dict_keyiterator_next.lookup,?_⟩));simpa [B6] using hQ
theorem uc {it d:BQ}{i ep:Nat}{es:Array Cw}{Q:Option BO->BU->Prop}(hit:s.heap.IsKeyIter it d i es.size ep)(hm:pn s.heap d es ep)(hx:i < es.size)
  (hQ:∀ h',h'.IsKeyIter it d (i+1) es.size ep->Heap.SameBut it s.heap h'->Q (some es[i].key) {s with heap:=h'}):BR (BS prog w) A (CU (.ref it)) Q E s:=by
 obtain ⟨o,hq⟩:=id hit;have ho:=hq.1;have hc:=hq.2.1;have hd:=hq.2.2;obtain ⟨od,hq⟩:=id hm;have hod:=hq.1;have hcd:=hq.2.1;have hdd:=hq.2.2;refine BN (CM (Cb (name:=Str.ofString "__next__") hit.typeIs F.slot_dict_keyiterator_next
  (B8 F.slot_dict_keyiterator_next hit.typeIs F.entry_dict_keyiterator_next ?_ (F.args_dict_keyiterator_next_1 _))))
 refine BN (BP ?_);refine BN ?_;refine BN ?_;first | refine BN (Cm hit.typeIs (BP ?_)) | refine BN (Cu hit.typeIs (BP ?_))
 refine BN (CG ho hd ?_);have hown:Builtin.Dict_items.ownsTuple "dict_keyiterator"=false:=by decide
 (refine hown.symm▸?_;refine (if_neg Bool.false_ne_true).symm▸?_);refine Cy (decide_eq_false ((Bool.false_ne_true:¬ ((Value.ref d==Value.none)=true)))) ?_;refine BN (BP ?_);refine BN (Dc hod hdd ?_);rw [if_neg (by simp)];refine BN (BP ?_);refine BN (Dv hod hdd ?_);rw [if_neg (by simp)];refine BP ?_;dsimp only;rw [if_neg (show ¬ ((i:Int) < 0) from Int.not_lt.mpr (Int.natCast_nonneg _)),Int.toNat_natCast,Array.getElem?_eq_getElem hx];refine BN ?_;first | refine BN (Cm hit.typeIs (BP ?_)) | refine BN (Cu hit.typeIs (BP ?_))
 refine BN (DD hit.typeIs ?_);refine (?_:BR _ _ (setField (.ref it) 1 (B6 ((i:Int)+1)) >>= _) _ _ s);refine BN (Co ho hd (by simp) ?_);have hit':(s.heap.update it (Obj.mapFields (·.setIfInBounds 1 (B6 ((i:Int)+1))))).IsKeyIter it d (i+1) es.size ep :=
  ⟨_,Heap.get?_update_self _ ho (Obj.isFreed_of_fields (Obj.data_mapFields hd _)),(Obj.cls_mapFields ..).trans hc,by refine (Obj.data_mapFields hd _).symm▸?_;simp [B6]⟩
 refine BN (B1 ?_);refine BN (DD (s:={s with heap:=s.heap.update it (Obj.mapFields (·.setIfInBounds 1 (B6 ((i:Int)+1))))}) hit'.typeIs ?_);exact BP (BP ⟨_,rfl,BP (hQ _ hit' (Heap.SameBut.update ..))⟩)
theorem xu {it d:BQ}{ep:Nat}{es:Array Cw}{Q:Option BO->BU->Prop}(hh:A.handled=none)(hit:s.heap.IsKeyIter it d es.size es.size ep)(hm:pn s.heap d es ep)
  (hQ:∀ h',Heap.ExtBut it s.heap h'->Q none {s with heap:=h'}):BR (BS prog w) A (CU (.ref it)) Q E s:=by
 obtain ⟨o,hq⟩:=id hit;have ho:=hq.1;have hc:=hq.2.1;have hd:=hq.2.2;obtain ⟨od,hq⟩:=id hm;have hod:=hq.1;have hcd:=hq.2.1;have hdd:=hq.2.2;refine BN (CM (Cb (name:=Str.ofString "__next__") hit.typeIs F.slot_dict_keyiterator_next
  (B8 F.slot_dict_keyiterator_next hit.typeIs F.entry_dict_keyiterator_next ?_ (F.args_dict_keyiterator_next_1 _))))
 refine BN (BP ?_);refine BN ?_;refine BN ?_;first | refine BN (Cm hit.typeIs (BP ?_)) | refine BN (Cu hit.typeIs (BP ?_))
 refine BN (CG ho hd ?_);have hown:Builtin.Dict_items.ownsTuple "dict_keyiterator"=false:=by decide
 (refine hown.symm▸?_;refine (if_neg Bool.false_ne_true).symm▸?_);refine Cy (decide_eq_false ((Bool.false_ne_true:¬ ((Value.ref d==Value.none)=true)))) ?_;refine BN (BP ?_);refine BN (Dc hod hdd ?_);rw [if_neg (by simp)];refine BN (BP ?_);refine BN (Dv hod hdd ?_);rw [if_neg (by simp)];refine BP ?_;dsimp only;rw [if_neg (show ¬ ((es.size:Int) < 0) from Int.not_lt.mpr (Int.natCast_nonneg _)),Int.toNat_natCast,Array.getElem?_eq_none (le_refl es.size)];refine BN ?_;first | refine BN (Cm hit.typeIs (BP ?_)) | refine BN (Cu hit.typeIs (BP ?_))
 refine (?_:BR _ _ (setField (.ref it) 0 .none >>= _) _ _ s);refine BN (Co ho hd (by simp) ?_);refine (?_:BR _ _ (EG (.type "StopIteration") [] >>= _) _ _ _);refine BN ?_
 delta EG EH
 refine BN (B4 ?_ (by size_fits));refine BN (m:=CE _ _) (C1 (a:=Value.none) (by first | rfl | (simp only [CE];rfl)) ?_);refine B4 ?_ (by size_fits)
 delta EI
 refine BN (DM ?_);rw [(hh:A.in1.handled=none)];refine BN (BP (D5 ?_));refine BN (CK (T:="StopIteration") (b:=true) ⟨_,Heap.get?_push_size _ rfl,rfl⟩ Dy ?_);exact BP (hQ _ (((Heap.SameBut.update ..).extBut.push _).push _))
theorem rN (hh:A.handled=none)(I d:BQ)(hne:d≠I)(es:Array Cw)(ep:Nat) :
  De prog w A I [I,d] [I] es.size (λi v=>(es.toList.map (·.key))[i]? = some v) (λi h=>h.IsKeyIter I d i es.size ep/\pn h d es ep) where
 sub:=λb hb=>by simp at hb;simp [hb]
 frame:=λ_ _ _ st hk=>⟨st.1.at λo e=>hk I (by simp) o e,let ⟨o,ho,r⟩:=st.2;⟨o,hk d (by simp) _ ho,r⟩⟩
 item:=λi s Q E hi st hQ=>by
  refine uc st.1 st.2 hi λh' hit' hs'=>?_;refine hQ _ h' s.toks (by (refine (List.getElem?_map).symm▸?_;refine (Array.getElem?_toList).symm▸?_;exact (Array.getElem?_eq_getElem hi).symm▸rfl)) ⟨hit',let ⟨o,ho,r⟩:=st.2;⟨o,(hs'.2 d hne).trans ho,r⟩⟩ λb o hb e=>(hs'.2 b (λh=>hb (by simp [h]))).trans e
 done:=λs Q E st hQ=>xu hh st.1 st.2 λh' he'=>hQ h' s.toks λb o hb e=>he' b o (λh=>hb (by simp [h])) e
 self:=λ_ _ _ _ st hQ=>wpAny_pyIter_keyiter st.1 hQ
theorem iA {d:BQ}{es:Array Cw}{ep:Nat}{Q:List BO->BU->Prop}(hh:A.handled=none)(hd:(d==CV)=false)(hm:pn s.heap d es ep)(hn:es.size<=Ct)
  (hQ:∀ h3 tk,(∀ b o,s.heap.get? b=some o->h3.get? b=some o)->Q (es.toList.map (·.key)) {s with heap:=h3,toks:=tk}) :
  BR (BS prog w) A (Dg (.ref d)) Q NoE s:=by
 obtain ⟨o,hq⟩:=id hm;have ho:=hq.1;have hc:=hq.2.1;have hdat:=hq.2.2;refine f0 (T:="dict") (.inl rfl) ⟨o,ho,hc.1⟩ λh1 k1 z1=>?_;have hm1:pn h1 d es ep:=⟨o,k1 _ _ ho,hc,hdat⟩;refine tG (s:={s with heap:=h1}) hd hm1 ?_;have hd1:d < h1.objs.size:=Heap.lt_size (k1 _ _ ho);refine ⟨h1.objs.size,_,es.size,_,_,s.toks,s.drawn,_,rfl,rfl,λb o e=>Heap.get?_push_of_some _ e,rN (by exact hh) h1.objs.size d (ne_of_lt hd1) es ep,hn,⟨⟨_,Heap.get?_push_size _ rfl,rfl,rfl⟩,o,Heap.get?_push_of_some _ (k1 _ _ ho),hc,hdat⟩,?_,aR _,λh3 tk acc hacc k3=>?_⟩
 ·intro hmem;rcases mem_cons.mp hmem with e | hmem
  ·lia
  ·rcases mem_cons.mp hmem with e | hmem
   ·exact absurd e (ne_of_gt (Heap.lt_size ho))
   ·cases hmem
 ·have:acc.toList=es.toList.map (·.key):=by
   apply List.ext_getElem?;intro j;by_cases hj:j < es.size
   ·have hj':j < acc.size:=by refine (hacc.1).symm▸?_;exact hj
    (refine (hacc.2 j acc[j] (Array.getElem?_eq_getElem hj')).symm▸?_;refine (Array.getElem?_toList).symm▸?_;exact (Array.getElem?_eq_getElem hj').symm▸rfl)
   ·rw [List.getElem?_eq_none (by (refine (length_toList).symm▸?_;refine (hacc.1).symm▸?_);exact a5 (.v 0) (.v 1) [(1,.v 0,.v 1)] rfl (le_of_not_lt hj)),List.getElem?_eq_none (by (refine (length_map _).symm▸?_;refine (length_toList).symm▸?_);exact a5 (.v 0) (.v 1) [(1,.v 0,.v 1)] rfl (le_of_not_lt hj))]
  refine this.symm▸?_;exact hQ h3 tk k3
end
section
variable {prog:BX}{w:BY}{C:BQ}{h₀ h:BW}{σ σ':Sto}{as as':List BQ}{s s':BU}{A:BZ}{E:BO->BU->Prop}{d:D}{n:Nat}
theorem uu {t:List Int}{vs:List BO}(k:ItemsAre (intKind prog w) t vs):aD h as vs (t.map .int):=by
 induction k with
 | nil=>exact .nil
 | cons hk _ ih =>
  obtain ⟨tk,rfl⟩:=Value.isInt_shape hk;exact .cons (.int _ _) ih
theorem sG {l l':List D}{σ σ':Sto}(e0:pT l σ=some (l',σ')):σ'=σ/\∃ u cs,l=cs.map (dec u)/\(∀ x∈cs,x < bnd u)/\cs.length<=4/\l'=(d5 cs).map (dec u):=by
 obtain ⟨_,σ1,e1,e⟩:=bA e0;obtain ⟨h4,h9⟩:=dO e1;obtain ⟨⟨u,cs⟩,σ2,e2,e3⟩:=bA e;obtain ⟨h1,rfl⟩:=cK e2;subst h9;(refine aj e3 ?_);clear e3;obtain ⟨rfl,hb⟩:=n6 h1;exact ⟨rfl,u,cs,rfl,hb,by simpa using h4,rfl⟩
theorem q9 (hr:dP A n){a:D}{v:BO}(e:mZ a σ=some (d,σ'))(R:Rel prog w C h₀ σ as s.heap)(r:Rep s.heap as v a) :
  BR (BS prog w) A (call (.builtin "sorted") [v]) (Ans prog w C h₀ σ as s σ' d) NoE s:=by
 (refine ac e ?_);clear e;rintro l σ1 e1 e;(refine ac e ?_);clear e;rintro l' σ2 e2 e;obtain ⟨z,rfl,rfl⟩:=bH e;obtain ⟨rfl,u,cs,hl,hb,h4,rfl⟩:=sG e2;have hh:=hr.handled;have fin:∀ L h' tk dr ws c,(∀ b o,s.heap.get? b=some o->h'.get? b=some o)->s.heap.get? L=none->h'.get? L=some {cls:=.type "list",dict:=none,data:=.seq (List.toArray ws) c,slots:=#[]} -> aD h' as ws ((d5 cs).map (dec u)) ->
   ∀ σ9,σ9=σ->Ans prog w C h₀ σ as s (σ9++[(.list ((d5 cs).map (dec u)),0)]) (.ref σ9.length) (.ref L) {s with heap:=h',toks:=tk,drawn:=dr} := λL h' tk dr ws c k hL e rw' σ9 hσ=>by
  subst hσ;exact ⟨as++[L],(Go.drew R dr (λ_ _ x=>x)).trans (Go.push (s:={s with drawn:=dr}) R k hL (.list e (rw'.kp (λ_ _ _ x=>x) (prefix_append _ _)) (le_succ_of_le z))),R.newRef _ _⟩
 obtain ⟨k,rfl⟩:∃ k,a = .ref k:=by
  induction a using D.casesOn with
  | ref k=>exact ⟨k,rfl⟩
  | _=>exact af (σ:=σ) e1
 (refine ac e1 ?_);clear e1;rintro po σ3 e3 e1;obtain ⟨⟨vv,hx⟩,rfl⟩:=uh e3;cases r.refI with
 | @mk t ka =>
 have ro:=R.objs _ _ _ _ hx ka;have hns:=R.not_sys ka;induction po using PO.casesOn with
 | list l =>
  obtain ⟨rfl,rfl⟩:=bp e1;cases ro.listI with
  | @mk vs m g rr zz =>
  refine eA (u:=u) (cs:=cs) (as:=as) h4 hb ?_ λL h' tk dr ws c k2 hL e rw'=>fin L h' tk dr ws c k2 hL e rw' _ rfl;refine hl▸?_;have hzz:=rr.length;refine collect_list (vs:=vs.toList) ⟨_,g,rfl,m,Array.toArray_toList▸rfl⟩ ?_ ?_
  ·have k1:∀ b o,s.heap.get? b=some o->((s.heap.push (seqObj "list" #[] 0)).update s.heap.objs.size (Obj.mapSeq (· ++ vs.toList.toArray))).get? b=some o:=λb o q=>by
    have hlt:b < s.heap.objs.size:=Heap.lt_size q;(refine (Heap.get?_update_ne _ _ _ _ (ne_of_lt hlt)).symm▸?_;refine (Heap.get?_push_ne _ _ _ (ne_of_lt hlt)).symm▸?_);exact q
   exact ⟨_,s.toks,s.drawn,rfl,k1,rr.grow k1⟩
  ·(refine hzz.symm▸?_;refine hl.symm▸?_;refine (length_map _).symm▸?_;refine sizeLine_eq.symm▸?_);exact le_trans h4 (by decide)
 | dT l =>
  obtain ⟨rfl,rfl⟩:=bp e1;cases ro.dTI with
  | @mk xs g km rr zz ym tt =>
  obtain ⟨o,es,ep,hq⟩:=g;have ho:=hq.1;have hc:=hq.2.1;have hd:=hq.2.2.1;have he:=hq.2.2.2.1;have hk:=hq.2.2.2.2.1;have hn:=hq.2.2.2.2.2;refine eA (u:=u) (cs:=cs) (as:=as) h4 hb ?_ λL h' tk dr ws c k2 hL e rw'=>fin L h' tk dr ws c k2 hL e rw' _ rfl;refine hl▸?_;have hes:es.size=xs.length:=by (refine (length_toList)▸?_;refine he.symm▸?_;exact (length_map _).symm▸rfl)
  have hxl:xs.length<=aQ+1:=by
   have:=congrArg List.length km;(replace this:=(length_map _)▸this;replace this:=(length_map _)▸this);exact le_trans (le_of_eq this) zz
  refine iA (by exact hh) hns ⟨o,ho,hc,hd⟩ (eZ hes hxl) λh3 tk k3=>⟨h3,tk,s.drawn,rfl,k3,?_⟩;(refine he.symm▸?_;refine (List.map_map).symm▸?_);have key:∀ (xs:List (List Int×BQ×BO)) (l:List (List Int×D)),xs.map (·.1)=l.map (·.1)->(∀ p∈l,p.1.length<=aQ)->(∀ x∈xs,∃ vs n,IsT s.heap x.2.1 vs n)->(∀ x∈xs,(Cr (intKind prog w)).is s.heap x.1 x.2.1) ->
    aD h3 as (xs.map ((λe:Cw=>e.key) ∘ entryOfKey (Cr (intKind prog w)))) (l.map λp => .tup (p.1.map .int)):=by
   intro xs;induction xs with
   | nil=>intro l e _ _ _;induction l using List.casesOn with | nil=>exact .nil | cons _ _=>cases e
   | cons x xs ih =>
    intro l e ym tt hk;induction l using List.casesOn with
    | nil=>cases e
    | cons p l =>
    (replace e:=(map_cons)▸e;replace e:=(map_cons)▸e);injection e with e1 e2
    refine .cons ?_ (ih l e2 (λq hq=>ym q (.tail _ hq)) (λq hq=>tt q (.tail _ hq)) λq hq=>hk q (.tail _ hq));obtain ⟨ws,m,it⟩:=tt x (.head _);obtain ⟨ot,its,nt,hq⟩:=hk x (.head _);have hot:=hq.1;have hct:=hq.2.1;have hdt:=hq.2.2.1;have hit:=hq.2.2.2;replace hot:=it▸hot;(have:=Option.some.inj hot;subst this);cases hdt;refine (?_:Rep h3 as (.ref x.2.1) (.tup (p.1.map .int)));refine e1▸?_;refine .tup (k3 _ _ it) ?_ (uu hit);(refine (length_map _).symm▸?_;refine e1.symm▸?_);exact ym p (.head _)
  exact key xs _ km ym tt hk
 | dS l =>
  induction l using List.casesOn with
  | cons=>exact af (σ:=σ) e1
  | nil =>
  obtain ⟨rfl,rfl⟩:=bp e1;cases ro.dSI with
  | @mk kvs g km rr zz =>
  have hk0:kvs=[]:=by
   have:=congrArg List.length km;replace this:=(length_map _)▸this;exact List.length_eq_zero_iff.mp this
  subst hk0;obtain ⟨o,es,ep,hq⟩:=g;have ho:=hq.1;have hc:=hq.2.1;have hd:=hq.2.2.1;have hk:=hq.2.2.2.1;have hp:=hq.2.2.2.2.1;have hn:=hq.2.2.2.2.2;have hes:es.size=0:=by (refine (length_toList)▸?_;exact (hp.length).symm▸rfl)
  refine eA (u:=u) (cs:=cs) (as:=as) h4 hb ?_ λL h' tk dr ws c k2 hL e rw'=>fin L h' tk dr ws c k2 hL e rw' _ rfl;refine hl▸?_;refine iA (by exact hh) hns ⟨o,ho,hc,hd⟩ (le_trans (le_of_eq hes) (zero_le _)) λh3 tk k3=>⟨h3,tk,s.drawn,rfl,k3,?_⟩;have:es.toList=[]:=List.length_eq_zero_iff.mp (by refine (length_toList).symm▸?_;exact hes);refine this.symm▸?_;exact .nil
 | _=>exact af (σ:=σ) e1
end
section
variable {prog:BX}{w:BY}{C:BQ}{h₀ h:BW}{σ σ':Sto}{as as':List BQ}{s s':BU}{A:BZ}{E:BO->BU->Prop}{d:D}{n:Nat}
theorem qu (hr:dP A n){k:Nat}{a:BQ}{l:List (Str×D)}{v0:Nat}(hx:σ[k]? = some (.dS l,v0))(ka:as[k]? = some a)(e:mkList (l.map λp => .tup [.str p.1,p.2]) σ=some (d,σ'))(R:Rel prog w C h₀ σ as s.heap) :
  BR (BS prog w) A (call (.builtin "dict.items") [.ref a]) (λiv s1=>BR (BS prog w) A (call (.type "list") [iv]) (Ans prog w C h₀ σ as s σ' d) NoE s1) NoE s:=by
 obtain ⟨z,rfl,rfl⟩:=bH e;have hns:=R.not_sys ka;cases (R.objs _ _ _ _ hx ka).dSI with
 | @mk kvs g km rr zz =>
 refine C4 PySem.F.slot_dict_items g.typeIs PySem.F.entry_dict_items (PySem.F.args_dict_items_1 _) (meets_dict_items (PySem.strKind prog w) a hns) ⟨⟨kvs,g⟩,?_⟩;obtain ⟨ep,hm⟩:=g.dictAt;have k1:∀ b o,s.heap.get? b=some o->(s.heap.push {cls:=.type "dict_items",data:=.fields #[.ref a]}).get? b=some o:=λb o e=>Heap.get?_push_of_some _ e;have hlen:kvs.length=l.length:=by
  have:=congrArg List.length km;rw [length_map,length_map] at this;exact this
 refine kdx_call (s:={s with heap:=s.heap.push {cls:=.type "dict_items",data:=.fields #[.ref a]} }) (knd:=PySem.strKind prog w) (kvs:=kvs) (ep:=ep) hr.handled ⟨_,Heap.get?_push_size _ rfl,rfl,rfl⟩ (hm.keep k1) (by rw [Cz];have:aQ=4096:=rfl;exact aZ (.v 0) (.n 16777216) [(1,.v 1,(.a (.v 2) (.n 1))),(1,.v 0,.v 1),(1,.v 2,.n 4096)] rfl zz (le_of_eq hlen) (le_of_eq this)) λh' tk acc c ts hk hS hl hG hacc=>?_;have k2:∀ b o,s.heap.get? b=some o->h'.get? b=some o:=λb o e=>hk _ _ (k1 _ _ e);have hL:s.heap.get? (s.heap.push {cls:=.type "dict_items",data:=.fields #[.ref a]}).objs.size=none:=by
  cases e:s.heap.get? (s.heap.push {cls:=.type "dict_items",data:=.fields #[.ref a]}).objs.size with
  | none=>rfl
  | some o=>exact absurd (Heap.lt_size (k1 _ _ e)) (lt_irrefl _)
 refine ⟨as++[_],Go.push R k2 hL (.list hS ?_ (le_succ_of_le z)),R.newRef _ _⟩;rw [hacc];have key:∀ (kvs:List (Str×BO)) (l:List (Str×D)) (ts:List BQ),kvs.map (·.1)=l.map (·.1)->aD s.heap as (kvs.map (·.2)) (l.map (·.2))->ts.length=kvs.length ->
   (∀ (j:Nat) (a:BQ),ts[j]? = some a->∃ key k x,kvs[j]? = some (k,x)/\(PySem.strKind prog w).is k key=true/\h'.get? a=some {cls:=.type "tuple",data:=.seq #[key,x]}) ->
   aD h' as (ts.map Value.ref) (l.map λp => .tup [.str p.1,p.2]):=by
  intro kvs;induction kvs with
  | nil =>
   intro l ts e1 r e3 p;induction l using List.casesOn with
   | cons _ _=>cases e1
   | nil=>induction ts using List.casesOn with
    | nil=>exact .nil
    | cons _ _=>cases e3
  | cons x kvs ih =>
   intro l ts e1 r e3 p;cases l with
   | nil=>cases e1
   | cons y l =>
   cases ts with
   | nil=>cases e3
   | cons t ts =>
   rw [map_cons,map_cons] at e1;injection e1 with e1 e2
   cases r.consI with
   | mk r rs =>
   refine .cons ?_ (ih l ts e2 rs (by simpa using e3) λj b hb=>p (j+1) b hb);obtain ⟨ky,k0,x0,h1,h2,h3⟩:=p 0 t rfl;(have:=Option.some.inj h1;subst this);obtain ⟨tk0,rfl⟩:=Value.isStrOf_shape h2;refine .tup (h3:IsT _ _ _ _) (show 2<=4096 by decide) ?_;dsimp only at e1;rw [<- e1];exact .cons (.str _ _) (.cons (r.kp (λ_ _ _ e=>k2 _ _ e) (prefix_refl _)) .nil)
 exact (key kvs l ts km rr hl hG.pairs).kp (λ_ _ _ e=>e) (prefix_append _ _)
end
theorem aJ:Slot "set_iterator" "__next__" "set_iterator.__next__" :=
 .of (owner:="set_iterator") (n:="__next__") (by (refine (CQ _ _).symm▸?_;refine builtinLookup_eq_fast.symm▸?_);kernel_rfl) (by kernel_rfl) (by kernel_rfl) (by kernel_rfl)
  (by first | exact .inl (by kernel_rfl) | exact .inr (by decide +kernel)) (by refine (CF _ _).symm▸?_;kernel_rfl)
theorem bS:D8 table "set_iterator.__next__"=some Builtin.«set_iterator.__next__» := D9 rfl
theorem dA:Slot "set_iterator" "__iter__" "set_iterator.__iter__" :=
 .of (owner:="set_iterator") (n:="__iter__") (by (refine (CQ _ _).symm▸?_;refine builtinLookup_eq_fast.symm▸?_);kernel_rfl) (by kernel_rfl) (by kernel_rfl) (by kernel_rfl)
  (by first | exact .inl (by kernel_rfl) | exact .inr (by decide +kernel)) (by refine (CF _ _).symm▸?_;kernel_rfl)
theorem gg:D8 table "set_iterator.__iter__"=some Builtin.«dict_keyiterator.__iter__» :=
 Ej (id':="dict_keyiterator.__iter__") rfl rfl (by kernel_rfl) rfl
theorem iO:D8 table "set.__iter__"=some Builtin.«frozenset.__iter__» :=
 Ej (id':="frozenset.__iter__") rfl rfl (by kernel_rfl) rfl
theorem ic:Manifest.owners.lookup (String.ofList ['r','o','t','a','r','e','t','i','_','t','e','s'].reverse)=some Manifest.sig_set_iterator:=by kernel_rfl
theorem b5 (a:BO):EC "set_iterator.__next__" ⟨[a],[]⟩:=by
 unfold EC;refine (Es (id:="set_iterator.__next__") (n:=['_','_','t','x','e','n','_','_']) (o:=['r','o','t','a','r','e','t','i','_','t','e','s']) rfl ic).symm▸?_;kernel_rfl
theorem iq (a:BO):EC "set_iterator.__iter__" ⟨[a],[]⟩:=by
 unfold EC;refine (Es (id:="set_iterator.__iter__") (n:=['_','_','r','e','t','i','_','_']) (o:=['r','o','t','a','r','e','t','i','_','t','e','s']) rfl ic).symm▸?_;kernel_rfl
noncomputable def cP (h:BW)(a:BQ)(es:Array (Int×BO))(ep:Nat)(t:Cs):Prop:=∃ o,h.get? a=some o/\o.ExactSet/\o.data = .set es ep t
noncomputable def c9 (h:BW)(I:BQ)(first:BO)(i:Nat)(a:BQ)(n ep:Nat):Prop :=
 h.get? I=some {cls:=.type "set_iterator",dict:=none,data:=.fields #[first,.int i 0,.ref a,.int n 0,.int ep 0],slots:=#[]}
theorem c9.typeIs {s:BU}{I a:BQ}{f:BO}{i n ep:Nat}(x:c9 s.heap I f i a n ep):s.TypeIs (.ref I) "set_iterator":=⟨_,x,rfl⟩
section
variable {prog:BX}{w:BY}{A:BZ}{E:BO->BU->Prop}{s:BU}{a I:BQ}{es:Array (Int×BO)}{ep:Nat}{t:Cs}
theorem b7 (hm:cP s.heap a es ep t)(hf:t.fits es.size=true){Q:Array (Int×BO)->BU->Prop}(h:Q es s):BR (BS prog w) A (setEntries a) Q E s:=by
 obtain ⟨o,hq⟩:=hm;have ho:=hq.1;have hc:=hq.2.1;have hd:=hq.2.2;exact BN (B5 ho hd hf (BP h))
theorem eH {Q:Bool->BU->Prop}(h:Q (w.params.followText "set-order") s):BR (BS prog w) A setsByText Q E s:=by
 exact BN (CJ (BP h))
theorem c9.put {h:BW}{f:BO}{i n:Nat}(x:c9 h I f i a n ep)(k:Nat)(v:BO):∃ h',h'=h.update I (Obj.mapFields (·.setIfInBounds k v))/\Heap.SameBut I h h' /\
  h'.get? I=some {cls:=.type "set_iterator",dict:=none,data:=.fields (#[f,.int i 0,.ref a,.int n 0,.int ep 0].setIfInBounds k v),slots:=#[]} :=
 ⟨_,rfl,Heap.SameBut.update ..,(Heap.get?_update_self _ x rfl).trans (by rfl)⟩
theorem fV {slot i:Nat}(ht:w.params.followText "set-order"=true)(hm:cP s.heap a es ep t)(hf:t.fits es.size=true){Q:Option (BO×Nat)->BU->Prop}
  (h:Q ((C9 (w.params.setOrder a ep) es)[i]?.map λe=>(e.2,slot)) s):BR (BS prog w) A (DX a slot i ep) Q E s:=by
 obtain ⟨o,hq⟩:=id hm;have ho:=hq.1;have hc:=hq.2.1;have hd:=hq.2.2;refine BN (B5 ho hd hf ?_);refine BN (eH ?_);rw [if_pos ht,if_neg (by simp)];refine BN (m:=setWalk a) ?_;refine BN (B5 ho hd hf ?_);refine BN (eH ?_);refine DE (decide_eq_true ht) ?_;refine BN (CJ (BP (BP h)))
theorem eX {slot i:Nat}(ht:w.params.followText "set-order"=false)(hm:cP s.heap a es ep t)(hf:t.fits es.size=true)(hp:t.plain=true\/es.size<=1)(hl:t.led=true){Q:Option (BO×Nat)->BU->Prop}
  (h:Q (match es[SetTable.below t.place slot]?,t.place[SetTable.below t.place slot]? with | some (_,x),some j=>some (x,j+1) | _,_=>none) s):BR (BS prog w) A (DX a slot i ep) Q E s:=by
 obtain ⟨o,hq⟩:=id hm;have ho:=hq.1;have hc:=hq.2.1;have hd:=hq.2.2;refine BN (B5 ho hd hf ?_);refine BN (eH ?_);refine Cy (decide_eq_false (by refine ht.symm▸?_;decide)) ?_;have h1:(!t.plain && decide (es.size > 1))=false:=by
  rcases hp with h | h
  ·exact h.symm▸rfl
  ·rw [decide_eq_false (not_lt.mpr h),Bool.and_false]
 refine (?_:BR _ _ (if (!t.plain && decide (es.size > 1))=true then _ else _) _ _ _);rw [h1,if_neg (by decide)];have h2:(!t.led && !es.isEmpty)=false:=hl.symm▸rfl;refine BN ?_;refine (?_:BR _ _ (if (!t.led && !es.isEmpty)=true then _ else _) _ _ _);rw [h2,if_neg (by decide)];refine BP ?_;exact BP h
theorem j4 {slot nxt i:Nat}{x:BO}{Q:Option BO->BU->Prop}(hit:c9 s.heap I (B6 slot) i a es.size ep)(hm:cP s.heap a es ep t)(hf:t.fits es.size=true)
  (hN:∀ (A:BZ) (E:BO->BU->Prop) (Q:Option (BO×Nat)->BU->Prop),Q (some (x,nxt)) s->BR (BS prog w) A (DX a slot i ep) Q E s)
  (hQ:∀ h',c9 h' I (B6 nxt) (i+1) a es.size ep->Heap.SameBut I s.heap h'->Q (some x) {s with heap:=h'}):BR (BS prog w) A (CU (.ref I)) Q E s:=by
 refine BN (CM (Cb (name:=Str.ofString "__next__") hit.typeIs aJ (B8 aJ hit.typeIs bS ?_ (b5 _))));refine BN (m:=Eb "__next__" 0 _) (BP ?_);refine BN (CG hit rfl ?_);refine BN (b7 hm hf ?_);rw [if_neg (by simp)];obtain ⟨h1,rfl,z1,g1⟩:=hit.put 0 (B6 nxt);refine BN (hN _ _ _ ?_);refine BN (Co hit rfl (by simp) ?_);have g2:c9 (s.heap.update I (Obj.mapFields (·.setIfInBounds 0 (B6 nxt)))) I (B6 nxt) i a es.size ep:=g1;obtain ⟨h2,rfl,z2,g3⟩:=g2.put 1 (B6 ((i:Int)+1));refine BN (Co g2 rfl (by simp) ?_);exact BP ⟨_,rfl,BP (hQ _ g3 ⟨z2.1.trans z1.1,λb hb=>(z2.2 b hb).trans (z1.2 b hb)⟩)⟩
theorem eR {slot i:Nat}{Q:Option BO->BU->Prop}(hh:A.handled=none)(hit:c9 s.heap I (B6 slot) i a es.size ep)(hm:cP s.heap a es ep t)(hf:t.fits es.size=true)
  (hN:∀ (A:BZ) (E:BO->BU->Prop) (Q:Option (BO×Nat)->BU->Prop),Q none s->BR (BS prog w) A (DX a slot i ep) Q E s)
  (hQ:∀ h',Heap.ExtBut I s.heap h'->Q none {s with heap:=h'}):BR (BS prog w) A (CU (.ref I)) Q E s:=by
 refine BN (CM (Cb (name:=Str.ofString "__next__") hit.typeIs aJ (B8 aJ hit.typeIs bS ?_ (b5 _))));refine BN (m:=Eb "__next__" 0 _) (BP ?_);refine BN (CG hit rfl ?_);refine BN (b7 hm hf ?_);rw [if_neg (by simp)];refine (?_:BR _ _ (DX a slot i ep >>= _) _ _ s);refine BN (hN _ _ _ ?_);refine BN (Co hit rfl (by simp) ?_);refine BN ?_
 delta EG EH
 refine BN (B4 ?_ (by size_fits));refine BN (m:=CE _ _) (C1 (a:=Value.none) (by first | rfl | (simp only [CE];rfl)) ?_);refine B4 ?_ (by size_fits)
 delta EI
 refine BN (DM ?_);rw [(hh:A.in1.handled=none)];refine BN (BP (D5 ?_));refine BN (CK (T:="StopIteration") (b:=true) ⟨_,Heap.get?_push_size _ rfl,rfl⟩ Dy ?_);exact BP (hQ _ (((Heap.SameBut.update ..).extBut.push _).push _))
end
section
variable {prog:BX}{w:BY}{A:BZ}{E:BO->BU->Prop}{s:BU}{a I T:BQ}{es:Array (Int×BO)}{ep:Nat}{t:Cs}
noncomputable def uV (h:BW)(T:BQ)(ps:List Nat):Prop:=∃ o n,h.get? T=some o/\o.data = .seq (ps.map λ(i:Nat)=>B6 i).toArray n
theorem ig {ps:List Nat}(hT:uV s.heap T ps){Q:Option (Array BO)->BU->Prop}(h:Q (some (ps.map λ(i:Nat)=>B6 i).toArray) s):BR (BS prog w) A (Dt (.ref T)) Q E s:=by
 obtain ⟨o,n,hq⟩:=hT;have ho:=hq.1;have hd:=hq.2;refine BN (CX ho ?_);refine hd.symm▸?_;exact BP h
theorem gU {p:Nat}{hx:Int}{x:BO}(hm:cP s.heap a es ep t)(hf:t.fits es.size=true)(e:es[p]? = some (hx,x)){Q:BO->BU->Prop}(h:Q x s):BR (BS prog w) A (setNextDrawn a p ep) Q E s:=by
 obtain ⟨o,hq⟩:=id hm;have ho:=hq.1;have hc:=hq.2.1;have hd:=hq.2.2;refine BN (B5 ho hd hf ?_);dsimp only;rw [if_neg (by simp),e];exact BP h
theorem mJ {i p:Nat}{hx:Int}{x:BO}{ps:List Nat}{Q:Option BO->BU->Prop}(hit:c9 s.heap I (.ref T) i a es.size ep)(hT:uV s.heap T ps)(hm:cP s.heap a es ep t)(hf:t.fits es.size=true)
  (hp:ps[i]? = some p) (e:es[p]? = some (hx,x))
  (hQ:∀ h',c9 h' I (.ref T) (i+1) a es.size ep->Heap.SameBut I s.heap h'->Q (some x) {s with heap:=h'}):BR (BS prog w) A (CU (.ref I)) Q E s:=by
 refine BN (CM (Cb (name:=Str.ofString "__next__") hit.typeIs aJ (B8 aJ hit.typeIs bS ?_ (b5 _))));refine BN (m:=Eb "__next__" 0 _) (BP ?_);refine BN (CG hit rfl ?_);dsimp only;refine BN (b7 hm hf ?_);rw [if_neg (by simp)];refine BN (ig hT ?_);have e1:(ps.map λ(i:Nat)=>B6 i).toArray[(i:Int).toNat]? = some (B6 p):=by
  rw [Int.toNat_natCast,List.getElem?_toArray,List.getElem?_map,hp];rfl
 dsimp only;rw [e1];refine BN (gU hm hf e ?_);obtain ⟨h2,rfl,z2,g3⟩:=hit.put 1 (B6 ((i:Int)+1));refine BN (Co hit rfl (by simp) ?_);exact BP ⟨_,rfl,BP (hQ _ g3 z2)⟩
theorem ij {i:Nat}{ps:List Nat}{Q:Option BO->BU->Prop}(hh:A.handled=none)(hit:c9 s.heap I (.ref T) i a es.size ep)(hT:uV s.heap T ps)(hm:cP s.heap a es ep t)(hf:t.fits es.size=true)
  (hp:ps[i]? = none) (hQ:∀ h',Heap.ExtBut I s.heap h'->Q none {s with heap:=h'}):BR (BS prog w) A (CU (.ref I)) Q E s:=by
 refine BN (CM (Cb (name:=Str.ofString "__next__") hit.typeIs aJ (B8 aJ hit.typeIs bS ?_ (b5 _))));refine BN (m:=Eb "__next__" 0 _) (BP ?_);refine BN (CG hit rfl ?_);dsimp only;refine BN (b7 hm hf ?_);rw [if_neg (by simp)];refine BN (ig hT ?_);have e1:(ps.map λ(i:Nat)=>B6 i).toArray[(i:Int).toNat]? = none:=by
  rw [Int.toNat_natCast,List.getElem?_toArray,List.getElem?_map,hp];rfl
 dsimp only;rw [e1];dsimp only;obtain ⟨h1,rfl,z1,g1⟩:=hit.put 0 (B6 0);refine BN (Co hit rfl (by simp) ?_);have g2:c9 (s.heap.update I (Obj.mapFields (·.setIfInBounds 0 (B6 0)))) I (B6 0) i a es.size ep:=g1;refine BN (Co g2 rfl (by simp) ?_);refine BN ?_
 delta EG EH
 refine BN (B4 ?_ (by size_fits));refine BN (m:=CE _ _) (C1 (a:=Value.none) (by first | rfl | (simp only [CE];rfl)) ?_);refine B4 ?_ (by size_fits)
 delta EI
 dsimp only;refine BN (DM ?_);rw [(hh:A.in1.handled=none)];refine BN (BP (D5 ?_));refine BN (CK (T:="StopIteration") (b:=true) ⟨_,Heap.get?_push_size _ rfl,rfl⟩ Dy ?_);refine BP (hQ _ ((Heap.ExtBut.push (Heap.ExtBut.push (λb o hb e=>?_) _) _)));exact ((Heap.SameBut.update ..).2 b hb).trans ((z1.2 b hb).trans e)
theorem fB {f:BO}{i n:Nat}{Q:BO->BU->Prop}(hit:c9 s.heap I f i a n ep)(h:Q (.ref I) s):BR (BS prog w) A (Cq (.ref I)) Q E s:=by
 refine Dd hit.typeIs dA (B8 dA hit.typeIs gg ?_ (iq _));exact BP ⟨_,rfl,"set_iterator",_,hit.typeIs,aJ.lookup,h⟩
theorem cP.at {h h':BW}(x:cP h a es ep t)(e:∀ o,h.get? a=some o->h'.get? a=some o):cP h' a es ep t:=let ⟨o,ho,r⟩:=x;⟨o,e _ ho,r⟩
theorem uV.at {h h':BW}{ps:List Nat}(x:uV h T ps)(e:∀ o,h.get? T=some o->h'.get? T=some o):uV h' T ps:=let ⟨o,n,ho,r⟩:=x;⟨o,n,e _ ho,r⟩
theorem c9.at {h h':BW}{f:BO}{i n:Nat}(x:c9 h I f i a n ep)(e:∀ o,h.get? I=some o->h'.get? I=some o):c9 h' I f i a n ep:=e _ x
theorem pe (hh:A.handled=none)(hne:a≠I)(ht:w.params.followText "set-order"=true)(hf:t.fits es.size=true)(vs:List BO)(hv:((C9 (w.params.setOrder a ep) es).toList.map (·.2))=vs) :
  De prog w A I [I,a] [I] vs.length (λi v=>vs[i]? = some v) (λi h=>c9 h I (B6 0) i a es.size ep/\cP h a es ep t) where
 sub:=λb hb=>by simp at hb;simp [hb]
 frame:=λ_ _ _ st hk=>⟨st.1.at λo e=>hk I (by simp) o e,st.2.at λo e=>hk a (by simp) o e⟩
 item:=λi s Q E hi st hQ=>by
  subst hv;(replace hi:=(length_map _)▸hi;replace hi:=(length_toList)▸hi);refine j4 (nxt:=0) (x:=((C9 (w.params.setOrder a ep) es)[i]).2) st.1 st.2 hf (λA E Q hq=>fV ht st.2 hf ?_) λh' hit' hs'=>?_
  ·refine (Array.getElem?_eq_getElem hi).symm▸?_;exact hq
  ·exact hQ _ h' s.toks (by (refine (List.getElem?_map).symm▸?_;refine (Array.getElem?_toList).symm▸?_;exact (Array.getElem?_eq_getElem hi).symm▸rfl)) ⟨hit',st.2.at λo e=>(hs'.2 a hne).trans e⟩ λb o hb e=>(hs'.2 b (λh=>hb (by simp [h]))).trans e
 done:=λs Q E st hQ=>by
  subst hv;refine eR hh st.1 st.2 hf (λA E Q hq=>fV ht st.2 hf ?_) λh' he'=>hQ h' s.toks λb o hb e=>he' b o (λh=>hb (by simp [h])) e;(refine (length_map _).symm▸?_;refine (length_toList).symm▸?_;refine (Array.getElem?_eq_none (le_refl _)).symm▸?_);exact hq
 self:=λ_ _ _ _ st hQ=>fB st.1 hQ
theorem lI (hh:A.handled=none)(hne:a≠I)(hTI:T≠I)(hf:t.fits es.size=true)(ps:List Nat)(vs:List BO)(hv:∀ i,i < vs.length->∃ p hx x,ps[i]? = some p/\es[p]? = some (hx,x)/\vs[i]? = some x)(hl:ps.length=vs.length) :
  De prog w A I [I,a,T] [I] vs.length (λi v=>vs[i]? = some v) (λi h=>c9 h I (.ref T) i a es.size ep/\cP h a es ep t/\uV h T ps) where
 sub:=λb hb=>by simp at hb;simp [hb]
 frame:=λ_ _ _ st hk=>⟨st.1.at λo e=>hk I (by simp) o e,st.2.1.at λo e=>hk a (by simp) o e,st.2.2.at λo e=>hk T (by simp) o e⟩
 item:=λi s Q E hi st hQ=>by
  obtain ⟨p,hx,x,hq⟩:=hv i hi;have e1:=hq.1;have e2:=hq.2.1;have e3:=hq.2.2;refine mJ st.1 st.2.2 st.2.1 hf e1 e2 λh' hit' hs'=>?_;exact hQ _ h' s.toks e3 ⟨hit',st.2.1.at λo e=>(hs'.2 a hne).trans e,st.2.2.at λo e=>(hs'.2 T hTI).trans e⟩ λb o hb e=>(hs'.2 b (λh=>hb (by simp [h]))).trans e
 done:=λs Q E st hQ=>ij hh st.1 st.2.2 st.2.1 hf (List.getElem?_eq_none (a5 (.v 0) (.v 1) [(1,.v 0,.v 1)] rfl (le_of_eq hl))) λh' he'=>hQ h' s.toks λb o hb e=>he' b o (λh=>hb (by simp [h])) e
 self:=λ_ _ _ _ st hQ=>fB st.1 hQ
noncomputable def fZ (t:Cs):Nat->Nat
 | 0=>0
 | i+1=>t.place.getD i 0+1
theorem mF (hh:A.handled=none)(hne:a≠I)(ht:w.params.followText "set-order"=false)(hf:t.fits es.size=true)(hp:t.plain=true\/es.size<=1)(hl:t.led=true)
  (hb:∀ i,i<=es.size->SetTable.below t.place (fZ t i)=i) :
  De prog w A I [I,a] [I] (es.toList.map (·.2)).length (λi v=>(es.toList.map (·.2))[i]? = some v) (λi h=>c9 h I (B6 (fZ t i)) i a es.size ep/\cP h a es ep t) where
 sub:=λb hb=>by simp at hb;simp [hb]
 frame:=λ_ _ _ st hk=>⟨st.1.at λo e=>hk I (by simp) o e,st.2.at λo e=>hk a (by simp) o e⟩
 item:=λi s Q E hi st hQ=>by
  (replace hi:=(length_map _)▸hi;replace hi:=(length_toList)▸hi);have hz:i < t.place.size:=by
   have:=hf;simp only [SetTable.fits,and_eq_true,beq_iff_eq] at this;exact aZ (.a (.v 0) (.n 1)) (.v 1) [(1,(.a (.v 0) (.n 1)),.v 2),(1,.v 2,.v 1)] rfl hi (le_of_eq this.1.symm)
  refine j4 (nxt:=fZ t (i+1)) (x:=es[i].2) st.1 st.2 hf (λA E Q hq=>eX ht st.2 hf hp hl ?_) λh' hit' hs'=>?_
  ·(refine (hb i (le_of_lt hi)).symm▸?_;refine (Array.getElem?_eq_getElem hi).symm▸?_;refine (Array.getElem?_eq_getElem hz).symm▸?_);have:fZ t (i+1)=t.place[i]+1:=by show t.place.getD i 0+1=_;simp [hz]
   replace hq:=this▸hq;exact hq
  ·exact hQ _ h' s.toks (by (refine (List.getElem?_map).symm▸?_;refine (Array.getElem?_toList).symm▸?_;exact (Array.getElem?_eq_getElem hi).symm▸rfl)) ⟨hit',st.2.at λo e=>(hs'.2 a hne).trans e⟩ λb o hb e=>(hs'.2 b (λh=>hb (by simp [h]))).trans e
 done:=λs Q E st hQ=>by
  (replace st:=(length_map _)▸st;replace st:=(length_toList)▸st);refine eR hh st.1 st.2 hf (λA E Q hq=>eX ht st.2 hf hp hl ?_) λh' he'=>hQ h' s.toks λb o hb e=>he' b o (λh=>hb (by simp [h])) e;(refine (hb es.size (le_refl _)).symm▸?_;refine (Array.getElem?_eq_none (le_refl _)).symm▸?_);exact hq
 self:=λ_ _ _ _ st hQ=>fB st.1 hQ
end
theorem fF {α:Type} : ∀ {l:List α} {i:Nat} (h:i < l.length),(l[i]::l.eraseIdx i).Perm l
 | x::r,0,h=>List.Perm.refl _
 | x::r,i+1,h=>by
  rw [List.eraseIdx_cons_succ,List.getElem_cons_succ];exact (List.Perm.swap _ _ _).trans (List.Perm.cons _ (fF (by simpa using h)))
theorem wG {α:Type}(next:Nat->Nat):∀ (fuel k:Nat) (lA:List α) (out:Array α),lA.length<=fuel->(pickOrder.go next fuel k lA out).toList.Perm (out.toList++lA):=λl=>by
 induction l using Nat.rec with
 | zero =>
  rintro k lA out h;have:lA=[]:=List.length_eq_zero_iff.mp (le_zero.mp h);subst this;rw [append_nil];exact List.Perm.refl _
 | succ fuel ih =>
  rintro k lA out h;have e:pickOrder.go next (fuel+1) k lA out=Option.casesOn (motive:=λ_=>Array α) lA[next k % lA.length]? out λx=>pickOrder.go next fuel (k+1) (lA.eraseIdx (next k % lA.length)) (out.push x):=by kernel_rfl
  refine e.symm▸?_;by_cases h0:lA=[]
  ·subst h0;rw [append_nil];exact List.Perm.refl _
  ·have hpos:0 < lA.length:=List.length_pos_iff.mpr h0;have hlt:next k % lA.length < lA.length:=mod_lt _ hpos;rw [List.getElem?_eq_getElem hlt];refine (ih (k+1) _ _ ?_).trans ?_
   ·rw [List.length_eraseIdx_of_lt hlt];exact Nat.sub_le_of_le_add h
   ·rw [Array.toList_push,append_assoc];exact List.Perm.append_left _ (fF hlt)
theorem qq {α:Type}(next:Nat->Nat)(xs:Array α):(C9 next xs).toList.Perm xs.toList:=by
 refine (wG next xs.size 0 xs.toList #[] (by simp)).trans ?_;simp
section
variable {prog:BX}{w:BY}{A:BZ}{E:BO->BU->Prop}{s:BU}{a:BQ}{es:Array (Int×BO)}{ep:Nat}{t:Cs}
theorem qX {src:Source}{n:Nat}{Q:Nat->BU->Prop}(hn:n≠0)(h:∀ i dr,i < n->Q i {s with drawn:=dr}):BR (BS prog w) A (choose src n) Q E s :=
 λ_ _ _=>⟨hn,h _ _ (mod_lt _ (Nat.pos_of_ne_zero hn))⟩
theorem rH {α:Type} : ∀ (n:Nat) (xs:List α) {s:BU} {Q:List α->BU->Prop},xs.length=n->(∀ ys dr,ys.Perm xs->Q ys {s with drawn:=dr})->BR (BS prog w) A (drawOrder n xs) Q E s
 | 0,xs,s,Q,e,h=>by
  have:xs=[]:=List.length_eq_zero_iff.mp e;subst this;exact BP (h [] s.drawn (List.Perm.refl _))
 | n+1,[],s,Q,e,h=>by cases e
 | n+1,x::r,s,Q,e,h=>by
  refine BN (qX (by simp) λi dr hi=>?_);refine (List.getElem?_eq_getElem hi).symm▸?_;refine BN (rH n _ (by (refine (List.length_eraseIdx_of_lt hi).symm▸?_;exact e.symm▸rfl)) λys dr2 hp=>BP ?_);exact h _ _ ((List.Perm.cons _ hp).trans (fF hi))
theorem mW (hm:cP s.heap a es ep t)(hf:t.fits es.size=true){Q:Bool->BU->Prop}(h:Q (!w.params.followText "set-order" && (!t.plain && decide (es.size > 1))) s):BR (BS prog w) A (setDrawn a) Q E s:=by
 obtain ⟨o,hq⟩:=id hm;have ho:=hq.1;have hc:=hq.2.1;have hd:=hq.2.2;refine BN (B5 ho hd hf ?_);refine BN (eH ?_);exact BP h
theorem td (hm:cP s.heap a es ep t)(hf:t.fits es.size=true)(hz:es.size<=4){Q:BO->BU->Prop}
  (h1:(!w.params.followText "set-order" && (!t.plain && decide (es.size > 1)))=false->Q (.ref s.heap.objs.size) {s with heap:=s.heap.push {cls:=.type "set_iterator",data:=.fields #[B6 0,.int 0 0,.ref a,.int es.size 0,.int ep 0]} })
  (h2:(!w.params.followText "set-order" && (!t.plain && decide (es.size > 1)))=true->∀ (ps:List Nat) (dr:Ey),ps.Perm (List.range es.size)->Q (.ref (s.heap.objs.size+1)) {s with heap:=(s.heap.push {cls:=.type "tuple",data:=.seq (ps.map λ(i:Nat)=>B6 i).toArray}).push {cls:=.type "set_iterator",data:=.fields #[.ref s.heap.objs.size,.int 0 0,.ref a,.int es.size 0,.int ep 0]},drawn:=dr}) :
  BR (BS prog w) A (Cq (.ref a)) Q E s:=by
 obtain ⟨o,hq⟩:=id hm;have ho:=hq.1;have hc:=hq.2.1;have hd:=hq.2.2;have hT:s.TypeIs (.ref a) "set":=⟨o,ho,hc.1⟩;refine Dd hT PySem.F.slot_set_iter (B8 PySem.F.slot_set_iter hT iO ?_ (PySem.F.args_set_iter_1 _));refine BN (m:=Builtin.Frozenset.slot0 _ _) (BP ?_);refine BN (m:=Builtin.Frozenset.sizeOf _) ?_;refine BN (b7 hm hf (BP ?_));refine BN (mW hm hf ?_);cases hb:(!w.params.followText "set-order" && (!t.plain && decide (es.size > 1))) with
 | false =>
  rw [if_neg (by decide)];refine BN (BP ?_);refine BN (m:=setEpoch _) ?_;refine BN (B5 ho hd hf (BP ?_));refine BN (m:=newFields _ _) (B4 (BP ⟨_,rfl,"set_iterator",_,⟨_,Heap.get?_push_size _ rfl,rfl⟩,aJ.lookup,?_⟩));exact h1 hb
 | true =>
  refine DE (by decide) ?_;refine BN (rH es.size (List.range es.size) length_range λps dr hp=>?_);have hlen:ps.length=es.size:=by rw [hp.length_eq];simp
  refine BN (Em ?_ (by rw [length_map,Cz];exact a5 (.v 0) (.n 16777216) [(1,.v 1,.n 4),(1,.v 0,.v 1)] rfl hz (le_of_eq hlen)));refine BN (m:=setEpoch _) ?_;refine BN (B5 (Heap.get?_push_of_some _ ho) hd hf (BP ?_));refine BN (m:=newFields _ _) (B4 (BP ⟨_,rfl,"set_iterator",_,⟨_,Heap.get?_push_size _ rfl,rfl⟩,aJ.lookup,?_⟩));have hsz:(s.heap.push {cls:=.type "tuple",data:=.seq (ps.map λ(i:Nat)=>B6 i).toArray}).objs.size=s.heap.objs.size+1:=Heap.size_push ..;have:=h2 hb ps dr hp;rw [<- hsz] at this;exact this
end
theorem jl {vs:List BO}{acc:Array BO}(h:ItemsOf (λi v=>vs[i]? = some v) acc vs.length):acc.toList=vs:=by
 apply List.ext_getElem?;intro j;by_cases hj:j < acc.size
 ·(refine (Array.getElem?_toList).symm▸?_;refine (Array.getElem?_eq_getElem hj).symm▸?_);exact (h.2 j acc[j] (Array.getElem?_eq_getElem hj)).symm
 ·rw [List.getElem?_eq_none (by refine (length_toList).symm▸?_;exact a5 (.v 0) (.v 1) [(1,.v 0,.v 1)] rfl (le_of_not_lt hj)),List.getElem?_eq_none (by refine (h.1)▸?_;exact a5 (.v 0) (.v 1) [(1,.v 0,.v 1)] rfl (le_of_not_lt hj))]
section
variable {prog:BX}{w:BY}{A:BZ}{s:BU}{a:BQ}{es:Array (Int×BO)}{ep:Nat}{t:Cs}
theorem mA (hh:A.handled=none)(hm:cP s.heap a es ep t)(hf:t.fits es.size=true)(hz:es.size<=4)
  (hp:w.params.followText "set-order"=false->(!t.plain && decide (es.size > 1))=false->t.led=true/\∀ i,i<=es.size->SetTable.below t.place (fZ t i)=i) {Q:List BO->BU->Prop}
  (hQ:∀ vs h3 tk dr,vs.Perm (es.toList.map (·.2))->(∀ b o,s.heap.get? b=some o->h3.get? b=some o)->Q vs {s with heap:=h3,toks:=tk,drawn:=dr}) :
  BR (BS prog w) A (Dg (.ref a)) Q NoE s:=by
 obtain ⟨o,hq⟩:=id hm;have ho:=hq.1;have hc:=hq.2.1;have hd:=hq.2.2;refine f0 (T:="set") (.inr rfl) ⟨o,ho,hc.1⟩ λh1 k1 z1=>?_;have hm1:cP h1 a es ep t:=⟨o,k1 _ _ ho,hc,hd⟩;have ha1:a < h1.objs.size:=Heap.lt_size (k1 _ _ ho);have hsl:es.size<=Ct:=by rw [Cz];exact bh (.v 0) (.n 16777216) [(1,.v 0,.n 4)] rfl hz
 have hSa:s.heap.objs.size≠a:=ne_of_gt (Heap.lt_size ho);refine td (s:={s with heap:=h1}) hm1 hf hz (λhb=>?_) λhb ps dr hps=>?_
 ·have nin:s.heap.objs.size ∉ [h1.objs.size,a]:=λhmem=>by
   rcases mem_cons.mp hmem with e | hmem
   ·rw [z1] at e;exact absurd e (ne_of_lt (lt_succ_self _))
   ·rcases mem_cons.mp hmem with e | hmem
    ·exact hSa e
    ·cases hmem
  have hit0:c9 (h1.push {cls:=.type "set_iterator",data:=.fields #[B6 0,.int 0 0,.ref a,.int es.size 0,.int ep 0]}) h1.objs.size (B6 0) 0 a es.size ep:=Heap.get?_push_size _ rfl;have hm2:cP (h1.push {cls:=.type "set_iterator",data:=.fields #[B6 0,.int 0 0,.ref a,.int es.size 0,.int ep 0]}) a es ep t:=hm1.at λo e=>Heap.get?_push_of_some _ e;cases ht:w.params.followText "set-order" with
  | true =>
   have hperm:((C9 (w.params.setOrder a ep) es).toList.map (·.2)).Perm (es.toList.map (·.2)):=(qq _ es).map _;have hlen:((C9 (w.params.setOrder a ep) es).toList.map (·.2)).length=es.size:=by rw [hperm.length_eq,length_map,length_toList]
   exact ⟨h1.objs.size,_,_,_,_,s.toks,s.drawn,_,rfl,rfl,λb o e=>Heap.get?_push_of_some _ e,pe (by exact hh) (ne_of_lt ha1) ht hf _ rfl,by rw [hlen];exact hsl,⟨hit0,hm2⟩,nin,aR _,
    λh3 tk acc hacc k3=>by rw [jl hacc];exact hQ _ _ _ _ hperm k3⟩
  | false =>
   rw [ht] at hb;have hb':(!t.plain && decide (es.size > 1))=false:=by simpa using hb
   have hq:=hp ht hb';have hl:=hq.1;have hbl:=hq.2;have hpl:t.plain=true\/es.size<=1:=by
    cases hpp:t.plain with
    | true=>exact .inl rfl
    | false =>
     rw [hpp] at hb';have:¬ es.size > 1:=by simpa using hb'
     exact .inr (bh (.v 0) (.n 1) [(1,.v 0,.n 1)] rfl (le_of_not_lt this))
   exact ⟨h1.objs.size,_,_,_,_,s.toks,s.drawn,_,rfl,rfl,λb o e=>Heap.get?_push_of_some _ e,mF (hh) (ne_of_lt ha1) ht hf hpl hl hbl,by rw [length_map,length_toList];exact hsl,⟨hit0,hm2⟩,nin,aR _,
    λh3 tk acc hacc k3=>by rw [jl hacc];exact hQ _ _ _ _ (List.Perm.refl _) k3⟩
 ·have k2:∀ b o,h1.get? b=some o->((h1.push {cls:=.type "tuple",data:=.seq (ps.map λ(i:Nat)=>B6 i).toArray}).push {cls:=.type "set_iterator",data:=.fields #[.ref h1.objs.size,.int 0 0,.ref a,.int es.size 0,.int ep 0]}).get? b=some o :=
   λb o e=>Heap.get?_push_of_some _ (Heap.get?_push_of_some _ e)
  have hsz:(h1.push {cls:=.type "tuple",data:=.seq (ps.map λ(i:Nat)=>B6 i).toArray}).objs.size=h1.objs.size+1:=Heap.size_push ..;have hI:((h1.push {cls:=.type "tuple",data:=.seq (ps.map λ(i:Nat)=>B6 i).toArray}).push {cls:=.type "set_iterator",data:=.fields #[.ref h1.objs.size,.int 0 0,.ref a,.int es.size 0,.int ep 0]}).get? (h1.objs.size+1)=some {cls:=.type "set_iterator",dict:=none,data:=.fields #[.ref h1.objs.size,.int ((0:Nat):Int) 0,.ref a,.int es.size 0,.int ep 0],slots:=#[]} := by
   exact hsz▸(Heap.get?_push_size _ rfl)
  have hT:uV ((h1.push {cls:=.type "tuple",data:=.seq (ps.map λ(i:Nat)=>B6 i).toArray}).push {cls:=.type "set_iterator",data:=.fields #[.ref h1.objs.size,.int 0 0,.ref a,.int es.size 0,.int ep 0]}) h1.objs.size ps :=
   ⟨_,0,Heap.get?_push_of_some _ (Heap.get?_push_size _ rfl),rfl⟩
  have hvs:∀ p∈ps,p < es.size:=λp hp'=>mem_range.mp (hps.mem_iff.mp hp');have hperm:(ps.map λp=>(es.getD p (0,Value.none)).2).Perm (es.toList.map (·.2)):=by
   refine (hps.map _).trans (List.Perm.of_eq ?_);apply List.ext_getElem?;intro j;by_cases hj:j < es.size
   ·rw [List.getElem?_map,List.getElem?_range hj,List.getElem?_map,Array.getElem?_toList,Array.getElem?_eq_getElem hj];simp [hj]
   ·rw [List.getElem?_eq_none (by rw [length_map,length_range];exact a5 (.v 0) (.v 1) [(1,.v 0,.v 1)] rfl (le_of_not_lt hj)),List.getElem?_eq_none (by rw [length_map,length_toList];exact a5 (.v 0) (.v 1) [(1,.v 0,.v 1)] rfl (le_of_not_lt hj))]
  have hlp:ps.length=es.size:=by rw [hps.length_eq,length_range]
  have nin:s.heap.objs.size ∉ [h1.objs.size+1,a,h1.objs.size]:=λhmem=>by
   rcases mem_cons.mp hmem with e | hmem
   ·rw [z1] at e;exact absurd e (ne_of_lt (lt_succ_of_lt (lt_succ_self _)))
   ·rcases mem_cons.mp hmem with e | hmem
    ·exact hSa e
    ·rcases mem_cons.mp hmem with e | hmem
     ·rw [z1] at e;exact absurd e (ne_of_lt (lt_succ_self _))
     ·cases hmem
  have hIf:h1.get? (h1.objs.size+1)=none:=by
   cases e:h1.get? (h1.objs.size+1) with
   | none=>rfl
   | some o=>exact absurd (Heap.lt_size e) (not_lt.mpr (le_succ _))
  refine ⟨h1.objs.size+1,_,(ps.map λp=>(es.getD p (0,Value.none)).2).length,_,_,s.toks,dr,_,rfl,rfl,k2,lI (T:=h1.objs.size) (by exact hh) (ne_of_lt (lt_succ_of_lt ha1)) (ne_of_lt (lt_succ_self _)) hf ps _ (λi hi=>?_) (by rw [length_map]),by rw [length_map,hlp];exact hsl,⟨hI,hm1.at λo e=>k2 _ _ e,hT⟩,nin,hIf,
    λh3 tk acc hacc k3=>by rw [jl hacc];exact hQ _ _ _ _ hperm k3⟩
  rw [length_map] at hi;have hpi:ps[i] < es.size:=hvs _ (List.getElem_mem hi);refine ⟨ps[i],es[ps[i]].1,es[ps[i]].2,List.getElem?_eq_getElem hi,Array.getElem?_eq_getElem hpi,?_⟩;rw [List.getElem?_map,List.getElem?_eq_getElem hi];simp [hpi]
end
noncomputable def jm:Un->Nat->List Int
 | .two,c=>[((c / 2:Nat):Int),((c % 2:Nat):Int)]
 | _,c=>[(c:Int)]
noncomputable def cQ (u:Un)(c:Nat):Int:=reduceHash (Builtin.Tuple.tupleHashOf ((jm u c).map hashInt))
noncomputable def gj (led:Bool)(pl:List Nat):Cs:={SetTable.fresh 0 0 led with place:=pl.toArray}
noncomputable abbrev StT:=List Nat×List Nat
noncomputable def f9 {α:Type}(l:List α)(p:Nat)(x:α):List α:=l.take p++x::l.drop p
noncomputable def qU (u:Un)(ord:List Nat)(i:Nat):Int:=((ord.map (cQ u))[i]?).getD 0
noncomputable def yB (led:Bool)(u:Un)(st:StT)(c:Nat):Option StT :=
 match (gj led st.1).probe (qU u st.2) (cQ u c) ((gj led st.1).probeStart (cQ u c)) with
 | some (.candidate _ i _)=>if st.2[i]? = some c then some st else none
 | some (.empty j none) =>
  let p:=SetTable.below st.1.toArray j
  some (f9 st.1 p j,f9 st.2 p c)
 | _=>none
noncomputable def ur (led:Bool)(u:Un)(l:List StT):List StT:=l.foldl (λacc st=>(List.range (bnd u)).foldl (λacc c=>match yB led u st c with | some x=>if acc.contains x then acc else acc++[x] | none=>acc) acc) l
noncomputable def eK (led:Bool)(u:Un):List StT:=ur led u (ur led u (ur led u (ur led u [([],[])])))
noncomputable def tx (led:Bool)(u:Un)(st:StT):Bool :=
 let t:=gj led st.1
 st.1.length==st.2.length && decide (st.2.length<=4) && decide st.2.Nodup && st.2.all (· < bnd u) && t.fits st.1.length && !t.tooFull && !t.gaveWay &&
  (List.range (st.1.length+1)).all (λi=>SetTable.below t.place (fZ t i)==i) &&
  (List.range (bnd u)).all λc=>match yB led u st c with
   | some x=>(eK led u).contains x && (List.range 4).all λk=>x.2.contains k==(st.2.contains k || k==c)
   | none=>false
theorem nC:∀ led:Bool,(eK led .one).all (tx led .one)=true/\(eK led .two).all (tx led .two)=true:=by decide +kernel
theorem kF:∀ led:Bool,(eK led .one).contains ([],[])=true/\(eK led .two).contains ([],[])=true:=by decide +kernel
noncomputable def Un.tups:Un->Bool
 | .str=>false
 | _=>true
theorem wK {led:Bool}{u:Un}(hu:u.tups=true){st:StT}(h:st∈eK led u):tx led u st=true:=by
 induction u using Un.casesOn with
 | one=>exact all_eq_true.mp (nC led).1 st h
 | two=>exact all_eq_true.mp (nC led).2 st h
 | str=>cases hu
structure Ae (led:Bool)(u:Un)(st:StT):Prop where
 len:st.1.length=st.2.length
 few:st.2.length<=4
 nodup:st.2.Nodup
 bound:∀ c∈st.2,c < bnd u
 fits:(gj led st.1).fits st.1.length=true
 full:(gj led st.1).tooFull=false
 gave:(gj led st.1).gaveWay=false
 walk:∀ i,i<=st.1.length->SetTable.below (gj led st.1).place (fZ (gj led st.1) i)=i
 add:∀ c,c < bnd u->∃ x,yB led u st c=some x/\x∈eK led u/\∀ k,k < 4->x.2.contains k=(st.2.contains k || k==c)
theorem gt {led:Bool}{u:Un}(hu:u.tups=true){st:StT}(h:st∈eK led u):Ae led u st:=by
 have g:=wK hu h;unfold tx at g;simp only [and_eq_true,beq_iff_eq,decide_eq_true_eq,all_eq_true,mem_range,not_eq_true'] at g;obtain ⟨⟨⟨⟨⟨⟨⟨⟨g1,g2⟩,g3⟩,g4⟩,g5⟩,g6⟩,g7⟩,g8⟩,g9⟩:=g;refine ⟨g1,g2,g3,g4,g5,g6,g7,λi hi=>g8 i (a5 (.a (.v 0) (.n 1)) (.a (.v 1) (.n 1)) [(1,.v 0,.v 1)] rfl hi),λc hc=>?_⟩;have:=g9 c hc;split at this
 ·rename_i x hx;simp only [and_eq_true,all_eq_true,mem_range,beq_iff_eq] at this;exact ⟨x,hx,List.contains_iff_mem.mp this.1,this.2⟩
 ·cases this
theorem fg {α:Type}(l:List α)(p:Nat)(x:α):SetTable.insertAt l.toArray p x=(f9 l p x).toArray:=by
 apply Array.toList_inj.mp;simp only [SetTable.insertAt,f9,List.extract_toArray,List.push_toArray,List.append_toArray,size_toArray];simp;exact take_of_length_le (by rw [List.length_drop];exact bh (.v 0) (.v 0) [] rfl)
theorem dn {α β:Type}(f:α->β)(l:List α)(p:Nat)(x:α):(f9 l p x).map f=f9 (l.map f) p (f x):=by
 unfold f9;simp [List.map_take,List.map_drop]
section
variable {prog:BX}{w:BY}{A:BZ}{E:BO->BU->Prop}{s:BU}{as:List BQ}{S:BQ}{u:Un}{led:Bool}{st:StT}
noncomputable def pz (h:BW)(as:List BQ)(S:BQ)(u:Un)(led:Bool)(st:StT):Prop :=
 ∃ ep es,cP h S es ep (gj led st.1)/\es.toList.map (·.1)=st.2.map (cQ u)/\aD h as (es.toList.map (·.2)) (st.2.map (dec u))/\st∈eK led u
theorem rC {h:BW}{x:BO}{c:Nat}(hu:u.tups=true)(r:Rep h as x (dec u c)):∃ a,x = .ref a/\CI (intKind prog w) h (jm u c) a:=by
 induction u using Un.casesOn with
 | str=>cases hu
 | one =>
  cases r.tupI with
  | @mk a vs n i z q=>exact ⟨a,rfl,_,_,_,i,rfl,rfl,(gK q (is:=jm .one c) rfl).1⟩
 | two =>
  cases r.tupI with
  | @mk a vs n i z q=>exact ⟨a,rfl,_,_,_,i,rfl,rfl,(gK q (is:=jm .two c) rfl).1⟩
theorem qz {ks:List Int}{vs:List BO}(h:ItemsAre (intKind prog w) ks vs):∀ v∈vs,∃ i t,v=Value.int i t:=by
 induction h with
 | nil=>intro v hv;cases hv
 | cons h _ ih =>
  intro v hv;rcases mem_cons.mp hv with rfl | hv
  ·obtain ⟨t,rfl⟩:=Value.isInt_shape h;exact ⟨_,_,rfl⟩
  ·exact ih v hv
theorem gZ {a:BQ}{ks:List Int}(hk:CI (intKind prog w) s.heap ks a){Q:Bool->BU->Prop}(hQ:Q true s):BR (BS prog w) A (D1 8 (.ref a)) Q E s:=by
 have hT:=hk.typeIs;obtain ⟨o,items,n,ho,hc,hd,hi⟩:=hk;refine BN (C7 hT PySem.F.slot_tuple_hash.lookup ?_);refine BN (m:=Dt _) ?_;refine BN (CX ho ?_);refine hd.symm▸?_;refine BP ?_;refine BN ?_;rw [<- Array.forIn_toList];refine Dn _ (λrest b s'=>b=(none,())/\s'=s/\∀ v∈rest,∃ i t,v=Value.int i t) _ ?_ ?_ _ _ ⟨rfl,rfl,qz hi⟩
 ·rintro x rest b s' ⟨rfl,rfl,hv⟩;obtain ⟨i,tk,rfl⟩:=hv x (.head _);refine BN (m:=D1 7 _) (BP ?_);rw [if_neg (by decide)];exact BP ⟨rfl,rfl,λv hm=>hv v (.tail _ hm)⟩
 ·rintro b s' ⟨rfl,rfl,_⟩;exact BP hQ
theorem gO {a:BQ}{ks:List Int}(hk:CI (intKind prog w) s.heap ks a){Q:Bool->BU->Prop}(hQ:Q false s):BR (BS prog w) A (CY 8 (.ref a)) Q E s:=by
 have hT:=hk.typeIs;obtain ⟨o,items,n,ho,hc,hd,hi⟩:=hk;have e:CY 8 (.ref a)=(do
   match <- typeOf (.ref a) with
   | .type t =>
    let underTuple <- if t=="tuple" then pure true else isSubtype (.type t) (.type "tuple")
    if !underTuple then return false
    let some items <- Dt (.ref a) | return true
    for y in items do
     if <- CY 7 y then return true
    return false
   | _=>return true:Sem Bool):=by kernel_rfl
 refine e.symm▸?_;refine BN (CH hT ?_);dsimp only;rw [if_pos (by kernel_rfl)];refine BN (BP ?_);rw [if_neg (by decide)];refine BN (m:=Dt _) ?_;refine BN (CX ho ?_);refine hd.symm▸?_;refine BP ?_;refine BN ?_;rw [<- Array.forIn_toList];refine Dn _ (λrest b s'=>b=(none,())/\s'=s/\∀ v∈rest,∃ i t,v=Value.int i t) _ ?_ ?_ _ _ ⟨rfl,rfl,qz hi⟩
 ·rintro x rest b s' ⟨rfl,rfl,hv⟩;obtain ⟨i,tk,rfl⟩:=hv x (.head _);refine BN (m:=CY 7 _) (BP ?_);rw [if_neg (by decide)];exact BP ⟨rfl,rfl,λv hm=>hv v (.tail _ hm)⟩
 ·rintro b s' ⟨rfl,rfl,_⟩;exact BP hQ
theorem lW {a:BQ}{ks:List Int}{l:List BO}(hx:CI (intKind prog w) s.heap ks a)(hy:∀ v∈l,∃ b ls,v = .ref b/\CI (intKind prog w) s.heap ls b){Q:Bool->BU->Prop}(hQ:Q false s) :
  BR (BS prog w) A (searchCouldBeSeen (.ref a) l) Q E s:=by
 refine BN ?_;refine Dn _ (λrest b s'=>b=(none,())/\s'=s/\∀ v∈rest,∃ b ls,v = .ref b/\CI (intKind prog w) s.heap ls b) _ ?_ ?_ _ _ ⟨rfl,rfl,hy⟩
 ·rintro x rest b s' ⟨rfl,rfl,hv⟩;obtain ⟨b,ls,rfl,hk⟩:=hv x (.head _);have rest':=λv (hm:v∈rest)=>hv v (.tail _ hm);dsimp only;split
  ·exact BP ⟨rfl,rfl,rest'⟩
  ·refine BN (DC (knd:=intKind prog w) hx ?_);rw [if_neg (by decide)];refine BN (DC (knd:=intKind prog w) hk ?_);rw [if_neg (by decide)];refine BN (gO hx ?_);rw [if_neg (by decide)];refine BN (gO hk ?_);rw [if_neg (by decide)];exact BP ⟨rfl,rfl,rest'⟩
 ·rintro b s' ⟨rfl,rfl,_⟩;exact BP hQ
theorem oX {x:BO}{c:Nat}(hh:A.units < CA)(hu:u.tups=true)(I:pz s.heap as S u led st)(r:Rep s.heap as x (dec u c))(hc:c < bnd u){Q:Bool->BU->Prop}
  (hQ:∀ h' tk st' b,yB led u st c=some st'->Heap.SameBut S s.heap h'->pz h' as S u led st'->Q b {s with heap:=h',toks:=tk}):BR (BS prog w) A (EK S x) Q E s:=by
 obtain ⟨a,rfl,hk⟩:=rC (prog:=prog) (w:=w) hu r;have hI:=I;obtain ⟨ep,es,hq⟩:=I;have hm:=hq.1;have he:=hq.2.1;have hr:=hq.2.2.1;have hreach:=hq.2.2.2;have G:=gt hu hreach;obtain ⟨o,hq⟩:=id hm;have ho:=hq.1;have hex:=hq.2.1;have hd:=hq.2.2;have hes:es.size=st.1.length:=by
  have:=congrArg List.length he;rw [length_map,length_map,length_toList] at this;rw [this,G.len]
 have hf:(gj led st.1).fits es.size=true:=hes▸G.fits;refine B1 ?_;refine BN (wpAny_pyHash_tuple (knd:=intKind prog w) hh hk ?_);show BR _ _ (setAddHashed S (.ref a) (cQ u c)) _ _ _;refine B1 (BN (B5 ho hd hf ?_));dsimp only;rw [show byScan (.ref a) es=false from rfl];rw [if_neg (by decide)];refine BN (m:=setSearch S (.ref a) (cQ u c) true) ?_;refine BN (B5 ho hd hf ?_);refine Cy (decide_eq_false (by rw [G.gave];decide)) ?_;obtain ⟨x',hq⟩:=G.add c hc;have hx':=hq.1;have hin:=hq.2.1;have hmem:=hq.2.2;have hat:(λi=>(es[i]?.map (·.1)).getD 0)=qU u st.2:=by
  funext i;unfold qU;rw [<- he,List.getElem?_map,Array.getElem?_toList]
 have hadd:=hx';unfold yB at hx';generalize hpv:SetTable.probe (gj led st.1) _ (cQ u c) _=pv;have hpv2:SetTable.probe (gj led st.1) (λi=>(es[i]?.map (·.1)).getD 0) (cQ u c) ((gj led st.1).probeStart (cQ u c))=pv:=hpv;rw [hat] at hpv2;rw [hpv2] at hx';split at hx'
 ·
  rename_i j i nxt;split at hx';rotate_left
  ·exact an hx'
  rename_i hoi;(have:=Option.some.inj hx';subst this);have hi:i < es.size:=by
   rw [hes,G.len];exact (List.getElem?_eq_some_iff.mp hoi).1
  have hy:(es.toList.map (·.2))[i]? = some es[i].2:=by rw [List.getElem?_map,Array.getElem?_toList,Array.getElem?_eq_getElem hi];rfl
  have hry:Rep s.heap as es[i].2 (dec u c):=by
   obtain ⟨v,hq⟩:=hr.get (j:=i) (d:=dec u c) (by rw [List.getElem?_map,hoi];rfl);have e1:=hq.1;have e2:=hq.2;rw [hy] at e1;(have:=Option.some.inj e1;subst this);exact e2
  obtain ⟨b,hq⟩:=rC (prog:=prog) (w:=w) hu hry;have hb:=hq.1;have hkb:=hq.2;have hfin:Q false {s with toks:=s.toks+((jm u c).length+1)} := hQ _ (s.toks+((jm u c).length+1)) _ _ hadd (Heap.SameBut.refl S s.heap) hI;have hmem2:∀ v∈(es.filter (λx=>x.1==cQ u c)).toList.map (·.2),∃ b ls,v = .ref b/\CI (intKind prog w) s.heap ls b:=by
   intro v hv;obtain ⟨e,he1,rfl⟩:=mem_map.mp hv;rw [Array.toList_filter] at he1;have he2:=(mem_filter.mp he1).1;obtain ⟨q,hq⟩:=List.mem_iff_getElem?.mp he2;have hq2:(es.toList.map (·.2))[q]? = some e.2:=by rw [List.getElem?_map,hq];rfl
   have hlt:q < (st.2.map (dec u)).length:=hr.length▸((List.getElem?_eq_some_iff.mp hq2).1);obtain ⟨v',hq⟩:=hr.get (List.getElem?_eq_getElem hlt);have e1:=hq.1;have e2:=hq.2;rw [hq2] at e1;(have:=Option.some.inj e1;subst this);rw [List.getElem_map] at e2;obtain ⟨b2,hq⟩:=rC (prog:=prog) (w:=w) hu e2;have hb2:=hq.1;have hk2:=hq.2;exact ⟨b2,_,hb2,hk2⟩
  dsimp only;split
  ·refine BN (lW (s:={s with toks:=s.toks+((jm u c).length+1)}) hk hmem2 ?_);rw [if_neg (by decide)];rw [Array.getElem?_eq_getElem hi];dsimp only;rw [hb];refine BN (B1 (DW (knd:=intKind prog w) hh hkb hk ?_));refine BN (B5 ho hd hf ?_);rw [if_pos (by simp)];exact BP (BP hfin)
  ·rw [Array.getElem?_eq_getElem hi];dsimp only;rw [hb];refine BN (B1 (DW (knd:=intKind prog w) hh hkb hk ?_));refine BN (B5 ho hd hf ?_);rw [if_pos (by simp)];exact BP (BP hfin)
 ·rename_i j;(have:=Option.some.inj hx';subst this);refine BP ?_;refine BN (B5 ho hd hf ?_);refine BN ?_;show BR _ _ (if (SetTable.put (gj led st.1) j).1.plain=true then D1 8 (.ref a) else pure true) _ _ _;refine DE (decide_eq_true (show (SetTable.put (gj led st.1) j).1.plain=true from rfl)) ?_;refine gZ (s:={s with toks:=s.toks+((jm u c).length+1)}) hk ?_;have hput:(SetTable.put (gj led st.1) j).1=gj led (f9 st.1 (SetTable.below st.1.toArray j) j):=by
   have h0:gj led (f9 st.1 (SetTable.below st.1.toArray j) j) = {gj led st.1 with place:=(f9 st.1 (SetTable.below st.1.toArray j) j).toArray} := rfl;rw [h0,<- fg];rfl
  have hins:SetTable.insertAt es (SetTable.below st.1.toArray j) (cQ u c,Value.ref a)=(f9 es.toList (SetTable.below st.1.toArray j) (cQ u c,Value.ref a)).toArray:=by
   rw [<- fg,Array.toArray_toList]
  have G2:=gt hu hin;have hlen2:(f9 es.toList (SetTable.below st.1.toArray j) (cQ u c,Value.ref a)).length<=4:=by
   have h5:(f9 st.2 (SetTable.below st.1.toArray j) c).length<=4:=G2.few;have e2:=congrArg List.length (dn (λe:Int×BO=>e.1) es.toList (SetTable.below st.1.toArray j) (cQ u c,Value.ref a));have e3:(f9 st.2 (SetTable.below st.1.toArray j) c).length=(f9 es.toList (SetTable.below st.1.toArray j) (cQ u c,Value.ref a)).length:=by
    rw [<- length_map (f:=cQ u),dn,<- he,<- dn (λe:Int×BO=>e.1) es.toList (SetTable.below st.1.toArray j) (cQ u c,Value.ref a),length_map]
   exact a5 (.v 0) (.n 4) [(1,.v 1,.n 4),(1,.v 0,.v 1)] rfl h5 (le_of_eq e3.symm)
  rw [if_pos rfl];have hput2:(SetTable.put (gj led st.1) j).2=SetTable.below st.1.toArray j:=rfl;rw [hput,hput2,hins];refine BN (D0 ho hd ?_ (by rw [size_toArray,Cz];exact bh (.v 0) (.n 16777216) [(1,.v 0,.n 4)] rfl hlen2));refine Cy (decide_eq_false (by rw [G2.full];decide)) ?_;refine BP ?_;have hsb:Heap.SameBut S s.heap (s.heap.update S (Obj.putSet (f9 es.toList (SetTable.below st.1.toArray j) (cQ u c,Value.ref a)).toArray (gj led (f9 st.1 (SetTable.below st.1.toArray j) j)))):=Heap.SameBut.update ..;have hg:(s.heap.update S (Obj.putSet (f9 es.toList (SetTable.below st.1.toArray j) (cQ u c,Value.ref a)).toArray (gj led (f9 st.1 (SetTable.below st.1.toArray j) j)))).get? S=some {o with data:=.set (f9 es.toList (SetTable.below st.1.toArray j) (cQ u c,Value.ref a)).toArray (ep+1) (gj led (f9 st.1 (SetTable.below st.1.toArray j) j))} := by
   have:=Heap.get?_update_self (Obj.putSet (f9 es.toList (SetTable.below st.1.toArray j) (cQ u c,Value.ref a)).toArray (gj led (f9 st.1 (SetTable.below st.1.toArray j) j))) ho ((DT _ _ hd)▸rfl);exact (DT _ _ hd)▸this
  refine hQ _ (s.toks+((jm u c).length+1)) _ _ hadd hsb ⟨ep+1,_,⟨_,hg,hex,rfl⟩,?_,?_,hin⟩
  ·rw [List.toList_toArray,dn,he,<- dn]
  ·rw [List.toList_toArray,dn,dn];have kt:∀ b vs n,IsT s.heap b vs n->IsT (s.heap.update S (Obj.putSet (f9 es.toList (SetTable.below st.1.toArray j) (cQ u c,Value.ref a)).toArray (gj led (f9 st.1 (SetTable.below st.1.toArray j) j)))) b vs n:=λb vs n e=>by
    refine (hsb.2 b (λq=>?_)).trans e;have e':s.heap.get? b=_:=e;rw [q,ho] at e';(have:=Option.some.inj e';subst this);exact absurd hex.1 (by simp)
   exact ((hr.take _).append (.cons r (hr.drop _))).kp kt (prefix_refl _)
 ·exact an hx'
end
section
variable {prog:BX}{w:BY}{A:BZ}{R:C8->BU->Prop}{I S l:BQ}{items:Array BO}{Iv:Nat->BW->Prop}
theorem uo (hSI:S≠I)(hSl:S≠l)(W:De prog w A.in1 I [I,l] [I] items.size (λi v=>items[i]? = some v) (λi h=>h.IsListIter I l i/\h.IsList l items))
  (keep:∀ i h h',Iv i h->(∃ j,h.IsListIter I l j)->(∀ b o,b≠I->h.get? b=some o->h'.get? b=some o)->Iv i h')
  (step:∀ i v (s:BU) (Q:Bool->BU->Prop) (E:BO->BU->Prop),items[i]? = some v->Iv i s.heap->(∀ h' tk b,Heap.SameBut S s.heap h'->Iv (i+1) h'->Q b {s with heap:=h',toks:=tk})->BR (BS prog w) A.in1 (EK S v) Q E s) :
  ∀ (k i:Nat) (s:BU),items.size - i=k->i<=items.size->s.heap.IsListIter I l i/\s.heap.IsList l items->Iv i s.heap ->
   (∀ h' tk,(∀ b o,b≠S->b≠I->s.heap.get? b=some o->h'.get? b=some o)->Iv items.size h'->R (.ok (.ret .none)) {s with heap:=h',toks:=tk}) ->
   Ck (BS prog w) A (.builtin "set.update.loop" ⟨[.ref S,.ref I],[]⟩) R s:=by
 intro k;induction k with
 | zero =>
  intro i s hk hi hst hI hR;have hin:i=items.size:=le_antisymm hi (Nat.le_of_sub_eq_zero hk);subst hin;refine Ci PyProof.Rows.F.entry_set_update_loop ?_;refine (Around.under_plainId PyProof.Rows.F.plain_set_update_loop _).symm▸?_;refine BN (W.done s _ _ hst λh' tk hm=>?_);have k1:∀ b o,b≠I->s.heap.get? b=some o->h'.get? b=some o:=λb o hb e=>hm b o (by simp [hb]) e;exact BP (hR h' tk (λb o _ hb e=>k1 b o hb e) (keep _ _ _ hI ⟨_,hst.1⟩ k1))
 | succ k ih =>
  intro i s hk hi hst hI hR;have hlt:i < items.size:=Nat.sub_pos_iff_lt.mp (hk▸succ_pos k);refine Ci PyProof.Rows.F.entry_set_update_loop ?_;refine (Around.under_plainId PyProof.Rows.F.plain_set_update_loop _).symm▸?_;refine BN (W.item i s _ _ hlt hst λv h1 tk1 hv hst1 hm1=>?_);have k1:∀ b o,b≠I->s.heap.get? b=some o->h1.get? b=some o:=λb o hb e=>hm1 b o (by simp [hb]) e;have hI1:=keep _ _ _ hI ⟨_,hst.1⟩ k1;refine BN (B1 ?_);refine step i v _ _ _ hv hI1 λh2 tk2 b2 hsb hI2=>?_;have k2:∀ b o,b≠S->h1.get? b=some o->h2.get? b=some o:=λb o hb e=>(hsb.2 b hb).trans e;refine BP ⟨CL PyProof.Rows.F.plain_set_update_loop _,ih (i+1) _ ((Nat.sub_succ _ _).trans (congrArg Nat.pred hk)) hlt ?_ hI2 λh3 tk3 k3 hI3=>?_⟩
  ·exact W.frame _ h1 h2 hst1 λb hb o e=>k2 b o (by
    rcases mem_cons.mp hb with rfl | hb
    ·exact hSI.symm
    ·rcases mem_cons.mp hb with rfl | hb
     ·exact hSl.symm
     ·cases hb) e
  ·exact hR h3 tk3 (λb o hb1 hb2 e=>k3 b o hb1 hb2 (k2 b o hb1 (k1 b o hb2 e))) hI3
variable {s:BU}
theorem vV (a:BO){E:BO->BU->Prop}{Q₁:BO->BU->Prop}
  (h:Q₁ (.ref s.heap.objs.size) {s with heap:=s.heap.push {cls:=.type "set",dict:=none,data:=.set #[] 0 (.fresh 0 0 (!w.params.followText "set-order"))} }) :
  Ck (BS prog w) A (.call (.builtin "set.__new__") ⟨[.type "set",a],[]⟩) (wants Q₁ E) s:=by
 refine Dp ?_;refine BN (C1 (PySem.F.newCall_set_1 a) (BP ⟨CL PySem.F.plain_set_new _,Ci PySem.F.entry_set_new ?_⟩));refine (Around.under_plainId PySem.F.plain_set_new _).symm▸?_;have hsub:=sub_set_self;obtain ⟨hp,g,d,tk,os⟩:=s
 wp_walk
 refine CJ (BP ?_);simp only [newObj];refine BN (wpAny_alloc (BP ?_));exact BP h
end
section
variable {prog:BX}{w:BY}{A:BZ}{E:BO->BU->Prop}{s:BU}
theorem nZ {l:BQ}{items:Array BO}{Iv:Nat->BW->Prop}{Q:BO->BU->Prop}(hh:A.handled=none)(hl:s.heap.IsList l items)
  (h0:∀ h',(∀ b o,s.heap.get? b=some o->h'.get? b=some o)->h'.get? s.heap.objs.size=some {cls:=.type "set",dict:=none,data:=.set #[] 0 (.fresh 0 0 (!w.params.followText "set-order"))} -> Iv 0 h')
  (keep:∀ I i h h',Iv i h->(∃ j,h.IsListIter I l j)->(∀ b o,b≠I->h.get? b=some o->h'.get? b=some o)->I≠s.heap.objs.size->s.heap.get? I=none->Iv i h')
  (step:∀ i v (s':BU) (Q:Bool->BU->Prop) (E:BO->BU->Prop),items[i]? = some v->Iv i s'.heap->(∀ h' tk b,Heap.SameBut s.heap.objs.size s'.heap h'->Iv (i+1) h'->Q b {s' with heap:=h',toks:=tk})->BR (BS prog w) A.in1.in1.in1 (EK s.heap.objs.size v) Q E s')
  (h:∀ (h':BW) (tk:Nat),Iv items.size h'->(∀ b o,s.heap.get? b=some o->h'.get? b=some o)->Q (.ref s.heap.objs.size) {s with heap:=h',toks:=tk}) :
  BR (BS prog w) A (call (.type "set") [.ref l]) Q E s:=by
 obtain ⟨c,tl,hmro⟩:=PySem.F.called_set.mro;have hmade:=PySem.F.called_set.made;have hsub:=PySem.F.called_set.sub;refine Ef (Dp ?_);refine (?_:BR _ _ (callAny (.type "set") _) _ _ _);refine BP ⟨Code.quiet_builtin _ (by decide +kernel),Ci PySem.F.entry_type_call ?_⟩;refine (Around.under_plain (weight_type_call_type "set" [.ref l] []) rfl).symm▸?_;have h1:=PySem.F.called_set.notType;have h2:=PySem.F.called_set.canCreate;have hct:=PySem.F.typeCall_set_1 (.ref l)
 repeat (any_goals (first | assumption | wp_step))
 refine Cj (vV (.ref l) (E:=E) (Q₁:=λobj s₁=>obj = .ref s.heap.objs.size/\s₁ = {s with heap:=s.heap.push {cls:=.type "set",dict:=none,data:=.set #[] 0 (.fresh 0 0 (!w.params.followText "set-order"))} }) ⟨rfl,rfl⟩) λr s₁ hr=>?_;induction r using Except.casesOn with
 | error e=>exact hr
 | ok fl =>
  induction fl using Flow.casesOn with
  | ret obj =>
   obtain ⟨rfl,rfl⟩:=hr;generalize hled:(!w.params.followText "set-order")=led at h0;have hS:(s.heap.push {cls:=.type "set",dict:=none,data:=.set #[] 0 (.fresh 0 0 led)}).get? s.heap.objs.size=some {cls:=.type "set",dict:=none,data:=.set #[] 0 (.fresh 0 0 led)} := Heap.get?_push_size _ rfl;have hT:Shared.TypeIs {s with heap:=s.heap.push {cls:=.type "set",dict:=none,data:=.set #[] 0 (.fresh 0 0 led)} } (.ref s.heap.objs.size) "set":=⟨_,hS,rfl⟩;have hli:=PySem.F.called_set.init.lookup;have hbi:=PySem.F.called_set.init.bind (.ref s.heap.objs.size)
   repeat (any_goals (first | assumption | wp_step))
   refine Cj (codeAny_call_builtin (R:=wants (λr s₂=>r = .none/\∃ h' tk,s₂ = {s with heap:=h',toks:=tk} /\ Iv items.size h'/\(∀ b o,s.heap.get? b=some o->h'.get? b=some o)) E) PySem.F.called_set.init.plain PySem.F.entry_set_init (check_set_init_1 hT ?_)) λr₂ s₂ hr₂=>?_
   ·obtain ⟨ol,hol,hcl,nl,hdl⟩:=hl;obtain ⟨ocls,odict,odata,oslots⟩:=ol;simp only at hcl hdl;subst hcl;subst hdl;have hol':(s.heap.push {cls:=.type "set",dict:=none,data:=.set #[] 0 (.fresh 0 0 led)}).get? l=some {cls:=.type "list",dict:=odict,data:=.seq items nl,slots:=oslots} := Heap.get?_push_of_some _ hol;have hsls:=PySem.F.sub_list_set;have hslf:=PySem.F.sub_list_frozenset;have hne:(Value.type "list"==Value.type "dict")=false:=by decide
    have hl1:(s.heap.push {cls:=.type "set",dict:=none,data:=.set #[] 0 (.fresh 0 0 led)}).IsList l items:=⟨_,hol',rfl,nl,rfl⟩;unfold Builtin.«set.__init__» noKeywords Builtin.Frozenset.updateFrom;generalize hPI:Cq=PI
    wp_walk
    subst hPI;refine CB hl1 ?_;refine BN (Eo ?_);have hlS:l < s.heap.objs.size:=Heap.lt_size hol;have hh3:A.in1.in1.in1.handled=none:=by simp [hh]
    have hsz:(s.heap.push {cls:=.type "set",dict:=none,data:=.set #[] 0 (.fresh 0 0 led)}).objs.size=s.heap.objs.size+1:=Heap.size_push ..;have hneI:l≠(s.heap.push {cls:=.type "set",dict:=none,data:=.set #[] 0 (.fresh 0 0 led)}).objs.size:=by
     refine hsz.symm▸?_;exact ne_of_lt (lt_succ_of_lt hlS)
    have hSI:s.heap.objs.size≠(s.heap.push {cls:=.type "set",dict:=none,data:=.set #[] 0 (.fresh 0 0 led)}).objs.size:=by
     refine hsz.symm▸?_;exact ne_of_lt (lt_succ_self _)
    have hIf:s.heap.get? (s.heap.push {cls:=.type "set",dict:=none,data:=.set #[] 0 (.fresh 0 0 led)}).objs.size=none:=by
     cases e:s.heap.get? (s.heap.push {cls:=.type "set",dict:=none,data:=.set #[] 0 (.fresh 0 0 led)}).objs.size with
     | none=>rfl
     | some o=>exact absurd (Heap.lt_size e) (hsz▸(not_lt.mpr (le_succ _)))
    refine uo (Iv:=Iv) hSI (ne_of_gt hlS) (Walks.list hh3 _ l hneI items) (λi h h' hi hj hk=>keep _ i h h' hi hj hk hSI.symm hIf) step (items.size - 0) 0 _ (le_antisymm (bh (.v 0) (.v 0) [] rfl) (bh (.v 0) (.v 0) [] rfl)) (zero_le _)
     ⟨⟨_,Heap.get?_push_size _ rfl,rfl,rfl⟩,(hl1.push _)⟩ (h0 _ (λb o e=>Heap.get?_push_of_some _ (Heap.get?_push_of_some _ e)) (Heap.get?_push_of_some _ hS)) λh' tk hk hI=>?_
    refine BP ?_;refine BP ⟨rfl,h',tk,rfl,hI,λb o e=>?_⟩;have hb:b < s.heap.objs.size:=Heap.lt_size e;exact hk b o (ne_of_lt hb) (by refine hsz.symm▸?_;exact ne_of_lt (lt_succ_of_lt hb)) (Heap.get?_push_of_some _ (Heap.get?_push_of_some _ e))
   ·induction r₂ using Except.casesOn with
    | error e=>exact hr₂
    | ok fl₂ =>
     induction fl₂ using Flow.casesOn with
     | ret r =>
      obtain ⟨rfl,h',tk,rfl,hq⟩:=hr₂;have hI:=hq.1;have hk':=hq.2
      repeat (any_goals (first | assumption | wp_step))
      exact h _ _ hI hk'
     | _=>exact hr₂.elim
  | _=>exact hr.elim
end
section
variable {h:BW}{as:List BQ}
theorem aD.perm {u:Un}{vs ws:List BO}(p:vs.Perm ws):∀ {cs:List Nat},aD h as ws (cs.map (dec u))->∃ ds:List Nat,ds.Perm cs/\aD h as vs (ds.map (dec u)):=by
 induction p with
 | nil=>intro cs r;exact ⟨cs,List.Perm.refl _,r⟩
 | cons x p ih =>
  intro cs r;induction cs using List.casesOn with
  | nil=>cases r.nilI
  | cons c cs =>
   cases r.consI with
   | mk r rs =>
    obtain ⟨ds,hq⟩:=ih rs;have p2:=hq.1;have r2:=hq.2;exact ⟨c::ds,p2.cons _,.cons r r2⟩
 | swap x y l =>
  intro cs r;induction cs using List.casesOn with
  | nil=>cases r.nilI
  | cons c1 cs =>
  cases r.consI with
  | mk r1 r =>
  induction cs using List.casesOn with
  | nil=>cases r.nilI
  | cons c2 cs =>
  cases r.consI with
  | mk r2 rs=>exact ⟨c2::c1::cs,List.Perm.swap _ _ _,.cons r2 (.cons r1 rs)⟩
 | trans p1 p2 ih1 ih2 =>
  intro cs r;obtain ⟨ds,hq⟩:=ih2 r;have q1:=hq.1;have r1:=hq.2;obtain ⟨es,hq⟩:=ih1 r1;have q2:=hq.1;have r2:=hq.2;exact ⟨es,q2.trans q1,r2⟩
end
section
variable {prog:BX}{w:BY}{C:BQ}{h₀ h h':BW}{σ σ':Sto}{as:List BQ}{s:BU}{A:BZ}{S I:BQ}{u:Un}{led:Bool}{st:StT}
theorem pz.kp (x:pz h as S u led st)(hS:∀ o,h.get? S=some o->h'.get? S=some o)(kt:∀ a vs n,IsT h a vs n->IsT h' a vs n):pz h' as S u led st:=by
 obtain ⟨ep,es,hq⟩:=x;have hm:=hq.1;have he:=hq.2.1;have hr:=hq.2.2.1;have hin:=hq.2.2.2;exact ⟨ep,es,hm.at hS,he,hr.kp kt (prefix_refl _),hin⟩
theorem fe {es:Array (Int×BO)}{ep:Nat}{t:Cs}{ord cs:List Nat}{P:BO->BU->Prop}(hh:A.handled=none)(hm:cP s.heap S es ep t)(hf:t.fits es.size=true)
  (hr:aD s.heap as (es.toList.map (·.2)) (ord.map (dec u))) (h4:ord.length<=4) (hn:ord.Nodup) (hb:∀ c∈ord,c < bnd u)
  (hp:w.params.followText "set-order"=false->(!t.plain && decide (es.size > 1))=false->t.led=true/\∀ i,i<=es.size->SetTable.below t.place (fZ t i)=i)
  (hP:∀ L h' tk dr ws c,(∀ b o,s.heap.get? b=some o->h'.get? b=some o)->s.heap.get? L=none->h'.get? L=some {cls:=.type "list",dict:=none,data:=.seq (List.toArray ws) c,slots:=#[]} -> aD h' as ws (((List.range 4).filter λn=>ord.contains n).map (dec u))->P (.ref L) {s with heap:=h',toks:=tk,drawn:=dr}) :
  BR (BS prog w) A (call (.builtin "sorted") [.ref S]) P NoE s:=by
 have hes:es.size=ord.length:=by
  have:=hr.length;rw [length_map,length_map,length_toList] at this;exact this
 have main:∀ cs:List Nat,cs.Perm ord->d5 cs=(List.range 4).filter λn=>ord.contains n:=λcs p=>by
  have hc:∀ n,ord.contains n=cs.contains n:=λn=>by
   rw [Bool.eq_iff_iff,List.contains_iff_mem,List.contains_iff_mem];exact p.mem_iff.symm
  simp only [hc];exact fX (by rw [p.length_eq];exact h4) (λx hx=>lt_of_lt_of_le (hb x (p.mem_iff.mp hx)) (by cases u <;> decide)) (p.nodup_iff.mpr hn)
 refine fY (u:=u) (as:=as) (out:=(List.range 4).filter λn=>ord.contains n) ?_ hP;refine mA (by exact hh) hm hf (by rw [hes];exact h4) hp λvs h3 tk dr p k3=>?_;obtain ⟨ds,hq⟩:=aD.perm (u:=u) p hr;have p2:=hq.1;have r2:=hq.2;exact ⟨h3,tk,dr,ds,rfl,k3,r2.kp (λ_ _ _ e=>k3 _ _ e) (prefix_refl _),by rw [p2.length_eq];exact h4,λx hx=>hb x (p2.mem_iff.mp hx),main ds p2⟩
end
section
variable {prog:BX}{w:BY}{A:BZ}{s:BU}{as:List BQ}{u:Un}{cs:List Nat}
theorem gE {l:BQ}{items:Array BO}{P:BO->BU->Prop}(hh:A.handled=none)(hun:A.in1.in1.in1.units < CA)(hu:u.tups=true)(hl:s.heap.IsList l items)(hr:aD s.heap as items.toList (cs.map (dec u)))(hb:∀ c∈cs,c < bnd u)
  (hP:∀ L h' tk dr ws c,(∀ b o,s.heap.get? b=some o->h'.get? b=some o)->s.heap.get? L=none->h'.get? L=some {cls:=.type "list",dict:=none,data:=.seq (List.toArray ws) c,slots:=#[]} -> aD h' as ws (((List.range 4).filter λn=>cs.contains n).map (dec u))->P (.ref L) {s with heap:=h',toks:=tk,drawn:=dr}) :
  BR (BS prog w) A (call (.type "set") [.ref l]) (λsv s1=>BR (BS prog w) A (call (.builtin "sorted") [sv]) P NoE s1) NoE s:=by
 have hlen:items.size=cs.length:=by
  have:=hr.length;(replace this:=(length_map _)▸this;replace this:=(length_toList)▸this);exact this
 let S:=s.heap.objs.size
 let led := !w.params.followText "set-order"
 refine nZ (Iv:=λi h=>(∀ b o,s.heap.get? b=some o->h.get? b=some o)/\∃ st,pz h as S u led st/\∀ k,k < 4->st.2.contains k=(cs.take i).contains k) hh hl ?_ ?_ ?_ ?_
 ·intro h' k hS;refine ⟨k,([],[]),⟨0,#[],⟨_,hS,⟨rfl,rfl,rfl⟩,rfl⟩,rfl,.nil,?_⟩,λ_ _=>rfl⟩;induction u using Un.casesOn with
  | one=>exact List.contains_iff_mem.mp (kF led).1
  | two=>exact List.contains_iff_mem.mp (kF led).2
  | str=>cases hu
 ·rintro I i h h' ⟨k,st,T,hc⟩ ⟨j,hj⟩ kp hI hIf;have kt:∀ a vs n,IsT h a vs n->IsT h' a vs n:=λa vs n e=>kp a _ (λq=>by
   obtain ⟨o,hq⟩:=hj;have ho:=hq.1;have hcl:=hq.2.1;have e':h.get? a=_:=e;(replace e':=q▸e';replace e':=ho▸e');(have:=Option.some.inj e';subst this);exact absurd hcl (by simp)) e
  refine ⟨λb o e=>kp b o (λq=>by (replace e:=q▸e;replace e:=hIf▸e);exact an e) (k b o e),st,T.kp (λo e=>kp _ o hI.symm e) kt,hc⟩
 ·rintro i v s' Q E hv ⟨k,st,T,hc⟩ hQ;have hi:i < cs.length:=hlen▸((Array.getElem?_eq_some_iff.mp hv).1);obtain ⟨v',hq⟩:=hr.get (j:=i) (d:=dec u cs[i]) (by (refine (List.getElem?_map).symm▸?_;exact (List.getElem?_eq_getElem hi).symm▸rfl));have e1:=hq.1;have e2:=hq.2;(replace e1:=(Array.getElem?_toList)▸e1;replace e1:=hv▸e1);(have:=Option.some.inj e1;subst this);have hci:=hb _ (List.getElem_mem hi);refine oX (as:=as) (c:=cs[i]) hun hu T (e2.kp (λ_ _ _ e=>k _ _ e) (prefix_refl _)) hci λh' tk st' b ha hsb T'=>hQ h' tk b hsb ⟨λb o e=>?_,st',T',λq hq=>?_⟩
  ·exact (hsb.2 b (ne_of_lt (Heap.lt_size e))).trans (k b o e)
  ·obtain ⟨ep,es,_,_,_,hin⟩:=T;obtain ⟨x,hx,_,hmem⟩:=(gt hu hin).add cs[i] hci;replace hx:=ha▸hx;(have:=Option.some.inj hx;subst this);(refine (hmem q hq).symm▸?_;refine (hc q hq).symm▸?_;refine (List.take_add_one).symm▸?_;refine (List.getElem?_eq_getElem hi).symm▸?_);rw [Bool.eq_iff_iff,or_eq_true,List.contains_iff_mem,List.contains_iff_mem,mem_append];simp
 ·rintro h' tk ⟨k,st,⟨ep,es,hm,he,hr2,hin⟩,hc⟩ _;have G:=gt hu hin;have hes:es.size=st.1.length:=by
   have:=congrArg List.length he;(replace this:=(length_map _)▸this;replace this:=(length_map _)▸this;replace this:=(length_toList)▸this);(refine this.symm▸?_;exact (G.len).symm▸rfl)
  have hall:((List.range 4).filter λn=>st.2.contains n)=(List.range 4).filter λn=>cs.contains n:=by
   apply List.filter_congr;intro n hn;rw [hc n (mem_range.mp hn),take_of_length_le (by exact a5 (.v 0) (.v 1) [(1,.v 0,.v 1)] rfl (le_of_eq hlen.symm))]
  refine fe (cs:=cs) (s:={s with heap:=h',toks:=tk}) hh hm (hes▸G.fits) hr2 G.few G.nodup G.bound (λht _=>⟨?_,λi hi=>G.walk i (aZ (.v 0) (.v 1) [(1,.v 2,.v 1),(1,.v 0,.v 2)] rfl (le_of_eq hes) hi)⟩) λL h3 tk3 dr ws c k3 hL e rw'=>?_
  ·refine (?_:(!w.params.followText "set-order")=true);exact ht▸rfl
  ·replace rw':=hall▸rw';refine hP L h3 tk3 dr ws c (λb o e=>k3 _ _ (k _ _ e)) ?_ e rw';cases e2:s.heap.get? L with
   | none=>rfl
   | some o=>have:=k _ _ e2;rw [(hL:h'.get? L=none)] at this;exact an this
end
theorem oN (led:Bool)(h:Int):∃ j,(SetTable.fresh 0 0 led).freeSlot h=some (j,false):=⟨_,rfl⟩
structure AE (led:Bool)(n:Nat)(t:Cs):Prop where
 dum:t.dummies = #[]
 low:n<=1->t.led=led/\t.mask=7
 pln:1<=n->t.plain=false
 nil:n=0->t=SetTable.fresh 0 0 led
theorem xH {t:Cs}(h:t.dummies = #[])(j:Nat):(t.put j).1.dummies = #[]:=by
 refine (?_:(if SetTable.has t.dummies j then SetTable.eraseAt t.dummies (SetTable.below t.dummies j) else t.dummies) = #[]);exact h.symm▸rfl
theorem w7 {led:Bool}{n:Nat}{t:Cs}{es:Array (Int×BO)}{h:Int}{x:BO}(T:AE led n t)(hn:es.size=n)(h2:n<=1) :
  AE led (n+1) { (CZ t es h x).2.1 with plain:=false} /\ ({ (CZ t es h x).2.1 with plain:=false} : Cs).tooFull=false:=by
 have hfit:=layNew_fits t es h x;have hsz:(CZ t es h x).1.size=n+1:=by
  have:=(D2 t es h x).length_eq;(replace this:=(length_toList)▸this;replace this:=(length_toList)▸this;replace this:=(size_push _)▸this);exact le_antisymm (aZ (.v 0) (.a (.v 1) (.n 1)) [(1,.v 2,.v 1),(1,.v 0,(.a (.v 2) (.n 1)))] rfl (le_of_eq hn) (le_of_eq this)) (aZ (.a (.v 0) (.n 1)) (.v 1) [(1,.v 0,.v 2),(1,(.a (.v 2) (.n 1)),.v 1)] rfl (le_of_eq hn.symm) (le_of_eq this.symm))
 replace hfit:=hsz▸hfit;have key:(CZ t es h x).2.1.dummies = #[]/\7<=(CZ t es h x).2.1.mask/\(n=0->(CZ t es h x).2.1.led=led/\(CZ t es h x).2.1.mask=7):=by
  obtain ⟨hl,hm⟩:=T.low h2;unfold CZ;split
  ·rename_i slot wd hf;dsimp only;unfold SetTable.orStandIn;split
   ·exact ⟨xH T.dum slot,le_of_eq hm.symm,λ_=>⟨hl,hm⟩⟩
   ·rename_i hno;have hs:(SetTable.insertAt es (t.put slot).2 (h,x)).size=n+1:=by
     have:=(D2 t es h x).length_eq;unfold CZ at this;rw [hf] at this;dsimp only at this;(replace this:=(length_toList)▸this;replace this:=(length_toList)▸this;replace this:=(size_push _)▸this);exact le_antisymm (aZ (.v 0) (.a (.v 1) (.n 1)) [(1,.v 2,.v 1),(1,.v 0,(.a (.v 2) (.n 1)))] rfl (le_of_eq hn) (le_of_eq this)) (aZ (.a (.v 0) (.n 1)) (.v 1) [(1,.v 0,.v 2),(1,(.a (.v 2) (.n 1)),.v 1)] rfl (le_of_eq hn.symm) (le_of_eq this.symm))
    rw [hs] at hno ⊢;refine ⟨rfl,(by show 7<=4 * (n+1)+4;exact bh (.n 7) (.a (.m 4 (.a (.v 0) (.n 1))) (.n 4)) [] rfl),λh0=>?_⟩;exfalso;apply hno;subst h0;have ht:=T.nil rfl;have he:es = #[]:=Array.size_eq_zero_iff.mp hn;subst ht;subst he;rfl
  ·rename_i hf;refine ⟨rfl,(by show 7<=4 * (es.size+1)+4;exact bh (.n 7) (.a (.m 4 (.a (.v 0) (.n 1))) (.n 4)) [] rfl),λh0=>?_⟩;exfalso;subst h0;obtain ⟨j,hj⟩:=oN led h;replace hf:=(T.nil rfl)▸hf;replace hf:=hj▸hf;cases hf
 obtain ⟨k1,k2,k3⟩:=key;generalize (CZ t es h x).2.1=t1 at hfit k1 k2 k3;simp only [SetTable.fits,and_eq_true,beq_iff_eq,decide_eq_true_eq] at hfit;refine ⟨⟨k1,λh=>k3 (le_antisymm (bh (.v 0) (.n 0) [(1,(.a (.v 0) (.n 1)),.n 1)] rfl h) (bh (.n 0) (.v 0) [] rfl)),λ_=>rfl,λh=>Nat.noConfusion h⟩,?_⟩;refine (?_:decide ((t1.place.size+t1.dummies.size) * 5 ≥ t1.mask * 3)=false);(refine k1.symm▸?_;refine (hfit.1).symm▸?_);apply decide_eq_false;refine (?_:¬ (n+1+0) * 5 ≥ t1.mask * 3);exact Nat.not_le.mpr (lt_of_le_of_lt (mul_le_mul_right 5 (succ_le_succ h2)) (lt_of_lt_of_le (by decide) (mul_le_mul_right 3 k2)))
section
variable {prog:BX}{w:BY}{A:BZ}{E:BO->BU->Prop}{s:BU}{as:List BQ}{S:BQ}{led:Bool}{ord:List Nat}
noncomputable def kT (prog:BX)(w:BY)(h:BW)(as:List BQ)(S:BQ)(led:Bool)(ord:List Nat):Prop :=
 ∃ ep es t,cP h S es ep t/\ElemsOf (PySem.strKind prog w) es.toList/\aD h as (es.toList.map (·.2)) (ord.map (dec .str))/\t.fits es.size=true/\ord.Nodup/\(∀ c∈ord,c < 2)/\AE led ord.length t
theorem kT.kp {h h':BW}(x:kT prog w h as S led ord)(hS:∀ o,h.get? S=some o->h'.get? S=some o)(kt:∀ a vs n,IsT h a vs n->IsT h' a vs n):kT prog w h' as S led ord:=by
 obtain ⟨ep,es,t,hq⟩:=x;have hm:=hq.1;have he:=hq.2.1;have hr:=hq.2.2.1;have r:=hq.2.2.2;exact ⟨ep,es,t,hm.at hS,he,hr.kp kt (prefix_refl _),r⟩
noncomputable def gT (c:Nat):Str:=if c=0 then "x" else "y"
theorem tf:∀ a b:Fin 2,gT a.val=gT b.val->a=b:=by decide +kernel
theorem qd (c:Nat):dec .str c = .str (gT c):=rfl
theorem rX {h:BW}{es:List (Int×BO)}(hr:aD h as (es.map (·.2)) (ord.map (dec .str)))(hb:∀ c∈ord,c < 2){c:Nat}(hc:c < 2) :
  (∃ e∈es,(PySem.strKind prog w).is (gT c) e.2=true) ↔ c∈ord:=by
 induction es generalizing ord with
 | nil =>
  induction ord using List.casesOn with
  | nil=>simp
  | cons a r=>cases hr
 | cons e es ih =>
  induction ord using List.casesOn with
  | nil=>cases hr
  | cons a r =>
   cases hr.consI with
   | mk r1 rs =>
    have h1:=ih rs (λc h=>hb c (.tail _ h));have ha:=hb a (.head _);have hea:(PySem.strKind prog w).is (gT c) e.2=true ↔ c=a:=by
     obtain ⟨h0,v⟩:=e;replace r1:=(qd _)▸r1;cases ((r1:Rep h as v (.str (gT a))));refine (?_:(gT a==gT c)=true ↔ c=a);rw [beq_iff_eq];exact ⟨λq=>(Fin.mk.inj (tf ⟨a,ha⟩ ⟨c,hc⟩ q)).symm,λq=>q▸rfl⟩
    constructor
    ·rintro ⟨x,hx,hp⟩;rcases mem_cons.mp hx with rfl | hx
     ·exact mem_cons.mpr (.inl (hea.mp hp))
     ·exact mem_cons.mpr (.inr (h1.mp ⟨x,hx,hp⟩))
    ·intro hm;rcases mem_cons.mp hm with q | hm
     ·exact ⟨e,.head _,hea.mpr q⟩
     ·obtain ⟨x,hq⟩:=h1.mpr hm;have hx:=hq.1;have hp:=hq.2;exact ⟨x,.tail _ hx,hp⟩
theorem xe (hn:ord.Nodup)(hb:∀ c∈ord,c < 2){c:Nat}(hc:c < 2)(hi:c ∉ ord):ord.length<=1:=by
 have h:=List.Nodup.length_le_of_subset (l₂:=(List.range 2).erase c) hn (λx hx=>by
  rw [List.Nodup.mem_erase_iff (List.nodup_range)];exact ⟨λq=>hi (q▸hx),mem_range.mpr (hb x hx)⟩)
 rw [List.length_erase_of_mem (mem_range.mpr hc)] at h;simpa using h
theorem om {x:BO}{c:Nat}(I:kT prog w s.heap as S led ord)(r:Rep s.heap as x (dec .str c))(hc:c < 2){Q:Bool->BU->Prop}
  (hQ:∀ h' tk ord' b,(∀ k,ord'.contains k=(ord.contains k || k==c))->Heap.SameBut S s.heap h'->kT prog w h' as S led ord'->Q b {s with heap:=h',toks:=tk}):BR (BS prog w) A (EK S x) Q E s:=by
 have hI:=I;obtain ⟨ep,es,t,hq⟩:=I;have hm:=hq.1;have hel:=hq.2.1;have hr:=hq.2.2.1;have hf:=hq.2.2.2.1;have hn:=hq.2.2.2.2.1;have hb:=hq.2.2.2.2.2.1;have T:=hq.2.2.2.2.2.2;obtain ⟨o,hq⟩:=id hm;have ho:=hq.1;have hex:=hq.2.1;have hd:=hq.2.2;have hes:es.size=ord.length:=by
  have:=hr.length;(replace this:=(length_map _)▸this;replace this:=(length_map _)▸this;replace this:=(length_toList)▸this);exact this
 replace r:=(qd _)▸r;cases r with
 | str _ tk0 =>
 have hkey:(PySem.strKind prog w).is (gT c) (Value.str (gT c) tk0)=true:=by
  exact beq_iff_eq.mpr rfl
 have hsc:(Value.str (gT c) tk0).scannable=true:=rfl;have hbd:es.size < scanBound:=by
  have h5:ord.length<=2:=by
   have h:=List.Nodup.length_le_of_subset (l₂:=List.range 2) hn (λx hx=>mem_range.mpr (hb x hx));simpa using h
  have:scanBound=4096:=rfl;exact aZ (.a (.v 0) (.n 1)) (.v 1) [(1,.v 0,.v 2),(1,.v 2,.n 2),(1,.n 4096,.v 1)] rfl (le_of_eq hes) h5 (le_of_eq this.symm)
 refine B1 ?_;refine BN ((PySem.strKind prog w).pyHash hkey ?_);refine B1 (BN (B5 (s:={s with toks:=s.toks+1}) ho hd hf ?_));refine (byScan_of hsc hbd hel).symm▸?_;simp only [↓reduceIte];refine BN ?_;refine BN (C6 ?_);refine BN (wpAny_setScan_of (s:={s with toks:=s.toks+1}) hkey ho hd hf hel ?_);cases hrr:List.findIdx? (λe=>(PySem.strKind prog w).is (gT c) e.2) es.toList with
 | some j =>
  have hq:=List.findIdx?_eq_some_iff_getElem.mp hrr;have hj:=hq.1;have hpj:=hq.2.1;have hin:c∈ord:=(rX (prog:=prog) (w:=w) hr hb hc).mp ⟨es.toList[j],List.getElem_mem hj,hpj⟩;refine BP (BP ?_);refine hQ s.heap (s.toks+1) ord false (λk=>?_) (Heap.SameBut.refl S s.heap) hI;rw [Bool.eq_iff_iff,or_eq_true,beq_iff_eq];exact ⟨.inl,λq=>q.elim id (λq=>by rw [q,List.contains_iff_mem];exact hin)⟩
 | none =>
  have hni:c ∉ ord:=λq=>by
   obtain ⟨e,hq⟩:=(rX (prog:=prog) (w:=w) hr hb hc).mpr q;have he:=hq.1;have hp:=hq.2;have:=List.findIdx?_eq_none_iff.mp hrr e he;replace this:=hp▸this;exact Bool.noConfusion this
  have h1:=xe hn hb hc hni;have hq:=w7 (h:=(PySem.strKind prog w).hash (gT c)) (x:=Value.str (gT c) tk0) T hes h1;have T2:=hq.1;have htf:=hq.2;have hperm:=D2 t es ((PySem.strKind prog w).hash (gT c)) (Value.str (gT c) tk0);have hfits:=layNew_fits t es ((PySem.strKind prog w).hash (gT c)) (Value.str (gT c) tk0);generalize hL:CZ t es ((PySem.strKind prog w).hash (gT c)) (Value.str (gT c) tk0)=L at hperm hfits T2 htf ⊢;obtain ⟨es1,t1,wasDummy,gave⟩:=L;dsimp only at hperm hfits T2 htf ⊢;replace hperm:=(Array.toList_push)▸hperm;have hel1:ElemsOf (PySem.strKind prog w) es1.toList:=(hel.push hkey hsc).perm hperm;have hsz1:es1.size=ord.length+1:=by (refine (length_toList)▸?_;refine (hperm.length_eq).symm▸?_;refine (length_append).symm▸?_;refine (length_toList).symm▸?_;exact hes.symm▸rfl)
  refine BN (m:=match (generalizing:=false) gave with | true=>rule "set.scan.the-table-gave-way" | false=>pure ()) ?_;have hgw:∀ {s₁:BU} {Q':Unit->BU->Prop},Q' () s₁->BR (BS prog w) A (match (generalizing:=false) gave with | true=>rule "set.scan.the-table-gave-way" | false=>pure ()) Q' E s₁ :=
   λhq=>by cases gave <;> first | exact BP hq | exact C6 hq
  refine hgw ?_;have hr1:aD s.heap as ((es.toList++[((PySem.strKind prog w).hash (gT c),Value.str (gT c) tk0)]).map (·.2)) ((ord++[c]).map (dec .str)):=by
   (refine (map_append).symm▸?_;refine (map_append).symm▸?_);exact hr.append (.cons (.str _ _) .nil)
  obtain ⟨ord',hq⟩:=aD.perm (u:=.str) (hperm.map (·.2)) hr1;have po:=hq.1;have hr2:=hq.2;have fin:∀ tt,t1.plain=tt->({t1 with plain:=false} : Cs).fits es1.size=true:=λ_ _=>SetTable.fits_plain_off hfits;have store:∀ (Q9:Option Bool->BU->Prop),(∀ h',Heap.SameBut S s.heap h'->kT prog w h' as S led ord'->Q9 (some true) {s with heap:=h',toks:=s.toks+1}) ->
    BR (BS prog w) A (do
     storeSet S es1 {t1 with plain:=false}
     if (!wasDummy && SetTable.tooFull {t1 with plain:=false})=true then do
      (match (generalizing:=false) (EJ {t1 with plain:=false} es1 (SetTable.grown es1.size)).2.2 with | true=>rule "set.scan.the-table-gave-way" | false=>pure ())
      storeSet S (EJ {t1 with plain:=false} es1 (SetTable.grown es1.size)).1 (EJ {t1 with plain:=false} es1 (SetTable.grown es1.size)).2.1
      pure (some true)
     else pure (some true)) Q9 E {s with toks:=s.toks+1} := λQ9 hQ9=>by
   refine BN (D0 (s:={s with toks:=s.toks+1}) ho hd ?_ (by refine sizeLine_eq.symm▸?_;exact a5 (.v 0) (.n 16777216) [(1,.v 1,.n 1),(1,.v 0,(.a (.v 1) (.n 1)))] rfl h1 (le_of_eq hsz1)));refine Cy (decide_eq_false (by refine htf.symm▸?_;simp)) ?_;refine BP (hQ9 _ (Heap.SameBut.update ..) ?_);have hsb:=Heap.SameBut.update s.heap S (Obj.putSet es1 {t1 with plain:=false});have hg:(s.heap.update S (Obj.putSet es1 {t1 with plain:=false})).get? S=some {o with data:=.set es1 (ep+1) {t1 with plain:=false} } := by
    have:=Heap.get?_update_self (Obj.putSet es1 {t1 with plain:=false}) ho ((DT _ _ hd)▸rfl);exact (DT _ _ hd)▸this
   refine ⟨ep+1,es1,_,⟨_,hg,hex,rfl⟩,hel1,hr2.kp (λb vs n e=>?_) (prefix_refl _),fin _ rfl,po.nodup_iff.mpr ?_,λk hk=>?_,?_⟩
   ·refine (hsb.2 b (λq=>?_)).trans e;have e':s.heap.get? b=_:=e;(replace e':=q▸e';replace e':=ho▸e');(have:=Option.some.inj e';subst this);exact absurd hex.1 (by simp)
   ·rw [nodup_append];exact ⟨hn,by simp,λa ha b hb' q=>by rw [mem_singleton] at hb';subst hb';subst q;exact hni ha⟩
   ·rcases mem_append.mp (po.mem_iff.mp hk) with hk | hk
    ·exact hb k hk
    ·rw [mem_singleton] at hk;exact hk▸hc
   ·(refine (po.length_eq).symm▸?_;refine (length_append).symm▸?_);exact T2
  have done:∀ h',Heap.SameBut S s.heap h'->kT prog w h' as S led ord'->Q true {s with heap:=h',toks:=s.toks+1} := λh' a b=>hQ h' _ ord' true (λk=>by
   rw [Bool.eq_iff_iff,or_eq_true,List.contains_iff_mem,List.contains_iff_mem,beq_iff_eq,po.mem_iff,mem_append,mem_singleton]) a b
  cases hpl:t1.plain with
  | true =>
   simp only [↓reduceIte];refine (hashByValue_scannable 8 hsc).symm▸?_;refine BN (BP ?_);rw [show plainKind (Value.str (gT c) tk0)=false from rfl];simp only [false_eq_true,↓reduceIte];exact store _ λh' a b=>BP (done h' a b)
  | false =>
   have htt:t1 = {t1 with plain:=false} := by cases t1;subst hpl;rfl
   simp only [false_eq_true,↓reduceIte];refine BN (BP ?_);refine htt.symm▸?_;simp only [↓reduceIte];exact store _ λh' a b=>BP (done h' a b)
variable {cs:List Nat}
theorem mw {l:BQ}{items:Array BO}{P:BO->BU->Prop}(hh:A.handled=none)(hl:s.heap.IsList l items)(hr:aD s.heap as items.toList (cs.map (dec .str)))(hb:∀ c∈cs,c < 2)
  (hP:∀ L h' tk dr ws c,(∀ b o,s.heap.get? b=some o->h'.get? b=some o)->s.heap.get? L=none->h'.get? L=some {cls:=.type "list",dict:=none,data:=.seq (List.toArray ws) c,slots:=#[]} -> aD h' as ws (((List.range 4).filter λn=>cs.contains n).map (dec .str))->P (.ref L) {s with heap:=h',toks:=tk,drawn:=dr}) :
  BR (BS prog w) A (call (.type "set") [.ref l]) (λsv s1=>BR (BS prog w) A (call (.builtin "sorted") [sv]) P NoE s1) NoE s:=by
 have hlen:items.size=cs.length:=by
  have:=hr.length;rw [length_map,length_toList] at this;exact this
 let S:=s.heap.objs.size
 let led := !w.params.followText "set-order"
 refine nZ (Iv:=λi h=>(∀ b o,s.heap.get? b=some o->h.get? b=some o)/\∃ ord,kT prog w h as S led ord/\∀ k,ord.contains k=(cs.take i).contains k) hh hl ?_ ?_ ?_ ?_
 ·intro h' k hS;refine ⟨k,[],⟨0,#[],_,⟨_,hS,⟨rfl,rfl,rfl⟩,rfl⟩,λe he=>(by simp at he),.nil,rfl,nodup_nil,λc hc=>(by simp at hc),⟨rfl,λ_=>⟨rfl,rfl⟩,λh=>(by simp at h),λ_=>rfl⟩⟩,λ_=>rfl⟩
 ·rintro I i h h' ⟨k,ord,T,hc⟩ ⟨j,hj⟩ kp hI hIf;have kt:∀ a vs n,IsT h a vs n->IsT h' a vs n:=λa vs n e=>kp a _ (λq=>by
   obtain ⟨o,ho,hcl,_⟩:=hj;have e':h.get? a=_:=e;rw [q,ho] at e';(have:=Option.some.inj e';subst this);exact absurd hcl (by simp)) e
  exact ⟨λb o e=>kp b o (λq=>by rw [q,hIf] at e;exact an e) (k b o e),ord,T.kp (λo e=>kp _ o hI.symm e) kt,hc⟩
 ·rintro i v s' Q E hv ⟨k,ord,T,hc⟩ hQ;have hi:i < cs.length:=hlen▸((Array.getElem?_eq_some_iff.mp hv).1);obtain ⟨v',e1,e2⟩:=hr.get (j:=i) (d:=dec .str cs[i]) (by rw [List.getElem?_map,List.getElem?_eq_getElem hi];rfl);rw [Array.getElem?_toList,hv] at e1;(have:=Option.some.inj e1;subst this);have hci:=hb _ (List.getElem_mem hi);refine om (as:=as) (c:=cs[i]) T (e2.kp (λ_ _ _ e=>k _ _ e) (prefix_refl _)) hci λh' tk ord' b hmem hsb T'=>hQ h' tk b hsb ⟨λb o e=>?_,ord',T',λq=>?_⟩
  ·exact (hsb.2 b (ne_of_lt (Heap.lt_size e))).trans (k b o e)
  ·rw [hmem q,hc q,List.take_add_one,List.getElem?_eq_getElem hi];rw [Bool.eq_iff_iff,or_eq_true,List.contains_iff_mem,List.contains_iff_mem,mem_append];simp
 ·rintro h' tk ⟨k,ord,⟨ep,es,t,hm,hel,hr2,hf,hn,hbo,T⟩,hc⟩ _;have hes:es.size=ord.length:=by
   have:=hr2.length;rw [length_map,length_map,length_toList] at this;exact this
  have h5:ord.length<=2:=by
   have h:=List.Nodup.length_le_of_subset (l₂:=List.range 2) hn (λx hx=>mem_range.mpr (hbo x hx));simpa using h
  have hall:((List.range 4).filter λn=>ord.contains n)=(List.range 4).filter λn=>cs.contains n:=by
   apply List.filter_congr;intro n hn;rw [hc n,take_of_length_le (by exact a5 (.v 0) (.v 1) [(1,.v 0,.v 1)] rfl (le_of_eq hlen.symm))]
  refine fe (u:=.str) (cs:=cs) (s:={s with heap:=h',toks:=tk}) hh hm hf hr2 (bh (.v 0) (.n 4) [(1,.v 0,.n 2)] rfl h5) hn hbo (λht hpl=>?_) λL h3 tk3 dr ws c k3 hL e rw'=>?_
  ·have h6:es.size<=1:=by
    rcases Nat.lt_or_ge 1 es.size with h | h
    ·rw [T.pln (a5 (.n 1) (.v 0) [(1,.v 1,.v 0),(1,(.a (.n 1) (.n 1)),.v 1)] rfl (le_of_eq hes) h)] at hpl;simp at hpl;exact lin [_] 0 (.v 0) (.n 1) [(1,(.a (.n 1) (.n 1)),.v 0),(1,.v 0,.n 1)] rfl h hpl
    ·exact h
   have hpz:t.place.size=es.size:=by
    simp only [SetTable.fits,and_eq_true,beq_iff_eq] at hf;exact hf.1
   refine ⟨?_,λi hi=>?_⟩
   ·rw [(T.low (a5 (.v 0) (.n 1) [(1,.v 0,.v 1),(1,.v 1,.n 1)] rfl (le_of_eq hes.symm) h6)).1];show (!w.params.followText "set-order")=true;exact ht▸rfl
   ·have walk:∀ (p:Array Nat),p.size<=1->∀ i,i<=p.size->SetTable.below p (match i with | 0=>0 | i+1=>p.getD i 0+1)=i:=λp hp i hi=>by
     have b1:∀ a j,SetTable.below ⟨[a]⟩ j=if a < j then 1 else 0:=λa j=>by kernel_rfl
     obtain ⟨l⟩:=p;induction l using iD with
     | h0=>(have:=le_zero.mp hi;subst this;rfl)
     | h1 a =>
      obtain rfl | rfl:i=0\/i=1:=lt2 (P:=λi=>i=0\/i=1) (Nat.lt_succ_of_le hi) (.inl rfl) (.inr rfl)
      ·exact (b1 a 0).trans (if_neg (Nat.not_lt_zero _))
      ·exact (b1 a (a+1)).trans (if_pos (lt_succ_self _))
     | h2=>exact absurd (Nat.le_of_succ_le_succ hp) (not_succ_le_zero _)
     | h3=>exact absurd (Nat.le_of_succ_le_succ hp) (not_succ_le_zero _)
    have:=walk t.place (a5 (.v 0) (.n 1) [(1,.v 1,.n 1),(1,.v 0,.v 1)] rfl h6 (le_of_eq hpz)) i (aZ (.v 0) (.v 1) [(1,.v 2,.v 1),(1,.v 0,.v 2)] rfl (le_of_eq hpz.symm) hi);cases i <;> exact this
  ·rw [hall] at rw';refine hP L h3 tk3 dr ws c (λb o e=>k3 _ _ (k _ _ e)) ?_ e rw';cases e2:s.heap.get? L with
   | none=>rfl
   | some o=>have:=k _ _ e2;rw [show h'.get? L=none from hL] at this;exact an this
end
section
variable {prog:BX}{w:BY}{C:BQ}{h₀ h:BW}{σ σ':Sto}{as as':List BQ}{s s':BU}{A:BZ}{d:D}{n t:Nat}
theorem kj {l l':List D}{σ σ':Sto}(e0:cV l σ=some (l',σ')):σ'=σ/\∃ (u:Un) (cs:List Nat),l=cs.map (dec u)/\(∀ x∈cs,x < bnd u)/\l'=((List.range 4).filter λn=>cs.contains n).map (dec u):=by
 obtain ⟨_,σ1,e1,e⟩:=bA e0;obtain ⟨h4,h9⟩:=dO e1;obtain ⟨⟨u,cs⟩,σ2,e2,e3⟩:=bA e;obtain ⟨h1,rfl⟩:=cK e2;subst h9;(refine aj e3 ?_);clear e3;obtain ⟨rfl,hb⟩:=n6 h1;exact ⟨rfl,u,cs,rfl,hb,rfl⟩
theorem oU (hr:dP A n){a:D}{v:BO}(e:(do mkList (<- cV (<- qb a)):PM D) σ=some (d,σ'))(R:Rel prog w C h₀ σ as s.heap)(r:Rep s.heap as v a) :
  BR (BS prog w) A (call (.type "set") [v]) (λsv s1=>BR (BS prog w) A (call (.builtin "sorted") [sv]) (Ans prog w C h₀ σ as s σ' d) NoE s1) NoE s:=by
 (refine ac e ?_);clear e;rintro l σ1 e1 e;(refine ac e ?_);clear e;rintro l' σ2 e2 e;obtain ⟨z,rfl,rfl⟩:=bH e;obtain ⟨rfl,u,cs,hl,hb,rfl⟩:=kj e2;have hh:=hr.handled;have hun:A.in1.in1.in1.units < CA:=by have:=hr.units;simp only [Around.in1_units];exact aZ (.a (.a (.a (.a (.v 0) (.n 1)) (.n 1)) (.n 1)) (.n 1)) (.v 1) [(1,(.a (.a (.a (.v 0) (.n 100)) (.m 40 (.v 2))) (.n 1)),.v 1)] rfl this
 obtain ⟨k,rfl⟩:∃ k,a = .ref k:=by
  induction a using D.casesOn with
  | ref k=>exact ⟨k,rfl⟩
  | _=>exact af (σ:=σ) e1
 obtain ⟨⟨vv,hx⟩,rfl⟩:=iY e1;have fin:∀ L h' tk dr ws c,(∀ b o,s.heap.get? b=some o->h'.get? b=some o)->s.heap.get? L=none->h'.get? L=some {cls:=.type "list",dict:=none,data:=.seq (List.toArray ws) c,slots:=#[]} -> aD h' as ws (((List.range 4).filter λn=>cs.contains n).map (dec u))->∀ σ9,Rel prog w C h₀ σ9 as s.heap ->
   Ans prog w C h₀ σ9 as s (σ9++[(.list (((List.range 4).filter λn=>cs.contains n).map (dec u)),0)]) (.ref σ9.length) (.ref L) {s with heap:=h',toks:=tk,drawn:=dr} := λL h' tk dr ws c k hL e rw' σ9 R =>
  ⟨as++[L],(Go.drew R dr (λ_ _ x=>x)).trans (Go.push (s:={s with drawn:=dr}) R k hL (.list e (rw'.kp (λ_ _ _ x=>x) (prefix_append _ _)) (le_succ_of_le z))),R.newRef _ _⟩
 cases r.refI with
 | @mk t ka =>
 cases R.objs _ _ _ _ hx ka with
 | @list vs m _ g rr zz =>
 rw [hl] at rr;have hil:s.heap.IsList t vs:=⟨_,g,rfl,m,rfl⟩;induction u using Un.casesOn with
 | str=>exact mw (as:=as) hh hil rr hb λL h' tk dr ws c k hL e rw'=>fin L h' tk dr ws c k hL e rw' _ R
 | one=>exact gE (as:=as) (u:=.one) hh hun rfl hil rr hb λL h' tk dr ws c k hL e rw'=>fin L h' tk dr ws c k hL e rw' _ R
 | two=>exact gE (as:=as) (u:=.two) hh hun rfl hil rr hb λL h' tk dr ws c k hL e rw'=>fin L h' tk dr ws c k hL e rw' _ R
theorem xT (hr:dP A n):pL prog w C h₀ A where
 sorted:=λ_ _ _ _ _ _ _ e R r=>q9 hr e R r
 sortSet:=λ_ _ _ _ _ _ _ e R r=>oU hr e R r
 items:=λ_ _ _ _ _ _ _ _ _ hx ka e R=>qu hr hx ka e R
end
section
variable {prog:BX}{w:BY}{A:BZ}{s:BU}
theorem kH {h:BW}{d:BQ}{kvs:List (Str×BO)}{name:Str}{v:BO}(tk:Tok)(hm:h.DictOf (PySem.strKind prog w) d kvs)(hz:kvs.length<=900) :
  ∃ o es ep,h.get? d=some o/\o.data = .dict es ep/\(DN name es=false) /\
   (h.update d (Obj.putName name ((PySem.strKind prog w).hash name) (.str name tk) v)).DictOf (PySem.strKind prog w) d (Cx kvs name v) /\
   ∃ o',(h.update d (Obj.putName name ((PySem.strKind prog w).hash name) (.str name tk) v)).get? d=some o'/\o'.data.pastItsLine=none:=by
 obtain ⟨o,es,ep,hq⟩:=hm;have ho:=hq.1;have hc:=hq.2.1;have hd:=hq.2.2.1;have hk:=hq.2.2.2.1;have hp:=hq.2.2.2.2.1;have hn:=hq.2.2.2.2.2;have hkey:(PySem.strKind prog w).is name (.str name tk)=true:=beq_iff_eq.mpr rfl;have hes:es.size<=900:=by
  have e1:=hp.length;have e2:es.toList.length=es.size:=by simp
  exact aZ (.v 0) (.n 900) [(1,.v 1,.n 900),(1,.v 2,.v 1),(1,.v 0,.v 2)] rfl hz (le_of_eq e1) (le_of_eq e2.symm)
 have hsame:(λe:Cw=>e.key.isStr name)=λe=>(PySem.strKind prog w).is name e.key:=by
  funext e;refine (?_:e.key.isStr name=Value.isStrOf name e.key);cases e.key <;> rfl
 have hidx:(es.findIdx? λe=>(PySem.strKind prog w).is name e.key)=kvs.findIdx? λkv=>decide (kv.1=name):=by
  refine (hp.findIdx name)▸?_;obtain ⟨l⟩:=es;simp
 have href:DN name es=false:=by
  refine (aRefKeyMayBeTheName_at _ _).symm▸?_;have:es.any (·.refKey)=false:=by
   rw [Array.any_eq_false'];intro e he;obtain ⟨k,hq⟩:=hk e he;have hk1:=hq.1;obtain ⟨t,ht⟩:=Value.isStrOf_shape hk1;simp [DictEntry.refKey,ht]
  (refine this.symm▸?_;exact (Bool.and_false _).symm▸rfl)
 obtain ⟨c,dd,dt,sl⟩:=o;dsimp only at hd;subst hd;refine ⟨_,es,ep,ho,rfl,href,?_⟩;cases hi:es.findIdx? λe=>(PySem.strKind prog w).is name e.key with
 | some i =>
  have hi':es.findIdx? (·.key.isStr name)=some i:=by refine hsame.symm▸?_;exact hi
  have hg:(h.update d (Obj.putName name ((PySem.strKind prog w).hash name) (.str name tk) v)).get? d=some ⟨c,dd,.dict (es.modify i λe => {e with val:=v}) ep,sl⟩:=by
   have:=Heap.get?_update_self (Obj.putName name ((PySem.strKind prog w).hash name) (.str name tk) v) ho (by simp only [Obj.putName_eq,Obj.putNameByArray,hi'];rfl);refine this.symm▸?_;simp only [Obj.putName_eq,Obj.putNameByArray,hi']
  refine ⟨⟨_,_,ep,hg,hc,rfl,hk.modify _ _,?_,?_⟩,_,hg,Ea (by (refine (Array.size_modify).symm▸?_;refine sizeLine_eq.symm▸?_);exact bh (.v 0) (.a (.n 16777216) (.n 1)) [(1,.v 0,.n 900)] rfl hes)⟩
  ·rw [Cx,if_pos (DO (hidx▸hi))];have hl:(es.toList.findIdx? λe=>(PySem.strKind prog w).is name e.key)=some i:=by refine hi▸?_;obtain ⟨l⟩:=es;simp
   have:=hp.modify hn hl v;have l:=es;simpa using this
  ·rw [Cx,if_pos (DO (hidx▸hi)),keys_map_store];exact hn
 | none =>
  have hi':es.findIdx? (·.key.isStr name)=none:=by refine hsame.symm▸?_;exact hi
  have hnot:name ∉ kvs.map (·.1):=not_mem_of_findIdx_none (hidx▸hi);have hany:¬ (kvs.any λkv=>decide (kv.1=name))=true:=by
   rw [any_eq_true];rintro ⟨kv,hkv,he⟩;exact hnot (mem_map.mpr ⟨kv,hkv,of_decide_eq_true he⟩)
  have hg:(h.update d (Obj.putName name ((PySem.strKind prog w).hash name) (.str name tk) v)).get? d=some ⟨c,dd,.dict (es.push ⟨(PySem.strKind prog w).hash name,.str name tk,v⟩) (ep+1),sl⟩:=by
   have:=Heap.get?_update_self (Obj.putName name ((PySem.strKind prog w).hash name) (.str name tk) v) ho (by simp only [Obj.putName_eq,Obj.putNameByArray,hi'];rfl);refine this.symm▸?_;simp only [Obj.putName_eq,Obj.putNameByArray,hi']
  refine ⟨⟨_,_,ep+1,hg,hc,rfl,hk.push hkey _,?_,?_⟩,_,hg,Ea (by (refine (size_push _).symm▸?_;refine sizeLine_eq.symm▸?_);exact bh (.a (.v 0) (.n 1)) (.a (.n 16777216) (.n 1)) [(1,.v 0,.n 900)] rfl hes)⟩
  ·rw [Cx,if_neg hany];have:=hp.append hkey ((PySem.strKind prog w).hash name) v;have l:=es;simpa using this
  ·rw [Cx,if_neg hany,map_append,nodup_append];refine ⟨hn,by simp,?_⟩;intro a ha b hb;simp only [map_cons,List.map_nil,mem_singleton] at hb;subst hb;exact λe=>hnot (e▸ha)
variable {K:Frag}{C x dx:BQ}
theorem xd {E:BO->BU->Prop}{Q:Unit->BU->Prop}{kvs:List (Str×BO)}{name:Str}{v:BO}(X:K.In s.heap)
  (hs:findIn K (.ref C) "__setattr__"=some (some (.builtin "object.__setattr__"))) (hp:plainOver K C=true) (ht:takerIn K C name=some none) (hh:(clsIn K C).any (·.hasDict)=true)
  (hx:s.heap.get? x=some ({cls:=.ref C,dict:=some dx} : Obj)) (hm:s.heap.DictOf (PySem.strKind prog w) dx kvs) (hz:kvs.length<=900)
  (hQ:∀ h' tk,h'.DictOf (PySem.strKind prog w) dx (Cx kvs name v)->Heap.SameBut dx s.heap h'->Q () {s with heap:=h',toks:=tk}) :
  BR (BS prog w) A (setAttr (.ref x) name v) Q E s:=by
 obtain ⟨od,es,ep,ho,hd,href,hput,o',hq⟩:=kH (name:=name) (v:=v) (s.toks+1) hm hz;have ho':=hq.1;have hpast:=hq.2;have I:InstAt s.heap x {cls:=.ref C,dict:=some dx} C (some od):=⟨hx,rfl,rfl,ho⟩;refine set_plain X I hs ?_;refine osa_open (s:={s with toks:=s.toks+1}) X I hp ht λb=>?_;obtain ⟨cd,hq⟩:=any_some hh;have hc:=hq.1;have hd':=hq.2;refine BN (BP (BN (BN (El (s:={s with toks:=s.toks+1}) hx (BN (Looks.here (s:={s with toks:=s.toks+1}) (looks_clsIn X hc) ?_))))));refine hd'.symm▸?_;refine BP (a:=some dx) (BN (BP (BN ?_)));refine BN (BN (CJ (BP (BN (wpAny_mkText (BN (El (s:={s with toks:=s.toks+1+1}) ho ?_)))))));refine hd.symm▸?_;dsimp only;rw [href];refine wpAny_updatePart (s:={s with toks:=s.toks+1+1}) ho ?_;refine BN (wpAny_lookBehind (s:={s with heap:=s.heap.update dx (Obj.putName name ((PySem.strKind prog w).hash name) (.str name (s.toks+1)) v),toks:=s.toks+1+1}) ho' hpast ?_);exact BP (hQ _ _ hput (Heap.SameBut.update ..))
end
noncomputable def vB (h:BW)(as:List BQ):Frag:=as.filterMap λa=>(h.get? a).map λo=>(a,o)
theorem eB {β:Type} : ∀ {l:List (Nat×β)} {a:Nat} {b:β},l.lookup a=some b->(a,b)∈l
 | [],_,_,e=>by cases e
 | (x,y)::r,a,b,e=>by
  rw [List.lookup_cons] at e;by_cases h:(a==x)=true
  ·replace e:=h▸e;cases e;refine (beq_iff_eq.mp h).symm▸?_;exact mem_cons_self
  ·replace h:=(not_eq_true _)▸h;replace e:=h▸e;exact mem_cons_of_mem _ (eB e)
theorem rV (h:BW)(as:List BQ):(vB h as).In h:=λa o e=>by
 obtain ⟨b,_,e2⟩:=List.mem_filterMap.mp (eB e);obtain ⟨o',e3,e4⟩:=map_eq_some_iff.mp e2;cases e4;exact e3
noncomputable def u4 (K:Frag)(a:BQ):EB:=match K.lookup a with
 | some ⟨_,_,.func f,_⟩=>f
 | _=>default
theorem xI {K:Frag}{a:BQ}(h:fnIn K a=true):∃ c d s,K.lookup a=some ⟨c,d,.func (u4 K a),s⟩:=by
 unfold fnIn at h;unfold u4;split at h
 ·rename_i c d f s e;refine e.symm▸?_;exact ⟨c,d,s,rfl⟩
 ·cases h
noncomputable def q3 (K:Frag)(a:BQ):Array Cw:=match K.lookup a with
 | some ⟨_,_,.dict es _,_⟩=>es
 | _ => #[]
noncomputable def jE (K:Frag)(a:BQ):Bool:=match K.lookup a with
 | some ⟨_,_,.dict _ _,_⟩=>true
 | _=>false
noncomputable def uY:B7->Option DR
 | .FunctionDef _ a _ _ _ _ _ _ _ _=>some a
 | _=>Option.none
noncomputable def nM:List B7->List DR
 | []=>[]
 | .ClassDef n _ _ b _ _ _ _ _ _ _::r=>if n==("Evaluator" : Str) then b.filterMap uY++nM r else nM r
 | s::r=>(uY s).toList++nM r
noncomputable def rF (i:Nat):DR:=((nM Challenge.pw_rr0088_01.main.body)[i]?).getD ⟨[],[],none,[],[],none,[]⟩
noncomputable def aO (i:Nat):Fd:=(tab[i]?.getD default).2
structure Row where
 name:Str
 at_:BQ
 no:Nat
 ar:Nat
noncomputable def nx (x:Str):Bool:=x.cps.contains 46
noncomputable def zA (x:Str):Str:=⟨(x.cps.toList.drop 10).toArray⟩
set_option genInjectivity false in
structure lJ where
 fn:Bool
 code:Bool
 body:FuncBody
 scope:B0
 closure:List (Str×BQ)
 globals:BQ
 builtins:BQ
 params:DR
 defaults:BO
 kwdefaults:BO
 found:Option (Option BO)
 type:Option BO
noncomputable def zp (K:Frag)(r:Row):lJ :=
 let f:=u4 K r.at_
 ⟨fnIn K r.at_,codeIn K f.code f.qualname,f.body,f.scope,f.closure,f.globals,f.builtins,f.params,f.defaults,f.kwdefaults,if nx r.name then findIn K (.ref 217) (zA r.name) else some (C5 (q3 K 3) r.name),typeIn K (.ref r.at_)⟩
noncomputable def AF (r:Row):lJ :=
 let f:=aO r.no
 ⟨true,true,.stmts f.body,f.scope,[],CP,C3,rF r.no,.none,.none,some (some (.ref r.at_)),some (.type "function")⟩
noncomputable def dq:List Row:=[⟨"placed_decls",21,0,2⟩,⟨"placed",26,1,2⟩,⟨"set_of",72,2,1⟩,⟨"univ_of",77,3,1⟩,⟨"iden_of",82,4,1⟩,⟨"union",89,5,2⟩,⟨"meet",94,6,2⟩,⟨"minus",99,7,2⟩,⟨"is_within",106,8,2⟩,⟨"product",111,9,2⟩,⟨"join",116,10,2⟩,⟨"turned",121,11,1⟩,⟨"closure",128,12,1⟩,⟨"star",135,13,2⟩,⟨"override",140,14,2⟩,⟨"ahead",145,15,2⟩,⟨"behind",150,16,2⟩,⟨"Evaluator.__init__",164,17,3⟩,⟨"Evaluator.opened",171,18,3⟩,⟨"Evaluator.set_of",176,19,3⟩,⟨"Evaluator.of_one",183,20,3⟩,⟨"Evaluator.of_two",190,21,4⟩,⟨"Evaluator.number_of",195,22,3⟩,⟨"Evaluator.truth",200,23,3⟩,⟨"Evaluator.compared",207,24,4⟩,⟨"Evaluator.has_many",214,25,3⟩,⟨"_law_take",229,26,2⟩,⟨"_law_row",236,27,2⟩,⟨"_law_set",243,28,2⟩,⟨"_law_pairs",250,29,2⟩,⟨"_law_formula",257,30,2⟩,⟨"_law_chosen",264,31,3⟩,⟨"_law_steps",269,32,1⟩,⟨"_law_worth",274,33,3⟩,⟨"_law_free",279,34,2⟩,⟨"_law_is_right",284,35,4⟩,⟨"law",289,36,1⟩]
noncomputable def gG:List Str:=["tuple","list","dict","set","int","bool","range","sorted","len","sum","any","all","repr","isinstance"]
set_option genInjectivity false in
structure lV where
 fns:List lJ
 blts:List (Option BO)
 names:List (Option BO)
 signs:Option Obj
 dict:Bool
 lists:Bool
 attrs:List (Option (Option BO)×Option (Option BO))
 ga:List (Option (Option BO))
 cls:List Bool
noncomputable def look (K:Frag):lV where
 fns:=dq.map (zp K)
 blts:=gG.map (C5 (q3 K 3))
 names:=(["_law_signs","MOST_ROWS","MOST_WAYS","Evaluator","set_of_sets"]:List Str).map (C5 (q3 K 3))
 signs:=K.lookup 222
 dict:=jE K 3
 lists:=K.all λp=>p.2.cls != .type "list"
 attrs:=bY.map λx=>(findIn K (.ref 217) x,takerIn K 217 x)
 ga:=(["__getattribute__","__getattr__","__setattr__","__init__"]:List Str).map (findIn K (.ref 217))
 cls:=[(clsIn K 217).any (·.hasDict),plainOver K 217,makesIn K 217,keepIn K (.ref 217)]
noncomputable def due:lV where
 fns:=dq.map AF
 blts:=gG.map λ_=>none
 names:=[some (.ref 222),some (.int 2000000 265),some (.int 1000000 369),some (.ref 217),some (.ref 72)]
 signs:=some {cls:=.type "tuple",data:=.seq #[.str "x" 479,.str "y" 480]}
 dict:=true
 lists:=true
 attrs:=bY.map λ_=>(some none,some none)
 ga:=[some (some (.builtin "object.__getattribute__")),some none,some (some (.builtin "object.__setattr__")),some (some (.ref 164))]
 cls:=[true,true,true,true]
noncomputable def AB:List BQ:=[2,3,15,17,18,20,21,22,25,26,27,30,35,36,38,39,41,42,43,45,46,48,49,50,51,52,53,56,63,64,65,68,71,72,73,76,77,78,81,82,83,85,86,88,89,90,93,94,95,98,99,100,102,103,105,106,107,110,111,112,115,116,117,120,121,122,124,125,127,128,129,131,132,134,135,136,139,140,141,144,145,146,149,150,158,160,161,163,164,165,167,168,170,171,172,175,176,177,179,180,182,183,184,186,187,189,190,191,194,195,196,199,200,201,203,204,206,207,208,210,211,213,214,215,216,217,218,219,222,223,225,226,228,229,230,232,233,235,236,237,239,240,242,243,244,246,247,249,250,251,253,254,256,257,258,260,261,263,264,265,268,269,270,273,274,275,278,279,280,283,284,285,288,289]
noncomputable def nN (s:BU):lV:=look (vB s.heap AB)
noncomputable def rl (h:BW):Prop:=∃ K:Frag,K.In h/\look K=due
theorem sT (_:BY)(s:BU)(e:nN s=due):rl s.heap:=⟨_,rV _ _,e⟩
theorem lO (_:BY)(h h':BW):rl h->(∀ b o,h.get? b=some o->h'.get? b=some o)->rl h':=λ⟨K,X,e⟩ k=>⟨K,λa o q=>k a o (X a o q),e⟩
universe u in
theorem dG {α:Type}{β:Type u}{f g:α->β} : ∀ {l:List α},l.map f=l.map g->∀ x∈l,f x=g x
 | [],_,_,h=>by cases h
 | a::r,e,x,h=>by
  obtain ⟨e1,e2⟩:=List.cons.inj e;rcases mem_cons.mp h with rfl | h
  ·exact e1
  ·exact dG e2 x h
theorem four:∀ vals:List BO,vals.length<=4->∃ a b c d,vals=[a,b,c,d].take vals.length
 | [],_=>⟨.none,.none,.none,.none,rfl⟩
 | [a],_=>⟨a,.none,.none,.none,rfl⟩
 | [a,b],_=>⟨a,b,.none,.none,rfl⟩
 | [a,b,c],_=>⟨a,b,c,.none,rfl⟩
 | [a,b,c,d],_=>⟨a,b,c,d,rfl⟩
 | _::_::_::_::_::_,h=>by simp at h
theorem xz:(dq.all λr=>(aO r.no).params.length==r.ar && decide (r.ar<=4))=true:=by kernel_rfl
theorem uj:(dq.map λr=>λ(f:EB) (a b c d:BO)=>bindArgs ⟨f.name,f.qualname,rF r.no,f.body,f.scope,f.globals,f.closure,.none,.none,f.doc,f.pyModule,f.annotations,f.code,f.closureTuple,f.builtins⟩ ⟨[a,b,c,d].take r.ar,[]⟩) =
  dq.map λr=>λ_ a b c d=>pure ((aO r.no).params.zip ([a,b,c,d].take r.ar)):=by kernel_rfl
theorem vu:tab=dq.map λr=>(r.name,aO r.no):=by kernel_rfl
theorem zD:(tab.all λp=>zM p.2)=true:=by kernel_rfl
section
variable {K:Frag}{h:BW}
theorem xg (X:K.In h)(e:look K=due)(r:Row)(hr:r∈dq):tH h r.at_ (aO r.no):=by
 have s:=dG (congrArg lV.fns e) r hr;obtain ⟨c,d,sl,e1⟩:=xI (congrArg lJ.fn s);refine ⟨_,_,X _ _ e1,rfl,codeRec_of X (congrArg lJ.code s),congrArg lJ.body s,congrArg lJ.scope s,congrArg lJ.closure s,congrArg lJ.globals s,congrArg lJ.builtins s,λvals hv=>?_⟩;have ok:=and_eq_true_iff.mp (all_eq_true.mp xz r hr);have h1:vals.length=r.ar:=hv.trans (beq_iff_eq.mp ok.1);obtain ⟨a,b,c,d,h2⟩:=four vals (h1▸of_decide_eq_true ok.2);replace h2:=h1▸h2;refine h2.symm▸?_;have q:=congrFun (congrFun (congrFun (congrFun (congrFun (dG uj r hr) (u4 K r.at_)) a) b) c) d;have p1:(u4 K r.at_).params=rF r.no:=congrArg lJ.params s;have p2:(u4 K r.at_).defaults = .none:=congrArg lJ.defaults s;have p3:(u4 K r.at_).kwdefaults = .none:=congrArg lJ.kwdefaults s;generalize u4 K r.at_=f at p1 p2 p3 q ⊢;cases f;dsimp only at p1 p2 p3;subst p1 p2 p3;exact q
theorem jT (e:look K=due)(r:Row)(hr:r∈dq):(if nx r.name then findIn K (.ref 217) (zA r.name) else some (C5 (q3 K 3) r.name))=some (some (.ref r.at_)):=congrArg lJ.found (dG (congrArg lV.fns e) r hr)
theorem pS (e:look K=due)(r:Row)(hr:r∈dq):typeIn K (.ref r.at_)=some (.type "function"):=congrArg lJ.type (dG (congrArg lV.fns e) r hr)
end
noncomputable def wo (h:BW)(L:BQ):BW:=h.update L λo => {o with data:=.freed}
section
variable {h:BW}{L:BQ}{items:Array BO}
theorem rU (hL:h.IsList L items):(wo h L).get? L=none:=by
 obtain ⟨o,ho,-,n,hd⟩:=hL;obtain ⟨objs,l⟩:=h;unfold Heap.get? at ho;cases e:objs[L]? with
 | none=>rw [e] at ho;cases ho
 | some o'=>simp [wo,Heap.update,Heap.get?,Array.getElem?_modify,e]
theorem wn {b:BQ}(hb:b≠L):(wo h L).get? b=h.get? b:=Heap.get?_update_ne _ _ _ _ hb
theorem xq (hL:h.IsList L items):∀ b o,(wo h L).get? b=some o->h.get? b=some o:=λb o e=>by
 by_cases hb:b=L
 ·subst hb;replace e:=(rU hL)▸e;cases e
 ·replace e:=(wn hb)▸e;exact e
theorem Ah {K:Frag}(X:K.In h)(hall:(K.all λp=>p.2.cls != .type "list")=true)(hL:h.IsList L items):K.In (wo h L):=λa o e=>by
 have e1:=X a o e;by_cases hb:a=L
 ·subst hb;obtain ⟨o',hq⟩:=hL;have ho:=hq.1;have hc:=hq.2.1;replace ho:=e1▸ho;cases ho;have:=all_eq_true.mp hall (a,o) (eB e);replace this:=hc▸this;exact absurd this (by decide)
 ·refine (wn hb).symm▸?_;exact e1
theorem ud {a:BQ}{m:Str->Option BO}(hn:h.Ns a m)(hL:h.IsList L items):(wo h L).Ns a m:=by
 obtain ⟨o,es,ep,hq⟩:=hn;have ho:=hq.1;have hd:=hq.2.1;have r:=hq.2.2;refine ⟨o,es,ep,?_,hd,r⟩;by_cases hb:a=L
 ·subst hb;obtain ⟨o',ho',-,n,hd'⟩:=hL;replace ho':=ho▸ho';cases ho';replace hd':=hd▸hd';cases hd'
 ·refine (wn hb).symm▸?_;exact ho
end
theorem Am {K:Frag}{h:BW}{a:BQ}{m:Str->Option BO}(X:K.In h)(hd:jE K a=true)(hn:h.Ns a m):∀ x,m x=C5 (q3 K a) x:=by
 obtain ⟨o,es,ep,ho,hdat,_,hf⟩:=hn;unfold jE at hd;unfold q3;split at hd
 ·rename_i c d es' n s e;have:=X _ _ e;replace this:=ho▸this;cases this;cases hdat;intro x;exact (hf x).symm
 ·cases hd
section
variable {K:Frag}{h:BW}{mg mb:Str->Option BO}
theorem rn {p:Str×Fd}(hp:p∈tab):∃ r∈dq,p=(r.name,aO r.no):=by
 rw [vu] at hp;obtain ⟨r,hq⟩:=mem_map.mp hp;have hr:=hq.1;have e:=hq.2;exact ⟨r,hr,e.symm⟩
theorem yX (X:K.In h)(e:look K=due)(hm:∀ x,mg x=C5 (q3 K 3) x):∀ p∈tab,p.1.cps.contains 46=false->∃ a,mg p.1=some (.ref a)/\tH h a p.2:=λp hp hd=>by
 obtain ⟨r,hr,rfl⟩:=rn hp;have f:=jT e r hr;rw [if_neg (by show ¬ (r.name.cps.contains 46)=true;rw [show (r.name.cps.contains 46)=false from hd];decide)] at f;exact ⟨r.at_,(hm _).trans (Option.some.inj f),xg X e r hr⟩
theorem jU {f:Str}{fd:Fd}(e:aM f=some fd):(f=("set_of_sets" : Str)/\(("set_of" : Str),fd)∈tab)\/(f,fd)∈tab:=by
 unfold aM at e;split at e
 ·rename_i q;exact .inl ⟨beq_iff_eq.mp q,PySem.mem_of_lookup e⟩
 ·exact .inr (PySem.mem_of_lookup e)
theorem lY {name q:Str}(e:("Evaluator." : Str)++name=q):q.cps.toList.take 10=("Evaluator." : Str).cps.toList/\name=⟨(q.cps.toList.drop 10).toArray⟩:=by
 subst e;have h1:(("Evaluator." : Str)++name).cps.toList=("Evaluator." : Str).cps.toList++name.cps.toList:=by
  refine (?_:(("Evaluator." : Str).cps++name.cps).toList=_);exact (Array.toList_append).symm▸rfl
 have h2:("Evaluator." : Str).cps.toList.length=10:=by kernel_rfl
 refine h1.symm▸?_;refine ⟨?_,?_⟩
 ·rw [List.take_append_of_le_length (by exact bh (.n 10) (.v 0) [(1,.n 10,.v 0)] rfl (le_of_eq h2.symm)),take_of_length_le (by exact bh (.v 0) (.n 10) [(1,.v 0,.n 10)] rfl (le_of_eq h2))]
 ·rw [List.drop_append_of_le_length (by exact bh (.n 10) (.v 0) [(1,.n 10,.v 0)] rfl (le_of_eq h2.symm)),List.drop_of_length_le (by exact bh (.v 0) (.n 10) [(1,.v 0,.n 10)] rfl (le_of_eq h2))];cases name;simp
theorem wI (X:K.In h)(e:look K=due):∀ p∈tab,∀ name,("Evaluator." : Str)++name=p.1->∃ f,findIn K (.ref 217) name=some (some (.ref f))/\typeIn K (.ref f)=some (.type "function")/\tH h f p.2:=λp hp name q=>by
 obtain ⟨r,hr,rfl⟩:=rn hp;have f:=jT e r hr;have d:nx r.name=true:=by
  have h1:("Evaluator." : Str).cps.toList.contains 46=true:=by kernel_rfl
  have h2:46∈r.name.cps.toList:=List.mem_of_mem_take ((lY q).1▸List.contains_iff_mem.mp h1);unfold nx;rw [Array.contains_iff_mem];exact Array.mem_def.mpr h2
 rw [if_pos d] at f;rw [(lY q).2];exact ⟨r.at_,f,pS e r hr,xg X e r hr⟩
theorem tV:(gG.map λx=>(Dk x,x==("__name__" : Str)))=gG.map λx=>(d7 x,false):=by kernel_rfl
theorem yq (e:look K=due)(hm:∀ x,mg x=C5 (q3 K 3) x)(hb:∀ x:Str,x≠"__name__"->mb x=Dk x):∀ x v,d7 x=some v->mg x=none/\mb x=some v:=by
 intro x v q;have hx:x∈gG:=List.mem_map_of_mem (f:=Prod.fst) (PySem.mem_of_lookup q);have b:=dG tV x hx;refine ⟨(hm x).trans (dG (f:=C5 (q3 K 3)) (g:=λ_=>none) (congrArg lV.blts e) x hx),(hb x λh=>?_).trans ((congrArg Prod.fst b).trans q)⟩;have:=congrArg Prod.snd b;subst h;exact absurd this (by decide +kernel)
theorem xG (X:K.In h)(e:look K=due)(hm:∀ x,mg x=C5 (q3 K 3) x):∀ x d,xR.lookup x=some d->∃ v,mg x=some v/\∀ h' as,(∀ b o,h.get? b=some o->h'.get? b=some o)->Rep h' as v d:=by
 intro x d q;have n:=congrArg lV.names e;have hq:=List.cons.inj n;have n1:=hq.1;have n:=hq.2;have hq:=List.cons.inj n;have n2:=hq.1;have n:=hq.2;have hq:=List.cons.inj n;have n3:=hq.1;have hx:=PySem.mem_of_lookup q;rcases mem_cons.mp hx with q | hx
 ·cases q;exact ⟨.ref 222,(hm _).trans n1,λh' as k => .tup (k _ _ (X 222 _ (congrArg lV.signs e))) (by decide) (.cons (.str _ _) (.cons (.str _ _) .nil))⟩
 rcases mem_cons.mp hx with q | hx
 ·cases q;exact ⟨.int 2000000 265,(hm _).trans n2,λh' as k => .int _ _⟩
 rcases mem_cons.mp hx with q | hx
 ·cases q;exact ⟨.int 1000000 369,(hm _).trans n3,λh' as k => .int _ _⟩
 ·cases hx
theorem wM (X:K.In h)(e:look K=due)(hn:h.NoLimit)(hg:h.Ns CP mg)(hB:h.Ns C3 mb)(hb:∀ x:Str,x≠"__name__"->mb x=Dk x):j0 h 217:=by
 have hm:∀ x,mg x=C5 (q3 K 3) x:=Am X (congrArg lV.dict e) hg;have n:=congrArg lV.names e;have hq:=List.cons.inj n;have n:=hq.2;have hq:=List.cons.inj n;have n:=hq.2;have hq:=List.cons.inj n;have n:=hq.2;have hq:=List.cons.inj n;have n4:=hq.1;have n:=hq.2;have hq:=List.cons.inj n;have n5:=hq.1;refine ⟨hn,mg,mb,hg,hB,xG X e hm,yq e hm hb,λf fd q hd=>?_,(hm _).trans n4⟩;rcases jU q with ⟨rfl,e2⟩ | e2
 ·obtain ⟨a,ha,fa⟩:=yX X e hm (_,fd) e2 (show (("set_of" : Str).cps.contains 46)=false by kernel_rfl);have hr:(⟨"set_of",72,2,1⟩:Row)∈dq:=.tail _ (.tail _ (.head _));have f:=jT e _ hr;rw [if_neg (by decide +kernel)] at f;have h2:some (Value.ref a)=some (.ref 72):=ha.symm.trans ((hm _).trans (Option.some.inj f));cases h2;exact ⟨72,(hm _).trans n5,fa⟩
 ·exact yX X e hm _ e2 hd
theorem sn (e:look K=due){name:Str}(q:bY.contains name=true):findIn K (.ref 217) name=some none/\takerIn K 217 name=some none :=
 Prod.mk.inj (dG (f:=λx=>(findIn K (.ref 217) x,takerIn K 217 x)) (g:=λ_=>(some none,some none)) (congrArg lV.attrs e) name (List.contains_iff_mem.mp q))
theorem l7 {K:Frag}{C:BQ}{od:Obj}{name:Str}{v:BO}(hc:(clsIn K C).any (·.hasDict)=true)(hf:findIn K (.ref C) name=some none)(hl:lookIn name od=some (some v)):findObj K C (some od) name=some (.value v):=by
 obtain ⟨cd,hq⟩:=any_some hc;have hcd:=hq.1;have hd:=hq.2;have ho:PySem.W.ownOf cd (some od) name=some (some v):=(if_pos hd).trans hl;unfold findObj;rw [hcd];show ((findIn K (.ref C) name).bind _)=_;rw [hf];show ((PySem.W.ownOf cd (some od) name).bind _)=_;rw [ho];rfl
theorem ga4 (e:look K=due):findIn K (.ref 217) "__getattribute__"=some (some (.builtin "object.__getattribute__"))/\findIn K (.ref 217) "__getattr__"=some none/\findIn K (.ref 217) "__setattr__"=some (some (.builtin "object.__setattr__"))/\findIn K (.ref 217) "__init__"=some (some (.ref 164)):=by
 have n:=congrArg lV.ga e;have hq:=List.cons.inj n;have n1:=hq.1;have n:=hq.2;have hq:=List.cons.inj n;have n2:=hq.1;have n:=hq.2;have hq:=List.cons.inj n;have n3:=hq.1;have n:=hq.2;exact ⟨n1,n2,n3,(List.cons.inj n).1⟩
theorem cl4 (e:look K=due):(clsIn K 217).any (·.hasDict)=true/\plainOver K 217=true/\makesIn K 217=true/\keepIn K (.ref 217)=true:=by
 have n:=congrArg lV.cls e;obtain ⟨n1,n⟩:=List.cons.inj n;obtain ⟨n2,n⟩:=List.cons.inj n;obtain ⟨n3,n⟩:=List.cons.inj n;exact ⟨n1,n2,n3,(List.cons.inj n).1⟩
theorem tX (X:K.In h)(e:look K=due):gP h 217 where
 get:=λhn k I hl hh hQ=>get_value (X.keeps k) I (ga4 e).1 (l7 (cl4 e).1 (sn e hn).1 hl) hh hQ
 set:=λhn k hx hm hz hQ=>xd (X.keeps k) (ga4 e).2.2.1 (cl4 e).2.1 (sn e hn).2 (cl4 e).1 hx hm hz hQ
theorem xW:aM "Evaluator.__init__"=some (aO 17):=by
 unfold aM;rw [vu];kernel_rfl
theorem tm (X:K.In h)(e:look K=due):vO h 217 where
 keep:=λM h' k=>by
  obtain ⟨kk,hq⟩:=looks_keep (M:=M) (cl4 e).2.2.2 (X.keeps k);have hk:=hq.1;have L:=hq.2;exact ⟨kk,hk.imp id .inl,L⟩
 init:=by
  have hr:(⟨"Evaluator.__init__",164,17,3⟩:Row)∈dq:=by
   iterate 17 apply mem_cons_of_mem
   exact mem_cons_self
  refine ⟨164,aO 17,xW,xg X e _ hr,λ{prog w A R s vals} k hq=>?_⟩;obtain ⟨hh,g,d,t,os⟩:=s;exact make_core (makes_of (X.keeps k) (cl4 e).2.2.1) (looks_findIn (X.keeps k) (ga4 e).2.2.2) (λself=>bind_fn (X.keeps k) self (pS e _ hr)) (.inl rfl) hq
 meth:=λname fd q=>by
  rcases jU q with ⟨q,e2⟩ | e2
  ·exact absurd (lY q).1 (by decide +kernel)
  ·obtain ⟨f,hq⟩:=wI X e _ e2 name rfl;have h1:=hq.1;have h2:=hq.2.1;have fa:=hq.2.2;refine ⟨f,λ{prog w A E Q s x ox od pl} k I hl hQ=>?_,fa⟩;exact method_fn (X.keeps k) I (ga4 e).1 (ga4 e).2.1 h1 h2 (by show (lookIn name od).map (·.isSome)=some false;exact hl.symm▸rfl) hQ
 tabOk:=λf fd q=>by
  have:=all_eq_true.mp zD;rcases jU q with ⟨_,e2⟩ | e2
  ·exact this _ e2
  ·exact this _ e2
end
noncomputable def mO:Prop:=∀ is:List Int,is.length<=63->∃ σ',aL 80 "law" [.ref 0] [(.list (is.map .int),0)]=some (.bool true,σ')/\ver σ' 0=0
theorem wq {h:BW}{a:BQ}{m m':Str->Option BO}(x:h.Ns a m)(y:h.Ns a m')(n:Str):m n=m' n:=by
 obtain ⟨o,es,ep,ho,hd,_,hf⟩:=x;obtain ⟨o',es',ep',ho',hd',_,hf'⟩:=y;replace ho':=ho▸ho';cases ho';replace hd':=hd▸hd';cases hd';exact (hf n).symm.trans (hf' n)
theorem sq {P:Params}{h h':BW}{as:List BQ} : ∀ (is:List Int) (vs:List BO),WellAll P h vs (ofPys (is.map .int))->aD h' as vs (is.map .int):=λl=>by
 induction l using List.rec with
 | nil =>
  rintro _ x;cases x;exact .nil
 | cons i r ih =>
  rintro _ x;cases x with
  | cons x1 x2 =>
   cases x1;exact .cons (.int _ _) (ih _ x2)
theorem mi:dP callerA (2 * 80):=⟨rfl,rfl,by decide +kernel,by decide +kernel⟩
section
variable {w:BY}{s:BU}{mg mb:Str->Option BO}{fa L:BQ}{is:List Int}
theorem x6 (law:mO)(X':rl s.heap)(hn:s.heap.NoLimit)(hg:s.heap.Ns CP mg)(hB:s.heap.Ns C3 mb)(hb:∀ x:Str,x≠"__name__"->mb x=Dk x)(seer:s.heap.NoSeer)
  (hmg:mg "law"=some (.ref fa)) (w1:Well w.params s.heap (.ref L) (ofPy (.list (is.map .int)))) (hlen:is.length<=63) {Q:BO->BU->Prop}
  (hQ:∀ s',(∀ b o,s.heap.get? b=some o->s'.heap.get? b=some o)->s'.os=s.os->s'.gens=s.gens->Q (.bool true) s') {prog:BX} :
  BR (BS prog w) callerA (call (.ref fa) [.ref L]) Q NoE s:=by
 cases w1 with
 | @list _ vs _ ho hw =>
 have hL:s.heap.IsList L vs.toArray:=⟨_,ho,rfl,_,rfl⟩;obtain ⟨K,X,lk⟩:=X';have X0:=Ah X (congrArg lV.lists lk) hL;have hn0:(wo s.heap L).NoLimit:=let ⟨mc,a,b⟩:=hn;⟨mc,ud a hL,b⟩
 have hg0:=ud hg hL;have U:=wM X0 lk hn0 hg0 (ud hB hL) hb;obtain ⟨σ',e,hv⟩:=law is hlen;have O:=orc (prog:=prog) (w:=w) U (tX X0 lk) (tm X0 lk) (λA n r=>xT r) 80 callerA mi;obtain ⟨v,⟨mg',hg',hv'⟩,_,run⟩:=O.glob "law" _ _ _ _ (by decide +kernel) e;(replace hv':=(wq hg' hg0 _)▸hv';replace hv':=hmg▸hv');cases hv';have hsys:((wo s.heap L).get? CV).isSome=true:=by
  obtain ⟨mm,a,_⟩:=seer.mods;obtain ⟨o,es,ep,h1,_⟩:=ud a hL;exact h1.symm▸rfl
 have R:Rel prog w 217 (wo s.heap L) [(.list (is.map .int),0)] [L] s.heap:=by
  refine ⟨xq hL,rfl,by simp,λa ha=>?_,hsys,λk o v a h1 h2=>?_⟩
  ·rw [mem_singleton] at ha;subst ha;exact rU hL
  ·induction k using Nat.casesOn with
   | succ k=>simp at h1
   | zero =>
    simp only [List.getElem?_cons_zero,Option.some.injEq,Prod.mk.injEq] at h1 h2;obtain ⟨rfl,rfl⟩:=h1;subst h2;exact .list ho (sq is _ hw) (by refine (length_map _).symm▸?_;have:aQ=4096:=rfl;exact a5 (.v 0) (.a (.v 1) (.n 1)) [(1,.v 0,.n 63),(1,.n 4096,.v 1)] rfl hlen (le_of_eq this.symm))
 refine BV (run [L] s [.ref L] R (.cons (.ref rfl) .nil)) (λv s' q=>?_) λ_ _ q=>q;obtain ⟨as',G,r⟩:=q;cases r with
 | bool =>
 obtain ⟨h',tk,dr,rfl⟩:=G.same;refine hQ _ (λb o hbo=>?_) rfl rfl;by_cases hbL:b=L
 ·subst hbL;exact (G.vers 0 b rfl).2 (hv.symm▸rfl) _ hbo
 ·exact G.kp b o (by simpa using hbL) (λx=>x) hbo
end
noncomputable def vq:BX:=view Challenge.pw_rr0088_01 [1,2,4,5,7,8,9,10,11,12,13,14,15,16,17,18,19,20,21,22,23,25,26,28,29,30,31,32,33,34,35,36,37,38,39]
theorem ql {p q:BX}{loose:List Str}{Xt:BU->Bool}{α:Type}{Yf:BU->α}{Ya:BY->α}{N:Nat}{g0:Bool}{H₀:Params->BW}{gs₀:Array GenState}{d₀:Ey}{k₀:Nat}
  (open_:∀ w:BY,(fencedOpening Ep p w N).map (λs=>(s.heap,s.gens,s.drawn,s.toks))=some (H₀ w.params,gs₀,d₀,k₀))
  (run:∀ (w:BY) (os:Ei),(topFrom Ep p w N ⟨H₀ w.params,gs₀,d₀,k₀,os⟩).map (λs=>(openSeen q loose (Ed p.main.body) Xt g0 s,Yf s))=some (openGood q loose,Ya w)):LeftO p q loose Xt Yf Ya N g0:=λw=>by
 obtain ⟨⟨h,gs,d,k,os⟩,e,e'⟩:=map_eq_some_iff.mp (open_ w);obtain ⟨rfl,rfl,rfl,rfl⟩:h=H₀ w.params/\gs=gs₀/\d=d₀/\k=k₀:=by simpa using e'
 unfold openEnds;rw [e];exact run w os
theorem t5 {α β γ:Type}{o:Option α}{f:α->β}{g:α->γ}{a:β}{b:γ}(h:o.map f=some a)(k:o.map g=some b):o.map (λs=>(f s,g s))=some (a,b):=by
 induction o using Option.casesOn with
 | none=>exact an h
 | some x=>exact congrArg some (congr (congrArg Prod.mk (Option.some.inj h)) (Option.some.inj k))
noncomputable abbrev sP (w:BY)(os:Ei):Option BU:=topFrom Ep Challenge.pw_rr0088_01 w 3838 ⟨boot_heap w.params,#[],boot_drawn,boot_toks,os⟩
theorem yZ (w:BY)(os:Ei):(sP w os).map (λs=>openSeen vq ["set_of_sets"] (Ed Challenge.pw_rr0088_01.main.body) (λs=>xlAt vq [] s && recOk (RowW.records Challenge.rw_rr0088_01.row.toRowW) s) true s)=some (openGood vq ["set_of_sets"]):=by
 unfold sP topFrom;rw [PySem.W.Fast.te14364793385576792824,PySem.W.Fast.te4187177175401517315,PySem.W.Fast.te5923862056798008813,PySem.W.Fast.te14082659384304107361];kernel_rfl
theorem zF (w:BY)(os:Ei):(sP w os).map nN=some due:=by
 unfold sP topFrom;rw [PySem.W.Fast.te14364793385576792824,PySem.W.Fast.te5923862056798008813,PySem.W.Fast.te14082659384304107361];kernel_rfl
theorem lA:LeftO Challenge.pw_rr0088_01 vq ["set_of_sets"] (λs=>xlAt vq [] s && recOk (RowW.records Challenge.rw_rr0088_01.row.toRowW) s) nN (λ_=>due) 3838 :=
 ql (boot_open (by kernel_rfl) (by decide +kernel) (λs=>by kernel_rfl)) λw os=>t5 (yZ w os) (zF w os)
theorem ya {a b:Bool}(h:a=true)(k:b=true):(a && b)=true:=and_eq_true_iff.mpr ⟨h,k⟩
theorem said:Challenge.rw_rr0088_01.wellSaid=true:=by
 refine (PySem.W.Fast.te9446332074065402090).symm▸?_;iterate 30 refine ya ?_ (by decide +kernel)
 decide +kernel
set_option pp.deepTerms false
set_option pp.proofs false
theorem holds (law:mO):PySem.Challenge.rw_rr0088_01.Holds:=by
 w_on
 refine holds_law said λ_=>?_;refine holds_open (q:=vq) (loose:=["set_of_sets"]) (Xt:=λs=>xlAt vq [] s && recOk (RowW.records Challenge.rw_rr0088_01.row.toRowW) s) (XP:=XL vq []) (Yf:=nN) (Ya:=λ_=>due) (YP:=λ_ h=>rl h) (N:=3838) lA sT lO
  (λs e=>xl_of s (and_eq_true_iff.mp e).1) XL.keeps (by rfl) (by rfl) (by rfl) (λs e=>recFacts_of (and_eq_true_iff.mp e).2) (by rfl) (by first | assumption | decide +kernel) (by decide +kernel) ⟨rfl,rfl,rfl,rfl,rfl,by decide +kernel⟩ ?hw ?hc
 case hw=>w_witness2
 case hc =>
  intro w s₀ s₁ mg mb G Y fa o pm cd doc dV kV ho hd hcd hD hmg hg args vals as hpre hlay hrd hwl hlo;have V:=(Ground.X G).2;have GL:=glob_more (Ground.glob G (by decide +kernel) (by decide +kernel)) V;refine Ground.open G ?_;intro T B D TE TW;clear ho hd hcd hD
  wrow_args hpre hlay hrd hwl hlo
  all_goals (
   refine BV (x6 law Y T.nolimit T.g T.b T.builtins GL.seer hmg (by assumption) (by omega) (Q:=λv s'=>GoodWG _ _ _ _ s₁ (.ok (.ret v)) s') (λs' k hos hgen=>?_)) (λ_ _ q=>q) (λ_ _ q=>q.elim);refine GoodW.toG ⟨.inl ⟨.bool true,.bool true,[],rfl,?_,?_,?_,?_⟩,k,hos,hgen.trans hg⟩
   ·exact λcls=>rfl
   ·exact .bool _
   ·exact postW_of (by wrow_shape) (w_eq_bool (w_res rfl) w_lit) (by w_fin)
   ·exact λ_=>⟨nodup_nil,λa ha=>by cases ha⟩)
end
section
open PySem
noncomputable def Ok {α:Type}(m:PM α)(σ:Sto)(P:α->Sto->Prop):Prop:=∃ a σ',m σ=some (a,σ')/\P a σ'
section
variable {α β:Type}{m:PM α}{f:α->PM β}{σ:Sto}{P:α->Sto->Prop}
theorem Ok.run {a:α}{σ':Sto}(e:m σ=some (a,σ'))(h:P a σ'):Ok m σ P:=⟨a,σ',e,h⟩
theorem Ok.ret {a:α}(h:P a σ):Ok (pure a) σ P:=⟨a,σ,rfl,h⟩
theorem Ok.bind {P:β->Sto->Prop}(h:Ok m σ λa σ1=>Ok (f a) σ1 P):Ok (m >>= f) σ P:=by
 obtain ⟨a,σ1,e,b,σ2,e2,hp⟩:=h;refine ⟨b,σ2,?_,hp⟩;refine (?_:(StateT.bind m f) σ=_);unfold StateT.bind;rw [e];exact e2
theorem Ok.mono {Q:α->Sto->Prop}(h:Ok m σ P)(k:∀ a σ',P a σ'->Q a σ'):Ok m σ Q:=h.imp λa h=>h.imp λσ' h=>⟨h.1,k _ _ h.2⟩
theorem Ok.eq {m':PM α}(e:m=m')(h:Ok m' σ P):Ok m σ P:=e▸h
end
section
variable {σ:Sto}
theorem Ok.must {b:Bool}{P:Unit->Sto->Prop}(hb:b=true)(h:P () σ):Ok (must b) σ P:=by subst hb;exact ⟨(),σ,rfl,h⟩
theorem Ok.ofOpt {α:Type}{o:Option α}{a:α}{P:α->Sto->Prop}(e:o=some a)(h:P a σ):Ok (ofOpt o) σ P:=by subst e;exact ⟨a,σ,rfl,h⟩
theorem Ok.alloc {o:PO}{P:D->Sto->Prop}(h:P (.ref σ.length) (σ++[(o,0)])):Ok (alloc o) σ P:=⟨_,_,rfl,h⟩
theorem Ok.getO {k:Nat}{o:PO}{v:Nat}{P:PO->Sto->Prop}(e:σ[k]? = some (o,v))(h:P o σ):Ok (getO k) σ P:=⟨o,σ,by unfold Mine.getO;exact e.symm▸rfl,h⟩
theorem Ok.getP {k:Nat}{p:PO×Nat}{P:PO×Nat->Sto->Prop}(e:σ[k]? = some p)(h:P p σ):Ok (getP k) σ P:=⟨p,σ,by unfold Mine.getP;exact e.symm▸rfl,h⟩
theorem Ok.setO {k:Nat}{o:PO}{P:Unit->Sto->Prop}(h:P () (σ.set k (o,ver σ k+1))):Ok (setO k o) σ P:=⟨(),_,rfl,h⟩
theorem Ok.listAt {k:Nat}{l:List D}{v:Nat}{P:List D->Sto->Prop}(e:σ[k]? = some (.list l,v))(h:P l σ):Ok (listAt k) σ P:=Ok.bind (Ok.getO e (Ok.ret h))
theorem Ok.mkTup {l:List D}{P:D->Sto->Prop}(hl:l.length<=aQ)(h:P (.tup l) σ):Ok (mkTup l) σ P:=Ok.bind (Ok.must (decide_eq_true hl) (Ok.ret h))
theorem Ok.mkList {l:List D}{P:D->Sto->Prop}(hl:l.length<=aQ)(h:P (.ref σ.length) (σ++[(.list l,0)])):Ok (mkList l) σ P:=Ok.bind (Ok.must (decide_eq_true hl) (Ok.alloc h))
end
noncomputable def av (W:Nat->Prop)(σ σ':Sto):Prop:=σ.length<=σ'.length/\∀ k p,¬ W k->σ[k]? = some p->σ'[k]? = some p
noncomputable abbrev NoW:Nat->Prop:=λ_=>False
section
variable {W:Nat->Prop}{σ σ1 σ2:Sto}
theorem av.refl (W:Nat->Prop)(σ:Sto):av W σ σ:=⟨le_refl _,λ_ _ _ e=>e⟩
theorem av.trans (a:av W σ σ1)(b:av W σ1 σ2):av W σ σ2:=⟨le_trans a.1 b.1,λk p w e=>b.2 k p w (a.2 k p w e)⟩
theorem av.weak (a:av NoW σ σ1):av W σ σ1:=⟨a.1,λk p _ e=>a.2 k p (λx=>x) e⟩
theorem av.get (a:av NoW σ σ1){k:Nat}{p:PO×Nat}(e:σ[k]? = some p):σ1[k]? = some p:=a.2 k p (λx=>x) e
theorem av.push (a:av W σ σ1)(p:PO×Nat):av W σ (σ1++[p]):=⟨by rw [length_append];exact le_trans a.1 (le_add_right _ _),λk q w e=>by
 have h:=a.2 k q w e;exact (List.getElem?_append_left (List.getElem?_eq_some_iff.mp h).1)▸h⟩
theorem av.set (a:av W σ σ1){k:Nat}(hk:σ.length<=k)(p:PO×Nat):av W σ (σ1.set k p):=⟨by refine (List.length_set).symm▸?_;exact a.1,λj q w e=>by
 have h:=a.2 j q w e;rw [List.getElem?_set_ne (λx=>by have:=(List.getElem?_eq_some_iff.mp e).1;exact not_succ_le_zero 0 (lin [_,_,_] 0 (.n 1) (.n 0) [(1,.v 0,.v 1),(1,.v 1,.v 2),(1,(.a (.v 2) (.n 1)),.v 0)] rfl hk (le_of_eq x) this))];exact h⟩
theorem av.setW (a:av W σ σ1){k:Nat}(hk:W k)(p:PO×Nat):av W σ (σ1.set k p):=⟨by refine (List.length_set).symm▸?_;exact a.1,λj q w e=>by
 have h:=a.2 j q w e;rw [List.getElem?_set_ne (λx=>w (by exact x▸hk))];exact h⟩
theorem av.lt (a:av W σ σ1){k:Nat}{p:PO×Nat}(e:σ[k]? = some p):k < σ1.length:=lt_of_lt_of_le (List.getElem?_eq_some_iff.mp e).1 a.1
theorem aH {k:Nat}{p:PO×Nat}(e:σ[k]? = some p):k < σ.length:=(List.getElem?_eq_some_iff.mp e).1
theorem al {k:Nat}{p q:PO×Nat}(e:σ[k]? = some p):(σ++[q])[k]? = some p:=by
 rw [List.getElem?_append_left (List.getElem?_eq_some_iff.mp e).1];exact e
theorem ag (σ:Sto)(q:PO×Nat):(σ++[q])[σ.length]? = some q:=by simp
theorem bN {k:Nat}{p q:PO×Nat}(e:σ[k]? = some p):(σ.set k q)[k]? = some q:=by
 exact (List.getElem?_set_self (List.getElem?_eq_some_iff.mp e).1).symm▸rfl
theorem aF {j k:Nat}{p q:PO×Nat}(h:j≠k)(e:σ[k]? = some p):(σ.set j q)[k]? = some p:=by
 refine (List.getElem?_set_ne h).symm▸?_;exact e
end
section
variable (cf:Str->List D->PM D)(t:Nat)(sc:B0)(ρ:Loc)(P:D->Sto->Prop)
noncomputable abbrev AQ (ev:Expr->PM D)(r:List Expr)(P:List D->Sto->Prop)(d:D)(σ1:Sto):Prop:=Ok (bE ev r) σ1 λds σ2=>P (d::ds) σ2
inductive Bq (P:D->Sto->Prop)(ds:List D)(σ1:Sto):Prop
 | intro (le:ds.length<=aQ) (h:P (.tup ds) σ1):Bq P ds σ1
inductive Bz (P:D->Sto->Prop)(ds:List D)(σ1:Sto):Prop
 | intro (le:ds.length<=aQ) (h:P (.ref σ1.length) (σ1++[(.list ds,0)])):Bz P ds σ1
inductive zi (P:D->Sto->Prop)(ps:List (D×D))(σ1:Sto):Prop
 | intro (l:List (Str×D)) (e:fh ps []=some l) (h:P (.ref σ1.length) (σ1++[(.dS l,0)])):zi P ps σ1
noncomputable abbrev BinK (op:Dj)(r:Expr)(a:D)(σ1:Sto):Prop:=Ok (ak cf t sc ρ r) σ1 λb σ2=>Ok (pD op a b) σ2 P
noncomputable abbrev CmpK (op:DG)(r:Expr)(a:D)(σ1:Sto):Prop:=Ok (ak cf t sc ρ r) σ1 λb σ2=>Ok (pK op a b) σ2 P
noncomputable abbrev SubK (i:Expr)(o:D)(σ1:Sto):Prop:=Ok (ak cf t sc ρ i) σ1 λj σ2=>Ok (l8 o j) σ2 P
inductive y5 (attr:Str)(P:D->Sto->Prop)(o:D)(σ1:Sto):Prop
 | intro (k dk v1:Nat) (l:List (Str×D)) (v2:Nat) (x:D) (e:o = .ref k) (h1:σ1[k]? = some (.inst dk,v1)) (h2:σ1[dk]? = some (.dS l,v2)) (h3:l.lookup attr=some x) (hp:P x σ1):y5 attr P o σ1
inductive yO (PB:Bool->Sto->Prop)(d:D)(σ1:Sto):Prop
 | intro (b:Bool) (e:d = .bool b) (h:PB b σ1):yO PB d σ1
inductive BK (P:Option Int->Sto->Prop)(d:D)(σ1:Sto):Prop
 | intro (i:Int) (e:d = .int i) (h:P (some i) σ1):BK P d σ1
inductive BJ (P:Src->Sto->Prop)(d:D)(σ1:Sto):Prop
 | intro (n:Nat) (e:d = .int n) (le:n<=64) (h:P (.rng n) σ1):BJ P d σ1
noncomputable abbrev SrcK (PS:Src->Sto->Prop)(d:D)(σ1:Sto):Prop:=Ok (gS d) σ1 PS
end
section
variable {cf:Str->List D->PM D}{t:Nat}{sc:B0}{ρ:Loc}{σ:Sto}{P:D->Sto->Prop}
theorem aq {ev:Expr->PM D}{P:List D->Sto->Prop}(hp:P [] σ):Ok (bE ev []) σ P:=Ok.ret hp
theorem ae {ev:Expr->PM D}{e:Expr}{r:List Expr}{P:List D->Sto->Prop}(h:Ok (ev e) σ (AQ ev r P)):Ok (bE ev (e::r)) σ P:=by
 exact Ok.bind (h.mono λd σ1 h1=>Ok.bind (h1.mono λds σ2 h2=>Ok.ret h2))
theorem aI {es:List Expr}{k:Nat}{p:Pos}(h:Ok (bE (ak cf t sc ρ) es) σ (Bq P)):Ok (ak cf (t+1) sc ρ (.Tuple es k p)) σ P:=by
 exact Ok.bind (h.mono λds σ1 h1=>Ok.mkTup h1.1 h1.2)
theorem bw {es:List Expr}{p:Pos}(h:Ok (bE (ak cf t sc ρ) es) σ (Bz P)):Ok (ak cf (t+1) sc ρ (.List es p)) σ P:=by
 exact Ok.bind (h.mono λds σ1 h1=>Ok.mkList h1.1 h1.2)
theorem nF {ev:Expr->PM D}{P:List (D×D)->Sto->Prop}(hp:P [] σ):Ok (eE ev [] []) σ P:=Ok.ret hp
theorem cZ {ev:Expr->PM D}{k v:Expr}{ks:List (Option Expr)}{vs:List Expr}{P:List (D×D)->Sto->Prop}(h:Ok (ev k) σ λa σ1=>Ok (ev v) σ1 λb σ2=>Ok (eE ev ks vs) σ2 λr σ3=>P ((a,b)::r) σ3):Ok (eE ev (some k::ks) (v::vs)) σ P:=by
 exact Ok.bind (h.mono λa σ1 h1=>Ok.bind (h1.mono λb σ2 h2=>Ok.bind (h2.mono λr σ3 h3=>Ok.ret h3)))
theorem nk {ks:List (Option Expr)}{vs:List Expr}{p:Pos}(hl:(decide (ks.length<=15) && ks.length==vs.length)=true)(h:Ok (eE (ak cf t sc ρ) ks vs) σ (zi P)) :
  Ok (ak cf (t+1) sc ρ (.Dict ks vs p)) σ P:=by
 exact Ok.bind (Ok.must hl (Ok.bind (h.mono λps σ1 ⟨l,h1,h2⟩=>Ok.bind (Ok.ofOpt h1 (Ok.alloc h2)))))
theorem bB {l r:Expr}{op:Dj}{p:Pos}(h:Ok (ak cf t sc ρ l) σ (BinK cf t sc ρ P op r)):Ok (ak cf (t+1) sc ρ (.BinOp l op r p)) σ P:=by
 exact Ok.bind (h.mono λa σ1 h1=>Ok.bind h1)
theorem yl {x:Expr}{p:Pos}(h:Ok (ak cf t sc ρ x) σ λa σ1=>∃ b,a = .bool b/\P (.bool (!b)) σ1):Ok (ak cf (t+1) sc ρ (.UnaryOp .Not x p)) σ P:=by
 exact Ok.bind (h.mono λa σ1 ⟨b,h1,h2⟩=>by subst h1;exact Ok.bind (Ok.ret (Ok.ret h2)))
theorem nr {op:BoolOp}{vs:List Expr}{p:Pos}(h:Ok (kD cf t sc ρ op vs) σ P):Ok (ak cf (t+1) sc ρ (.BoolOp op vs p)) σ P:=h
theorem zu {op:BoolOp}{e:Expr}(h:Ok (ak cf t sc ρ e) σ P):Ok (kD cf (t+1) sc ρ op [e]) σ P:=h
theorem Bk {e e2:Expr}{r:List Expr}(h:Ok (ak cf t sc ρ e) σ λa σ1=>∃ b,a = .bool b/\(b=true->P (.bool true) σ1)/\(b=false->Ok (kD cf t sc ρ .Or (e2::r)) σ1 P)):Ok (kD cf (t+1) sc ρ .Or (e::e2::r)) σ P:=by
 exact Ok.bind (h.mono λa σ1 h=>by
  obtain ⟨b,h1,h2,h3⟩:=h;subst h1;refine Ok.bind (Ok.ret ?_);cases b
  ·exact h3 rfl
  ·exact Ok.ret (h2 rfl))
theorem bu {c a b:Expr}{p:Pos}(h:Ok (cR cf t sc ρ c) σ λv σ1=>Ok (cond v (ak cf t sc ρ a) (ak cf t sc ρ b)) σ1 P):Ok (ak cf (t+1) sc ρ (.IfExp c a b p)) σ P:=by
 exact Ok.bind (h.mono λv σ1 h1=>by cases v <;> exact h1)
theorem bZ {l r:Expr}{op:DG}{p:Pos}(h:Ok (ak cf t sc ρ l) σ (CmpK cf t sc ρ P op r)):Ok (ak cf (t+1) sc ρ (.Compare l [op] [r] p)) σ P:=by
 exact Ok.bind (h.mono λa σ1 h1=>Ok.bind h1)
theorem v9 {v:Expr}{lo hi:Option Expr}{p p2:Pos}(h:Ok (ak cf t sc ρ v) σ λo σ1=>Ok (kz cf t sc ρ lo) σ1 λa σ2=>Ok (kz cf t sc ρ hi) σ2 λb σ3=>Ok (oc o a b) σ3 P) :
  Ok (ak cf (t+1) sc ρ (.Subscript v (.Slice lo hi none p) p2)) σ P:=by
 exact Ok.bind (h.mono λo σ1 h1=>Ok.bind (h1.mono λa σ2 h2=>Ok.bind h2))
theorem rW {P:Option Int->Sto->Prop}(h:P none σ):Ok (kz cf (t+1) sc ρ none) σ P:=Ok.ret h
theorem rp {e:Expr}{P:Option Int->Sto->Prop}(h:Ok (ak cf t sc ρ e) σ (BK P)):Ok (kz cf (t+1) sc ρ (some e)) σ P:=by
 exact Ok.bind (h.mono λd σ1 ⟨i,h1,h2⟩=>by subst h1;exact Ok.bind (Ok.ret (Ok.ret h2)))
noncomputable def wv (e:Expr):Bool:=xIs 26 e
theorem bz {v i:Expr}{p:Pos}(hi:wv i=false)(h:Ok (ak cf t sc ρ v) σ (SubK cf t sc ρ P i)):Ok (ak cf (t+1) sc ρ (.Subscript v i p)) σ P:=by
 have:ak cf (t+1) sc ρ (.Subscript v i p)=(do let o <- ak cf t sc ρ v;let j <- ak cf t sc ρ i;l8 o j):=by
  cases i <;> first | rfl | cases hi
 refine this.symm▸?_;exact Ok.bind (h.mono λo σ1 h1=>Ok.bind h1)
theorem n8 {v:Expr}{attr:Str}{p:Pos}(hb:(nW v && bY.contains attr)=true)(h:Ok (ak cf t sc ρ v) σ (y5 attr P)) :
  Ok (ak cf (t+1) sc ρ (.Attribute v attr p)) σ P:=by
 refine Ok.bind (Ok.must hb (Ok.bind (h.mono λo σ1 h1=>?_)));obtain ⟨k,dk,v1,l,v2,x,rfl,e1,e2,e3,hp⟩:=h1;refine Ok.bind ?_;refine Ok.bind (Ok.getO e1 ?_);exact Ok.bind (Ok.getO e2 (Ok.ret (Ok.ofOpt e3 hp)))
variable {PB:Bool->Sto->Prop}
theorem xQ {x:Expr}{p:Pos}(h:Ok (cR cf t sc ρ x) σ λb σ1=>PB (!b) σ1):Ok (cR cf (t+1) sc ρ (.UnaryOp .Not x p)) σ PB:=by
 exact Ok.bind (h.mono λb σ1 h1=>Ok.ret h1)
noncomputable def zn (e:Expr):Bool:=xUn (!(xIs 0 e || xIs 5 e)) (λop _=>UnaryOp.casesOn op true false true true) e
theorem gf {e:Expr}(ho:zn e=true)(h:Ok (ak cf t sc ρ e) σ (yO PB)):Ok (cR cf (t+1) sc ρ e) σ PB:=by
 have:cR cf (t+1) sc ρ e=(do df (<- ak cf t sc ρ e)):=by
  cases e <;> first | rfl | (cases ho;done) | skip
  rename_i op x p;cases op <;> first | rfl | cases ho
 refine this.symm▸?_;exact Ok.bind (h.mono λd σ1 ⟨b,h1,h2⟩=>by subst h1;exact Ok.ret h2)
theorem qZ (h:PB true σ):Ok (bI cf (t+1) sc ρ []) σ PB:=Ok.ret h
theorem vW {e:Expr}{r:List Expr}(h:Ok (cR cf t sc ρ e) σ λb σ1=>(b=true->Ok (bI cf t sc ρ r) σ1 PB)/\(b=false->PB false σ1)):Ok (bI cf (t+1) sc ρ (e::r)) σ PB:=by
 exact Ok.bind (h.mono λb σ1 ⟨h1,h2⟩=>by
  cases b
  ·exact Ok.ret (h2 rfl)
  ·exact h1 rfl)
theorem cU {e:Expr}(h:Ok (cR cf (t+1) sc ρ e) σ PB):Ok (bI cf (t+1+1) sc ρ [e]) σ PB :=
 vW (h.mono λb σ1 h1=>⟨λhb=>by subst hb;exact qZ h1,λhb=>by subst hb;exact h1⟩)
variable {PS:Src->Sto->Prop}
noncomputable def lz (e:Expr):Bool:=oj e || pQ false (λf as ks _=>kZ false (λid=>one? false (λ_=>nil? false (id==("range" : Str)) ks) as) f) e
theorem bV {e:Expr}(he:lz e=false)(h:Ok (ak cf t sc ρ e) σ (SrcK PS)):Ok (cz cf (t+1) sc ρ e) σ PS:=by
 cases iv e with
 | other q=>rw [q];exact Ok.bind h
 | set=>cases he
 | call id p1 a p2 =>
  have q:cz cf (t+1) sc ρ (.Call (.Name id p1) [a] [] p2)=(do gS (<- ak cf t sc ρ (.Call (.Name id p1) [a] [] p2))):=if_neg λz=>Bool.noConfusion (z.symm.trans he);rw [q];exact Ok.bind h
theorem lS {a:Expr}{p p2:Pos}(hg:bk sc ("range" : Str)=true)(h:Ok (ak cf t sc ρ a) σ (BJ PS)):Ok (cz cf (t+1) sc ρ (.Call (.Name "range" p) [a] [] p2)) σ PS:=by
 have q:cz cf (t+1) sc ρ (.Call (.Name "range" p) [a] [] p2)=(do must (bk sc ("range" : Str));nu (<- co (<- ak cf t sc ρ a))):=by kernel_rfl
 refine q.symm▸?_;refine Ok.bind (Ok.must hg (Ok.bind (h.mono λd σ1 ⟨n,h1,h2,h3⟩=>?_)));subst h1;refine Ok.bind (Ok.ret ?_);exact Ok.bind (Ok.must (by simp;exact Int.ofNat_le.mpr h2) (Ok.ret h3))
theorem aN {k v:Nat}{l:List D}(e:σ[k]? = some (.list l,v))(h:PS (.at k v l) σ):Ok (gS (.ref k)) σ PS :=
 Ok.bind (Ok.getP e (Ok.bind (Ok.ofOpt rfl (Ok.ret h))))
theorem eG {k v:Nat}{l:List (Str×D)}(e:σ[k]? = some (.dS l,v))(h:PS (.at k v (l.map λp => .str p.1)) σ):Ok (gS (.ref k)) σ PS :=
 Ok.bind (Ok.getP e (Ok.bind (Ok.ofOpt rfl (Ok.ret h))))
noncomputable def Src.Fix (s:Src)(σ:Sto):Prop:=match s with
 | .at k v _=>∃ o,σ[k]? = some (o,v)
 | _=>True
theorem Src.Fix.ok {s:Src}(h:s.Fix σ){P:Unit->Sto->Prop}(hp:P () σ):Ok s.still σ P:=by
 induction s using Src.casesOn with
 | tup=>exact Ok.ret hp
 | rng=>exact Ok.ret hp
 | «at» k v l =>
  obtain ⟨o,e⟩:=h;exact Ok.bind (Ok.getP e (Ok.must (by simp) hp))
noncomputable def fm (cf:Str->List D->PM D)(t:Nat)(sc' scope:B0)(tg:Expr)(ifs:List Expr)(elt:Expr)(ρc:Loc)(x:D):PM (List D):=do
 let ρ1 <- d4 scope tg x ρc
 if <- bI cf t sc' ρ1 ifs then do
  let v <- ak cf t sc' ρ1 elt
  pure [v]
 else pure []
noncomputable def kC (cf:Str->List D->PM D)(t:Nat)(sc' scope:B0)(tg:Expr)(ifs:List Expr)(tg2 it2:Expr)(ifs2:List Expr)(elt:Expr)(ρc:Loc)(x:D):PM (List D):=do
 let ρ1 <- d4 scope tg x ρc
 if <- bI cf t sc' ρ1 ifs then do
  let src2 <- cz cf t sc' ρ1 it2
  let l2 <- bJ src2 (fm cf t sc' scope tg2 ifs2 elt ρ1) src2.items
  src2.still
  pure l2
 else pure []
theorem aX {elt tg it:Expr}{ifs:List Expr}{scope:B0}{p:Pos}(hs:cD scope sc=true)
  (h:Ok (cz cf t sc ρ it) σ λsrc σ1=>Ok (bJ src (fm cf t (ay scope sc) scope tg ifs elt (bL scope ρ)) src.items) σ1 λl σ2=>src.Fix σ2/\l.length<=aQ/\P (.ref σ2.length) (σ2++[(.list l,0)])) :
  Ok (ak cf (t+1) sc ρ (.ListComp elt [⟨tg,it,ifs,0⟩] scope p)) σ P:=by
 refine Ok.bind (Ok.must rfl (Ok.bind (h.mono λsrc σ1 h1=>Ok.bind (Ok.must hs (Ok.bind (h1.mono λl σ2 h2=>?_))))));exact Ok.bind (h2.1.ok (Ok.mkList h2.2.1 h2.2.2))
theorem fA {elt tg it tg2 it2:Expr}{ifs ifs2:List Expr}{scope:B0}{p:Pos}(hs:(cD scope sc && !oj it2)=true)
  (h:Ok (cz cf t sc ρ it) σ λsrc σ1=>Ok (bJ src (kC cf t (ay scope sc) scope tg ifs tg2 it2 ifs2 elt (bL scope ρ)) src.items) σ1 λl σ2=>src.Fix σ2/\l.length<=aQ/\P (.ref σ2.length) (σ2++[(.list l,0)])) :
  Ok (ak cf (t+1) sc ρ (.ListComp elt [⟨tg,it,ifs,0⟩,⟨tg2,it2,ifs2,0⟩] scope p)) σ P:=by
 refine Ok.bind (Ok.must rfl (Ok.bind (h.mono λsrc σ1 h1=>Ok.bind (Ok.must hs (Ok.bind (h1.mono λl σ2 h2=>?_))))));exact Ok.bind (h2.1.ok (Ok.mkList h2.2.1 h2.2.2))
variable {sc' scope:B0}{tg elt:Expr}{ifs:List Expr}{ρc ρ1:Loc}{x:D}{PL:List D->Sto->Prop}
theorem aY (e:d4 scope tg x ρc σ=some (ρ1,σ))(h:Ok (ak cf (t+1) sc' ρ1 elt) σ λv σ1=>PL [v] σ1):Ok (fm cf (t+1) sc' scope tg [] elt ρc x) σ PL :=
 Ok.bind (Ok.run e (Ok.bind (qZ (Ok.bind (h.mono λ_ _ h1=>Ok.ret h1)))))
theorem ff (e:d4 scope tg x ρc σ=some (ρ1,σ))(h:Ok (bI cf t sc' ρ1 ifs) σ λb σ1=>(b=true->Ok (ak cf t sc' ρ1 elt) σ1 λv σ2=>PL [v] σ2)/\(b=false->PL [] σ1)):Ok (fm cf t sc' scope tg ifs elt ρc x) σ PL :=
 Ok.bind (Ok.run e (Ok.bind (h.mono λb σ1 ⟨h1,h2⟩=>by
  cases b
  ·exact Ok.ret (h2 rfl)
  ·exact Ok.bind ((h1 rfl).mono λ_ _ h3=>Ok.ret h3))))
theorem fG {tg2 it2:Expr}{ifs2:List Expr}(e:d4 scope tg x ρc σ=some (ρ1,σ))
  (h:Ok (cz cf (t+1) sc' ρ1 it2) σ λsrc2 σ1=>Ok (bJ src2 (fm cf (t+1) sc' scope tg2 ifs2 elt ρ1) src2.items) σ1 λl2 σ2=>src2.Fix σ2/\PL l2 σ2):Ok (kC cf (t+1) sc' scope tg [] tg2 it2 ifs2 elt ρc x) σ PL :=
 Ok.bind (Ok.run e (Ok.bind (qZ (Ok.bind (h.mono λsrc2 σ1 h1=>Ok.bind (h1.mono λl2 σ2 h2=>Ok.bind (h2.1.ok (Ok.ret h2.2))))))))
end
section
variable (cf:Str->List D->PM D)(t:Nat)(sc:B0)(ρ:Loc)(P:D->Sto->Prop)
noncomputable abbrev AC (id:Str)(ds:List D)(σ1:Sto):Prop:=Ok (cf id ds) σ1 P
noncomputable abbrev BltK (id:Str)(a:D)(σ1:Sto):Prop:=Ok (b9 id a) σ1 P
noncomputable abbrev AH (a:D)(σ1:Sto):Prop:=Ok (do mkList (<- cV (<- qb a))) σ1 P
inductive uR (P:D->Sto->Prop)(ov:D)(σ1:Sto):Prop
 | intro (k:Nat) (l:List (Str×D)) (v:Nat) (e:ov = .ref k) (h1:σ1[k]? = some (.dS l,v)) (h2:l.length<=aQ) (hp:P (.ref σ1.length) (σ1++[(.list (l.map λp => .tup [.str p.1,p.2]),0)])):uR P ov σ1
inductive zg (P:D->Sto->Prop)(k:Nat)(d:D)(σ2:Sto):Prop
 | intro (l':List D) (v':Nat) (h:σ2[k]? = some (.list l',v')) (le:l'.length<=aQ) (hp:P .none (σ2.set k (.list (l'++[d]),v'+1))):zg P k d σ2
inductive BA (e:Expr)(ov:D)(σ1:Sto):Prop
 | intro (k:Nat) (l:List D) (v:Nat) (q:ov = .ref k) (h1:σ1[k]? = some (.list l,v)) (h:Ok (ak cf t sc ρ e) σ1 (zg P k)):BA e ov σ1
inductive zx (name:Str)(k:Nat)(ds:List D)(σ2:Sto):Prop
 | intro (dk' v':Nat) (h:σ2[k]? = some (.inst dk',v')) (hp:Ok (cf (("Evaluator." : Str)++name) (.ref k::ds)) σ2 P):zx name k ds σ2
inductive BH (name:Str)(args:List Expr)(ov:D)(σ1:Sto):Prop
 | intro (k dk v:Nat) (l:List (Str×D)) (v2:Nat) (q:ov = .ref k) (h1:σ1[k]? = some (.inst dk,v)) (h2:σ1[dk]? = some (.dS l,v2)) (h3:(l.lookup name).isNone=true) (h:Ok (bE (ak cf t sc ρ) args) σ1 (zx cf P name k)):BH name args ov σ1
end
section
variable {cf:Str->List D->PM D}{t:Nat}{sc:B0}{ρ:Loc}{σ:Sto}{P:D->Sto->Prop}
noncomputable def uQ (id:Str):Bool := !(id==("isinstance" : Str)) && !cx.contains id && !id.cps.contains 46
theorem qh {id:Str}(args:List Expr)(h:uQ id=true):cJ id args = .fn:=by
 obtain ⟨h12,h3⟩:=and_eq_true_iff.mp h;obtain ⟨h1,h2⟩:=and_eq_true_iff.mp h12;unfold cJ;rw [not_eq_true'] at h1 h2 h3;rw [h1,h2,h3];rfl
theorem yG {id:Str}{p p2:Pos}{args:List Expr}{q:Sp}(hg:bk sc id=true)(e:cJ id args=q)(h:Ok (match q with
    | .setOf e=>do
     must (bk sc ("set" : Str))
     mkList (<- cV (<- qb (<- ak cf t sc ρ e)))
    | .items o apos pos2=>do
     must (c8 o apos pos2 0)
     match <- ak cf t sc ρ o with
     | .ref k=>do
      match <- getO k with
      | .dS l=>mkList (l.map λp => .tup [.str p.1,p.2])
      | _=>aT
     | _=>aT
    | .isb e=>do
     must (bk sc ("bool" : Str))
     match <- ak cf t sc ρ e with
     | .bool _=>pure (.bool true)
     | .ref k=>do
      let _ <- listAt k
      pure (.bool false)
     | _=>aT
    | .one e=>do b9 id (<- ak cf t sc ρ e)
    | .fn=>do
     let ds <- bE (ak cf t sc ρ) args
     cf id ds
    | .no=>aT) σ P):Ok (ak cf (t+1) sc ρ (.Call (.Name id p) args [] p2)) σ P:=by
 subst e;exact Ok.bind (Ok.must hg h)
theorem am {id:Str}{p p2:Pos}{args:List Expr}(hg:bk sc id=true)(hf:uQ id=true)(h:Ok (bE (ak cf t sc ρ) args) σ (AC cf P id)):Ok (ak cf (t+1) sc ρ (.Call (.Name id p) args [] p2)) σ P :=
 yG hg (qh args hf) (Ok.bind h)
noncomputable def yC:Sp->Bool
 | .one _=>true
 | _=>false
theorem zl {id:Str}{e:Expr}(h:yC (cJ id [e])=true):cJ id [e] = .one e:=by
 have sp:=i4 id [e];generalize cJ id [e]=q at sp h;cases sp with
 | one x _ ha=>cases ha;rfl
 | _=>cases h
theorem bM {id:Str}{p p2:Pos}{e:Expr}(hg:bk sc id=true)(ha:yC (cJ id [e])=true)(h:Ok (ak cf t sc ρ e) σ (BltK P id)):Ok (ak cf (t+1) sc ρ (.Call (.Name id p) [e] [] p2)) σ P :=
 yG hg (zl ha) (Ok.bind h)
theorem cN {p p2 p3 p4:Pos}{e:Expr}(hg:bk sc ("sorted" : Str)=true)(hg2:bk sc ("set" : Str)=true)(h:Ok (ak cf t sc ρ e) σ (AH P)) :
  Ok (ak cf (t+1) sc ρ (.Call (.Name "sorted" p) [.Call (.Name "set" p2) [e] [] p3] [] p4)) σ P :=
 yG (q:=.setOf e) hg rfl (Ok.bind (Ok.must hg2 (Ok.bind h)))
theorem wf {p p2 ap p3:Pos}{o:Expr}(hg:bk sc ("list" : Str)=true)(hm:c8 o ap p2 0=true)(h:Ok (ak cf t sc ρ o) σ (uR P)) :
  Ok (ak cf (t+1) sc ρ (.Call (.Name "list" p) [.Call (.Attribute o "items" ap) [] [] p2] [] p3)) σ P:=by
 refine yG (q:=.items o ap p2) hg rfl (Ok.bind (Ok.must hm (Ok.bind (h.mono λov σ1 h1=>?_))));obtain ⟨k,l,v,rfl,e,hl,hp⟩:=h1;exact Ok.bind (Ok.getO e (Ok.mkList (by refine (length_map _).symm▸?_;exact hl) hp))
theorem og {p p2 p3:Pos}{e:Expr}(hg:bk sc ("isinstance" : Str)=true)(hg2:bk sc ("bool" : Str)=true)
  (h:Ok (ak cf t sc ρ e) σ λd σ1=>(∃ b,d = .bool b/\P (.bool true) σ1)\/∃ k l v,d = .ref k/\σ1[k]? = some (.list l,v)/\P (.bool false) σ1) :
  Ok (ak cf (t+1) sc ρ (.Call (.Name "isinstance" p) [e,.Name "bool" p2] [] p3)) σ P:=by
 refine yG (q:=.isb e) hg rfl (Ok.bind (Ok.must hg2 (Ok.bind (h.mono λd σ1 h1=>?_))));rcases h1 with ⟨b,rfl,hp⟩ | ⟨k,l,v,rfl,e,hp⟩
 ·exact Ok.ret hp
 ·exact Ok.bind (Ok.listAt e (Ok.ret hp))
theorem qw {o:Expr}{name:Str}{ap p:Pos}{args:List Expr}(hm:c8 o ap p args.length=true)(h:Ok (ak cf t sc ρ o) σ λov σ1=>Ok (iI ov name) σ1 λtag σ2=>Ok (bE (ak cf t sc ρ) args) σ2 λds σ3=>Ok (l6 cf tag ov name ds) σ3 P) :
  Ok (ak cf (t+1) sc ρ (.Call (.Attribute o name ap) args [] p)) σ P:=by
 exact Ok.bind (Ok.must hm (Ok.bind (h.mono λov σ1 h1=>Ok.bind (h1.mono λtag σ2 h2=>Ok.bind h2))))
theorem dM {o e:Expr}{ap p:Pos}(hm:c8 o ap p 1=true)(h:Ok (ak cf t sc ρ o) σ (BA cf t sc ρ P e)) :
  Ok (ak cf (t+1) sc ρ (.Call (.Attribute o "append" ap) [e] [] p)) σ P:=by
 refine qw hm (h.mono λov σ1 h1=>?_);obtain ⟨k,l,v,rfl,e1,h2⟩:=h1;refine Ok.bind (Ok.getO e1 ?_);refine Ok.bind (Ok.must rfl (Ok.ret ?_));refine ae (h2.mono λd σ2 h3=>aq ?_);obtain ⟨l',v',e2,hl,hp⟩:=h3;refine Ok.bind (Ok.getO e2 (Ok.bind (Ok.must rfl ?_)));refine Ok.bind (Ok.must (decide_eq_true hl) (Ok.bind (Ok.setO (Ok.ret ?_))));have:ver σ2 k=v':=by unfold ver;exact e2.symm▸rfl
 exact this▸hp
theorem zr {o:Expr}{name:Str}{ap p:Pos}{args:List Expr}(hm:c8 o ap p args.length=true)(h:Ok (ak cf t sc ρ o) σ (BH cf t sc ρ P name args)) :
  Ok (ak cf (t+1) sc ρ (.Call (.Attribute o name ap) args [] p)) σ P:=by
 refine qw hm (h.mono λov σ1 h1=>?_);obtain ⟨k,dk,v,l,v2,rfl,e1,e2,hn,h2⟩:=h1;refine Ok.bind (Ok.getO e1 ?_);refine Ok.bind (Ok.bind (Ok.getO e1 (Ok.bind (Ok.getO e2 (Ok.ret ?_)))));refine Ok.bind (Ok.must hn (Ok.ret ?_));refine h2.mono λds σ2 h3=>?_;obtain ⟨dk',v',e3,hp⟩:=h3;exact Ok.bind (Ok.getO e3 (Ok.bind (Ok.must rfl hp)))
noncomputable def isDM (n:Str):Bool:=n==("get" : Str) || n==("pop" : Str) || n==("setdefault" : Str)
noncomputable def ml:PO->Bool
 | .dS _=>true
 | .dI _=>true
 | _=>false
theorem zT {o:Expr}{name:Str}{ap p:Pos}{a b:Expr}(hm:c8 o ap p 2=true)(hn:isDM name=true)(h:Ok (ak cf t sc ρ o) σ λov σ1=>∃ k po v,ov = .ref k/\σ1[k]? = some (po,v)/\ml po=true /\
   Ok (ak cf t sc ρ a) σ1 λx σ2=>Ok (ak cf t sc ρ b) σ2 λd σ3=>∃ po' v',σ3[k]? = some (po',v')/\ml po'=true/\Ok (cG k po' name x d) σ3 P) :
  Ok (ak cf (t+1) sc ρ (.Call (.Attribute o name ap) [a,b] [] p)) σ P:=by
 refine qw hm (h.mono λov σ1 h1=>?_);obtain ⟨k,po,v,rfl,e1,hd,h2⟩:=h1;have:Ok (iI (.ref k) name) σ1 λtag σ2=>tag=2/\σ2=σ1:=by
  refine Ok.bind (Ok.getO e1 ?_);induction po using PO.casesOn with
  | dS _=>exact Ok.bind (Ok.must hn (Ok.ret ⟨rfl,rfl⟩))
  | dI _=>exact Ok.bind (Ok.must hn (Ok.ret ⟨rfl,rfl⟩))
  | _=>cases hd
 refine this.mono λtag σ2 hts=>?_;obtain ⟨rfl,rfl⟩:=hts;refine ae (h2.mono λx σ3 h3=>ae (h3.mono λd σ4 h4=>aq ?_));obtain ⟨po',v',e4,hd',hp⟩:=h4;refine Ok.bind (Ok.getO e4 ?_);induction po' using PO.casesOn with
 | dS _=>exact Ok.bind (Ok.must rfl hp)
 | dI _=>exact Ok.bind (Ok.must rfl hp)
 | _=>cases hd'
noncomputable def Ex (m:PM (Fl×Loc))(σ:Sto)(N:Loc->Sto->Prop)(R:D->Sto->Prop):Prop:=Ok m σ λr σ'=>match r.1 with
 | .next=>N r.2 σ'
 | .ret d=>R d σ'
noncomputable abbrev zY (cf:Str->List D->PM D)(t:Nat)(sc:B0)(r:List B7)(N:Loc->Sto->Prop)(R:D->Sto->Prop)(ρ':Loc)(σ':Sto):Prop:=Ex (aE cf t sc ρ' r) σ' N R
noncomputable abbrev Ai (ρ:Loc)(x:Str)(N:Loc->Sto->Prop)(d:D)(σ':Sto):Prop:=N (ρ.put x d) σ'
noncomputable abbrev IfK (cf:Str->List D->PM D)(t:Nat)(sc:B0)(ρ:Loc)(a b:List B7)(N:Loc->Sto->Prop)(R:D->Sto->Prop)(v:Bool)(σ1:Sto):Prop:=Ex (cond v (aE cf t sc ρ a) (aE cf t sc ρ b)) σ1 N R
noncomputable abbrev ForK (cf:Str->List D->PM D)(t:Nat)(sc:B0)(ρ:Loc)(tg:Expr)(body:List B7)(N:Loc->Sto->Prop)(R:D->Sto->Prop)(src:Src)(σ1:Sto):Prop:=Ex (d3 src (λx ρ=>do
    let ρ' <- ge sc tg x ρ
    aE cf t sc ρ' body) src.items ρ) σ1 N R
inductive Bl (ρ:Loc)(a:Str)(d:D)(N:Loc->Sto->Prop)(ov:D)(σ2:Sto):Prop
 | intro (k dk v1:Nat) (l:List (Str×D)) (v2:Nat) (e:ov = .ref k) (h1:σ2[k]? = some (.inst dk,v1)) (h2:σ2[dk]? = some (.dS l,v2)) (le:l.length<=800) (h:N ρ (σ2.set dk (.dS (put a d l),v2+1))):Bl ρ a d N ov σ2
variable {N:Loc->Sto->Prop}{R:D->Sto->Prop}
theorem Ex.mono {m:PM (Fl×Loc)}{N':Loc->Sto->Prop}{R':D->Sto->Prop}(h:Ex m σ N R)(k:∀ ρ σ',N ρ σ'->N' ρ σ')(k2:∀ d σ',R d σ'->R' d σ'):Ex m σ N' R':=Ok.mono h λr σ' h1=>by
 obtain ⟨f,ρ'⟩:=r;induction f using Fl.casesOn with
 | next=>exact k _ _ h1
 | ret d=>exact k2 _ _ h1
theorem a9 (h:N ρ σ):Ex (aE cf (t+1) sc ρ []) σ N R:=by
 exact Ok.ret h
theorem ab {s:B7}{r:List B7}(h:Ex (ey cf t sc ρ s) σ (zY cf t sc r N R) R):Ex (aE cf (t+1) sc ρ (s::r)) σ N R:=by
 refine Ok.bind (Ok.mono h λx σ' h1=>?_);obtain ⟨f,ρ'⟩:=x;induction f using Fl.casesOn with
 | next=>exact h1
 | ret d=>exact Ok.ret h1
noncomputable def x8 (cf:Str->List D->PM D)(sc:B0)(t:Nat):Nat->Loc->List B7->Sto->Option (Loc×Sto)
 | 0,ρ,_,σ=>some (ρ,σ)
 | k+1,ρ,l,σ=>List.casesOn l none λs r=>(ey cf (t+k) sc ρ s σ).bind λp=>Fl.casesOn p.1.1 (x8 cf sc t k p.1.2 r p.2) λ_=>none
theorem qS (k:Nat){ρ':Loc}{σ':Sto}{l:List B7}(e:x8 cf sc t k ρ l σ=some (ρ',σ'))(h:Ex (aE cf t sc ρ' (l.drop k)) σ' N R):Ex (aE cf (t+k) sc ρ l) σ N R:=by
 induction k generalizing ρ σ l with
 | zero=>exact (Prod.mk.inj (Option.some.inj e)).1▸(Prod.mk.inj (Option.some.inj e)).2▸h
 | succ k ih =>
  induction l using List.casesOn with
  | nil=>exact an e
  | cons s r =>
   obtain ⟨p,h1,e⟩:=bind_eq_some_iff.mp e;refine ab ⟨p.1,p.2,h1,?_⟩;obtain ⟨⟨f,ρ1⟩,σ1⟩:=p;induction f using Fl.casesOn with
   | next=>exact ih e h
   | ret d=>exact an e
theorem bK (k:Nat){l:List B7}(e:x8 cf sc t k ρ l σ=some (ρ,σ))(h:Ex (aE cf t sc ρ (l.drop k)) σ N R):Ex (aE cf (t+k) sc ρ l) σ N R:=qS k e h
theorem im {v:Expr}{p:Pos}(hc:uZ v=false)(h:Ok (ak cf t sc ρ v) σ λ_ σ'=>N ρ σ'):Ex (ey cf (t+1) sc ρ (.Expr v p)) σ N R:=by
 exact Ok.bind (Ok.must (hc▸rfl) (Ok.bind (h.mono λ_ _ h1=>Ok.ret h1)))
theorem aB {e:Expr}{p:Pos}(h:Ok (ak cf t sc ρ e) σ R):Ex (ey cf (t+1) sc ρ (.Return (some e) p)) σ N R:=by
 exact Ok.bind (h.mono λ_ _ h1=>Ok.ret h1)
noncomputable def Aq (sc:B0)(x:Str):Bool:=sc.names.lookup x==some .local || sc.names.lookup x==some .cell
theorem aA {x:Str}{v:Expr}{p p2:Pos}(hx:Aq sc x=true)(h:Ok (ak cf t sc ρ v) σ (Ai ρ x N)):Ex (ey cf (t+1) sc ρ (.Assign [.Name x p] v p2)) σ N R:=by
 refine Ok.bind (Ok.must rfl (Ok.bind (h.mono λd σ' h1=>?_)));exact Ok.bind (Ok.bind (Ok.must hx (Ok.ret (Ok.ret h1))))
theorem kR {x y:Str}{v:Expr}{p p1 p2 p3:Pos}{k:Nat}(hx:Aq sc x=true)(hy:Aq sc y=true)(hc:fb (.Tuple [.Name x p,.Name y p1] k p2) v=false)(h:Ok (ak cf t sc ρ v) σ λd σ'=>∃ a b,d = .tup [a,b]/\N ((ρ.put x a).put y b) σ') :
  Ex (ey cf (t+1) sc ρ (.Assign [.Tuple [.Name x p,.Name y p1] k p2] v p3)) σ N R:=by
 refine Ok.bind (Ok.must (hc▸rfl) (Ok.bind (h.mono λd σ' h1=>?_)));obtain ⟨a,b,rfl,h2⟩:=h1;exact Ok.bind (Ok.bind (Ok.must hx (Ok.bind (Ok.must hy (Ok.ret (Ok.ret h2))))))
theorem uy {o i v:Expr}{p p2:Pos}(h:Ok (ak cf t sc ρ v) σ λd σ1=>Ok (ak cf t sc ρ o) σ1 λov σ2=>Ok (ak cf t sc ρ i) σ2 λiv σ3=>Ok (jI ov iv d) σ3 λ_ σ4=>N ρ σ4) :
  Ex (ey cf (t+1) sc ρ (.Assign [.Subscript o i p] v p2)) σ N R:=by
 refine Ok.bind (Ok.must rfl (Ok.bind (h.mono λd σ1 h1=>?_)));exact Ok.bind (Ok.bind (h1.mono λov σ2 h2=>Ok.bind (h2.mono λiv σ3 h3=>Ok.bind (h3.mono λ_ σ4 h4=>Ok.ret (Ok.ret h4)))))
theorem nQ {o v:Expr}{a:Str}{p p2:Pos}(ha:bY.contains a=true)(h:Ok (ak cf t sc ρ v) σ λd σ1=>Ok (ak cf t sc ρ o) σ1 (Bl ρ a d N)) :
  Ex (ey cf (t+1) sc ρ (.Assign [.Attribute o a p] v p2)) σ N R:=by
 refine Ok.bind (Ok.must rfl (Ok.bind (h.mono λd σ1 h1=>?_)));refine Ok.bind ?_;refine Ok.bind (Ok.must ha (Ok.bind (h1.mono λov σ2 h2=>?_)));obtain ⟨k,dk,v1,l,v2,rfl,e1,e2,hl,h3⟩:=h2;refine Ok.bind (Ok.bind (Ok.getO e1 (Ok.bind (Ok.getO e2 (Ok.ret ?_)))));refine Ok.bind (Ok.must (decide_eq_true hl) (Ok.bind (Ok.setO (Ok.ret (Ok.ret ?_)))));have:ver σ2 dk=v2:=by unfold ver;exact e2.symm▸rfl
 exact this▸h3
theorem fJ {c:Expr}{a b:List B7}{p:Pos}(h:Ok (cR cf t sc ρ c) σ (IfK cf t sc ρ a b N R)):Ex (ey cf (t+1) sc ρ (.If c a b p)) σ N R:=by
 exact Ok.bind (h.mono λv σ1 h1=>by induction v using Bool.casesOn <;> exact h1)
theorem b6 (x:Str)(d:D)(k:Nat){l:List B7}(e:x8 cf sc t (k+1) ρ l σ=some (ρ.put x d,σ))(h:Ex (aE cf t sc (ρ.put x d) (l.drop (k+1))) σ N R):Ex (aE cf (t+(k+1)) sc ρ l) σ N R:=qS (k+1) e h
noncomputable def BD (s:B7):Option (Expr×List B7) := @Stmt.casesOn (λ_=>Option (Expr×List B7)) s (λ_ _ _ _ _ _ _ _ _ _=>none) (λ_ _ _ _ _ _ _ _ _ _=>none) (λ_ _ _ _ _ _ _ _ _ _ _=>none) (λ_ _=>none) (λ_ _=>none) (λ_ _ _=>none) (λ_ _ _ _ _ _ _=>none) (λ_ _ _ _=>none) (λ_ _ _ _ _=>none) (λ_ _ _ _ _=>none) (λ_ _ _ _ _=>none) (λ_ _ _ _=>none) (λc a _ _=>some (c,a)) (λ_ _ _=>none) (λ_ _ _=>none) (λ_ _ _=>none) (λ_ _ _=>none) (λ_ _ _ _ _=>none) (λ_ _ _ _ _=>none) (λ_ _ _=>none) (λ_ _=>none) (λ_ _ _ _=>none) (λ_ _=>none) (λ_ _=>none) (λ_ _=>none) (λ_=>none) (λ_=>none) (λ_=>none)
theorem tY {s:B7}{q:Expr×List B7}(h:BD s=some q):∃ b p,s = .If q.1 q.2 b p:=by
 induction s using Stmt.casesOn with
 | If c a b p=>exact ⟨b,p,Option.some.inj h▸rfl⟩
 | _=>exact an h
noncomputable def Bo (l:List B7):Option (Expr×List B7):=List.casesOn l none λs _=>BD s
noncomputable def nR (l:List B7):List B7:=Option.casesOn (Bo l) [] λq=>q.2
noncomputable def AD (cf:Str->List D->PM D)(sc:B0)(t k:Nat)(ρ:Loc)(l:List B7)(σ:Sto):Option (Loc×Sto) :=
 (x8 cf sc (t+2) k ρ l σ).bind λp=>(Bo (l.drop k)).bind λc=>(cR cf t sc p.1 c.1 p.2).bind λq=>cond q.1 (some (p.1,q.2)) none
theorem sE (k:Nat){ρ':Loc}{σ':Sto}{l:List B7}(e:AD cf sc t k ρ l σ=some (ρ',σ'))(h:Ex (aE cf t sc ρ' (nR (l.drop k))) σ' (zY cf (t+1) sc (l.drop k).tail N R) R):Ex (aE cf (t+2+k) sc ρ l) σ N R:=by
 obtain ⟨p,hq⟩:=bind_eq_some_iff.mp e;have h1:=hq.1;have e:=hq.2;refine qS k h1 ?_;clear h1;generalize l.drop k=l' at h e;obtain ⟨c,h2,e⟩:=bind_eq_some_iff.mp e;obtain ⟨q,h3,e⟩:=bind_eq_some_iff.mp e;have hq:q.1=true/\(p.1,q.2)=(ρ',σ'):=by
  cases hv:q.1 with
  | false=>replace e:=hv▸e;exact an e
  | true=>replace e:=hv▸e;exact ⟨rfl,Option.some.inj e⟩
 have e1:p.1=ρ':=(Prod.mk.inj hq.2).1;have e2:q.2=σ':=(Prod.mk.inj hq.2).2;unfold nR at h;rw [h2] at h;induction l' using List.casesOn with
 | nil=>exact an h2
 | cons s r =>
  obtain ⟨b,ps,hs⟩:=tY h2;refine hs.symm▸?_;exact ab (fJ ⟨q.1,q.2,h3,hq.1.symm▸e2.symm▸e1.symm▸h⟩)
theorem fR (k:Nat){l:List B7}(e:AD cf sc t k ρ l σ=some (ρ,σ))(h:Ex (aE cf t sc ρ (nR (l.drop k))) σ (zY cf (t+1) sc (l.drop k).tail N R) R):Ex (aE cf (t+2+k) sc ρ l) σ N R:=sE k e h
theorem bi (x:Str)(d:D)(k:Nat){l:List B7}(e:AD cf sc t (k+1) ρ l σ=some (ρ.put x d,σ))(h:Ex (aE cf t sc (ρ.put x d) (nR (l.drop (k+1)))) σ (zY cf (t+1) sc (l.drop (k+1)).tail N R) R):Ex (aE cf (t+2+(k+1)) sc ρ l) σ N R:=sE (k+1) e h
theorem fi {tg it:Expr}{body:List B7}{p:Pos}(h:Ok (cz cf t sc ρ it) σ (ForK cf t sc ρ tg body N R)):Ex (ey cf (t+1) sc ρ (.For tg it body [] p)) σ N R:=by
 exact Ok.bind (h.mono λsrc σ1 h1=>h1)
theorem wW {c:Expr}{body:List B7}{p:Pos}(h:Ex (dy (λρ=>cR cf t sc ρ c) (λρ=>aE cf t sc ρ body) 6 ρ) σ N R):Ex (ey cf (t+1) sc ρ (.While c body [] p)) σ N R:=by
 exact h
theorem rR {test:Loc->PM Bool}{body:Loc->PM (Fl×Loc)}{n:Nat}(h:Ok (test ρ) σ λb σ1=>(b=true->Ex (body ρ) σ1 (λρ' σ2=>Ex (dy test body n ρ') σ2 N R) R)/\(b=false->N ρ σ1)):Ex (dy test body (n+1) ρ) σ N R:=by
 refine Ok.bind (h.mono λb σ1 h1=>?_);cases b
 ·exact Ok.ret (h1.2 rfl)
 ·refine Ok.bind (Ok.mono (h1.1 rfl) λr σ2 h2=>?_);obtain ⟨f,ρ'⟩:=r;induction f using Fl.casesOn with
  | next=>exact h2
  | ret d=>exact Ok.ret h2
theorem cE {tg:Expr}{x:D}{ρ':Loc}{body:List B7}(e:ge sc tg x ρ σ=some (ρ',σ))(h:Ex (aE cf t sc ρ' body) σ N R):Ex (do
    let ρ' <- ge sc tg x ρ
    aE cf t sc ρ' body) σ N R:=Ok.bind (Ok.run e h)
theorem ax {fd:Fd}{args:List D}{ρ:Loc}{P:D->Sto->Prop}(hb:jW fd.params args (gB fd.scope)=some ρ)(h:Ex (aE cf 64 fd.scope ρ fd.body) σ (λ_ σ'=>P .none σ') P):Ok (mG cf fd args) σ P:=by
 refine Ok.bind (Ok.ofOpt hb (Ok.bind (Ok.mono h λr σ' h1=>?_)));obtain ⟨f,ρ'⟩:=r;induction f using Fl.casesOn with
 | next=>exact Ok.ret h1
 | ret d=>exact Ok.ret h1
theorem ao {n:Nat}{f:Str}{args:List D}{fd:Fd}{P:D->Sto->Prop}(hf:(f==("Evaluator" : Str))=false)(e:aM f=some fd)(h:Ok (mG (aL n) fd args) σ P):Ok (aL (n+1) f args) σ P:=by
 unfold aL;rw [if_neg (by rw [hf];decide)];exact Ok.bind (Ok.ofOpt e h)
end
inductive U1 where
 | some | no | one | lone | closure | star | turn
inductive B2 where
 | isin | join | product | implies | iff
inductive Q3 where
 | all | exist | comp
mutual
inductive N where
 | var (b:Bool)
 | rel (i:Bool)
 | none
 | un (o:U1) (a:N)
 | bin (o:B2) (a b:N)
 | or (a b:N)
 | q (o:Q3) (ds:Ds) (f:N)
inductive Ds where
 | nil
 | cons (b:Bool) (a:N) (r:Ds)
end
noncomputable def nm (b:Bool):Str:=if b then "y" else "x"
noncomputable def U1.s:U1->Str
 | .some=>"some" | .no=>"no" | .one=>"one" | .lone=>"lone" | .closure=>"closure" | .star=>"star" | .turn=>"turn"
noncomputable def B2.s:B2->Str
 | .isin=>"in" | .join=>"join" | .product=>"product" | .implies=>"implies" | .iff=>"iff"
noncomputable def Q3.s:Q3->Str
 | .all=>"all" | .exist=>"exists" | .comp=>"comp"
mutual
noncomputable def N.d:N->D
 | .var b => .tup [.str "var",.str (nm b)]
 | .rel i => .tup [.str "rel",.int (if i then 1 else 0)]
 | .none => .tup [.str "none",.int 1]
 | .un o a => .tup [.str o.s,a.d]
 | .bin o a b => .tup [.str o.s,a.d,b.d]
 | .or a b => .tup [.str "or",.tup [a.d,b.d]]
 | .q o ds f => .tup [.str o.s,.tup ds.d,f.d]
noncomputable def Ds.d:Ds->List D
 | .nil=>[]
 | .cons b a r => .tup [.str (nm b),a.d]::r.d
end
mutual
noncomputable def N.ht:N->Nat
 | .var _ | .rel _ | .none=>1
 | .un _ a=>a.ht+1
 | .bin _ a b=>max a.ht b.ht+1
 | .or a b=>max a.ht b.ht+1
 | .q _ ds f=>max ds.ht f.ht+1
noncomputable def Ds.ht:Ds->Nat
 | .nil=>1
 | .cons _ a r=>max a.ht r.ht
end
noncomputable def Ds.len:Ds->Nat
 | .nil=>0
 | .cons _ _ r=>r.len+1
noncomputable abbrev Pl:=Bool->Option N
noncomputable def Pl.drop (b:Bool)(ep:Pl):Pl:=λc=>if c=b then none else ep c
noncomputable def Ds.drops:Ds->Pl->Pl
 | .nil,ep=>ep
 | .cons b _ r,ep=>r.drops (ep.drop b)
mutual
noncomputable def N.place:N->Pl->N
 | .var b,ep=>(ep b).getD (.var b)
 | .rel i,_ => .rel i
 | .none,_ => .none
 | .un o a,ep => .un o (a.place ep)
 | .bin o a b,ep => .bin o (a.place ep) (b.place ep)
 | .or a b,ep => .or (a.place ep) (b.place ep)
 | .q o ds f,ep => .q o (ds.place ep) (f.place (ds.drops ep))
noncomputable def Ds.place:Ds->Pl->Ds
 | .nil,_ => .nil
 | .cons b a r,ep => .cons b (a.place ep) (r.place (ep.drop b))
end
mutual
noncomputable def N.fv:N->Bool->Bool
 | .var b,c=>c==b
 | .rel _,_=>false
 | .none,_=>false
 | .un _ a,c=>a.fv c
 | .bin _ a b,c=>a.fv c || b.fv c
 | .or a b,c=>a.fv c || b.fv c
 | .q _ ds f,c=>ds.fv c || (!ds.binds c && f.fv c)
noncomputable def Ds.fv:Ds->Bool->Bool
 | .nil,_=>false
 | .cons b a r,c=>a.fv c || (c != b && r.fv c)
noncomputable def Ds.binds:Ds->Bool->Bool
 | .nil,_=>false
 | .cons b _ r,c=>c==b || r.binds c
end
noncomputable def filt (cs:List Nat):List Nat:=(List.range 4).filter λn=>cs.contains n
noncomputable abbrev En:=Bool->List Nat
noncomputable def En.set (e:En)(b:Bool)(v:List Nat):En:=λc=>if c=b then v else e c
noncomputable def sf (s p:List Nat):List Nat:=filt (s.flatMap λc=>(p.filter λq=>c==q / 2).map λq=>q % 2)
noncomputable def f8 (s t:List Nat):List Nat:=s.flatMap λc=>t.map λe=>2 * c+e
noncomputable def sS (p:List Nat):List Nat:=filt (p.map λq=>2 * (q % 2)+q / 2)
noncomputable def cL (p:List Nat):List Nat:=filt (p++p.flatMap λq=>(p.filter λr=>q % 2==r / 2).map λr=>2 * (q / 2)+r % 2)
noncomputable def tU (p:List Nat):List Nat:=filt (cL p++[0,3])
noncomputable def oL (o:U1)(n:Nat):Bool:=match o with
 | .some=>decide (n > 0)
 | .no=>n==0
 | .one=>n==1
 | _=>decide (n < 2)
mutual
noncomputable def N.den (h0 h1:List Nat):N->En->List Nat
 | .var b,e=>e b
 | .rel false,_=>h0
 | .rel true,_=>h1
 | .none,_=>[]
 | .un .closure a,e=>cL (a.den h0 h1 e)
 | .un .star a,e=>tU (a.den h0 h1 e)
 | .un .turn a,e=>sS (a.den h0 h1 e)
 | .bin .join a b,e=>sf (a.den h0 h1 e) (b.den h0 h1 e)
 | .bin .product a b,e=>f8 (a.den h0 h1 e) (b.den h0 h1 e)
 | .q _ ds f,e=>filt (((ds.opens h0 h1 [([],e)]).filter λp=>f.tru h0 h1 p.2).map λp=>p.1.headD 0)
 | _,_=>[]
noncomputable def N.tru (h0 h1:List Nat):N->En->Bool
 | .un o a,e=>oL o (a.den h0 h1 e).length
 | .bin .isin a b,e=>(a.den h0 h1 e).all λc=>(b.den h0 h1 e).contains c
 | .bin .implies a b,e => !a.tru h0 h1 e || b.tru h0 h1 e
 | .bin .iff a b,e=>a.tru h0 h1 e==b.tru h0 h1 e
 | .or a b,e=>a.tru h0 h1 e || b.tru h0 h1 e
 | .q .exist ds f,e=>(ds.opens h0 h1 [([],e)]).any λp=>f.tru h0 h1 p.2
 | .q .all ds f,e=>(ds.opens h0 h1 [([],e)]).all λp=>f.tru h0 h1 p.2
 | _,_=>false
noncomputable def Ds.opens (h0 h1:List Nat):Ds->List (List Nat×En)->List (List Nat×En)
 | .nil,l=>l
 | .cons b a r,l=>r.opens h0 h1 (l.flatMap λp=>(a.den h0 h1 p.2).map λc=>(p.1++[c],p.2.set b [c]))
end
inductive Ty where
 | set | pair | form
 deriving DecidableEq
mutual
noncomputable def N.ok:N->Ty->Bool
 | .var _,t=>t == .set
 | .rel false,t=>t == .set
 | .rel true,t=>t == .pair
 | .none,t=>t == .set
 | .un o a,t=>match o with
  | .closure | .star | .turn=>t == .pair && a.ok .pair
  | _=>t == .form && a.ok .set
 | .bin o a b,t=>match o with
  | .isin=>t == .form && a.ok .set && b.ok .set
  | .join=>t == .set && a.ok .set && b.ok .pair
  | .product=>t == .pair && a.ok .set && b.ok .set
  | _=>t == .form && a.ok .form && b.ok .form
 | .or a b,t=>t == .form && a.ok .form && b.ok .form
 | .q o ds f,t=>ds.ok && f.ok .form && decide (ds.len<=3) && (match o with
  | .comp=>t == .set && ds.len==1
  | _=>t == .form)
noncomputable def Ds.ok:Ds->Bool
 | .nil=>true
 | .cons _ a r=>a.ok .set && r.ok
end
mutual
noncomputable def N.cost (v:Nat):N->Nat
 | .var _=>v
 | .rel _ | .none=>0
 | .un _ a=>a.cost v
 | .bin _ a b=>a.cost v+b.cost v
 | .or a b=>a.cost v+b.cost v
 | .q _ ds f=>ds.cost v 1+2 ^ ds.len * f.cost v
noncomputable def Ds.cost (v:Nat):Ds->Nat->Nat
 | .nil,_=>0
 | .cons _ a r,k=>k * (a.cost v+2)+r.cost v (2 * k)
end
theorem N.both {P:N->Prop}{Q:Ds->Prop}(h1:∀ b,P (.var b))(h2:∀ i,P (.rel i))(h3:P .none)(h4:∀ o a,P a->P (.un o a))(h5:∀ o a b,P a->P b->P (.bin o a b))(h6:∀ a b,P a->P b->P (.or a b))(h7:∀ o ds f,Q ds->P f->P (.q o ds f))
  (h8:Q .nil) (h9:∀ b a r,P a->Q r->Q (.cons b a r)):(∀ x,P x)/\∀ ds,Q ds:=⟨N.rec h1 h2 h3 h4 h5 h6 h7 h8 h9,Ds.rec h1 h2 h3 h4 h5 h6 h7 h8 h9⟩
theorem Ds.ind {P:Ds->Prop}(h0:P .nil)(h1:∀ b a r,P r->P (.cons b a r))(ds:Ds):P ds :=
 (N.both (P:=λ_=>True) (λ_=>trivial) (λ_=>trivial) trivial (λ_ _ _=>trivial) (λ_ _ _ _ _=>trivial) (λ_ _ _ _=>trivial) (λ_ _ _ _ _=>trivial) h0 λb a r _=>h1 b a r).2 ds
noncomputable def uT:U1->Ty×Ty
 | .closure | .star | .turn=>(.pair,.pair)
 | _=>(.form,.set)
noncomputable def bT:B2->Ty×Ty×Ty
 | .isin=>(.form,.set,.set)
 | .join=>(.set,.set,.pair)
 | .product=>(.pair,.set,.set)
 | _=>(.form,.form,.form)
noncomputable def qT (o:Q3)(n:Nat)(t:Ty):Bool:=match o with
 | .comp=>t == .set && n==1
 | _=>t == .form
theorem je (o:U1)(a:N)(t:Ty):(N.un o a).ok t=(t==(uT o).1 && a.ok (uT o).2):=by induction o using U1.casesOn <;> rfl
theorem eY (o:B2)(a b:N)(t:Ty):(N.bin o a b).ok t=(t==(bT o).1 && a.ok (bT o).2.1 && b.ok (bT o).2.2):=by induction o using B2.casesOn <;> rfl
theorem sJ (o:Q3)(ds:Ds)(f:N)(t:Ty):(N.q o ds f).ok t=(ds.ok && f.ok .form && decide (ds.len<=3) && qT o ds.len t):=by induction o using Q3.casesOn <;> rfl
theorem orl {a b:Bool}(h:a=true):(a || b)=true:=h.symm▸rfl
theorem orr {a b:Bool}(h:b=true):(a || b)=true:=by (refine h.symm▸?_;exact (Bool.or_true _).symm▸rfl)
theorem e7 {a b:Bool}(h:a=true)(k:b=true):(a && b)=true:=by (refine h.symm▸?_;exact k.symm▸rfl)
theorem bq {a b:Bool}(h:(a && b)=true):a=true:=(and_eq_true_iff.mp h).1
theorem cH {a b:Bool}(h:(a && b)=true):b=true:=(and_eq_true_iff.mp h).2
section
variable {cf:Str->List D->PM D}{t:Nat}{sc:B0}{ρ:Loc}{σ:Sto}{P:D->Sto->Prop}{N:Loc->Sto->Prop}{R:D->Sto->Prop}
theorem ip {src:Src}{body:D->Loc->PM (Fl×Loc)}{x:D}{xs:List D}(hs:src.Fix σ)(h:Ex (body x ρ) σ (λρ' σ'=>Ex (d3 src body xs ρ') σ' N R) R):Ex (d3 src body (x::xs) ρ) σ N R:=by
 refine Ok.bind (hs.ok (Ok.bind (Ok.mono h λr σ1 h1=>?_)));obtain ⟨f,ρ'⟩:=r;induction f using Fl.casesOn with
 | ret d=>exact Ok.ret h1
 | next=>exact h1
theorem iW {src:Src}{body:D->Loc->PM (Fl×Loc)}(hs:src.Fix σ)(h:N ρ σ):Ex (d3 src body [] ρ) σ N R:=by
 exact Ok.bind (hs.ok (Ok.ret h))
theorem aW {src:Src}{body:D->PM (List D)}{x:D}{xs:List D}{PL:List D->Sto->Prop}(hs:src.Fix σ)(h:Ok (body x) σ λa σ1=>Ok (bJ src body xs) σ1 λr σ2=>PL (a++r) σ2):Ok (bJ src body (x::xs)) σ PL:=by
 exact Ok.bind (hs.ok (Ok.bind (h.mono λa σ1 h1=>Ok.bind (h1.mono λr σ2 h2=>Ok.ret h2))))
theorem cg {src:Src}{body:D->PM (List D)}{PL:List D->Sto->Prop}(h:PL [] σ):Ok (bJ src body []) σ PL:=by
 exact Ok.ret h
theorem bv {a b:PM (Fl×Loc)}(h:Ex a σ N R):Ex (cond true a b) σ N R:=h
theorem cF {a b:PM (Fl×Loc)}(h:Ex b σ N R):Ex (cond false a b) σ N R:=h
theorem cC {a b:PM D}(h:Ok a σ P):Ok (cond true a b) σ P:=h
theorem cv {a b:PM D}(h:Ok b σ P):Ok (cond false a b) σ P:=h
end
section
variable {σ:Sto}{P:D->Sto->Prop}{a b:Str}
theorem fu (a:Str):SeqAt.shaped (.str a)=PyData.strOk a:=by simp [SeqAt.shaped,PyData.canLay0,PyData.depth]
noncomputable def r9:List D->Option (List Str)
 | []=>some []
 | .str x::r=>(r9 r).map (x :: ·)
 | _::_=>none
theorem qW {l:List D}{xs:List Str}(h:r9 l=some xs):D.pys l=some (xs.map .str):=by
 induction l generalizing xs with
 | nil=>exact Option.some.inj h▸rfl
 | cons d r ih =>
  induction d using D.casesOn with
  | str x =>
   obtain ⟨ys,hq⟩:=map_eq_some_iff.mp h;have h1:=hq.1;have h:=hq.2;exact h▸eO rfl (ih h1)
  | _=>exact an h
theorem ie:∀ (xs:List Str),PyData.canLayAll0 (xs.map .str)=xs.all PyData.strOk/\PyData.depthAll (xs.map .str)=0:=λl=>by
 induction l using List.rec with
 | nil =>
  exact ⟨rfl,rfl⟩
 | cons x r ih =>
  have:=ih;refine (map_cons).symm▸?_;unfold PyData.canLayAll0 PyData.depthAll;rw [this.1,this.2];exact ⟨by simp [PyData.canLay0],by simp [PyData.depth]⟩
theorem on (a:Str):∀ xs:List Str,kW (.str a) (xs.map .str)=xs.contains a:=λl=>by
 induction l using List.rec with
 | nil =>
  exact rfl
 | cons x r ih =>
  have:=ih;unfold kW at this ⊢;rw [map_cons,any_cons,this,List.contains_cons];have h:PyData.eqv (.str x) (.str a)=(x==a):=by simp [PyData.eqv]
  rw [h,Bool.beq_comm]
end
section
variable {cf:Str->List D->PM D}{t:Nat}{sc:B0}{ρ:Loc}{σ:Sto}{P:D->Sto->Prop}{N:Loc->Sto->Prop}{R:D->Sto->Prop}
theorem m8 {b:List B7}{m:PM (Fl×Loc)}(h:aE cf t sc ρ b=m)(k:Ex m σ N R):Ex (aE cf t sc ρ b) σ N R:=h▸k
theorem z7 {e:Expr}{m:PM D}(h:ak cf t sc ρ e=m)(k:Ok m σ P):Ok (ak cf t sc ρ e) σ P:=h▸k
theorem aa {e:Expr}{d:D}(h:ak cf t sc ρ e=pure d)(k:P d σ):Ok (ak cf t sc ρ e) σ P:=h▸Ok.ret k
theorem ah {es:List Expr}{ds:List D}{PL:List D->Sto->Prop}(h:bE (ak cf t sc ρ) es=pure ds)(k:PL ds σ):Ok (bE (ak cf t sc ρ) es) σ PL:=h▸Ok.ret k
theorem aU {e:Expr}{b:Bool}{PB:Bool->Sto->Prop}(h:cR cf t sc ρ e=pure b)(k:PB b σ):Ok (cR cf t sc ρ e) σ PB:=h▸Ok.ret k
theorem bm {e:Expr}{s:Src}{PS:Src->Sto->Prop}(h:cz cf t sc ρ e=pure s)(k:PS s σ):Ok (cz cf t sc ρ e) σ PS:=h▸Ok.ret k
theorem gv {o i:D}{d:D}(h:l8 o i=pure d)(k:P d σ):Ok (l8 o i) σ P:=h▸Ok.ret k
end
theorem ci:aM "placed"=some (aO 1):=rfl
theorem pH:aM "placed_decls"=some (aO 0):=rfl
noncomputable def mf (σ:Sto)(e:Nat)(ep:Pl):Prop:=∃ l v,σ[e]? = some (.dS l,v)/\∀ b,l.lookup (nm b)=(ep b).map N.d
theorem mf.kp {σ σ':Sto}{e:Nat}{ep:Pl}(h:mf σ e ep)(k:av NoW σ σ'):mf σ' e ep:=let ⟨l,v,a,b⟩:=h;⟨l,v,k.get a,b⟩
theorem lr {a b:Bool} : nm a=nm b ↔ a=b:=by
 cases a <;> cases b <;> decide
theorem iQ (k j:Str)(l:List (Str×D)):(di k l).lookup j=if j=k then none else l.lookup j:=by
 induction l with
 | nil=>exact (ite_self _).symm
 | cons p r ih =>
  induction p using Prod.casesOn with
  | mk a d =>
  by_cases h:a=k
  ·rw [show di k ((a,d)::r)=di k r from List.filter_cons_of_neg (p:=λp:Str×D=>decide (p.1≠k)) (a:=(a,d)) (λe=>of_decide_eq_true e h),ih,h];by_cases hj:j=k
   ·rw [if_pos hj,if_pos hj]
   ·rw [if_neg hj,if_neg hj,List.lookup_cons,beq_false_of_ne hj]
  ·rw [show di k ((a,d)::r)=(a,d)::di k r from List.filter_cons_of_pos (p:=λp:Str×D=>decide (p.1≠k)) (a:=(a,d)) (decide_eq_true h),List.lookup_cons,List.lookup_cons];by_cases hj:j=a
   ·rw [beq_iff_eq.mpr hj,if_neg λe=>h (hj.symm.trans e)]
   ·rw [beq_false_of_ne hj];exact ih
section
variable {σ:Sto}{P:D->Sto->Prop}
theorem b4 {k v:Nat}{l:List D}(e:σ[k]? = some (.list l,v))(hl:l.length<=aQ)(h:P (.tup l) σ):Ok (b9 "tuple" (.ref k)) σ P:=by
 have:b9 "tuple" (.ref k)=(do mkTup (<- oD (.ref k))):=by kernel_rfl
 refine this.symm▸?_;exact Ok.bind (Ok.bind (Ok.getO e (Ok.ret (Ok.mkTup hl h))))
theorem iw {a b:List D}(hl:(a++b).length<=aQ)(h:P (.tup (a++b)) σ):Ok (pD .Add (.tup a) (.tup b)) σ P:=Ok.mkTup hl h
theorem r8 {k v:Nat}{l:List (Str×D)}(e:σ[k]? = some (.dS l,v))(h:P (.ref σ.length) (σ++[(.dS l,0)])):Ok (b9 "dict" (.ref k)) σ P:=by
 have:b9 "dict" (.ref k)=jB (.ref k):=by kernel_rfl
 refine this.symm▸?_;exact Ok.bind (Ok.getO e (Ok.alloc h))
end
noncomputable def lPl (x:D)(e:Nat):Loc:=[("node",some x),("env",some (.ref e)),("op",none),("decls",none),("inner",none)]
theorem pI (b:Bool)(ep:Pl)(n:Nat)(σ:Sto)(e:Nat)(he:mf σ e ep):Ok (aL (n+1) "placed" [(N.var b).d,.ref e]) σ λr σ'=>r=((N.var b).place ep).d/\av NoW σ σ':=by
 refine ao rfl ci (ax (ρ:=lPl (N.var b).d e) rfl ?_);obtain ⟨l,v,hq⟩:=he;have h1:=hq.1;have h2:=hq.2;refine bi "op" (.str "var") 0 (by kernel_rfl) (ab (aB ?_));refine zT rfl rfl (aa (d:=.ref e) rfl ⟨_,_,_,rfl,h1,rfl,?_⟩);refine aa (d:=.str (nm b)) rfl (aa (d:=(N.var b).d) rfl ⟨_,_,h1,rfl,?_⟩);refine Ok.bind (Ok.ofOpt (a:=l.lookup (nm b)) rfl (Ok.ret ⟨?_,av.refl _ _⟩));rw [h2];refine (?_:_=((ep b).getD (N.var b)).d);cases ep b <;> rfl
theorem gD (x:N)(s:Str)(y:D)(hx:x.d = .tup [.str s,y])(hs:s="rel"\/s="none")(ep:Pl)(hp:x.place ep=x)(n:Nat)(σ:Sto)(e:Nat):Ok (aL (n+1) "placed" [x.d,.ref e]) σ λr σ'=>r=(x.place ep).d/\av NoW σ σ':=by
 refine hx.symm▸?_;refine ao rfl ci (ax (ρ:=lPl (.tup [.str s,y]) e) rfl ?_);refine bi "op" (.str s) 1 (by rcases hs with rfl | rfl <;> kernel_rfl) (ab (aB (aa (d:=.tup [.str s,y]) rfl ⟨?_,av.refl _ _⟩)));(refine hp.symm▸?_;exact hx.symm▸rfl)
noncomputable def HP (n:Nat)(a:N)(ep:Pl):Prop:=∀ σ e,mf σ e ep->Ok (aL n "placed" [a.d,.ref e]) σ λr σ2=>r=(a.place ep).d/\av NoW σ σ2
noncomputable def HPs (n:Nat):Ds->Pl->Prop
 | .nil,_=>True
 | .cons b a r,ep=>HP n a ep/\HPs n r (ep.drop b)
theorem pN (o:U1)(a:N)(ep:Pl)(n:Nat)(σ:Sto)(e:Nat)(he:mf σ e ep)(H:HP n a ep):Ok (aL (n+1) "placed" [(N.un o a).d,.ref e]) σ λr σ'=>r=((N.un o a).place ep).d/\av NoW σ σ':=by
 refine ao rfl ci (ax (ρ:=lPl (N.un o a).d e) rfl ?_);refine b6 "op" (.str o.s) 4 (by cases o <;> kernel_rfl) ?_;refine ab (aB ?_);refine bB (aa (d:=.tup [.str o.s]) rfl ?_);refine bM rfl rfl ?_;refine aX rfl ?_;refine bm (s:=.tup [a.d]) rfl ?_;refine aW trivial (aY rfl (am rfl (by kernel_rfl) (ah (ds:=[a.d,.ref e]) rfl ?_)));refine (H _ _ he).mono λr σ1 h1=>cg ?_;obtain ⟨rfl,k1⟩:=h1;refine ⟨trivial,le_of_ble_eq_true rfl,b4 (ag _ _) (le_of_ble_eq_true rfl) (iw (le_of_ble_eq_true rfl) ⟨rfl,k1.push _⟩)⟩
theorem oR (o:B2)(a b:N)(ep:Pl)(n:Nat)(σ:Sto)(e:Nat)(he:mf σ e ep)(H:HP n a ep)(H2:HP n b ep):Ok (aL (n+1) "placed" [(N.bin o a b).d,.ref e]) σ λr σ'=>r=((N.bin o a b).place ep).d/\av NoW σ σ':=by
 refine ao rfl ci (ax (ρ:=lPl (N.bin o a b).d e) rfl ?_);refine b6 "op" (.str o.s) 4 (by cases o <;> kernel_rfl) ?_;refine ab (aB ?_);refine bB (aa (d:=.tup [.str o.s]) rfl ?_);refine bM rfl rfl ?_;refine aX rfl ?_;refine bm (s:=.tup [a.d,b.d]) rfl ?_;refine aW trivial (aY rfl (am (by kernel_rfl) (by kernel_rfl) (ah (ds:=[a.d,.ref e]) rfl ?_)));refine (H _ _ he).mono λr σ1 h1=>?_;obtain ⟨rfl,k1⟩:=h1;refine aW trivial (aY rfl (am (by kernel_rfl) (by kernel_rfl) (ah (ds:=[b.d,.ref e]) rfl ?_)));refine (H2 _ _ (he.kp k1)).mono λr σ2 h2=>cg ?_;obtain ⟨rfl,k2⟩:=h2;refine ⟨trivial,le_of_ble_eq_true rfl,b4 (ag _ _) (le_of_ble_eq_true rfl) (iw (le_of_ble_eq_true rfl) ⟨rfl,(k1.trans k2).push _⟩)⟩
theorem rT (a b:N)(ep:Pl)(n:Nat)(σ:Sto)(e:Nat)(he:mf σ e ep)(H:HP n a ep)(H2:HP n b ep):Ok (aL (n+1) "placed" [(N.or a b).d,.ref e]) σ λr σ'=>r=((N.or a b).place ep).d/\av NoW σ σ':=by
 refine ao rfl ci (ax (ρ:=lPl (N.or a b).d e) rfl ?_);refine bi "op" (.str "or") 2 (by kernel_rfl) (ab (aB ?_));refine aI (ae (aa (d:=.str "or") rfl (ae ?_)));refine bM rfl rfl ?_;refine aX rfl ?_;refine bm (s:=.tup [a.d,b.d]) rfl ?_;refine aW trivial (aY rfl (am (by kernel_rfl) (by kernel_rfl) (ah (ds:=[a.d,.ref e]) rfl ?_)));refine (H _ _ he).mono λr σ1 h1=>?_;obtain ⟨rfl,k1⟩:=h1;refine aW trivial (aY rfl (am (by kernel_rfl) (by kernel_rfl) (ah (ds:=[b.d,.ref e]) rfl ?_)));refine (H2 _ _ (he.kp k1)).mono λr σ2 h2=>cg ?_;obtain ⟨rfl,k2⟩:=h2;exact ⟨trivial,le_of_ble_eq_true rfl,b4 (ag _ _) (le_of_ble_eq_true rfl) (aq ⟨le_of_ble_eq_true rfl,rfl,(k1.trans k2).push _⟩)⟩
theorem wz {n:Nat}{src:Src}{body:D->Loc->PM (Fl×Loc)}{N:Loc->Sto->Prop}{R:D->Sto->Prop}(I:Pl->List D->Loc->Sto->Prop)(hs:∀ ep acc ρ σ,I ep acc ρ σ->src.Fix σ)
  (step:∀ b a ep acc ρ σ,HP n a ep->acc.length < aQ->I ep acc ρ σ->Ex (body (.tup [.str (nm b),a.d]) ρ) σ (λρ2 σ2=>I (ep.drop b) (acc++[.tup [.str (nm b),(a.place ep).d]]) ρ2 σ2) R)
  (ds:Ds):∀ (ep:Pl) (acc:List D) (ρ:Loc) (σ:Sto),HPs n ds ep->acc.length+ds.len<=aQ->I ep acc ρ σ->(∀ ρ' σ',I (ds.drops ep) (acc++(ds.place ep).d) ρ' σ'->N ρ' σ')->Ex (d3 src body ds.d ρ) σ N R:=by
 refine Ds.ind (P:=λds=>∀ (ep:Pl) (acc:List D) (ρ:Loc) (σ:Sto),HPs n ds ep->acc.length+ds.len<=aQ->I ep acc ρ σ->(∀ ρ' σ',I (ds.drops ep) (acc++(ds.place ep).d) ρ' σ'->N ρ' σ')->Ex (d3 src body ds.d ρ) σ N R)
  (λep acc ρ σ _ _ h0 hN=>iW (hs _ _ _ _ h0) (hN _ _ ((append_nil acc).symm▸h0))) (λb a r ih ep acc ρ σ H hl h0 hN=>?_) ds
 refine ip (hs _ _ _ _ h0) (Ex.mono (step b a ep acc ρ σ H.1 (lt_of_lt_of_le (Nat.lt_add_of_pos_right (succ_pos _)) hl) h0) (λρ2 σ2 h2=>?_) λ_ _ h=>h);exact ih (ep.drop b) _ ρ2 σ2 H.2 (by rw [length_append];exact le_trans (le_of_eq (Nat.add_right_comm _ 1 _)) hl) h2 λρ' σ' h3=>hN _ _ (by rw [append_assoc] at h3;exact h3)
theorem uD (x:Str){l:List (Str×D)}(h:l.lookup x=none)(j:Str):(if j=x then none else l.lookup j)=l.lookup j:=by
 by_cases e:j=x
 ·(refine (if_pos e).symm▸?_;refine e.symm▸?_;exact h.symm▸rfl)
 ·exact (if_neg e).symm▸rfl
noncomputable def nz (ds:Ds)(e i f:Nat)(o1 o2:Option D):Loc:=[("decls",some (.tup ds.d)),("env",some (.ref e)),("inner",some (.ref i)),("found",some (.ref f)),("name",o1),("expr",o2)]
theorem j9:∀ (ds:Ds) (ep:Pl),(ds.place ep).d.length=ds.len
 | .nil,_=>rfl
 | .cons b a r,ep=>by
  refine (?_:((r.place (ep.drop b)).d).length+1=r.len+1);exact (j9 _ _).symm▸rfl
theorem sR (ds:Ds)(ep:Pl)(n:Nat)(σ:Sto)(e:Nat)(H:HPs n ds ep)(hl:ds.len<=aQ)(he:mf σ e ep) :
  Ok (aL (n+1) "placed_decls" [.tup ds.d,.ref e]) σ λr σ'=>∃ e',r = .tup [.tup (ds.place ep).d,.ref e']/\mf σ' e' (ds.drops ep)/\av NoW σ σ':=by
 refine ao rfl pH (ax (ρ:=[("decls",some (.tup ds.d)),("env",some (.ref e)),("inner",none),("found",none),("name",none),("expr",none)]) rfl ?_);obtain ⟨l,v,hq⟩:=he;have h1:=hq.1;have h2:=hq.2;refine ab (kR rfl rfl rfl ?_);refine aI (ae (bM rfl rfl (aa (d:=.ref e) rfl (r8 h1 ?_))));refine ae (bw (aq ⟨zero_le _,aq ⟨le_of_ble_eq_true rfl,_,_,rfl,?_⟩⟩));have hlen:(σ++[(PO.dS l,0)]).length=σ.length+1:=by simp
 rw [hlen];refine ab (fi (bm (s:=.tup ds.d) rfl ?_));refine wz (n:=n) (src:=.tup ds.d) (λ(ep':Pl) (acc:List D) (ρ':Loc) (σ':Sto)=>(∃ o1 o2,ρ'=nz ds e σ.length (σ.length+1) o1 o2)/\av NoW σ σ'/\mf σ' σ.length ep'/\∃ v,σ'[σ.length+1]? = some (.list acc,v))
  (λ_ _ _ _ _=>trivial) ?_ ds ep [] _ _ H (by simpa using hl) ⟨⟨none,none,by kernel_rfl⟩,((av.refl _ _).push _).push _,⟨l,0,al (ag _ _),h2⟩,0,hlen▸(ag _ _)⟩ ?_
 ·rintro b a ep' acc ρ' σ' HA hacc ⟨⟨o1,o2,rfl⟩,k,⟨l',v',g1,g2⟩,v2,g3⟩;refine cE (ρ':=(nz ds e σ.length (σ.length+1) (some (.str (nm b))) (some a.d))) rfl ?_;refine ab (im rfl (dM rfl (aa (d:=.ref (σ.length+1)) rfl ⟨_,_,_,rfl,g3,?_⟩)));refine aI (ae (aa (d:=.str (nm b)) rfl (ae (am rfl (by kernel_rfl) (ah (ds:=[a.d,.ref σ.length]) rfl ?_)))));refine (HA σ' σ.length ⟨l',v',g1,g2⟩).mono λr σ3 h3=>aq ?_;obtain ⟨rfl,k3⟩:=h3;refine ⟨le_of_ble_eq_true rfl,acc,v2,k3.get g3,le_of_lt hacc,?_⟩;have g1':=k3.get g1;have g3':=k3.get g3;have kk:=(k.trans k3).set (k:=σ.length+1) (le_add_right _ _) (.list (acc++[.tup [.str (nm b),(a.place ep').d]]),v2+1);have g1'':(σ3.set (σ.length+1) (.list (acc++[.tup [.str (nm b),(a.place ep').d]]),v2+1))[σ.length]? = some (.dS l',v'):=aF (by exact ne_of_gt (bh (.a (.v 0) (.n 1)) (.a (.v 0) (.n 1)) [] rfl)) g1';have g3'':(σ3.set (σ.length+1) (.list (acc++[.tup [.str (nm b),(a.place ep').d]]),v2+1))[σ.length+1]? = some (.list (acc++[.tup [.str (nm b),(a.place ep').d]]),v2+1):=bN g3';generalize σ3.set (σ.length+1) (.list (acc++[.tup [.str (nm b),(a.place ep').d]]),v2+1)=σ4 at kk g1'' g3'';refine ab (im rfl (zT rfl rfl (aa (d:=.ref σ.length) rfl ⟨_,_,_,rfl,g1'',rfl,?_⟩)));refine aa (d:=.str (nm b)) rfl (aa (d:=.none) rfl ⟨_,_,g1'',rfl,?_⟩);have hpop:cG σ.length (.dS l') "pop" (.str (nm b)) .none=yn σ.length l' (nm b) .none:=by kernel_rfl
  rw [hpop];have done:∀ σ5 l5,av NoW σ σ5->(∃ v5,σ5[σ.length]? = some (.dS l5,v5))->(∀ j,l5.lookup j=if j=nm b then none else l'.lookup j)->(∃ v,σ5[σ.length+1]? = some (.list (acc++[.tup [.str (nm b),(a.place ep').d]]),v)) ->
    Ex (aE (aL n) 58 (aO 0).scope (nz ds e σ.length (σ.length+1) (some (.str (nm b))) (some a.d)) []) σ5 (λρ2 σ2=>(∃ o1 o2,ρ2=nz ds e σ.length (σ.length+1) o1 o2)/\av NoW σ σ2/\mf σ2 σ.length (ep'.drop b)/\∃ v,σ2[σ.length+1]? = some (.list (acc++[.tup [.str (nm b),(a.place ep').d]]),v))
     (λr σ'=>∃ e',r = .tup [.tup (ds.place ep).d,.ref e']/\mf σ' e' (ds.drops ep)/\av NoW σ σ'):=λσ5 l5 k5 ⟨v5,g5⟩ hj g6=>by
   refine a9 ⟨⟨_,_,rfl⟩,k5,⟨l5,v5,g5,λc=>?_⟩,g6⟩;rw [hj];unfold Pl.drop;by_cases hc:c=b
   ·subst hc;rw [if_pos rfl,if_pos rfl];rfl
   ·rw [if_neg hc,if_neg (λq=>hc (lr.mp q))];exact g2 c
  unfold yn;cases hlk:l'.lookup (nm b) with
  | none=>exact Ok.ret (done _ l' kk ⟨_,g1''⟩ (λj=>(uD _ hlk j).symm) ⟨_,g3''⟩)
  | some d=>exact Ok.bind (Ok.setO (Ok.ret (done _ _ (kk.set (le_refl _) _) ⟨_,bN g1''⟩ (λj=>iQ _ j _) ⟨_,aF (by exact ne_of_lt (bh (.a (.v 0) (.n 1)) (.a (.v 0) (.n 1)) [] rfl)) g3''⟩)))
 ·rintro ρ' σ' ⟨⟨o1,o2,rfl⟩,k,hE,v,g⟩;have hdl:(ds.place ep).d.length<=aQ:=by rw [j9];exact hl
  refine ab (aB (aI (ae (bM rfl rfl (aa (d:=.ref (σ.length+1)) rfl (b4 g (by simpa using hdl) ?_))))));exact ae (aa (d:=.ref σ.length) rfl (aq ⟨le_of_ble_eq_true rfl,_,rfl,hE,k⟩))
theorem ut (o:Q3)(ds:Ds)(f:N)(ep:Pl)(n:Nat)(σ:Sto)(e:Nat)(he:mf σ e ep)(hl:ds.len<=aQ)(H:HPs n ds ep)(H2:HP (n+1) f (ds.drops ep)):Ok (aL (n+1+1) "placed" [(N.q o ds f).d,.ref e]) σ λr σ'=>r=((N.q o ds f).place ep).d/\av NoW σ σ':=by
 refine ao rfl ci (ax (ρ:=lPl (N.q o ds f).d e) rfl ?_);refine bi "op" (.str o.s) 3 (by cases o <;> kernel_rfl) ?_;refine ab (kR rfl rfl rfl (am rfl (by kernel_rfl) (ah (ds:=[.tup ds.d,.ref e]) rfl ?_)));refine (sR ds ep n σ e H hl he).mono λr σ1 h1=>?_;obtain ⟨e',rfl,hq⟩:=h1;have hE:=hq.1;have k1:=hq.2;refine ⟨_,_,rfl,?_⟩;refine ab (aB (aI (ae (aa (d:=.str o.s) rfl (ae (aa (d:=.tup (ds.place ep).d) rfl (ae (am rfl (by kernel_rfl) (ah (ds:=[f.d,.ref e']) rfl ?_)))))))));refine (H2 _ _ hE).mono λr σ2 h2=>aq ?_;obtain ⟨rfl,k2⟩:=h2;exact ⟨le_of_ble_eq_true rfl,rfl,k1.trans k2⟩
theorem t6 {k n:Nat}(h:2 * (k+1)<=n):∃ m,n=m+1+1/\2 * k<=m:=⟨n - 2,(Nat.sub_add_cancel (le_trans (le_add_left 2 (2 * k)) h)).symm,Nat.le_sub_of_add_le h⟩
theorem zS {a b m:Nat}(h:2 * max a b<=m):2 * a<=m:=le_trans (mul_le_mul_left 2 (le_max_left a b)) h
theorem zP {a b m:Nat}(h:2 * max a b<=m):2 * b<=m:=le_trans (mul_le_mul_left 2 (le_max_right a b)) h
theorem lM:(∀ (x:N) (T:Ty) (ep:Pl) (n:Nat),x.ok T=true->2 * x.ht<=n->HP (n+1) x ep)/\∀ (ds:Ds) (ep:Pl) (n:Nat),ds.ok=true->2 * ds.ht<=n->HPs (n+1) ds ep:=by
 refine N.both (λb T ep n _ _ σ e he=>pI b ep n σ e he) (λi T ep n _ _ σ e _=>gD (.rel i) "rel" _ rfl (.inl rfl) ep rfl n σ e) (λT ep n _ _ σ e _=>gD .none "none" _ rfl (.inr rfl) ep rfl n σ e)
  (λo a ia T ep n hok hn σ e he=>?_) (λo a b ia ib T ep n hok hn σ e he=>?_) (λa b ia ib T ep n hok hn σ e he=>?_) (λo ds f id jf T ep n hok hn σ e he=>?_) (λ_ _ _ _=>trivial) λb a r ia ir ep n hok hn=>⟨ia _ ep n (bq hok) (zS hn),ir (ep.drop b) n (cH hok) (zP hn)⟩
 ·obtain ⟨m,rfl,hm⟩:=t6 hn;have hok:=(je o a T).symm.trans hok;exact pN o a ep (m+1+1) σ e he (ia _ ep (m+1) (cH hok) (le_succ_of_le hm))
 ·obtain ⟨m,rfl,hm⟩:=t6 hn;have hok:=(eY o a b T).symm.trans hok;exact oR o a b ep (m+1+1) σ e he (ia _ ep (m+1) (cH (bq hok)) (le_succ_of_le (zS hm))) (ib _ ep (m+1) (cH hok) (le_succ_of_le (zP hm)))
 ·obtain ⟨m,rfl,hm⟩:=t6 hn;exact rT a b ep (m+1+1) σ e he (ia _ ep (m+1) (cH (bq hok)) (le_succ_of_le (zS hm))) (ib _ ep (m+1) (cH hok) (le_succ_of_le (zP hm)))
 ·obtain ⟨m,rfl,hm⟩:=t6 hn;have hok:=(sJ o ds f T).symm.trans hok;exact ut o ds f ep (m+1) σ e he (le_trans (of_decide_eq_true (cH (bq hok))) (by decide)) (id ep m (bq (bq (bq hok))) (zS hm)) (jf _ _ (m+1) (cH (bq (bq hok))) (le_succ_of_le (zP hm)))
theorem fN (x:N)(T:Ty)(ep:Pl)(n:Nat)(h:x.ok T=true)(hn:2 * x.ht<=n):HP (n+1) x ep:=lM.1 x T ep n h hn
noncomputable abbrev au (u:Un)(cs:List Nat):List D:=cs.map (dec u)
noncomputable def dK:Un->Bool
 | .str=>false
 | _=>true
noncomputable def bn:Un->Nat
 | .two=>4
 | _=>2
theorem yE {u:Un}{c:Nat}(h:c < bn u):enc u (dec u c)=some c:=by
 induction u using Un.casesOn with
 | one=>exact (by decide +kernel:∀ c:Fin 2,enc .one (dec .one c)=some c.val) ⟨c,h⟩
 | two=>exact (by decide +kernel:∀ c:Fin 4,enc .two (dec .two c)=some c.val) ⟨c,h⟩
 | str=>exact (by decide +kernel:∀ c:Fin 2,enc .str (dec .str c)=some c.val) ⟨c,h⟩
theorem qK {u:Un} : ∀ {cs:List Nat},(∀ c∈cs,c < bn u)->pi u (au u cs)=some cs
 | [],_=>rfl
 | c::r,h=>by
  refine (?_:((enc u (dec u c)).bind λa=>(pi u (au u r)).map (a :: ·))=_);(refine (yE (h c (.head _))).symm▸?_;exact (qK λx hx=>h x (.tail _ hx)).symm▸rfl)
theorem sB {u:Un}{cs:List Nat}(hn:cs≠[])(h:∀ c∈cs,c < bn u):x4 (au u cs)=some (u,cs):=by
 induction cs using List.casesOn with
 | nil=>exact absurd rfl hn
 | cons c r =>
  have e:=qK h;unfold x4;induction u using Un.casesOn with
  | one=>rw [e]
  | two =>
   have:pi .one (au .two (c::r))=none:=rfl;(refine this.symm▸?_;exact e.symm▸rfl)
  | str =>
   have h1:pi .one (au .str (c::r))=none:=rfl;have h2:pi .two (au .str (c::r))=none:=rfl;(refine h1.symm▸?_;refine h2.symm▸?_;exact e.symm▸rfl)
noncomputable def lE (acc:List Nat)(cs:List Nat):List Nat:=cs.foldl (λacc c=>if acc.contains c then acc else acc++[c]) acc
theorem na:∀ (cs acc:List Nat) (x:Nat),x∈lE acc cs ↔ x∈acc\/x∈cs:=λl=>by
 induction l using List.rec with
 | nil =>
  rintro acc x;simp [lE]
 | cons c r ih =>
  rintro acc x;have:=ih (if acc.contains c then acc else acc++[c]) x;show x∈lE (if acc.contains c then acc else acc++[c]) r ↔ _;rw [this];by_cases h:acc.contains c=true
  ·rw [if_pos h];have:=List.contains_iff_mem.mp h;constructor
   ·rintro (h1 | h1)
    ·exact .inl h1
    ·exact .inr (.tail _ h1)
   ·rintro (h1 | h1)
    ·exact .inl h1
    ·rcases mem_cons.mp h1 with rfl | h1
     ·exact .inl this
     ·exact .inr h1
  ·rw [if_neg h,mem_append,mem_singleton,mem_cons,or_assoc]
theorem pA:∀ (cs acc:List Nat),acc.Nodup->(lE acc cs).Nodup:=λl=>by
 induction l using List.rec with
 | nil =>
  rintro acc h;exact h
 | cons c r ih =>
  rintro acc h;show (lE (if acc.contains c then acc else acc++[c]) r).Nodup;refine ih _ ?_;by_cases hc:acc.contains c=true
  ·rw [if_pos hc];exact h
  ·rw [if_neg hc,nodup_append];exact ⟨h,by simp,λa ha b hb q=>by rw [mem_singleton] at hb;subst hb;subst q;exact hc (List.contains_iff_mem.mpr ha)⟩
theorem oB {a b:List Nat}(h:∀ x,x∈a ↔ x∈b):filt a=filt b:=by
 apply List.filter_congr;intro x _;rw [Bool.eq_iff_iff,List.contains_iff_mem,List.contains_iff_mem];exact h x
noncomputable def iL (u:Un)(c:Nat):List Int:=match u with
 | .two=>[((c / 2:Nat):Int),((c % 2:Nat):Int)]
 | _=>[(c:Int)]
theorem jH {u:Un}(hu:dK u=true)(c:Nat):dec u c = .tup ((iL u c).map .int):=by cases u <;> first | rfl | cases hu
theorem jp {u:Un}{a b:Nat}(h:iL u a=iL u b):a=b:=by
 induction u using Un.casesOn with
 | two =>
  have h:=List.cons.inj h;exact (Nat.div_add_mod a 2).symm.trans ((congr (congrArg (λx y=>2 * x+y) (Int.ofNat.inj h.1)) (Int.ofNat.inj (List.cons.inj h.2).1)).trans (Nat.div_add_mod b 2))
 | _=>exact Int.ofNat.inj (List.cons.inj h).1
theorem de:∀ l:List Int,cb (l.map .int)=some l:=λl=>by
 induction l using List.rec with
 | nil =>
  exact rfl
 | cons i r ih =>
  refine (?_:(cb (r.map .int)).map (i :: ·)=_);exact (ih)▸rfl
noncomputable def eM (u:Un)(acc:List Nat):PO:=if acc=[] then .dS [] else .dT (acc.map λc=>(iL u c,.bool true))
theorem sH {u:Un}(acc:List Nat)(c:Nat):put (iL u c) (.bool true) (acc.map λc=>(iL u c,D.bool true))=((if acc.contains c then acc else acc++[c]).map λc=>(iL u c,D.bool true)):=by
 have hany:((acc.map λc=>(iL u c,D.bool true)).any λp=>p.1=iL u c)=acc.contains c:=by
  rw [Bool.eq_iff_iff,any_eq_true,List.contains_iff_mem];constructor
  ·rintro ⟨p,hp,he⟩;obtain ⟨x,hx,rfl⟩:=mem_map.mp hp;exact (jp (of_decide_eq_true he))▸hx
  ·intro hx;exact ⟨_,mem_map.mpr ⟨c,hx,rfl⟩,by simp⟩
 unfold put;rw [hany];by_cases h:acc.contains c=true
 ·rw [if_pos h,if_pos h,List.map_map];apply map_congr_left;intro x _;dsimp only [Function.comp];split
  ·rfl
  ·rfl
 ·rw [if_neg h,if_neg h,map_append];rfl
theorem i5 {u:Un}(hu:dK u=true):∀ (cs acc:List Nat),b8 (cs.map λc => .tup [dec u c,.bool true]) (eM u acc)=some (eM u (lE acc cs)):=λl=>by
 induction l using List.rec with
 | nil =>
  rintro acc;exact rfl
 | cons c r ih =>
  rintro acc;have:=ih (if acc.contains c then acc else acc++[c]);show (lG (eM u acc) (dec u c) (.bool true)).bind (b8 (r.map λc => .tup [dec u c,.bool true]))=some (eM u (lE (if acc.contains c then acc else acc++[c]) r));rw [<- this];have e:lG (eM u acc) (dec u c) (.bool true)=some (eM u (if acc.contains c then acc else acc++[c])):=by
   rw [jH hu];unfold eM;by_cases ha:acc=[]
   ·subst ha;show (cb ((iL u c).map .int)).map (λt=>PO.dT [(t,.bool true)])=_;rw [de];rfl
   ·rw [if_neg ha];show (cb ((iL u c).map .int)).map (λt=>PO.dT (put t (.bool true) _))=_;have hne:(if acc.contains c then acc else acc++[c])≠[]:=by
     split
     ·exact ha
     ·simp
    rw [de,map_some,sH,if_neg hne]
  rw [e];rfl
section
variable {σ:Sto}{P:D->Sto->Prop}{PL:List D->Sto->Prop}
theorem dJ {src:Src}{body:D->PM (List D)}(g:D->List D):∀ {items:List D},(∀ x∈items,body x=pure (g x))->src.Fix σ->∀ {PL:List D->Sto->Prop},PL (items.flatMap g) σ->Ok (bJ src body items) σ PL
 | [],_,_,_,hP=>cg hP
 | x::r,h,hs,_,hP=>aW hs (h x (.head _)▸Ok.ret (dJ g (λy hy=>h y (.tail _ hy)) hs hP))
theorem dQ {k v:Nat}{l:List D}{o:PO}(e:σ[k]? = some (.list l,v))(hl:l.length<=aQ)(ho:b8 l (.dS [])=some o)(h:P (.ref σ.length) (σ++[(o,0)])):Ok (b9 "dict" (.ref k)) σ P:=by
 have:b9 "dict" (.ref k)=jB (.ref k):=by kernel_rfl
 refine this.symm▸?_;exact Ok.bind (Ok.getO e (Ok.bind (Ok.must (decide_eq_true hl) (Ok.bind (Ok.ofOpt ho (Ok.alloc h))))))
theorem i7 {u:Un}{cs:List Nat}(h4:cs.length<=4)(hb:∀ c∈cs,c < bn u)(hn:cs.Nodup)(h:PL (au u (filt cs)) σ):Ok (pT (au u cs)) σ PL:=by
 refine Ok.bind (Ok.must (by simpa using h4) ?_);by_cases hc:cs=[]
 ·subst hc;exact Ok.bind (Ok.ofOpt rfl (Ok.ret h))
 ·refine Ok.bind (Ok.ofOpt (sB hc hb) (Ok.ret ?_));have:d5 cs=filt cs:=fX h4 (λx hx=>lt_of_lt_of_le (hb x hx) (by cases u <;> decide)) hn;exact this▸h
theorem xM {u:Un}{cs:List Nat}(hb:∀ c∈cs,c < bn u)(hn:cs.Nodup):cs.length<=4:=by
 have h:=List.Nodup.length_le_of_subset (l₂:=List.range 4) hn (λx hx=>mem_range.mpr (lt_of_lt_of_le (hb x hx) (by cases u <;> decide)));simpa using h
theorem iN {u:Un}{k v:Nat}{cs:List Nat}(hu:dK u=true)(hb:∀ c∈cs,c < bn u)(e:σ[k]? = some (eM u (lE [] cs),v))(h:P (.ref σ.length) (σ++[(.list (au u (filt cs)),0)])):Ok (b9 "sorted" (.ref k)) σ P:=by
 have:b9 "sorted" (.ref k)=(do mkList (<- pT (<- eS (.ref k)))):=by kernel_rfl
 refine this.symm▸?_;have hn:=pA cs [] nodup_nil;have hm:=na cs [];have hb':∀ c∈lE [] cs,c < bn u:=λc hc=>by
  rcases (hm c).mp hc with h | h
  ·cases h
  ·exact hb c h
 have hf:filt (lE [] cs)=filt cs:=oB λx=>by rw [hm];simp
 have main:Ok (eS (.ref k)) σ λl σ1=>l=au u (lE [] cs)/\σ1=σ:=by
  refine Ok.bind (Ok.getO e ?_);generalize lE [] cs=acc;unfold eM;by_cases ha:acc=[]
  ·subst ha;exact Ok.ret ⟨rfl,rfl⟩
  ·rw [if_neg ha];refine Ok.ret ⟨?_,rfl⟩;refine (List.map_map).symm▸?_;apply map_congr_left;intro c _;exact (jH hu c).symm
 refine Ok.bind (main.mono λl σ1 h1=>?_);obtain ⟨rfl,rfl⟩:=h1;refine Ok.bind (i7 (xM hb' hn) hb' hn ?_);refine hf.symm▸?_;exact Ok.mkList (by refine (length_map _).symm▸?_;exact le_trans (length_filter_le _ _) (by decide)) h
end
theorem bF {α β:Type}(f:α->β):∀ l:List α,l.flatMap (λx=>[f x])=l.map f:=λl=>by
 induction l using List.rec with
 | nil =>
  exact rfl
 | cons x r ih =>
  rw [List.flatMap_cons,ih];rfl
theorem eU {f:Str}(hf:aM f=some (aO 2))(hE:(f==("Evaluator" : Str))=false){u:Un}(hu:dK u=true){cs:List Nat}(hb:∀ c∈cs,c < bn u)(hl:cs.length<=aQ)(n:Nat){d:D}{src:Src}{σ:Sto}(hs:gS d σ=some (src,σ))(hi:src.items=au u cs)(hx:src.Fix σ) :
  Ok (aL (n+1) f [d]) σ λr σ'=>r = .tup (au u (filt cs))/\av NoW σ σ':=by
 refine ao hE hf (ax (ρ:=[("tuples",some d)]) rfl ?_);refine ab (aB (bM rfl rfl (bM rfl rfl (bM rfl rfl ?_))));refine aX rfl (bV rfl (aa (d:=d) rfl (Ok.run hs ?_)));refine dJ (λx=>[.tup [x,.bool true]]) (λx _=>by kernel_rfl) hx ?_;have e1:(src.items.flatMap λx=>[D.tup [x,.bool true]])=cs.map λc => .tup [dec u c,.bool true]:=by
  rw [bF,hi,List.map_map];rfl
 rw [e1];refine ⟨hx,by rw [length_map];exact hl,?_⟩;refine dQ (ag _ _) (by rw [length_map];exact hl) (i5 hu cs []) ?_;refine iN hu hb (ag _ _) (b4 (ag _ _) ?_ ⟨rfl,(((av.refl _ _).push _).push _).push _⟩);rw [length_map];exact le_trans (length_filter_le _ _) (by decide)
theorem bU:aM "set_of_sets"=some (aO 2):=rfl
theorem qF:aM "iden_of"=some (aO 4):=rfl
theorem pt:aM "union"=some (aO 5):=rfl
theorem oV:aM "minus"=some (aO 7):=rfl
theorem my:aM "is_within"=some (aO 8):=rfl
theorem kL:aM "product"=some (aO 9):=rfl
theorem si:aM "join"=some (aO 10):=rfl
theorem mh:aM "turned"=some (aO 11):=rfl
theorem kO:aM "closure"=some (aO 12):=rfl
theorem qN:aM "star"=some (aO 13):=rfl
noncomputable def cM (u:Un)(cs:List Nat)(σ:Sto)(r:D)(σ':Sto):Prop:=r = .tup (au u cs)/\av NoW σ σ'
theorem xA (n:Nat)(σ:Sto):Ok (aL (n+1) "iden_of" [.int 2]) σ (cM .two [0,3] σ):=by
 refine ao rfl qF (ax (ρ:=[("n",some (.int 2))]) rfl ?_);refine ab (aB (bM rfl rfl ?_));refine aX rfl (bm (s:=.rng 2) rfl ?_);refine dJ (src:=.rng 2) (λx=>[.tup [x,x]]) (λx _=>by kernel_rfl) trivial ?_;exact ⟨trivial,le_of_ble_eq_true rfl,b4 (ag _ _) (le_of_ble_eq_true rfl) ⟨rfl,(av.refl _ _).push _⟩⟩
theorem oa {u:Un}(hu:dK u=true){s t:List Nat}(hs:∀ c∈s,c < bn u)(ht:∀ c∈t,c < bn u)(hl:(s++t).length<=aQ)(n:Nat)(σ:Sto):Ok (aL (n+1+1) "union" [.tup (au u s),.tup (au u t)]) σ (cM u (filt (s++t)) σ):=by
 refine ao rfl pt (ax (ρ:=[("s",some (.tup (au u s))),("t",some (.tup (au u t)))]) rfl ?_);refine ab (aB (am rfl (by kernel_rfl) (ae (bB (aa (d:=.tup (au u s)) rfl (aa (d:=.tup (au u t)) rfl (iw (by (refine (map_append)▸?_;refine (length_map _).symm▸?_);exact hl) (aq ?_))))))));refine (map_append)▸?_;exact eU bU rfl hu (λc hc=>(mem_append.mp hc).elim (hs c) (ht c)) hl n rfl rfl trivial
theorem sw {s:List Nat}(hs:∀ c∈s,c < 4)(hl:s.length<=aQ)(n:Nat)(σ:Sto):Ok (aL (n+1+1) "turned" [.tup (au .two s)]) σ (cM .two (sS s) σ):=by
 refine ao rfl mh (ax (ρ:=[("s",some (.tup (au .two s)))]) rfl ?_);refine ab (aB (am rfl (by kernel_rfl) (ae ?_)));refine aX rfl (bm (s:=.tup (au .two s)) rfl ?_);refine dJ (src:=.tup (au .two s)) (λx=>((fj x).map λp => .tup [p.2,p.1]).toList) (λx hx=>?_) trivial ?_
 ·obtain ⟨c,_,rfl⟩:=mem_map.mp hx;kernel_rfl
 have e1:((Src.tup (au .two s)).items.flatMap λx=>((fj x).map λp=>D.tup [p.2,p.1]).toList)=au .two (s.map λq=>2 * (q % 2)+q / 2):=by
  refine (?_:(s.map (dec .two)).flatMap _=(s.map _).map (dec .two));(refine (List.flatMap_map _ _ _).symm▸?_;refine (List.map_map).symm▸?_);refine (bF (dec .two ∘ λq=>2 * (q % 2)+q / 2) s)▸?_;(refine (List.flatMap_def).symm▸?_;refine (List.flatMap_def).symm▸?_);refine congrArg _ (map_congr_left λq hq=>?_);exact lt4 (P:=λq=>((fj (dec .two q)).map λp=>D.tup [p.2,p.1]).toList=[(dec .two ∘ λq=>2 * (q % 2)+q / 2) q]) (hs q hq) rfl rfl rfl rfl
 refine e1.symm▸?_;refine ⟨trivial,by (refine (length_map _).symm▸?_;refine (length_map _).symm▸?_);exact hl,aq ?_⟩;refine (eU bU rfl (u:=.two) rfl (cs:=s.map λq=>2 * (q % 2)+q / 2) (λc hc=>?_) (by refine (length_map _).symm▸?_;exact hl) n (src:=.at σ.length 0 (au .two (s.map λq=>2 * (q % 2)+q / 2))) ?_ rfl ⟨_,ag _ _⟩).mono λr σ' h=>⟨h.1,((av.refl _ _).push _).trans h.2⟩
 ·obtain ⟨q,hq,rfl⟩:=mem_map.mp hc;exact jk (sL q) (lK (hs q hq))
 ·obtain ⟨a,σ2,e,h⟩:=aN (σ:=σ++[(PO.list (au .two (s.map λq=>2 * (q % 2)+q / 2)),0)]) (PS:=λs' σ'=>s' = .at σ.length 0 (au .two (s.map λq=>2 * (q % 2)+q / 2))/\σ'=σ++[(PO.list (au .two (s.map λq=>2 * (q % 2)+q / 2)),0)]) (ag σ _) ⟨rfl,rfl⟩;(refine e.symm▸?_;refine (h.1).symm▸?_;exact (h.2).symm▸rfl)
theorem tR {u:Un}(hu:dK u=true){k v:Nat}{acc:List Nat}{c:Nat}{σ:Sto}{Q:Bool->Sto->Prop}(e:σ[k]? = some (eM u acc,v))(h:Q (acc.contains c) σ):Ok (inD (dec u c) (.ref k)) σ Q:=by
 refine (jH hu _).symm▸?_;have e0:inD (.tup ((iL u c).map .int)) (.ref k)=(do
  match <- getO k,D.tup ((iL u c).map .int) with
  | .list l,a=>do
   let x <- ofOpt a.py
   let ys <- ofOpt (D.pys l)
   must (SeqAt.shaped (.list ys) && SeqAt.shaped x)
   pure (kW x ys)
  | .dS l,.str x=>pure ((l.lookup x).isSome)
  | .dT l,.tup t=>do
   let t <- ofOpt (cb t)
   pure ((l.lookup t).isSome)
  | .dS [],.tup t=>do
   let _ <- ofOpt (cb t)
   pure false
  | _,_=>aT):=rfl
 refine e0.symm▸?_;refine Ok.bind (Ok.getO e ?_);unfold eM;by_cases ha:acc=[]
 ·subst ha;exact Ok.bind (Ok.ofOpt (de _) (Ok.ret h))
 ·rw [if_neg ha];refine Ok.bind (Ok.ofOpt (de _) (Ok.ret ?_));have:((acc.map λc=>(iL u c,D.bool true)).lookup (iL u c)).isSome=acc.contains c:=by
   clear e h ha;induction acc with
   | nil=>rfl
   | cons a r ih =>
    rw [map_cons,List.lookup_cons,List.contains_cons];by_cases hac:c=a
    ·subst hac;simp
    ·have h1:(iL u c==iL u a)=false:=by
      rw [beq_eq_false_iff_ne];exact λq=>hac (jp q)
     have h2:(c==a)=false:=by simpa using hac
     (refine h1.symm▸?_;refine h2.symm▸?_;refine (Bool.false_or _).symm▸?_);exact ih
  exact this▸h
section
variable {σ σ0:Sto}{P:D->Sto->Prop}{PL:List D->Sto->Prop}
theorem Src.Fix.kp {s:Src}(h:s.Fix σ0)(k:av NoW σ0 σ):s.Fix σ:=by
 induction s using Src.casesOn with
 | tup=>trivial
 | rng=>trivial
 | «at» a v l=>obtain ⟨o,e⟩:=h;exact ⟨o,k.get e⟩
theorem aG {α:Type}{src:Src}{body:D->PM (List D)}(f:α->D)(g:α->List D)(hs:src.Fix σ0):∀ {l:List α} {σ:Sto},av NoW σ0 σ->(∀ x∈l,∀ σ,av NoW σ0 σ->Ok (body (f x)) σ λa σ'=>a=g x/\av NoW σ0 σ') ->
  ∀ {PL:List D->Sto->Prop},(∀ σ',av NoW σ0 σ'->PL (l.flatMap g) σ')->Ok (bJ src body (l.map f)) σ PL
 | [],σ,k,_,PL,hP=>cg (hP _ k)
 | x::r,σ,k,h,PL,hP=>aW (hs.kp k) ((h x (.head _) σ k).mono λa σ1 h1=>by
  obtain ⟨rfl,k1⟩:=h1;exact aG f g hs k1 (λy hy=>h y (.tail _ hy)) λσ' k2=>hP σ' k2)
theorem cp {α β:Type}(p:α->Bool)(f:α->β):∀ l:List α,l.flatMap (λx=>if p x then [f x] else [])=(l.filter p).map f:=λl=>by
 induction l using List.rec with
 | nil =>
  exact rfl
 | cons x r ih =>
  rw [List.flatMap_cons,ih,filter_cons];by_cases h:p x=true
  ·rw [if_pos h,if_pos h];rfl
  ·rw [if_neg h,if_neg h];rfl
end
theorem sO {u:Un}(hu:dK u=true){s t:List Nat}(ht:∀ c∈t,c < bn u)(hls:s.length<=aQ)(hl:t.length<=aQ)(n:Nat)(σ:Sto):Ok (aL (n+1) "minus" [.tup (au u s),.tup (au u t)]) σ (cM u (s.filter λc => !t.contains c) σ):=by
 refine ao rfl oV (ax (ρ:=[("s",some (.tup (au u s))),("t",some (.tup (au u t))),("known",none)]) rfl ?_);refine ab (aA rfl (bM rfl rfl ?_));refine aX rfl (bm (s:=.tup (au u t)) rfl ?_);refine dJ (src:=.tup (au u t)) (λx=>[.tup [x,.bool true]]) (λx _=>by kernel_rfl) trivial ?_;have e1:((au u t).flatMap λx=>[D.tup [x,.bool true]])=t.map λc => .tup [dec u c,.bool true]:=by
  (refine (bF _ _).symm▸?_;exact (List.map_map).symm▸rfl)
 refine (?_:_/\_/\_);rw [show (Src.tup (au u t)).items=au u t from rfl,e1];refine ⟨trivial,by refine (length_map _).symm▸?_;exact hl,?_⟩;refine dQ (ag _ _) (by refine (length_map _).symm▸?_;exact hl) (i5 hu t []) ?_;have hk:=ag (σ++[(PO.list (t.map λc => .tup [dec u c,.bool true]),0)]) (eM u (lE [] t),0);have kp:av NoW σ ((σ++[(PO.list (t.map λc => .tup [dec u c,.bool true]),0)])++[(eM u (lE [] t),0)]):=((av.refl _ _).push _).push _;generalize (σ++[(PO.list (t.map λc => .tup [dec u c,.bool true]),0)]).length=k at hk;generalize ((σ++[(PO.list (t.map λc => .tup [dec u c,.bool true]),0)])++[(eM u (lE [] t),0)])=σ1 at hk kp;refine ab (aB (bM rfl rfl ?_));refine aX rfl (bm (s:=.tup (au u s)) rfl ?_);refine aG (σ0:=σ1) (src:=.tup (au u s)) (dec u) (λc=>if !t.contains c then [dec u c] else []) trivial (av.refl _ _) (λc _ σ2 k2=>?_) λσ' k3=>?_
 ·refine ff (ρ1:=[("one",some (dec u c)),("known",some (.ref k))]) rfl (cU (gf rfl (bZ (aa (d:=dec u c) rfl (aa (d:=.ref k) rfl ?_)))));have hc:(lE [] t).contains c=t.contains c:=by
   rw [Bool.eq_iff_iff,List.contains_iff_mem,List.contains_iff_mem,na];simp
  refine Ok.bind (tR hu (k2.get hk) (Ok.ret ⟨_,rfl,λh=>?_,λh=>?_⟩))
  ·replace h:=hc▸h;refine aa (d:=dec u c) rfl ⟨?_,k2⟩;exact (if_pos h).symm▸rfl
  ·replace h:=hc▸h;exact ⟨by rw [if_neg (by refine h.symm▸?_;decide)],k2⟩
 ·refine (cp (λc => !t.contains c) (dec u) _).symm▸?_;have hlen:(au u (s.filter λc => !t.contains c)).length<=aQ:=by
   refine (length_map _).symm▸?_;exact le_trans (length_filter_le _ _) hls
  exact ⟨trivial,hlen,b4 (ag _ _) hlen ⟨rfl,(kp.trans k3).push _⟩⟩
noncomputable def pd (u:Un)(c:Nat):Ca:=.tuple ((iL u c).map .int)
theorem nY:∀ l:List Int,D.pys (l.map .int)=some (l.map .int):=λl=>by
 induction l using List.rec with
 | nil =>
  exact rfl
 | cons _ r ih =>
  exact eO rfl (ih)
theorem uW {u:Un}(hu:dK u=true)(c:Nat):(dec u c).py=some (pd u c):=by
 refine (jH hu _).symm▸?_;refine (?_:(D.pys ((iL u c).map .int)).map PyData.tuple=_);exact (nY _).symm▸rfl
theorem ja {u:Un}(hu:dK u=true):∀ cs:List Nat,D.pys (au u cs)=some (cs.map (pd u)):=λl=>by
 induction l using List.rec with
 | nil =>
  exact rfl
 | cons c r ih =>
  exact eO (uW hu c) (ih)
theorem jL:∀ l:List Int,PyData.canLayAll0 (l.map .int)=true/\PyData.depthAll (l.map .int)=0:=λl=>by
 induction l using List.rec with
 | nil =>
  exact ⟨rfl,rfl⟩
 | cons i r ih =>
  have:=ih;refine (map_cons).symm▸?_;(refine (this.1).symm▸?_;refine (this.2).symm▸?_);exact ⟨by simp [PyData.canLay0],by simp [PyData.depth]⟩
theorem nK {u:Un} : ∀ cs:List Nat,PyData.canLayAll0 (cs.map (pd u))=true/\PyData.depthAll (cs.map (pd u))<=1:=λl=>by
 induction l using List.rec with
 | nil =>
  exact ⟨rfl,zero_le _⟩
 | cons c r ih =>
  have:=ih;refine (map_cons).symm▸?_;unfold PyData.canLayAll0 PyData.depthAll;rw [this.1];have h:=jL (iL u c);constructor
  ·unfold pd PyData.canLay0;rw [h.1];rfl
  ·have e:PyData.depth (pd u c)=1:=by unfold pd PyData.depth;exact (h.2).symm▸rfl
   refine e.symm▸?_;exact max_le.mpr ⟨le_refl _,this.2⟩
theorem rt {u:Un}(c:Nat):SeqAt.shaped (pd u c)=true:=by
 have h:=jL (iL u c);unfold SeqAt.shaped pd PyData.canLay0 PyData.depth;rw [h.1,h.2];rfl
theorem fU {u:Un}(cs:List Nat):SeqAt.shaped (.tuple (cs.map (pd u)))=true:=by
 have h:=nK (u:=u) cs;unfold SeqAt.shaped PyData.canLay0 PyData.depth;rw [h.1,Bool.true_and,decide_eq_true_eq];exact bh (.a (.v 0) (.n 1)) (.n 64) [(1,.v 0,.n 1)] rfl h.2
theorem dB {u:Un}(cs:List Nat):SeqAt.shaped (.list (cs.map (pd u)))=true:=by
 have h:=nK (u:=u) cs;unfold SeqAt.shaped PyData.canLay0 PyData.depth;rw [h.1,Bool.true_and,decide_eq_true_eq];exact bh (.a (.v 0) (.n 1)) (.n 64) [(1,.v 0,.n 1)] rfl h.2
theorem u5 {u:Un}(c d:Nat):PyData.eqv (pd u c) (pd u d)=(c==d):=by
 have h:∀ l m:List Int,PyData.eqvAll (l.map .int) (m.map .int)=(l==m):=λl=>by
  induction l with
  | nil=>intro m;cases m <;> rfl
  | cons i r ih =>
   intro m;induction m using List.casesOn with
   | nil=>rfl
   | cons j r' =>
    rw [map_cons,map_cons];unfold PyData.eqvAll PyData.eqv;rw [ih];rfl
 unfold pd PyData.eqv;rw [h,Bool.eq_iff_iff,beq_iff_eq,beq_iff_eq];exact ⟨jp,λq=>q▸rfl⟩
theorem jQ {u:Un} : ∀ a b:List Nat,PyData.eqvAll (a.map (pd u)) (b.map (pd u))=(a==b)
 | [],[]=>rfl
 | [],_::_=>rfl
 | _::_,[]=>rfl
 | c::r,d::q=>by
  rw [map_cons,map_cons];unfold PyData.eqvAll;rw [u5,jQ r q];rfl
section
variable {σ:Sto}{P:D->Sto->Prop}
theorem qR {u:Un}(hu:dK u=true){a b:List Nat}{Q:Bool->Sto->Prop}(h:Q (a==b) σ):Ok (eqD (.tup (au u a)) (.tup (au u b))) σ Q:=by
 have h1:∀ cs:List Nat,er (.tup (au u cs))=pure (.tuple (cs.map (pd u))):=λcs=>by
  refine (?_:ofOpt ((D.pys (au u cs)).map PyData.tuple)=_);exact (ja hu _).symm▸rfl
 unfold eqD;rw [h1,h1];refine Ok.bind (Ok.ret (Ok.bind (Ok.ret (Ok.bind (Ok.must (by (refine (fU _).symm▸?_;exact (fU _).symm▸rfl)) (Ok.ret ?_))))));have:PyData.eqv (.tuple (a.map (pd u))) (.tuple (b.map (pd u)))=(a==b):=by unfold PyData.eqv;exact jQ a b
 exact this▸h
theorem Ap {u:Un}(hu:dK u=true){a b:List Nat}(h:P (.bool (a==b)) σ):Ok (pK .Eq (.tup (au u a)) (.tup (au u b))) σ P:=Ok.bind (qR hu (Ok.ret h))
theorem AO {u:Un}(hu:dK u=true){a b:List Nat}(h:P (.bool (!(a==b))) σ):Ok (pK .NotEq (.tup (au u a)) (.tup (au u b))) σ P:=Ok.bind (qR hu (Ok.ret h))
theorem x7 {u:Un}(hu:dK u=true){j k v v':Nat}{a b:List Nat}(e1:σ[j]? = some (.list (au u a),v))(e2:σ[k]? = some (.list (au u b),v')){Q:Bool->Sto->Prop}(h:Q (a==b) σ):Ok (eqD (.ref j) (.ref k)) σ Q:=by
 have h1:∀ {i v cs} {Q:Ca->Sto->Prop},σ[i]? = some (.list (au u cs),v)->Q (.list (cs.map (pd u))) σ->Ok (er (.ref i)) σ Q:=λe q=>by
  refine Ok.bind (Ok.listAt e ?_);refine (ja hu _).symm▸?_;exact Ok.ret q
 refine Ok.bind (h1 e1 (Ok.bind (h1 e2 (Ok.bind (Ok.must (by (refine (dB _).symm▸?_;exact (dB _).symm▸rfl)) (Ok.ret ?_))))));have:PyData.eqv (.list (a.map (pd u))) (.list (b.map (pd u)))=(a==b):=by unfold PyData.eqv;exact jQ a b
 exact this▸h
theorem pC {u:Un}(c:Nat):∀ cs:List Nat,kW (pd u c) (cs.map (pd u))=cs.contains c:=λl=>by
 induction l using List.rec with
 | nil =>
  exact rfl
 | cons d r ih =>
  have:=ih;unfold kW at this ⊢;rw [map_cons,any_cons,this,List.contains_cons,u5,Bool.beq_comm]
theorem sQ {u:Un}(hu:dK u=true){k v c:Nat}{cs:List Nat}(e:σ[k]? = some (.list (au u cs),v)){Q:Bool->Sto->Prop}(h:Q (cs.contains c) σ):Ok (inD (dec u c) (.ref k)) σ Q:=by
 refine Ok.bind (Ok.getO e ?_);dsimp only;rw [uW hu,ja hu];refine Ok.bind (Ok.ret (Ok.bind (Ok.ret (Ok.bind (Ok.must (by (refine (dB _).symm▸?_;exact (rt _).symm▸rfl)) (Ok.ret ?_))))));refine (pC _ _).symm▸?_;exact h
end
theorem ln {u:Un}(hu:dK u=true){s t:List Nat}(ht:∀ c∈t,c < bn u)(hls:s.length<=aQ)(hl:t.length<=aQ)(n:Nat)(σ:Sto):Ok (aL (n+1+1) "is_within" [.tup (au u s),.tup (au u t)]) σ λr σ'=>r = .bool (s.all λc=>t.contains c)/\av NoW σ σ':=by
 refine ao rfl my (ax (ρ:=[("s",some (.tup (au u s))),("t",some (.tup (au u t)))]) rfl ?_);refine ab (aB (bZ (am rfl (by kernel_rfl) (ah (ds:=[.tup (au u s),.tup (au u t)]) rfl ?_))));refine (sO hu ht hls hl n σ).mono λr σ1 h1=>?_;obtain ⟨rfl,k⟩:=h1;refine aa (d:=.tup (au u [])) rfl (Ap hu ⟨?_,k⟩);congr 1;rw [Bool.eq_iff_iff,beq_iff_eq,List.filter_eq_nil_iff,all_eq_true];simp
theorem zh {a b:Nat}(ha:a<=1000)(hb:b<=1000):(fz (a:Int) && fz (b:Int))=true/\decide (((a:Int) * (b:Int)) > 2000000)=false:=by
 have h1:∀ x:Nat,x<=1000->fz (x:Int)=true:=λx hx=>by
  unfold fz;rw [and_eq_true,decide_eq_true_eq,decide_eq_true_eq];constructor
  ·have:(0:Int)<=x:=Int.natCast_nonneg x;exact Int.le_trans (by decide) this
  ·exact Int.le_trans (Int.ofNat_le.mpr hx) (by decide)
 refine ⟨by (refine (h1 a ha).symm▸?_;exact (h1 b hb).symm▸rfl),?_⟩;apply decide_eq_false;have:a * b<=1000 * 1000:=mul_le_mul ha hb;have h2:((a:Int) * (b:Int))=((a * b:Nat):Int):=rfl;refine h2.symm▸?_;exact Int.not_lt.mpr (Int.ofNat_le.mpr (le_trans this (by decide):a * b<=2000000))
theorem jP {c d:Nat}(hd:d < 2):dec .two (2 * c+d) = .tup [.int c,.int d]:=by
 have h1:(2 * c+d) / 2=c:=q4 c hd;have h2:(2 * c+d) % 2=d:=rm c hd;refine (?_:D.tup [.int ((2 * c+d) / 2:Nat),.int ((2 * c+d) % 2:Nat)]=_);(refine h1.symm▸?_;exact h2.symm▸rfl)
theorem ng (s t:List Nat):(f8 s t).length=s.length * t.length:=by
 unfold f8;induction s with
 | nil=>simp
 | cons c r ih=>(refine (List.flatMap_cons).symm▸?_;refine (length_append).symm▸?_;refine ih.symm▸?_;refine (length_map _).symm▸?_;refine (length_cons).symm▸?_;refine (succ_mul _ _).symm▸?_;exact (add_comm _ _).symm▸rfl)
theorem oM {s t:List Nat}(ht:∀ c∈t,c < 2)(hls:s.length<=60)(hl:t.length<=60)(n:Nat)(σ:Sto):Ok (aL (n+1) "product" [.tup (au .one s),.tup (au .one t)]) σ (cM .two (f8 s t) σ):=by
 refine ao rfl kL (ax (ρ:=[("s",some (.tup (au .one s))),("t",some (.tup (au .one t)))]) rfl ?_);refine ab (fJ (gf rfl (bZ (bB (aa (d:=.int (au .one s).length) rfl (aa (d:=.int (au .one t).length) rfl ?_))))));have hL:(au .one s).length<=1000:=by refine (length_map _).symm▸?_;exact bh (.v 0) (.n 1000) [(1,.v 0,.n 60)] rfl hls
 have hR:(au .one t).length<=1000:=by refine (length_map _).symm▸?_;exact bh (.v 0) (.n 1000) [(1,.v 0,.n 60)] rfl hl
 have hq:=zh hL hR;have h1:=hq.1;have h2:=hq.2;refine Ok.bind (Ok.must h1 (Ok.ret (aa (d:=.int 2000000) rfl ?_)));refine Ok.bind (Ok.ret (Ok.bind (Ok.ret (Ok.ret ⟨_,rfl,?_⟩))));refine h2.symm▸?_;refine cF (a9 ?_);refine ab (aB (bM rfl rfl ?_));refine fA rfl (bm (s:=.tup (au .one s)) rfl ?_);refine aG (σ0:=σ) (src:=.tup (au .one s)) (dec .one) (λc=>au .two (t.map λd=>2 * c+d)) trivial (av.refl _ _) (λc _ σ2 k2=>?_) λσ' k3=>?_
 ·refine fG rfl (bm (s:=.tup (au .one t)) rfl ?_);refine aG (σ0:=σ2) (src:=.tup (au .one t)) (dec .one) (λd=>[D.tup [.int c,.int d]]) trivial (av.refl _ _) (λd _ σ3 k3=>?_) λσ' k3=>⟨trivial,?_,k2.trans k3⟩
  ·refine aY rfl (aa (d:=.tup [.int c,.int d]) rfl ⟨rfl,k3⟩)
  ·refine (bF (λd:Nat=>D.tup [.int c,.int d]) _).symm▸?_;unfold au;rw [List.map_map];exact map_congr_left λd hd=>(jP (ht d hd)).symm
 ·have e:(s.flatMap λc=>au .two (t.map λd=>2 * c+d))=au .two (f8 s t):=by
   exact (map_flatMap).symm▸rfl
  refine e.symm▸?_;have hp:(au .two (f8 s t)).length<=aQ:=by
   (refine (length_map _).symm▸?_;refine (ng _ _).symm▸?_);exact le_trans (mul_le_mul hls hl) (by decide)
  exact ⟨trivial,hp,b4 (ag _ _) hp ⟨rfl,k3.push _⟩⟩
noncomputable def gi (acc:List Nat)(a:Nat):List D:=(acc.filter λq=>a==q / 2).map λq=>D.tup [.int (q % 2:Nat)]
noncomputable def bO (l:List (Int×D)):PO:=if l=[] then .dS [] else .dI l
structure JB (σ0:Sto)(kb:Nat)(acc:List Nat)(σ:Sto)(l:List (Int×D))(v:Nat)(f:Nat->Option Nat):Prop where
 keep:av NoW σ0 σ
 new:σ0.length<=kb
 obj:σ[kb]? = some (bO l,v)
 look:∀ a:Nat,a < 2->l.lookup (a:Int)=(f a).map .ref
 held:∀ a k,a < 2->f a=some k->σ0.length<=k/\k≠kb/\∃ w,σ[k]? = some (.list (gi acc a),w)
 none:∀ a,a < 2->f a=none->gi acc a=[]
 inj:∀ a b k,a < 2->b < 2->f a=some k->f b=some k->a=b
theorem tu (l:List (Int×D))(i:Int):wV (bO l) (.int i)=some (l.lookup i):=by
 unfold bO;by_cases h:l=[]
 ·subst h;rfl
 ·exact (if_neg h)▸rfl
theorem uK (l:List (Int×D))(i:Int):wP (bO l) (.int i)=some (l.lookup i):=by
 unfold bO;by_cases h:l=[]
 ·subst h;rfl
 ·exact (if_neg h)▸rfl
theorem eD (l:List (Int×D)):ml (bO l)=true:=by
 unfold bO;by_cases h:l=[]
 ·subst h;rfl
 ·exact (if_neg h)▸rfl
theorem vK (l:List (Int×D)):f7 (bO l)=l.length:=by
 unfold bO;by_cases h:l=[]
 ·subst h;rfl
 ·exact (if_neg h)▸rfl
theorem oW {l:List (Int×D)}{i:Int}(h:l.lookup i=none):(l.any λp=>p.1=i)=false:=by
 induction l with
 | nil=>rfl
 | cons p r ih =>
  obtain ⟨a,d⟩:=p;rw [List.lookup_cons] at h;by_cases ha:(i==a)=true
  ·replace h:=ha▸h;cases h
  ·replace ha:=(not_eq_true _)▸ha;replace h:=ha▸h;(refine (any_cons).symm▸?_;refine (ih h).symm▸?_;refine (Bool.or_false _).symm▸?_);have:¬ a=i:=λq=>by subst q;simp at ha
   exact decide_eq_false this
theorem yK {l:List (Int×D)}{i:Int}(h:l.lookup i=none)(d:D):lG (bO l) (.int i) d=some (bO (l++[(i,d)])):=by
 unfold bO;by_cases hl:l=[]
 ·subst hl;rfl
 ·rw [if_neg hl,if_neg (by simp)];refine (?_:some (PO.dI (put i d l))=_);unfold put;exact (oW h)▸rfl
theorem m9 {l:List (Int×D)}{i:Int}(d:D)(h:l.lookup i=none)(j:Int):(l++[(i,d)]).lookup j=if j=i then some d else l.lookup j:=by
 induction l with
 | nil =>
  by_cases hj:j=i
  ·subst hj;simp
  ·have:(j==i)=false:=by simpa using hj
   rw [if_neg hj,nil_append,List.lookup_cons,this]
 | cons p r ih =>
  obtain ⟨a,e⟩:=p;rw [List.lookup_cons] at h;rw [cons_append,List.lookup_cons,List.lookup_cons];by_cases ha:(i==a)=true
  ·replace h:=ha▸h;cases h
  ·replace ha:=(not_eq_true _)▸ha;replace h:=ha▸h;refine (ih h).symm▸?_;by_cases hj:(j==a)=true
   ·have hja:=beq_iff_eq.mp hj;subst hja;have:¬ j=i:=λq=>by subst q;simp at ha
    simp [this]
   ·replace hj:=(not_eq_true _)▸hj;exact hj.symm▸rfl
theorem i8 (acc:List Nat)(q a:Nat):gi (acc++[q]) a=if a=q / 2 then gi acc a++[D.tup [.int (q % 2:Nat)]] else gi acc a:=by
 unfold gi;rw [List.filter_append,map_append];by_cases h:a=q / 2
 ·rw [if_pos h,filter_cons,if_pos (by simp [h])];rfl
 ·rw [if_neg h,filter_cons,if_neg (by simpa using h)];simp
theorem JB.step {σ0 σ:Sto}{kb v:Nat}{acc:List Nat}{l:List (Int×D)}{f:Nat->Option Nat}(J:JB σ0 kb acc σ l v f){q:Nat}(hq:q < 4){k w:Nat}(hf:f (q / 2)=some k)(e:σ[k]? = some (.list (gi acc (q / 2)),w)) :
  ∃ v',JB σ0 kb (acc++[q]) (σ.set k (.list (gi acc (q / 2)++[D.tup [.int (q % 2:Nat)]]),w+1)) l v' f:=by
 have hq2:q / 2 < 2:=lK hq;have hq:=J.held _ _ hq2 hf;have h1:=hq.1;have h2:=hq.2.1;refine ⟨v,J.keep.set h1 _,J.new,aF h2 J.obj,J.look,λa k' ha hk=>?_,λa ha hn=>?_,J.inj⟩
 ·obtain ⟨g1,g2,w',g3⟩:=J.held a k' ha hk;refine ⟨g1,g2,?_⟩;refine (i8 _ _ _).symm▸?_;by_cases hd:a=q / 2
  ·subst hd;replace hk:=hf▸hk;(have:=Option.some.inj hk;subst this);refine (if_pos rfl).symm▸?_;exact ⟨_,bN e⟩
  ·refine (if_neg hd).symm▸?_;exact ⟨w',aF (λx=>hd (J.inj _ _ _ ha hq2 hk (x▸hf))) g3⟩
 ·rw [i8,if_neg (λx=>by subst x;replace hn:=hf▸hn;cases hn)];exact J.none a ha hn
theorem JB.grow {σ0 σ:Sto}{kb v:Nat}{acc:List Nat}{l:List (Int×D)}{f:Nat->Option Nat}(J:JB σ0 kb acc σ l v f)(p:PO×Nat):JB σ0 kb acc (σ++[p]) l v f :=
 ⟨J.keep.push p,J.new,al J.obj,J.look,λa k ha hk=>let ⟨h1,h2,w,h3⟩:=J.held a k ha hk;⟨h1,h2,w,al h3⟩,J.none,J.inj⟩
theorem JB.kp {σ0 σ σ':Sto}{kb v:Nat}{acc:List Nat}{l:List (Int×D)}{f:Nat->Option Nat}(J:JB σ0 kb acc σ l v f)(k:av NoW σ σ'):JB σ0 kb acc σ' l v f :=
 ⟨J.keep.trans k,J.new,k.get J.obj,J.look,λa k' ha hk=>let ⟨h1,h2,w,h3⟩:=J.held a k' ha hk;⟨h1,h2,w,k.get h3⟩,J.none,J.inj⟩
theorem jJ {σ0 σ:Sto}{kb v:Nat}{acc:List Nat}{l:List (Int×D)}{f:Nat->Option Nat}(J:JB σ0 kb acc σ l v f){a:Nat}(ha:a < 2)(hl:l.length<=aQ){P:D->Sto->Prop}
  (h:∀ k σ' l' v' f' w,JB σ0 kb acc σ' l' v' f'->l'.length<=l.length+1->f' a=some k->σ'[k]? = some (.list (gi acc a),w)->P (.ref k) σ') :
  Ok (cG kb (bO l) "setdefault" (.int a) (.ref σ.length)) (σ++[(.list [],0)]) P:=by
 have e0:cG kb (bO l) "setdefault" (.int a) (.ref σ.length)=ii kb (bO l) (.int a) (.ref σ.length):=by kernel_rfl
 refine e0.symm▸?_;refine Ok.bind (Ok.ofOpt (uK l a) ?_);refine (J.look a ha).symm▸?_;cases hfa:f a with
 | some k =>
  obtain ⟨h1,h2,w,h3⟩:=J.held a k ha hfa;exact Ok.ret (h k _ l v f w (J.grow _) (le_succ _) hfa (al h3))
 | none =>
  have hln:l.lookup (a:Int)=none:=by (refine (J.look a ha).symm▸?_;exact hfa.symm▸rfl)
  refine Ok.bind (Ok.must (by refine (vK _).symm▸?_;simpa using hl) (Ok.bind (Ok.ofOpt (yK hln _) (Ok.bind (Ok.setO (Ok.ret ?_))))));have hkb:=aH J.obj;have hobj:(σ++[(PO.list [],0)])[kb]? = some (bO l,v):=al J.obj;have hver:ver (σ++[(PO.list [],0)]) kb=v:=by unfold ver;exact hobj.symm▸rfl
  refine hver.symm▸?_;have hnew:((σ++[(PO.list [],0)]).set kb (bO (l++[((a:Int),D.ref σ.length)]),v+1))[σ.length]? = some (.list [],0):=aF (by exact ne_of_lt (a5 (.a (.v 0) (.n 1)) (.v 1) [(1,(.a (.v 0) (.n 1)),.v 1)] rfl hkb)) (ag _ _);have hk0:=J.keep.1;refine h σ.length _ (l++[((a:Int),D.ref σ.length)]) (v+1) (λb=>if b=a then some σ.length else f b) 0 ⟨(J.keep.push _).set J.new _,J.new,bN hobj,λb hb=>?_,λb k hb hk=>?_,λb hb hn=>?_,λb c k hb hc h1 h2=>?_⟩ (by refine (length_append).symm▸?_;exact le_refl _) ((if_pos rfl).symm▸rfl) (by refine (J.none a ha hfa).symm▸?_;exact hnew)
  ·refine (m9 _ hln _).symm▸?_;by_cases hba:b=a
   ·subst hba;(refine (if_pos rfl).symm▸?_;exact (if_pos rfl).symm▸rfl)
   ·rw [if_neg hba,if_neg (λq:(b:Int)=(a:Int)=>hba (Int.ofNat.inj q))];exact J.look b hb
  ·skip
   by_cases hba:b=a
   ·subst hba;replace hk:=(if_pos rfl)▸hk;(have:=Option.some.inj hk;subst this);refine (J.none b hb hfa).symm▸?_;exact ⟨hk0,by exact ne_of_gt (a5 (.a (.v 0) (.n 1)) (.v 1) [(1,(.a (.v 0) (.n 1)),.v 1)] rfl hkb),0,hnew⟩
   ·replace hk:=(if_neg hba)▸hk;obtain ⟨g1,g2,w,g3⟩:=J.held b k hb hk;exact ⟨g1,g2,w,aF (λq=>g2 q.symm) (al g3)⟩
  ·skip
   by_cases hba:b=a
   ·replace hn:=(if_pos hba)▸hn;cases hn
   ·replace hn:=(if_neg hba)▸hn;exact J.none b hb hn
  ·skip
   by_cases hba:b=a
   ·by_cases hca:c=a
    ·exact le_antisymm (aZ (.v 0) (.v 1) [(1,.v 0,.v 2),(1,.v 2,.v 1)] rfl (le_of_eq hba) (le_of_eq hca.symm)) (aZ (.v 0) (.v 1) [(1,.v 2,.v 1),(1,.v 0,.v 2)] rfl (le_of_eq hba.symm) (le_of_eq hca))
    ·replace h1:=(if_pos hba)▸h1;replace h2:=(if_neg hca)▸h2;(have:=Option.some.inj h1;subst this);obtain ⟨_,_,w,g3⟩:=J.held c _ hc h2;exact absurd (aH g3) (lt_irrefl _)
   ·by_cases hca:c=a
    ·replace h1:=(if_neg hba)▸h1;replace h2:=(if_pos hca)▸h2;(have:=Option.some.inj h2;subst this);obtain ⟨_,_,w,g3⟩:=J.held b _ hb h1;exact absurd (aH g3) (lt_irrefl _)
    ·replace h1:=(if_neg hba)▸h1;replace h2:=(if_neg hca)▸h2;exact J.inj b c k hb hc h1 h2
theorem i3 {σ:Sto}{k v:Nat}{l:List D}(e:σ[k]? = some (.list l,v)):gS (.ref k) σ=some (.at k v l,σ):=by
 obtain ⟨a,σ2,h,h1,h2⟩:=aN (σ:=σ) (PS:=λs' σ'=>s' = .at k v l/\σ'=σ) e ⟨rfl,rfl⟩;(refine h.symm▸?_;refine h1.symm▸?_;exact h2.symm▸rfl)
theorem cY {α:Type}{src:Src}{body:D->Loc->PM (Fl×Loc)}{N:Loc->Sto->Prop}{R:D->Sto->Prop}(f:α->D)(I:List α->Loc->Sto->Prop)(hs:∀ acc ρ σ,I acc ρ σ->src.Fix σ)(w:List α)
  (step:∀ x acc r ρ σ,acc++x::r=w->I acc ρ σ->Ex (body (f x) ρ) σ (λρ' σ'=>I (acc++[x]) ρ' σ') R) (hN:∀ ρ' σ',I w ρ' σ'->N ρ' σ') :
  ∀ (l acc:List α) (ρ:Loc) (σ:Sto),acc++l=w->I acc ρ σ->Ex (d3 src body (l.map f) ρ) σ N R:=λl=>by
 induction l using List.rec with
 | nil =>
  rintro acc ρ σ hw h0;exact iW (hs _ _ _ h0) (hN _ _ (by rw [append_nil] at hw;exact hw▸h0))
 | cons x r ih =>
  rintro acc ρ σ hw h0;exact ip (hs _ _ _ h0) (Ex.mono (step x acc r ρ σ hw h0) (λρ1 σ1 h1=>ih (acc++[x]) ρ1 σ1 (by rw [append_assoc];exact hw) h1) λ_ _ h=>h)
noncomputable def dE (u:Un)(c:Nat):Nat:=match u with
 | .two=>c % 2
 | _=>c
noncomputable def sK (u:Un)(c q:Nat):Nat:=match u with
 | .two=>2 * (c / 2)+q % 2
 | _=>q % 2
noncomputable def xS (u:Un)(s t:List Nat):List Nat:=filt (s.flatMap λc=>(t.filter λq=>dE u c==q / 2).map (sK u c))
noncomputable def BF (u:Un)(c q:Nat):D:=match u with
 | .two=>D.tup [.int (c / 2:Nat),.int (q % 2:Nat)]
 | _=>D.tup [.int (q % 2:Nat)]
theorem xJ {u:Un}(hu:dK u=true)(c q:Nat):BF u c q=dec u (sK u c q):=by
 induction u using Un.casesOn with
 | one=>rfl
 | two =>
  have h1:(2 * (c / 2)+q % 2) / 2=c / 2:=q4 _ (sL q);have h2:(2 * (c / 2)+q % 2) % 2=q % 2:=rm _ (sL q);refine (?_:_=D.tup [.int ((2 * (c / 2)+q % 2) / 2:Nat),.int ((2 * (c / 2)+q % 2) % 2:Nat)]);(refine h1.symm▸?_;exact h2.symm▸rfl)
 | str=>cases hu
noncomputable def yx (s t:D)(b:Nat)(o:Option D):Loc:=[("s",some s),("t",some t),("begun",some (.ref b)),("late",o)]
theorem p9 {u:Un}(hu:dK u=true){s t:List Nat}(hs:∀ c∈s,c < bn u)(ht:∀ c∈t,c < 4)(hls:s.length<=60)(hl:t.length<=60)(n:Nat)(σ:Sto):Ok (aL (n+1+1) "join" [.tup (au u s),.tup (au .two t)]) σ (cM u (xS u s t) σ):=by
 refine ao rfl si (ax (ρ:=[("s",some (.tup (au u s))),("t",some (.tup (au .two t))),("begun",none),("late",none)]) rfl ?_);refine ab (aA rfl (z7 (m:=alloc (.dS [])) rfl (Ok.alloc ?_)));refine ab (fi (bm (s:=.tup (au .two t)) rfl ?_));have J0:JB σ σ.length [] (σ++[(PO.dS [],0)]) [] 0 (λ_=>none):=⟨(av.refl _ _).push _,le_refl _,ag _ _,λ_ _=>rfl,λ_ _ _ h=>(by exact an h),λ_ _ _=>rfl,λ_ _ _ _ _ h=>(by exact an h)⟩;refine cY (src:=.tup (au .two t)) (dec .two) (λacc ρ' σ'=>(∃ o,ρ'=yx (.tup (au u s)) (.tup (au .two t)) σ.length o)/\∃ l v f,JB σ σ.length acc σ' l v f/\l.length<=acc.length) (λ_ _ _ _=>trivial) t ?_ ?_ t [] _ _ rfl ⟨⟨none,by kernel_rfl⟩,[],0,_,J0,le_refl _⟩
 ·rintro q acc r ρ' σ' hw ⟨⟨o,rfl⟩,l,v,f,J,hll⟩;have hq4:=ht q (by refine hw▸?_;simp);have hacc:acc.length<=60:=by
   have:=congrArg List.length hw;replace this:=(length_append)▸this;exact aZ (.v 0) (.n 60) [(1,.v 1,.n 60),(1,(.a (.v 0) (.v 2)),.v 1)] rfl hl (le_of_eq this)
  refine cE (ρ':=yx (.tup (au u s)) (.tup (au .two t)) σ.length (some (dec .two q))) rfl ?_;refine ab (im rfl (dM rfl ?_));refine zT rfl rfl (aa (d:=.ref σ.length) rfl ⟨_,_,_,rfl,J.obj,eD _,?_⟩);refine aa (d:=.int (q / 2:Nat)) rfl (bw (aq ⟨zero_le _,_,_,al J.obj,eD _,?_⟩));refine jJ J (a:=q / 2) (lK hq4) (le_trans hll (le_trans hacc (by decide))) λk σ2 l' v' f' w J' hl' hf' hk=>?_;refine ⟨k,_,w,rfl,hk,aa (d:=.tup [.int (q % 2:Nat)]) rfl ⟨_,_,hk,?_,a9 ?_⟩⟩
  ·unfold gi;refine (length_map _).symm▸?_;exact le_trans (length_filter_le _ _) (le_trans hacc (by decide))
  ·obtain ⟨v2,J2⟩:=J'.step hq4 hf' hk;refine ⟨⟨_,rfl⟩,l',v2,f',J2,?_⟩;refine (length_append).symm▸?_;simp;exact aZ (.v 0) (.a (.v 1) (.n 1)) [(1,.v 2,.v 1),(1,.v 0,(.a (.v 2) (.n 1)))] rfl hll hl'
 ·rintro ρ' σ' ⟨⟨o,rfl⟩,l,v,f,J,hll⟩;refine ab (aB (am rfl (by kernel_rfl) (ae ?_)));refine fA rfl (bm (s:=.tup (au u s)) rfl ?_);refine aG (σ0:=σ') (src:=.tup (au u s)) (dec u) (λc=>au u ((t.filter λq=>dE u c==q / 2).map (sK u c))) trivial (av.refl _ _) (λc hc σ2 k2=>?_) λσ3 k3=>?_
  ·have hc2:dE u c < 2:=by
    have:=hs c hc;induction u using Un.casesOn with
    | one=>exact this
    | two=>refine (?_:c % 2 < 2);exact sL c
    | str=>cases hu
   have J2:=J.kp k2;refine fG (ρ1:=[("one",some (dec u c)),("rest",none),("begun",some (.ref σ.length))]) rfl (bV rfl (zT rfl rfl (aa (d:=.ref σ.length) rfl ⟨_,_,_,rfl,J2.obj,eD _,?_⟩)));refine aa (d:=.int (dE u c)) (by cases u <;> first | (cases hu;done) | kernel_rfl) (bw (aq ⟨zero_le _,_,_,al J2.obj,eD _,?_⟩));have e0:cG σ.length (bO l) "get" (.int (dE u c)) (.ref σ2.length)=uX (bO l) (.int (dE u c)) (.ref σ2.length):=by kernel_rfl
   refine e0.symm▸?_;refine Ok.bind (Ok.ofOpt (tu _ _) (Ok.ret ?_));refine (J2.look _ hc2).symm▸?_;have hd:∃ k w,((f (dE u c)).map D.ref).getD (.ref σ2.length) = .ref k/\(σ2++[(PO.list [],0)])[k]? = some (.list (gi t (dE u c)),w):=by
    cases hf:f (dE u c) with
    | none=>exact ⟨σ2.length,0,rfl,by refine (J2.none _ hc2 hf).symm▸?_;exact ag _ _⟩
    | some k =>
     obtain ⟨_,_,w,h3⟩:=J2.held _ _ hc2 hf;exact ⟨k,w,rfl,al h3⟩
   obtain ⟨k,w,hd,hk⟩:=hd;refine hd.symm▸?_;refine aN hk ?_;refine aG (σ0:=σ2++[(PO.list [],0)]) (src:=.at k w (gi t (dE u c))) (λq:Nat=>D.tup [.int (q % 2:Nat)]) (λq=>[dec u (sK u c q)]) ⟨_,hk⟩ (av.refl _ _) (λq _ σ3 k3=>?_) λσ3 k3=>⟨⟨_,k3.get hk⟩,?_,((k2.push _).trans k3)⟩
   ·refine aY (ρ1:=[("one",some (dec u c)),("rest",some (.tup [.int (q % 2:Nat)])),("begun",some (.ref σ.length))]) rfl (aa (d:=BF u c q) (by cases u <;> first | (cases hu;done) | kernel_rfl) ⟨?_,k3⟩);exact (xJ hu _ _).symm▸rfl
   ·refine (bF _ _).symm▸?_;unfold au;rw [List.map_map];rfl
  ·have e1:(s.flatMap λc=>au u ((t.filter λq=>dE u c==q / 2).map (sK u c)))=au u (s.flatMap λc=>(t.filter λq=>dE u c==q / 2).map (sK u c)):=by
    exact (map_flatMap).symm▸rfl
   refine e1.symm▸?_;have hlen:(s.flatMap λc=>(t.filter λq=>dE u c==q / 2).map (sK u c)).length<=aQ:=by
    have:∀ s:List Nat,(s.flatMap λc=>(t.filter λq=>dE u c==q / 2).map (sK u c)).length<=s.length * t.length:=λs=>by
     induction s with
     | nil=>simp
     | cons c r ih =>
      (refine (List.flatMap_cons).symm▸?_;refine (length_append).symm▸?_;refine (length_map _).symm▸?_;refine (length_cons).symm▸?_;refine (succ_mul _ _).symm▸?_);have:=length_filter_le (λq=>dE u c==q / 2) t;exact fW (.a (.v 0) (.v 1)) (.a (.v 2) (.v 3)) [(1,.v 1,.v 2),(1,.v 0,.v 3)] rfl ih this
    exact le_trans (this s) (le_trans (mul_le_mul hls hl) (by decide))
   refine ⟨trivial,by refine (length_map _).symm▸?_;exact hlen,aq ?_⟩;refine (eU bU rfl hu (cs:=s.flatMap λc=>(t.filter λq=>dE u c==q / 2).map (sK u c)) (λx hx=>?_) hlen n (src:=.at σ3.length 0 (au u (s.flatMap λc=>(t.filter λq=>dE u c==q / 2).map (sK u c)))) ?_ rfl ⟨_,ag _ _⟩).mono λr σ4 h=>⟨h.1,(J.keep.trans (k3.push _)).trans h.2⟩
   ·obtain ⟨c,hc,hx⟩:=mem_flatMap.mp hx;obtain ⟨q,hq,rfl⟩:=mem_map.mp hx;have:=hs c hc;induction u using Un.casesOn with
    | one=>refine (?_:q % 2 < 2);exact sL q
    | two =>
     have h4:c < 4:=this;refine (?_:2 * (c / 2)+q % 2 < 4);exact jk (lK h4) (sL q)
    | str=>cases hu
   ·exact i3 (ag _ _)
noncomputable def aK (b:Nat):List (List Nat):=(List.range (2 ^ b)).map λm=>(List.range b).filter λc=>m.testBit c
theorem dh (p:Nat->Bool):(List.range 4).filter p∈aK 4:=by
 have e:∀ b0 b1 b2 b3:Bool,(if b0 then [0] else [])++((if b1 then [1] else [])++((if b2 then [2] else [])++(if b3 then [3] else [])))∈aK 4:=by decide +kernel
 have h:(List.range 4).filter p=(if p 0 then [0] else [])++((if p 1 then [1] else [])++((if p 2 then [2] else [])++(if p 3 then [3] else []))):=by
  refine (?_:[0,1,2,3].filter p=_);cases h0:p 0 <;> cases h1:p 1 <;> cases h2:p 2 <;> cases h3:p 3 <;> simp [filter_cons,h0,h1,h2,h3]
 exact h▸(e _ _ _ _)
theorem ba {b:Nat}{s:List Nat}(h:s∈aK b):(∀ c∈s,c < b)/\s.length<=b:=by
 obtain ⟨m,_,rfl⟩:=mem_map.mp h;exact ⟨λc hc=>mem_range.mp (mem_filter.mp hc).1,by have:=length_filter_le (λc=>m.testBit c) (List.range b);rwa [length_range] at this⟩
noncomputable def jg (s found:List Nat):List Nat:=filt (found++xS .two found s)
theorem ui:∀ s∈aK 4,((s==[] || (jg s s==s || (jg s s==cL s && jg s (cL s)==cL s))) && (s != [] || cL s==[]) && (jg s s != s || cL s==s))=true:=by decide +kernel
noncomputable def pB (s f l:List Nat):Loc:=[("s",some (.tup (au .two s))),("found",some (.tup (au .two f))),("late",some (.tup (au .two l)))]
theorem qG (s f:List Nat):jg s f∈aK 4:=dh _
theorem rZ {s:List Nat}(hs:s∈aK 4){test:Loc->PM Bool}{body:Loc->PM (Fl×Loc)}{σ:Sto}{N:Loc->Sto->Prop}{R:D->Sto->Prop}(ht:∀ f l σ1,Ok (test (pB s f l)) σ1 λb σ'=>b = !(l==f)/\σ'=σ1)
  (hb:∀ f l σ1,l∈aK 4->Ex (body (pB s f l)) σ1 (λρ' σ'=>ρ'=pB s l (jg s l)/\av NoW σ1 σ') R) (hN:∀ l σ',av NoW σ σ'->N (pB s (cL s) l) σ'):Ex (dy test body 6 (pB s [] s)) σ N R:=by
 have c:=ui s hs;simp only [and_eq_true,or_eq_true,beq_iff_eq,bne_iff_ne,ne_eq] at c;obtain ⟨⟨c1,c2⟩,c3⟩:=c;refine rR ((ht _ _ _).mono λb σ' h=>?_);obtain ⟨rfl,rfl⟩:=h;refine ⟨λh1=>Ex.mono (hb _ _ _ hs) (λρ' σ2 h=>?_) (λ_ _ h=>h),λh1=>?_⟩;rotate_left
 ·have e:s=[]:=by simpa using h1
  have:=hN s _ (av.refl _ _);rw [(c2.elim (λh=>absurd e h) id:cL s=[])] at this;exact this
 obtain ⟨rfl,k2⟩:=h;have hne:s≠[]:=by simpa using h1
 refine rR ((ht _ _ _).mono λb σ' h=>?_);obtain ⟨rfl,rfl⟩:=h;refine ⟨λh2=>Ex.mono (hb _ _ _ (qG _ _)) (λρ' σ3 h=>?_) (λ_ _ h=>h),λh2=>?_⟩;rotate_left
 ·have e:jg s s=s:=by simpa using h2
  have:=hN (jg s s) _ k2;rw [(c3.elim (λh=>absurd e h) id:cL s=s)] at this;exact this
 obtain ⟨rfl,k3⟩:=h;have hne2:¬ jg s s=s:=by simpa using h2
 obtain ⟨d1,d2⟩:=(c1.resolve_left hne).resolve_left hne2;(refine d1.symm▸?_;refine d2.symm▸?_);refine rR ((ht _ _ _).mono λb σ' h=>?_);obtain ⟨rfl,rfl⟩:=h;exact ⟨λh3=>by simp at h3,λ_=>hN _ _ (k2.trans k3)⟩
theorem i6 {s:List Nat}(hs:s∈aK 4)(n:Nat)(σ:Sto):Ok (aL (n+1+1+1) "closure" [.tup (au .two s)]) σ (cM .two (cL s) σ):=by
 refine ao rfl kO (ax (ρ:=[("s",some (.tup (au .two s))),("found",none),("late",none)]) rfl ?_);refine m8 (m:=aE (aL (n+1+1)) 63 (aO 12).scope (pB s [] s) ((aO 12).body.drop 1)) rfl ?_;refine ab (wW (rZ hs (λf l σ1=>?_) (λf l σ1 hl=>?_) λl σ' k=>?_))
 ·exact gf rfl (bZ (aa (d:=.tup (au .two l)) rfl (aa (d:=.tup (au .two f)) rfl (AO (u:=.two) rfl ⟨_,rfl,rfl,rfl⟩))))
 ·obtain ⟨s1,s2⟩:=ba hs;obtain ⟨l1,l2⟩:=ba hl;refine ab (aA rfl (aa (d:=.tup (au .two l)) rfl ?_));refine ab (aA rfl (am rfl (by kernel_rfl) (ae (aa (d:=.tup (au .two l)) rfl (ae (am rfl (by kernel_rfl) (ah (ds:=[.tup (au .two l),.tup (au .two s)]) rfl ?_)))))));refine (p9 (u:=.two) rfl l1 s1 (bh (.v 0) (.n 60) [(1,.v 0,.n 4)] rfl l2) (bh (.v 0) (.n 60) [(1,.v 0,.n 4)] rfl s2) n σ1).mono λr σ2 h=>aq ?_;obtain ⟨rfl,k2⟩:=h;have hj:=ba (s:=xS .two l s) (dh _);refine (oa (u:=.two) rfl l1 hj.1 (by refine (length_append).symm▸?_;have:=hj.2;have:aQ=4096:=rfl;exact aZ (.a (.v 0) (.v 1)) (.v 2) [(1,.v 0,.n 4),(1,.v 1,.n 4),(1,.n 4096,.v 2)] rfl l2 hj.2 (le_of_eq this.symm)) n σ2).mono λr σ3 h=>?_;obtain ⟨rfl,k3⟩:=h;exact a9 ⟨by kernel_rfl,k2.trans k3⟩
 ·exact ab (aB (aa (d:=.tup (au .two (cL s))) rfl ⟨rfl,k⟩))
theorem ww {s:List Nat}(hs:s∈aK 4)(n:Nat)(σ:Sto):Ok (aL (n+1+1+1+1) "star" [.tup (au .two s),.int 2]) σ (cM .two (tU s) σ):=by
 refine ao rfl qN (ax (ρ:=[("s",some (.tup (au .two s))),("n",some (.int 2))]) rfl ?_);refine ab (aB (am rfl (by kernel_rfl) (ae (am rfl (by kernel_rfl) (ah (ds:=[.tup (au .two s)]) rfl ?_)))));refine (i6 hs n σ).mono λr σ1 h=>?_;obtain ⟨rfl,k1⟩:=h;refine ae (am rfl (by kernel_rfl) (ah (ds:=[.int 2]) rfl ((xA (n+1+1) σ1).mono λr σ2 h=>?_)));obtain ⟨rfl,k2⟩:=h;have hj:=ba (s:=cL s) (dh _);refine aq ((oa (u:=.two) rfl hj.1 (t:=[0,3]) (by decide) (by refine (length_append).symm▸?_;have:=hj.2;have:aQ=4096:=rfl;simp;exact a5 (.a (.v 0) (.n 2)) (.v 1) [(1,.v 0,.n 4),(1,.n 4096,.v 1)] rfl hj.2 (le_of_eq this.symm)) (n+1) σ2).mono λr σ3 h=>?_);exact ⟨h.1,(k1.trans k2).trans h.2⟩
noncomputable def evD (i w:Nat):List (Str×D):=[("many",.int 2),("instance",.ref i),("ways",.int w)]
structure lw (σ:Sto)(j d i:Nat)(h0 h1:List Nat)(w:Nat):Prop where
 inst:∃ v,σ[j]? = some (.inst d,v)
 dict:∃ v,σ[d]? = some (.dS (evD i w),v)
 list:∃ v,σ[i]? = some (.list [.tup (au .one h0),.tup (au .two h1)],v)
theorem lw.kp {σ σ':Sto}{j d i w w':Nat}{h0 h1:List Nat}{W:Nat->Prop}(S:lw σ j d i h0 h1 w)(k:av W σ σ')(hj:¬ W j)(hi:¬ W i)(hd:∃ v,σ'[d]? = some (.dS (evD i w'),v)):lw σ' j d i h0 h1 w' :=
 ⟨S.inst.imp λv e=>k.2 _ _ hj e,hd,S.list.imp λv e=>k.2 _ _ hi e⟩
theorem lw.ne {σ:Sto}{j d i w:Nat}{h0 h1:List Nat}(S:lw σ j d i h0 h1 w):j≠d/\i≠d:=by
 obtain ⟨v1,e1⟩:=S.inst;obtain ⟨v2,e2⟩:=S.dict;obtain ⟨v3,e3⟩:=S.list;constructor
 ·intro h;(replace e1:=h▸e1;replace e1:=e2▸e1);cases e1
 ·intro h;(replace e3:=h▸e3;replace e3:=e2▸e3);cases e3
inductive EvK (j d i:Nat)(h0 h1:List Nat)(w c:Nat)(σ σ':Sto):Prop
 | intro (k:av (· = d) σ σ') (w':Nat) (a:w<=w') (b:w'<=w+c) (S:lw σ' j d i h0 h1 w'):EvK j d i h0 h1 w c σ σ'
noncomputable def XY (l:List (Str×D)):Prop:=(l.map (·.1)).Nodup/\∀ p∈l,∃ b,p.1=nm b
theorem XY.len {l:List (Str×D)}(h:XY l):l.length<=2:=by
 have:=List.Nodup.length_le_of_subset (l₂:=[nm false,nm true]) h.1 (λx hx=>by
  obtain ⟨p,hp,rfl⟩:=mem_map.mp hx;obtain ⟨b,hb⟩:=h.2 p hp;refine hb.symm▸?_;cases b <;> simp)
 rwa [length_map] at this
theorem zI {l:List (Str×D)}{k:Str}{v:D} : (put k v l).map (·.1)=if k∈l.map (·.1) then l.map (·.1) else l.map (·.1)++[k]:=by
 unfold put;by_cases h:(l.any λp=>decide (p.1=k))=true
 ·rw [if_pos h];obtain ⟨p,hp,he⟩:=any_eq_true.mp h;(refine (if_pos (mem_map.mpr ⟨p,hp,of_decide_eq_true he⟩)).symm▸?_;refine (List.map_map).symm▸?_);apply map_congr_left;intro x _;dsimp only [Function.comp];split <;> rfl
 ·rw [if_neg h,if_neg,map_append]
  ·rfl
  ·intro hm;obtain ⟨p,hp,rfl⟩:=mem_map.mp hm;exact h (any_eq_true.mpr ⟨p,hp,by simp⟩)
theorem XY.put {l:List (Str×D)}(h:XY l)(b:Bool)(v:D):XY (put (nm b) v l):=by
 have hk:=zI (l:=l) (k:=nm b) (v:=v);constructor
 ·rw [hk];by_cases hm:nm b∈l.map (·.1)
  ·rw [if_pos hm];exact h.1
  ·rw [if_neg hm,nodup_append];exact ⟨h.1,by simp,λa ha c hc q=>by rw [mem_singleton] at hc;subst hc;subst q;exact hm ha⟩
 ·intro p hp;have hp':p.1∈(Mine.put (nm b) v l).map (·.1):=mem_map.mpr ⟨p,hp,rfl⟩;rw [hk] at hp';have old:p.1∈l.map (·.1)->∃ c,p.1=nm c:=λhm=>by
   obtain ⟨q,hq,e⟩:=mem_map.mp hm;obtain ⟨c,hc⟩:=h.2 q hq;exact ⟨c,by exact e▸hc⟩
  by_cases hm:nm b∈l.map (·.1)
  ·rw [if_pos hm] at hp';exact old hp'
  ·rw [if_neg hm,mem_append] at hp';rcases hp' with hp' | hp'
   ·exact old hp'
   ·rw [mem_singleton] at hp';exact ⟨b,hp'⟩
theorem fQ (k:Str)(v:D)(j:Str):∀ l:List (Str×D),(put k v l).lookup j=if j=k then some v else l.lookup j:=by
 have key:∀ l:List (Str×D),(l.map λp=>if p.1=k then (p.1,v) else p).lookup j=if j=k then (l.lookup j).map λ_=>v else l.lookup j:=λl=>by
  induction l with
  | nil=>simp
  | cons p r ih =>
   obtain ⟨a,d⟩:=p;refine (map_cons).symm▸?_;by_cases ha:a=k
   ·rw [if_pos ha,List.lookup_cons,List.lookup_cons,ih];by_cases hj:(j==a)=true
    ·have hja:=beq_iff_eq.mp hj;subst hja;simp [ha]
    ·replace hj:=(not_eq_true _)▸hj;exact hj.symm▸rfl
   ·rw [if_neg ha,List.lookup_cons,List.lookup_cons,ih];by_cases hj:(j==a)=true
    ·have hja:=beq_iff_eq.mp hj;subst hja;simp [ha]
    ·replace hj:=(not_eq_true _)▸hj;exact hj.symm▸rfl
 intro l;unfold put;by_cases h:(l.any λp=>decide (p.1=k))=true
 ·rw [if_pos h,key];by_cases hj:j=k
  ·subst hj;(refine (if_pos rfl).symm▸?_;refine (if_pos rfl).symm▸?_);have:(l.lookup j).isSome=true:=by
    obtain ⟨p,hp,he⟩:=any_eq_true.mp h;clear key h;induction l with
    | nil=>cases hp
    | cons q r ih =>
     obtain ⟨a,d⟩:=q;rw [List.lookup_cons];by_cases hja:(j==a)=true
     ·exact hja.symm▸rfl
     ·replace hja:=(not_eq_true _)▸hja;refine hja.symm▸?_;rcases mem_cons.mp hp with rfl | hp
      ·simp at he;subst he;simp at hja
      ·exact ih hp
   obtain ⟨x,hx⟩:=isSome_iff_exists.mp this;exact hx▸rfl
  ·(refine (if_neg hj).symm▸?_;exact (if_neg hj).symm▸rfl)
 ·refine (if_neg h).symm▸?_;have hn:l.lookup k=none:=by
   cases e:l.lookup k with
   | none=>rfl
   | some d=>exact absurd (any_eq_true.mpr ⟨(k,d),mem_of_lookup e,by simp⟩) h
  clear key h;induction l with
  | nil =>
   by_cases hj:j=k
   ·subst hj;simp
   ·have:(j==k)=false:=by simpa using hj
    rw [if_neg hj,nil_append,List.lookup_cons,this]
  | cons p r ih =>
   obtain ⟨a,d⟩:=p;rw [List.lookup_cons] at hn;rw [cons_append,List.lookup_cons,List.lookup_cons];by_cases ha:(k==a)=true
   ·replace hn:=ha▸hn;cases hn
   ·replace ha:=(not_eq_true _)▸ha;replace hn:=ha▸hn;refine (ih hn).symm▸?_;by_cases hj:(j==a)=true
    ·have hja:=beq_iff_eq.mp hj;subst hja;have:¬ j=k:=λq=>by subst q;simp at ha
     simp [this]
    ·replace hj:=(not_eq_true _)▸hj;exact hj.symm▸rfl
inductive fM (W:Nat->Prop)(σ:Sto)(e:Nat)(E:En)(g:Bool->Bool):Prop
 | intro (off:¬ W e) (mem:∀ b,E b∈aK 2) (l:List (Str×D)) (v:Nat) (h:σ[e]? = some (.dS l,v)) (xy:XY l) (lk:∀ b,g b=true->l.lookup (nm b)=some (.tup (au .one (E b)))):fM W σ e E g
theorem fM.off {W:Nat->Prop}{σ:Sto}{e:Nat}{E:En}{g:Bool->Bool}(h:fM W σ e E g):¬ W e:=let ⟨a,_,_,_,_,_,_⟩:=h;a
theorem fM.mem {W:Nat->Prop}{σ:Sto}{e:Nat}{E:En}{g:Bool->Bool}(h:fM W σ e E g):∀ b,E b∈aK 2:=let ⟨_,a,_,_,_,_,_⟩:=h;a
theorem fM.lt {W:Nat->Prop}{σ:Sto}{e:Nat}{E:En}{g:Bool->Bool}(h:fM W σ e E g):e < σ.length:=let ⟨_,_,_,_,q,_,_⟩:=h;(List.getElem?_eq_some_iff.mp q).1
theorem fM.kp {W:Nat->Prop}{σ σ':Sto}{e:Nat}{E:En}{g:Bool->Bool}(h:fM W σ e E g)(k:av W σ σ'):fM W σ' e E g:=let ⟨a,b,l,v,c,x,d⟩:=h;⟨a,b,l,v,k.2 _ _ a c,x,d⟩
theorem fM.sub {W:Nat->Prop}{σ:Sto}{e:Nat}{E:En}{g g':Bool->Bool}(h:fM W σ e E g)(hg:∀ b,g' b=true->g b=true):fM W σ e E g':=let ⟨a,b,l,v,c,x,d⟩:=h;⟨a,b,l,v,c,x,λq hq=>d q (hg q hq)⟩
theorem fM.wk {W W':Nat->Prop}{σ:Sto}{e:Nat}{E:En}{g:Bool->Bool}(h:fM W σ e E g)(hw:¬ W' e):fM W' σ e E g:=let ⟨_,b,l,v,c,x,d⟩:=h;⟨hw,b,l,v,c,x,d⟩
noncomputable def Ty.un:Ty->Un
 | .pair => .two
 | _ => .one
noncomputable def SP (j d i:Nat)(h0 h1:List Nat)(n:Nat)(a:N)(T:Ty)(g:Bool->Bool):Prop:=∀ σ e E w,lw σ j d i h0 h1 w->fM (· = d) σ e E g->w+a.cost 0<=1000000 ->
 Ok (aL n "Evaluator.set_of" [.ref j,a.d,.ref e]) σ λr σ'=>r = .tup (au T.un (a.den h0 h1 E))/\EvK j d i h0 h1 w (a.cost 0) σ σ'
noncomputable def TP (j d i:Nat)(h0 h1:List Nat)(n:Nat)(a:N)(g:Bool->Bool):Prop:=∀ σ e E w,lw σ j d i h0 h1 w->fM (· = d) σ e E g->w+a.cost 0<=1000000 ->
 Ok (aL n "Evaluator.truth" [.ref j,a.d,.ref e]) σ λr σ'=>r = .bool (a.tru h0 h1 E)/\EvK j d i h0 h1 w (a.cost 0) σ σ'
noncomputable def cj (g:Bool->Bool)(b:Bool):Bool->Bool:=λc=>g c || c==b
noncomputable def SPs (j d i:Nat)(h0 h1:List Nat)(n:Nat):Ds->(Bool->Bool)->Prop
 | .nil,_=>True
 | .cons b a r,g=>SP j d i h0 h1 n a .set g/\(∀ E:En,(∀ b,E b∈aK 2)->a.den h0 h1 E∈aK 2)/\SPs j d i h0 h1 n r (cj g b)
noncomputable abbrev Tri:=List Nat×En×Nat
noncomputable def itD (t:Tri):D:=.tup [.tup (t.1.map λ(c:Nat)=>D.int c),.ref t.2.2]
noncomputable def d8 (t:Tri):List Nat×En:=(t.1,t.2.1)
theorem qn:aM "Evaluator.__init__"=some (aO 17):=rfl
theorem mP:aM "Evaluator.opened"=some (aO 18):=rfl
theorem cq:aM "Evaluator.set_of"=some (aO 19):=rfl
theorem mM:aM "Evaluator.of_one"=some (aO 20):=rfl
theorem gQ:aM "Evaluator.of_two"=some (aO 21):=rfl
theorem cI:aM "Evaluator.truth"=some (aO 23):=rfl
theorem jA:aM "Evaluator.has_many"=some (aO 25):=rfl
section
variable {j d i:Nat}{h0 h1:List Nat}{n:Nat}
noncomputable def Ds.gs:Ds->(Bool->Bool)->(Bool->Bool)
 | .nil,g=>g
 | .cons b _ r,g=>r.gs (cj g b)
theorem qf (v:Nat):∀ (ds:Ds) {k k':Nat},k<=k'->ds.cost v k<=ds.cost v k':=λl=>by
 induction l using Ds.ind with
 | h0 =>
  rintro _ _ _;exact le_refl _
 | h1 b a r ih =>
  rintro k k' h;exact add_le_add (mul_le_mul_right _ h) (ih (a5 (.m 2 (.v 0)) (.m 2 (.v 1)) [(2,.v 0,.v 1)] rfl h))
noncomputable def dg (h0 h1:List Nat)(b:Bool)(a:N)(p:List Nat×En):List (List Nat×En):=(a.den h0 h1 p.2).map λc=>(p.1++[c],p.2.set b [c])
theorem eW {b:Bool}{a:N}(hd:∀ E:En,(∀ b,E b∈aK 2)->a.den h0 h1 E∈aK 2):∀ (l:List (List Nat×En)),(∀ p∈l,∀ b,p.2 b∈aK 2)->(l.flatMap (dg h0 h1 b a)).length<=2 * l.length:=λl=>by
 induction l using List.rec with
 | nil =>
  rintro _;exact le_refl _
 | cons p r ih =>
  rintro h;rw [List.flatMap_cons,length_append,length_cons];have hr:=ih (λq hq=>h q (.tail _ hq));have h2:(dg h0 h1 b a p).length<=2:=by
   unfold dg;rw [length_map];exact (ba (hd p.2 (h p (.head _)))).2
  exact aZ (.a (.v 0) (.v 1)) (.m 2 (.a (.v 2) (.n 1))) [(1,.v 1,(.m 2 (.v 2))),(1,.v 0,.n 2)] rfl hr h2
theorem wy {src:Src}{body:D->Loc->PM (Fl×Loc)}{N:Loc->Sto->Prop}{R:D->Sto->Prop}(I:List Tri->(Bool->Bool)->Nat->Loc->Sto->Prop)(hs:∀ es g w ρ σ,I es g w ρ σ->src.Fix σ)(hE:∀ es g w ρ σ,I es g w ρ σ->∀ t∈es,∀ b,t.2.1 b∈aK 2)
  (step:∀ b a es g w ρ σ,SP j d i h0 h1 n a .set g->(∀ E:En,(∀ b,E b∈aK 2)->a.den h0 h1 E∈aK 2)->w+es.length * (a.cost 0+2)<=1000000->es.length<=1024->(∀ t∈es,t.1.length<=1999)->I es g w ρ σ ->
   Ex (body (.tup [.str (nm b),a.d]) ρ) σ (λρ' σ'=>∃ es' w',es'.map d8=(es.map d8).flatMap (dg h0 h1 b a)/\w'<=w+es.length * (a.cost 0+2)/\I es' (cj g b) w' ρ' σ') R) :
  ∀ (ds:Ds) (es:List Tri) (g:Bool->Bool) (w:Nat) (ρ:Loc) (σ:Sto),SPs j d i h0 h1 n ds g->w+ds.cost 0 es.length<=1000000->es.length * 2 ^ ds.len<=1024->(∀ t∈es,t.1.length+ds.len<=1999)->I es g w ρ σ ->
   (∀ es' w' ρ' σ',es'.map d8=ds.opens h0 h1 (es.map d8)->w'<=w+ds.cost 0 es.length->I es' (ds.gs g) w' ρ' σ'->N ρ' σ')->Ex (d3 src body ds.d ρ) σ N R:=λds=>by
 induction ds using Ds.ind with
 | h0=>exact λes g w ρ σ _ _ _ _ h hN=>iW (hs _ _ _ _ _ h) (hN es w _ _ rfl (le_refl _) h)
 | h1 b a r ih =>
  intro es g w ρ σ H hw hm hl h hN;have hw':w+(es.length * (a.cost 0+2)+r.cost 0 (2 * es.length))<=1000000:=hw;have hm':es.length * 2 ^ (r.len+1)<=1024:=hm;have hl':∀ t∈es,t.1.length+(r.len+1)<=1999:=hl;have h2:1<=2 ^ (r.len+1):=Nat.one_le_two_pow;refine ip (hs _ _ _ _ _ h) (Ex.mono (step b a es g w ρ σ H.1 H.2.1 (aZ (.a (.v 0) (.v 1)) (.n 1000000) [(1,(.a (.v 0) (.a (.v 1) (.v 2))),.n 1000000)] rfl hw') (le_trans (Nat.le_mul_of_pos_right _ h2) hm') (λt ht=>by have:=hl' t ht;exact a5 (.v 0) (.n 1999) [(1,(.a (.v 0) (.a (.v 1) (.n 1))),.n 1999)] rfl this) h) (λρ1 σ1 h1=>?_) λ_ _ q=>q);obtain ⟨es',w',e1,e2,I1⟩:=h1;have hlen:es'.length<=2 * es.length:=by
   have:=eW (b:=b) H.2.1 (es.map d8) (λp hp=>by
    obtain ⟨t,ht,rfl⟩:=mem_map.mp hp;exact hE _ _ _ _ _ h t ht)
   rw [<- e1,length_map,length_map] at this;exact this
  have hc:=qf 0 r hlen;refine ih es' (cj g b) w' ρ1 σ1 H.2.2 (sX (.a (.v 0) (.v 1)) (.n 1000000) [(1,(.a (.v 2) (.a (.v 3) (.v 4))),.n 1000000),(1,.v 0,(.a (.v 2) (.v 3))),(1,.v 1,.v 4)] rfl hw' e2 hc) ?_ ?_ I1 λes2 w2 ρ2 σ2 e3 e4 I2=>hN es2 w2 ρ2 σ2 ?_ ?_ I2
  ·rw [Nat.pow_succ] at hm';exact le_trans (mul_le_mul_right _ hlen) (by rw [mul_comm 2 es.length,mul_assoc,mul_comm 2];exact hm')
  ·intro t ht;have:d8 t∈(es.map d8).flatMap (dg h0 h1 b a):=by exact e1▸(mem_map.mpr ⟨t,ht,rfl⟩)
   obtain ⟨p,hp,ht2⟩:=mem_flatMap.mp this;obtain ⟨s,hs',rfl⟩:=mem_map.mp hp;obtain ⟨c,_,hc2⟩:=mem_map.mp ht2;have h3:=hl' s hs';have h4:t.1=s.1++[c]:=(congrArg Prod.fst hc2).symm;rw [h4,length_append];simp only [length_cons,length_nil];exact a5 (.a (.a (.v 0) (.a (.n 0) (.n 1))) (.v 1)) (.n 1999) [(1,(.a (.v 0) (.a (.v 1) (.n 1))),.n 1999)] rfl h3
  ·rw [e3,e1];rfl
  ·have:w+(es.length * (a.cost 0+2)+r.cost 0 (2 * es.length))=w+(Ds.cons b a r).cost 0 es.length:=rfl;exact Be (.v 0) (.a (.v 1) (.v 2)) [(1,.v 3,(.a (.v 1) (.v 4))),(1,.v 5,.v 6),(1,.v 0,(.a (.v 3) (.v 5))),(1,(.a (.v 1) (.a (.v 4) (.v 6))),(.a (.v 1) (.v 2)))] rfl e2 hc e4 (le_of_eq this)
end
noncomputable def lOp (j e:Nat)(dd:D)(f o1 o2 o3 o4 o5 o6 o7 o8:Option D):Loc:=[("self",some (.ref j)),("decls",some dd),("env",some (.ref e)),("found",f),("name",o1),("expr",o2),("late",o3),("atoms",o4),("one",o5),("rows",o6),("row",o7),("inner",o8)]
noncomputable def W2 (d k:Nat):Nat->Prop:=λx=>x=d\/x=k
theorem av.un {d:Nat}{σ σ':Sto}{p:PO×Nat}(k:av (W2 d σ.length) (σ++[p]) σ'):av (· = d) σ σ' :=
 ⟨by have:=k.1;rw [length_append] at this;exact aZ (.v 0) (.v 1) [(1,(.a (.v 0) (.v 2)),.v 1)] rfl this,λa q ha e=>k.2 a q (λh=>h.elim ha (λh=>by have:=aH e;exact not_succ_le_zero 0 (lin [_,_] 0 (.n 1) (.n 0) [(1,.v 0,.v 1),(1,(.a (.v 1) (.n 1)),.v 0)] rfl (le_of_eq h.symm) this))) (al e)⟩
theorem av.to {W W':Nat->Prop}{σ σ':Sto}(k:av W σ σ')(h:∀ x,W x->W' x):av W' σ σ':=⟨k.1,λa p ha e=>k.2 a p (λhw=>ha (h a hw)) e⟩
theorem gp {c:Nat}(h:c < 2):[c]∈aK 2:=by
 exact lt2 (P:=λc=>[c]∈aK 2) h (by decide +kernel) (by decide +kernel)
section
variable (j d i:Nat)(h0 h1:List Nat)(w:Nat)
inductive OpA (ds:Ds)(E:En)(g:Bool->Bool)(σ:Sto)(r:D)(σ':Sto):Prop
 | intro (k v:Nat) (es:List Tri) (e:r = .ref k) (h:σ'[k]? = some (.list (es.map itD),v)) (ne:k≠d) (em:es.map d8=ds.opens h0 h1 [([],E)]) (en:∀ t∈es,fM (· = d) σ' t.2.2 t.2.1 (ds.gs g)) (kk:EvK j d i h0 h1 w (ds.cost 0 1) σ σ'):OpA ds E g σ r σ'
inductive OpL (e:Nat)(dd:D)(es:List Tri)(ρ':Loc)(σ':Sto):Prop
 | intro (kf v:Nat) (o1 o2 o3 o4 o5 o6 o7 o8:Option D) (hρ:ρ'=lOp j e dd (some (.ref kf)) o1 o2 o3 o4 o5 o6 o7 o8) (h:σ'[kf]? = some (.list (es.map itD),v)) (ne:kf≠d):OpL e dd es ρ' σ'
inductive OpI (e:Nat)(dd:D)(σ:Sto)(es:List Tri)(g':Bool->Bool)(w':Nat)(ρ':Loc)(σ':Sto):Prop
 | intro (l:OpL j d e dd es ρ' σ') (k:av (· = d) σ σ') (S:lw σ' j d i h0 h1 w') (le:w<=w') (en:∀ t∈es,fM (· = d) σ' t.2.2 t.2.1 g'):OpI e dd σ es g' w' ρ' σ'
theorem OpI.en {j d i:Nat}{h0 h1:List Nat}{w e:Nat}{dd:D}{σ:Sto}{es:List Tri}{g':Bool->Bool}{w':Nat}{ρ':Loc}{σ':Sto}(h:OpI j d i h0 h1 w e dd σ es g' w' ρ' σ'):∀ t∈es,fM (· = d) σ' t.2.2 t.2.1 g':=by cases h;assumption
inductive Ba (e:Nat)(dd:D)(kf:Nat)(b:Bool)(a:D)(kl:Nat)(ρ2:Loc):Prop
 | intro (p4 p5 p6 p7 p8:Option D) (h:ρ2=lOp j e dd (some (.ref kf)) (some (.str (nm b))) (some a) (some (.ref kl)) p4 p5 p6 p7 p8):Ba e dd kf b a kl ρ2
inductive OpW (X:Nat)(σ2:Sto)(n:Nat):Prop
 | intro (w2:Nat) (a:w<=w2) (b:w2<=w+n * X) (S:lw σ2 j d i h0 h1 w2):OpW X σ2 n
inductive OpT (σ0:Nat)(b:Bool)(g':Bool->Bool)(pre:List Tri)(l:List (List Nat×En))(σ2:Sto):Prop
 | intro (ts:List Tri) (e:ts.map d8=l) (at_:∃ v2,σ2[σ0]? = some (.list ((pre++ts).map itD),v2)) (en:∀ u∈ts,fM (W2 d σ0) σ2 u.2.2 u.2.1 (cj g' b)):OpT σ0 b g' pre l σ2
inductive zX (e:Nat)(dd:D)(kf:Nat)(b:Bool)(a:N)(g':Bool->Bool)(X:Nat)(σ':Sto)(acc:List Tri)(ρ2:Loc)(σ2:Sto):Prop
 | intro (l:Ba j e dd kf b a.d σ'.length ρ2) (k:av (W2 d σ'.length) (σ'++[(PO.list [],0)]) σ2) (w:OpW j d i h0 h1 w X σ2 acc.length) (t:OpT d σ'.length b g' [] ((acc.map d8).flatMap (dg h0 h1 b a)) σ2):zX e dd kf b a g' X σ' acc ρ2 σ2
theorem zX.k {j d i:Nat}{h0 h1:List Nat}{w e:Nat}{dd:D}{kf:Nat}{b:Bool}{a:N}{g':Bool->Bool}{X:Nat}{σ':Sto}{acc:List Tri}{ρ2:Loc}{σ2:Sto}(h:zX j d i h0 h1 w e dd kf b a g' X σ' acc ρ2 σ2):av (W2 d σ'.length) (σ'++[(PO.list [],0)]) σ2:=by cases h;assumption
inductive By (e:Nat)(dd:D)(kf:Nat)(b:Bool)(a:D)(kl:Nat)(t:Tri)(cs:List Nat)(ρ4:Loc):Prop
 | intro (q7 q8:Option D) (h:ρ4=lOp j e dd (some (.ref kf)) (some (.str (nm b))) (some a) (some (.ref kl)) (some (.tup (t.1.map λ(c:Nat)=>D.int c))) (some (.ref t.2.2)) (some (.tup (au .one cs))) q7 q8):By e dd kf b a kl t cs ρ4
inductive A5 (e:Nat)(dd:D)(kf:Nat)(b:Bool)(a:D)(g':Bool->Bool)(kl:Nat)(t:Tri)(cs:List Nat)(ts:List Tri)(σ4:Sto)(acc3:List Nat)(ρ4:Loc)(σ5:Sto):Prop
 | intro (l:By j e dd kf b a kl t cs ρ4) (k:av (· = kl) σ4 σ5) (ot:OpT d kl b g' ts (acc3.map (λc=>(t.1++[c],t.2.1.set b [c]))) σ5):A5 e dd kf b a g' kl t cs ts σ4 acc3 ρ4 σ5
end
theorem j7 {j d i:Nat}{h0 h1:List Nat}{n:Nat}(ds:Ds)(g:Bool->Bool)(H:SPs j d i h0 h1 n ds g)(hl:ds.len<=3){σ:Sto}{e:Nat}{E:En}{w:Nat}(S:lw σ j d i h0 h1 w)(hE:fM (· = d) σ e E g)(hw:w+ds.cost 0 1<=1000000) :
  Ok (aL (n+1) "Evaluator.opened" [.ref j,.tup ds.d,.ref e]) σ (OpA j d i h0 h1 w ds E g σ):=by
 refine ao rfl mP (ax (ρ:=lOp j e (.tup ds.d) none none none none none none none none none) rfl ?_);refine ab (aA (by kernel_rfl) (bw (ae (aI (ae (aa (d:=.tup []) rfl (ae (aa (d:=.ref e) rfl (aq ⟨le_of_ble_eq_true rfl,aq ⟨le_of_ble_eq_true rfl,?_⟩⟩)))))))));refine ab (fi (bm (s:=.tup ds.d) rfl ?_));have hdl:d < σ.length:=S.dict.elim λ_ q=>aH q;have kf0:av (· = d) σ (σ++[(PO.list [.tup [.tup [],.ref e]],0)]):=(av.refl _ _).push _;have S1:=S.kp (w':=w) kf0 (λq=>S.ne.1 q) (λq=>S.ne.2 q) (S.dict.imp λv q=>al q);have hpow:(2:Nat) ^ ds.len<=2 ^ 3:=Nat.pow_le_pow_right (by decide) hl;refine wy (src:=.tup ds.d) (j:=j) (d:=d) (i:=i) (h0:=h0) (h1:=h1) (n:=n) (OpI j d i h0 h1 w e (.tup ds.d) σ)
  (λ_ _ _ _ _ _=>trivial) (λes g' w' ρ' σ' h t ht=>(h.en t ht).mem) ?_ ds [([],E,e)] g w _ _ H (by simpa using hw) (by simp;exact bh (.v 0) (.n 1024) [(1,.v 0,.n 8)] rfl hpow) (by intro t ht;rw [mem_singleton] at ht;subst ht;simp;exact bh (.v 0) (.n 1999) [(1,.v 0,.n 3)] rfl hl)
  ⟨⟨σ.length,0,none,none,none,none,none,none,none,none,by kernel_rfl,ag _ _,by exact ne_of_gt (a5 (.a (.v 0) (.n 1)) (.v 1) [(1,(.a (.v 0) (.n 1)),.v 1)] rfl hdl)⟩,kf0,S1,le_refl _,λt ht=>by rw [mem_singleton] at ht;subst ht;exact hE.kp kf0⟩ ?_
 rotate_left
 ·rintro es' w' ρ' σ' e1 e2 ⟨⟨kf,v,o1,o2,o3,o4,o5,o6,o7,o8,rfl,hkf,hkd⟩,k0,S',hww,hEs⟩;exact ab (aB (aa (d:=.ref kf) rfl ⟨kf,v,es',rfl,hkf,hkd,e1,hEs,k0,w',hww,e2,S'⟩))
 rintro b a es g' w' ρ' σ' HS Hd hw1 hlen htl ⟨⟨kf,v,o1,o2,o3,o4,o5,o6,o7,o8,rfl,hkf,hkd⟩,k0,S',hww,hEs⟩;refine cE (ρ':=lOp j e (.tup ds.d) (some (.ref kf)) (some (.str (nm b))) (some a.d) o3 o4 o5 o6 o7 o8) rfl ?_;refine ab (aA rfl (bw (aq ⟨zero_le _,?_⟩)));refine ab (fi (bV rfl (aa (d:=.ref kf) rfl (aN (al hkf) ?_))));have hdl':d < σ'.length:=S'.dict.elim λ_ q=>aH q;have hkl:kf < σ'.length:=aH hkf;have hjl:j < σ'.length:=S'.inst.elim λ_ q=>aH q;have hil:i < σ'.length:=S'.list.elim λ_ q=>aH q;have hne:=S'.ne;generalize hX:a.cost 0+2=X at hw1;refine cY (src:=.at kf v (es.map itD)) itD (zX j d i h0 h1 w' e (.tup ds.d) kf b a g' X σ')
  (λacc ρ2 σ2 h=>⟨_,h.k.2 kf _ (λq=>q.elim hkd (λq=>not_succ_le_zero 0 (lin [_,_] 0 (.n 1) (.n 0) [(1,(.a (.v 0) (.n 1)),.v 1),(1,.v 1,.v 0)] rfl hkl (le_of_eq q.symm)))) (al hkf)⟩) es ?_ ?_ es [] _ _ rfl
  ⟨⟨o4,o5,o6,o7,o8,by kernel_rfl⟩,av.refl _ _,⟨w',le_refl _,le_add_right _ _,S'.kp ((av.refl (· = d) _).push _) (λq=>hne.1 q) (λq=>hne.2 q) (S'.dict.imp λv q=>al q)⟩,[],rfl,⟨0,ag _ _⟩,λu hu=>by cases hu⟩
 ·
  rintro t acc r ρ2 σ2 hsplit ⟨⟨p4,p5,p6,p7,p8,rfl⟩,k2,⟨w2,hw2a,hw2b,S2⟩,ts,hts,⟨v2,hl2⟩,hE2⟩;have ht:t∈es:=by refine hsplit▸?_;simp
  have hacc:acc.length+1<=es.length:=by
   have:=congrArg List.length hsplit;(replace this:=(length_append)▸this;replace this:=(length_cons)▸this);exact aZ (.a (.v 0) (.n 1)) (.v 1) [(1,(.a (.v 0) (.a (.v 2) (.n 1))),.v 1)] rfl (le_of_eq this)
  have hmul:acc.length * X+X<=es.length * X:=by
   have:=mul_le_mul_right X hacc;rwa [succ_mul] at this
  have htne:t.2.2≠d:=(hEs t ht).off;have htlt:t.2.2 < σ'.length:=(hEs t ht).lt;have hnW:¬ W2 d σ'.length t.2.2:=λq=>q.elim htne (λq=>not_succ_le_zero 0 (lin [_,_] 0 (.n 1) (.n 0) [(1,(.a (.v 0) (.n 1)),.v 1),(1,.v 1,.v 0)] rfl htlt (le_of_eq q.symm)));have Et:fM (· = d) σ2 t.2.2 t.2.1 g':=((((hEs t ht).kp ((av.refl _ _).push _)).wk hnW).kp k2).wk htne;obtain ⟨vi,hi2⟩:=S2.inst;obtain ⟨vd,hd2⟩:=S2.dict;refine cE (ρ':=lOp j e (.tup ds.d) (some (.ref kf)) (some (.str (nm b))) (some a.d) (some (.ref σ'.length)) (some (.tup (t.1.map λ(c:Nat)=>D.int c))) (some (.ref t.2.2)) p6 p7 p8) rfl ?_;refine ab (aA rfl (zr rfl (aa (d:=.ref j) rfl ⟨j,d,vi,evD i w2,vd,rfl,hi2,hd2,by kernel_rfl,?_⟩)));refine ah (ds:=[a.d,.ref t.2.2]) rfl ⟨d,vi,hi2,?_⟩;refine (HS σ2 t.2.2 t.2.1 w2 S2 Et (zN (.a (.v 0) (.v 1)) (.n 1000000) [(1,(.a (.v 1) (.n 2)),.v 2),(1,(.a (.v 3) (.v 4)),.n 1000000),(1,.v 0,(.a (.v 3) (.v 5))),(1,(.a (.v 5) (.v 2)),.v 4)] rfl (le_of_eq hX) hw1 hw2b hmul)).mono λrr σ3 h3=>?_;obtain ⟨rfl,k3,w3,hw3a,hw3b,S3⟩:=h3;have hcs:=Hd t.2.1 (hEs t ht).mem;generalize hcsd:a.den h0 h1 t.2.1=cs at hcs;obtain ⟨hclt,hclen⟩:=ba hcs;obtain ⟨vi3,hi3⟩:=S3.inst;obtain ⟨vd3,hd3⟩:=S3.dict;have hrl:(au .one cs).length=cs.length:=length_map _;refine ab (nQ rfl (bB (n8 rfl (aa (d:=.ref j) rfl ⟨j,d,vi3,evD i w3,vd3,.int w3,rfl,hi3,hd3,by kernel_rfl,?_⟩))));refine aa (d:=.int (au .one cs).length) rfl (Ok.ret (aa (d:=.ref j) rfl ⟨j,d,vi3,evD i w3,vd3,rfl,hi3,hd3,le_of_ble_eq_true rfl,?_⟩));have hput:put ("ways" : Str) (D.int ((w3:Int)+((au .one cs).length:Nat))) (evD i w3)=evD i (w3+(au .one cs).length):=by kernel_rfl
  have hput':put (("ways" : Str)) (D.int ((w3:Int)+((au .one cs).length:Nat))) (evD i w3)=evD i (w3+cs.length):=by (refine hput.symm▸?_;exact hrl.symm▸rfl)
  refine hput'.symm▸?_;have hi4:(σ3.set d (.dS (evD i (w3+cs.length)),vd3+1))[j]? = some (.inst d,vi3):=aF (λq=>hne.1 q.symm) hi3;have hd4:(σ3.set d (.dS (evD i (w3+cs.length)),vd3+1))[d]? = some (.dS (evD i (w3+cs.length)),vd3+1):=bN hd3;have k4:av (· = d) σ3 (σ3.set d (.dS (evD i (w3+cs.length)),vd3+1)):=av.setW (W:=(· = d)) (av.refl _ _) (k:=d) rfl _;have S4:=S3.kp (w':=w3+cs.length) k4 (λq=>hne.1 q) (λq=>hne.2 q) ⟨_,hd4⟩;generalize σ3.set d (.dS (evD i (w3+cs.length)),vd3+1)=σ4 at hi4 hd4 k4 S4;refine ab (fJ (gf rfl (bZ (n8 rfl (aa (d:=.ref j) rfl ⟨j,d,vi3,evD i (w3+cs.length),vd3+1,.int (w3+cs.length:Nat),rfl,hi4,hd4,by kernel_rfl,aa (d:=.int 1000000) rfl ?_⟩)))));refine Ok.bind (Ok.ret (Ok.bind (Ok.ret (Ok.ret ⟨_,rfl,?_⟩))));rw [(decide_eq_false (Int.not_lt.mpr (Int.ofNat_le.mpr (by lia:w3+cs.length<=1000000))):decide (((w3+cs.length:Nat):Int) > 1000000)=false)];refine cF (a9 ?_);refine ab (fi (bm (s:=.tup (au .one cs)) rfl ?_));have k24:av (· = d) σ2 σ4:=k3.trans k4;have hl4:σ4[σ'.length]? = some (.list (ts.map itD),v2):=k24.2 _ _ (λq=>not_succ_le_zero 0 (lin [_,_] 0 (.n 1) (.n 0) [(1,(.a (.v 0) (.n 1)),.v 1),(1,.v 1,.v 0)] rfl hdl' (le_of_eq q))) hl2;have hE4:∀ u∈ts,fM (W2 d σ'.length) σ4 u.2.2 u.2.1 (cj g' b):=λu hu=>(hE2 u hu).kp (k24.to λx h => .inl h);obtain ⟨-,Esub,le,ve,hle2,hxy,hlk⟩:=Et;have hle4:σ4[t.2.2]? = some (.dS le,ve):=k24.2 _ _ htne hle2;refine cY (src:=.tup (au .one cs)) (dec .one) (A5 j d e (.tup ds.d) kf b a.d g' σ'.length t cs ts σ4)
   (λ_ _ _ _=>trivial) cs ?_ ?_ cs [] _ _ rfl ⟨⟨p7,p8,by subst hcsd;kernel_rfl⟩,av.refl _ _,[],rfl,⟨v2,by refine (append_nil _).symm▸?_;exact hl4⟩,λu hu=>by cases hu⟩
  ·
   rintro c acc3 r3 ρ4 σ5 hs3 ⟨⟨q7,q8,rfl⟩,k5,ts3,hts3,⟨v3,hl3⟩,hE3⟩;have hc2:c < 2:=hclt c (by refine hs3▸?_;simp);have hle5:σ5[t.2.2]? = some (.dS le,ve):=k5.2 _ _ (λq=>not_succ_le_zero 0 (lin [_,_] 0 (.n 1) (.n 0) [(1,(.a (.v 0) (.n 1)),.v 1),(1,.v 1,.v 0)] rfl htlt (le_of_eq q.symm))) hle4;have hgrow:σ'.length < σ5.length:=aH hl3;refine cE (ρ':=lOp j e (.tup ds.d) (some (.ref kf)) (some (.str (nm b))) (some a.d) (some (.ref σ'.length)) (some (.tup (t.1.map λ(c:Nat)=>D.int c))) (some (.ref t.2.2)) (some (.tup (au .one cs))) (some (dec .one c)) q8) rfl ?_;refine ab (aA rfl (bM rfl rfl (aa (d:=.ref t.2.2) rfl (r8 hle5 ?_))));refine ab (uy (aI (ae (aa (d:=dec .one c) rfl (aq ⟨le_of_ble_eq_true rfl,aa (d:=.ref σ5.length) rfl (aa (d:=.str (nm b)) rfl ?_)⟩)))));refine Ok.bind (Ok.getO (ag _ _) (Ok.bind (Ok.must (by have:=hxy.len;show decide (le.length<=aQ)=true;rw [decide_eq_true_eq];exact le_trans this (by decide)) (Ok.bind (Ok.ofOpt (a:=PO.dS (put (nm b) (.tup [dec .one c]) le)) rfl (Ok.setO ?_))))));generalize hv6:ver (σ5++[(PO.dS le,0)]) σ5.length+1=v6;have k6:av NoW σ5 ((σ5++[(PO.dS le,0)]).set σ5.length (.dS (put (nm b) (.tup [dec .one c]) le),v6)):=((av.refl _ _).push _).set (le_refl _) _;have hn6:((σ5++[(PO.dS le,0)]).set σ5.length (.dS (put (nm b) (.tup [dec .one c]) le),v6))[σ5.length]? = some (.dS (put (nm b) (.tup [dec .one c]) le),v6):=bN (ag _ _);generalize (σ5++[(PO.dS le,0)]).set σ5.length (.dS (put (nm b) (.tup [dec .one c]) le),v6)=σ6 at k6 hn6;have hl6:=k6.get hl3;refine ab (im rfl (dM rfl (aa (d:=.ref σ'.length) rfl ⟨_,_,_,rfl,hl6,?_⟩)));refine aI (ae (bB (aa (d:=.tup (t.1.map λ(c:Nat)=>D.int c)) rfl (aa (d:=.tup [.int c]) rfl (iw ?_ (ae (aa (d:=.ref σ5.length) rfl (aq ⟨le_of_ble_eq_true rfl,_,_,hl6,?_,a9 ?_⟩))))))))
   ·have:=htl t ht;(refine (length_append).symm▸?_;refine (length_map _).symm▸?_);have h4:aQ=4096:=rfl;simp;exact a5 (.a (.v 0) (.n 1)) (.v 1) [(1,.v 0,.n 1999),(1,.n 4096,.v 1)] rfl this (le_of_eq h4.symm)
   ·have e1:=congrArg List.length hts;have e2:=congrArg List.length hts3;rw [length_map] at e1 e2;replace e2:=(length_map _)▸e2;have e3:=eW (b:=b) Hd (acc.map d8) (λp hp=>by
     obtain ⟨t',ht',rfl⟩:=mem_map.mp hp;exact (hEs t' (hsplit▸(List.mem_append_left _ ht'))).mem)
    have e4:=congrArg List.length hs3;(replace e4:=(length_append)▸e4;replace e4:=(length_cons)▸e4);replace e3:=(length_map _)▸e3;(refine (length_map _).symm▸?_;refine (length_append).symm▸?_);have h4:aQ=4096:=rfl;exact lin [_,_,_,_,_,_,_,_,_] 1 (.a (.v 0) (.v 1)) (.v 2) [(2,.v 3,.n 1024),(2,(.a (.v 4) (.n 1)),.v 3),(1,.v 5,.n 2),(1,.v 0,.v 6),(1,.v 1,.v 7),(1,(.a (.v 7) (.a (.v 8) (.n 1))),.v 5),(1,.v 6,(.m 2 (.v 4))),(1,.n 4096,.v 2)] rfl hlen hacc hclen (le_of_eq e1) (le_of_eq e2) (le_of_eq e4) e3 (le_of_eq h4.symm)
   ·have hnew:fM (W2 d σ'.length) σ6 σ5.length (t.2.1.set b [c]) (cj g' b):=by
     refine ⟨λq=>q.elim (λq=>not_succ_le_zero 0 (lin [_,_,_] 0 (.n 1) (.n 0) [(1,(.a (.v 0) (.n 1)),.v 1),(1,(.a (.v 1) (.n 1)),.v 2),(1,.v 2,.v 0)] rfl hdl' hgrow (le_of_eq q))) (λq=>not_succ_le_zero 0 (lin [_,_] 0 (.n 1) (.n 0) [(1,(.a (.v 0) (.n 1)),.v 1),(1,.v 1,.v 0)] rfl hgrow (le_of_eq q))),λq=>?_,_,_,hn6,hxy.put _ _,λq hq=>?_⟩
     ·unfold En.set;split
      ·exact gp hc2
      ·exact Esub q
     ·refine (fQ _ _ _ _).symm▸?_;unfold En.set;by_cases hqb:q=b
      ·subst hqb;rw [if_pos rfl,if_pos rfl];rfl
      ·(refine (if_neg (λh=>hqb (lr.mp h))).symm▸?_;refine (if_neg hqb).symm▸?_);refine hlk q ?_;replace hq:=(or_eq_true _ _)▸hq;exact hq.elim id (λh=>absurd (beq_iff_eq.mp h) hqb)
    have k7:av (· = σ'.length) σ6 (σ6.set σ'.length (.list ((ts++ts3).map itD++[.tup [.tup (t.1.map (λ(c:Nat)=>D.int c)++[.int c]),.ref σ5.length]]),v3+1)):=av.setW (W:=(· = σ'.length)) (av.refl _ _) (k:=σ'.length) rfl _;refine ⟨⟨_,_,rfl⟩,(k5.trans k6.weak).trans k7,ts3++[(t.1++[c],t.2.1.set b [c],σ5.length)],?_,⟨v3+1,?_⟩,λu hu=>?_⟩
    ·(refine (map_append).symm▸?_;refine (map_append).symm▸?_;exact hts3.symm▸rfl)
    ·(refine (bN hl6).symm▸?_;refine (append_assoc _ _ _)▸?_;refine (map_append (l₁:=ts++ts3)).symm▸?_);have:[(t.1++[c],t.2.1.set b [c],σ5.length)].map itD=[D.tup [.tup (t.1.map (λ(c:Nat)=>D.int c)++[.int c]),.ref σ5.length]]:=by
      refine (?_:[itD (t.1++[c],t.2.1.set b [c],σ5.length)]=_);unfold itD;exact map_append▸rfl
     exact this.symm▸rfl
    ·have k67:av (W2 d σ'.length) σ6 _:=k7.to λx h => .inr h;rcases mem_append.mp hu with hu | hu
     ·exact ((hE3 u hu).kp k6.weak).kp k67
     ·rw [mem_singleton] at hu;subst hu;exact hnew.kp k67
  ·
   rintro ρ4 σ5 ⟨⟨q7,q8,rfl⟩,k5,ts3,hts3,⟨v3,hl3⟩,hE3⟩;refine a9 ⟨⟨_,_,_,_,_,rfl⟩,(k2.trans (k24.to λx h => .inl h)).trans (k5.to λx h => .inr h),⟨w3+cs.length,fW (.v 0) (.a (.v 1) (.v 2)) [(1,.v 0,.v 3),(1,.v 3,.v 1)] rfl hw2a hw3a,?_,S4.kp k5 (λq=>not_succ_le_zero 0 (lin [_,_] 0 (.n 1) (.n 0) [(1,(.a (.v 0) (.n 1)),.v 1),(1,.v 1,.v 0)] rfl hjl (le_of_eq q.symm))) (λq=>not_succ_le_zero 0 (lin [_,_] 0 (.n 1) (.n 0) [(1,(.a (.v 0) (.n 1)),.v 1),(1,.v 1,.v 0)] rfl hil (le_of_eq q.symm))) ⟨_,k5.2 _ _ (λq=>not_succ_le_zero 0 (lin [_,_] 0 (.n 1) (.n 0) [(1,(.a (.v 0) (.n 1)),.v 1),(1,.v 1,.v 0)] rfl hdl' (le_of_eq q.symm))) hd4⟩⟩,ts++ts3,?_,⟨v3,hl3⟩,λu hu=>?_⟩
   ·(refine (length_append).symm▸?_;refine (length_cons).symm▸?_;refine (length_nil).symm▸?_;refine (zero_add _).symm▸?_;refine (succ_mul _ _).symm▸?_);exact Be (.a (.v 0) (.v 1)) (.a (.v 2) (.a (.v 3) (.v 4))) [(1,(.a (.v 5) (.n 2)),.v 4),(1,.v 6,(.a (.v 2) (.v 3))),(1,.v 0,(.a (.v 6) (.v 5))),(1,.v 1,.n 2)] rfl (le_of_eq hX) hw2b hw3b hclen
   ·(refine (map_append).symm▸?_;refine hts.symm▸?_;refine hts3.symm▸?_;refine (map_append).symm▸?_;refine (List.flatMap_append).symm▸?_);congr 1;refine (?_:_=(dg h0 h1 b a (d8 t))++[]);refine (append_nil _).symm▸?_;exact hcsd.symm▸rfl
   ·rcases mem_append.mp hu with hu | hu
    ·exact (hE4 u hu).kp (k5.to λx h => .inr h)
    ·exact hE3 u hu
 ·
  rintro ρ2 σ2 ⟨⟨p4,p5,p6,p7,p8,rfl⟩,k2,⟨w2,hw2a,hw2b,S2⟩,ts,hts,⟨v2,hl2⟩,hE2⟩;refine ab (aA (by kernel_rfl) (aa (d:=.ref σ'.length) rfl (a9 ⟨ts,w2,hts,?_,⟨σ'.length,v2,some (.str (nm b)),some a.d,some (.ref σ'.length),p4,p5,p6,p7,p8,by kernel_rfl,hl2,by exact ne_of_gt (a5 (.a (.v 0) (.n 1)) (.v 1) [(1,(.a (.v 0) (.n 1)),.v 1)] rfl hdl')⟩,k0.trans k2.un,S2,aZ (.v 0) (.v 1) [(1,.v 0,.v 2),(1,.v 2,.v 1)] rfl hww hw2a,λu hu=>(hE2 u hu).wk λq=>(hE2 u hu).1 (.inl q)⟩)));exact hw2b
section
variable {j d i:Nat}{h0 h1:List Nat}{n:Nat}{g:Bool->Bool}
theorem EvK.trans {w c1 c2 w1:Nat}{σ σ1 σ2:Sto}(k1:av (· = d) σ σ1)(a:w<=w1)(b:w1<=w+c1)(x:EvK j d i h0 h1 w1 c2 σ1 σ2):EvK j d i h0 h1 w (c1+c2) σ σ2:=by
 obtain ⟨k,w2,e1,e2,S⟩:=x;exact ⟨k1.trans k,w2,aZ (.v 0) (.v 1) [(1,.v 0,.v 2),(1,.v 2,.v 1)] rfl a e1,sX (.v 0) (.a (.v 1) (.a (.v 2) (.v 3))) [(1,.v 4,(.a (.v 1) (.v 2))),(1,.v 0,(.a (.v 4) (.v 3)))] rfl b e2,S⟩
theorem EvK.grow {w c:Nat}{σ σ1 σ2:Sto}(x:EvK j d i h0 h1 w c σ σ1)(k:av NoW σ1 σ2):EvK j d i h0 h1 w c σ σ2:=by
 obtain ⟨k1,w2,e1,e2,S⟩:=x;exact ⟨k1.trans k.weak,w2,e1,e2,S.kp k (λq=>q) (λq=>q) (S.dict.imp λv q=>k.get q)⟩
theorem EvK.le {w c c':Nat}{σ σ1:Sto}(x:EvK j d i h0 h1 w c σ σ1)(h:c<=c'):EvK j d i h0 h1 w c' σ σ1:=by
 obtain ⟨k1,w2,e1,e2,S⟩:=x;exact ⟨k1,w2,e1,fW (.v 0) (.a (.v 1) (.v 2)) [(1,.v 3,.v 2),(1,.v 0,(.a (.v 1) (.v 3)))] rfl h e2,S⟩
theorem EvK.nil {w:Nat}{σ:Sto}(S:lw σ j d i h0 h1 w):EvK j d i h0 h1 w 0 σ σ:=⟨av.refl _ _,w,le_refl _,le_refl _,S⟩
theorem aS {cf:Str->List D->PM D}{t:Nat}{sc:B0}{ρ:Loc}{σ:Sto}{P:D->Sto->Prop}{o:Expr}{name:Str}{ap p:Pos}{args:List Expr}{w:Nat}(S:lw σ j d i h0 h1 w)(hm:c8 o ap p args.length=true)(ho:ak cf t sc ρ o=pure (.ref j))(hn:∀ i w,((evD i w).lookup name).isNone=true)
  (h:Ok (bE (ak cf t sc ρ) args) σ λds σ2=>(∃ w',lw σ2 j d i h0 h1 w')/\Ok (cf (("Evaluator." : Str)++name) (.ref j::ds)) σ2 P):Ok (ak cf (t+1) sc ρ (.Call (.Attribute o name ap) args [] p)) σ P:=by
 obtain ⟨vi,hi⟩:=S.inst;obtain ⟨vd,hd⟩:=S.dict;refine zr hm (aa ho ⟨j,d,vi,evD i w,vd,rfl,hi,hd,hn _ _,h.mono λds σ2 h2=>?_⟩);obtain ⟨⟨w',S2⟩,h2⟩:=h2;obtain ⟨v2,q⟩:=S2.inst;exact ⟨d,v2,q,h2⟩
theorem bg {σ:Sto}{e:Nat}{l:List (Str×D)}{v:Nat}{x:Str}{r:D}{P:D->Sto->Prop}(h:σ[e]? = some (.dS l,v))(hl:l.lookup x=some r)(hp:P r σ):Ok (l8 (.ref e) (.str x)) σ P:=by
 exact Ok.bind (Ok.getO h (Ok.ofOpt hl hp))
theorem az {σ:Sto}{e:Nat}{l:List D}{v k:Nat}{r:D}{P:D->Sto->Prop}(h:σ[e]? = some (.list l,v))(hl:l[k]? = some r)(hp:P r σ):Ok (l8 (.ref e) (.int k)) σ P:=by
 refine Ok.bind (Ok.getO h (Ok.bind (Ok.must (rfl) (Ok.ofOpt ?_ hp))));refine (Int.toNat_natCast _).symm▸?_;exact hl
noncomputable def vZ (j:Nat)(x:D)(e:Nat)(o:Option D):Loc:=[("self",some (.ref j)),("expr",some x),("env",some (.ref e)),("op",o)]
theorem wY (b:Bool)(hg:g b=true):SP j d i h0 h1 (n+1) (.var b) .set g:=λσ e E w S hE hw=>by
 obtain ⟨_,_,l,v,he,_,hl⟩:=id hE;refine ao rfl cq (ax (ρ:=vZ j (N.var b).d e none) rfl ?_);refine bi "op" (.str "var") 1 (by kernel_rfl) (ab (aB ?_));exact bz rfl (aa (d:=.ref e) rfl (aa (d:=.str (nm b)) rfl (bg he (hl b hg) ⟨rfl,EvK.nil S⟩)))
theorem rP (r:Bool):SP j d i h0 h1 (n+1) (.rel r) (if r then .pair else .set) g:=λσ e E w S hE hw=>by
 refine ao rfl cq (ax (ρ:=vZ j (N.rel r).d e none) rfl ?_);refine ab (aA rfl (aa (d:=.str "rel") rfl ?_));refine ab (fJ (aU (b:=true) (by kernel_rfl) (bv (ab (aB ?_)))));obtain ⟨vi,hi⟩:=S.inst;obtain ⟨vd,hd⟩:=S.dict;obtain ⟨vl,hl⟩:=S.list;refine bz rfl (n8 rfl (aa (d:=.ref j) rfl ⟨j,d,vi,evD i w,vd,.ref i,rfl,hi,hd,by kernel_rfl,?_⟩));induction r using Bool.casesOn with
 | false=>exact aa (d:=.int (0:Nat)) rfl (az hl (r:=.tup (au .one h0)) rfl ⟨rfl,EvK.nil S⟩)
 | true=>exact aa (d:=.int (1:Nat)) rfl (az hl (r:=.tup (au .two h1)) rfl ⟨rfl,EvK.nil S⟩)
theorem s7:SP j d i h0 h1 (n+1) .none .set g:=λσ e E w S hE hw=>by
 refine ao rfl cq (ax (ρ:=vZ j N.none.d e none) rfl ?_);refine bi "op" (.str "none") 3 (by kernel_rfl) (ab (aB ?_));exact aa (d:=.tup []) rfl ⟨rfl,EvK.nil S⟩
noncomputable def Av (j:Nat)(o:Str)(s:D):Loc:=[("self",some (.ref j)),("op",some (.str o)),("s",some s)]
noncomputable def vT (o:U1)(p:List Nat):List Nat:=match o with
 | .closure=>cL p
 | .star=>tU p
 | _=>sS p
noncomputable def eu:U1->Bool
 | .closure | .star | .turn=>true
 | _=>false
theorem rY {o:U1}(ho:eu o=true){p:List Nat}(hp:p∈aK 4){σ:Sto}{w:Nat}(S:lw σ j d i h0 h1 w):Ok (aL (n+1+1+1+1+1) "Evaluator.of_one" [.ref j,.str o.s,.tup (au .two p)]) σ (cM .two (vT o p) σ):=by
 refine ao rfl mM (ax (ρ:=Av j o.s (.tup (au .two p))) rfl ?_);have hq:=ba hp;have p1:=hq.1;have p2:=hq.2;induction o using U1.casesOn with
 | turn =>
  refine ab (fJ (aU (b:=true) (by kernel_rfl) (bv (ab (aB ?_)))));exact am rfl (by kernel_rfl) (ah (ds:=[.tup (au .two p)]) rfl (sw p1 (le_trans p2 (by decide)) (n+1+1) σ))
 | closure =>
  refine m8 (m:=aE (aL (n+1+1+1+1)) 63 (aO 20).scope (Av j "closure" (.tup (au .two p))) ((aO 20).body.drop 1)) (by kernel_rfl) ?_;refine ab (aB (bu (aU (b:=true) (by kernel_rfl) (cC ?_))));exact am rfl (by kernel_rfl) (ah (ds:=[.tup (au .two p)]) rfl (i6 hp (n+1) σ))
 | star =>
  refine m8 (m:=aE (aL (n+1+1+1+1)) 63 (aO 20).scope (Av j "star" (.tup (au .two p))) ((aO 20).body.drop 1)) (by kernel_rfl) ?_;refine ab (aB (bu (aU (b:=false) (by kernel_rfl) (cv ?_))));obtain ⟨vi,hi⟩:=S.inst;obtain ⟨vd,hd⟩:=S.dict;refine am rfl (by kernel_rfl) (ae (aa (d:=.tup (au .two p)) rfl (ae (n8 rfl (aa (d:=.ref j) rfl ⟨j,d,vi,evD i w,vd,.int 2,rfl,hi,hd,by kernel_rfl,aq ?_⟩)))));exact ww hp n σ
 | some=>cases ho
 | no=>cases ho
 | one=>cases ho
 | lone=>cases ho
theorem yF {o:U1}(ho:eu o=true){a:N}(H:SP j d i h0 h1 (n+1+1+1+1+1) a .pair g)(hd:∀ E:En,(∀ b,E b∈aK 2)->a.den h0 h1 E∈aK 4):SP j d i h0 h1 (n+1+1+1+1+1+1) (.un o a) .pair g:=λσ e E w S hE hw=>by
 have hden:(N.un o a).den h0 h1 E=vT o (a.den h0 h1 E):=by induction o using U1.casesOn <;> first | rfl | cases ho
 refine hden.symm▸?_;refine ao rfl cq (ax (ρ:=vZ j (N.un o a).d e none) rfl ?_);refine bi "op" (.str o.s) 8 (by induction o using U1.casesOn <;> first | (cases ho;done) | kernel_rfl) (ab (aB ?_));refine aS S rfl rfl (λ_ _=>by kernel_rfl) (ae (aa (d:=.str o.s) rfl (ae ?_)));refine aS S rfl rfl (λ_ _=>by kernel_rfl) (ah (ds:=[a.d,.ref e]) rfl ⟨⟨w,S⟩,?_⟩);refine (H σ e E w S hE hw).mono λr σ1 h1=>aq ?_;obtain ⟨rfl,k1,w1,e1,e2,S1⟩:=h1;refine ⟨⟨w1,S1⟩,(rY ho (hd E hE.mem) S1).mono λr σ2 h2=>?_⟩;obtain ⟨rfl,k2⟩:=h2;exact ⟨rfl,EvK.grow ⟨k1,w1,e1,e2,S1⟩ k2⟩
end
theorem ki {α:Type}{src:Src}{body:D->PM (List D)}(f:α->D)(g:α->List D)(I:List α->Sto->Prop)(hs:∀ acc σ,I acc σ->src.Fix σ)(w:List α)
  (step:∀ x acc r σ,acc++x::r=w->I acc σ->Ok (body (f x)) σ λa σ'=>a=g x/\I (acc++[x]) σ') :
  ∀ (l acc:List α) (σ:Sto),acc++l=w->I acc σ->Ok (bJ src body (l.map f)) σ λr σ'=>r=l.flatMap g/\I w σ':=λl=>by
 induction l using List.rec with
 | nil =>
  rintro acc σ hw h0;exact cg ⟨rfl,by rw [append_nil] at hw;exact hw▸h0⟩
 | cons x r ih =>
  rintro acc σ hw h0;exact aW (hs _ _ h0) ((step x acc r σ hw h0).mono λa σ1 h1=>(ih (acc++[x]) σ1 (by rw [append_assoc];exact hw) h1.2).mono λb σ2 h2=>⟨by rw [h1.1,h2.1,List.flatMap_cons],h2.2⟩)
section
variable {j d i:Nat}{h0 h1:List Nat}{n:Nat}{g:Bool->Bool}
noncomputable def Bf (j:Nat)(o:Str)(s t:D):Loc:=[("self",some (.ref j)),("op",some (.str o)),("s",some s),("t",some t)]
theorem mn {s t:List Nat}(hs:s∈aK 2)(ht:t∈aK 4)(σ:Sto):Ok (aL (n+1+1+1) "Evaluator.of_two" [.ref j,.str "join",.tup (au .one s),.tup (au .two t)]) σ (cM .one (sf s t) σ):=by
 obtain ⟨s1,s2⟩:=ba hs;obtain ⟨t1,t2⟩:=ba ht;refine ao rfl gQ (ax (ρ:=Bf j "join" (.tup (au .one s)) (.tup (au .two t))) rfl ?_);refine fR 3 (by kernel_rfl) (ab (aB ?_));exact am rfl (by kernel_rfl) (ah (ds:=[.tup (au .one s),.tup (au .two t)]) rfl (p9 (u:=.one) rfl s1 t1 (bh (.v 0) (.n 60) [(1,.v 0,.n 2)] rfl s2) (bh (.v 0) (.n 60) [(1,.v 0,.n 4)] rfl t2) n σ))
theorem lQ {s t:List Nat}(hs:s∈aK 2)(ht:t∈aK 2)(σ:Sto):Ok (aL (n+1+1+1) "Evaluator.of_two" [.ref j,.str "product",.tup (au .one s),.tup (au .one t)]) σ (cM .two (f8 s t) σ):=by
 obtain ⟨s1,s2⟩:=ba hs;obtain ⟨t1,t2⟩:=ba ht;refine ao rfl gQ (ax (ρ:=Bf j "product" (.tup (au .one s)) (.tup (au .one t))) rfl ?_);refine fR 4 (by kernel_rfl) (ab (aB ?_));exact am rfl (by kernel_rfl) (ah (ds:=[.tup (au .one s),.tup (au .one t)]) rfl (oM t1 (by exact bh (.v 0) (.n 60) [(1,.v 0,.n 2)] rfl s2) (by exact bh (.v 0) (.n 60) [(1,.v 0,.n 2)] rfl t2) (n+1) σ))
theorem uB {a b:N}(H:SP j d i h0 h1 (n+1+1+1) a .set g)(H2:SP j d i h0 h1 (n+1+1+1) b .pair g)(hd:∀ E:En,(∀ b,E b∈aK 2)->a.den h0 h1 E∈aK 2)(hd2:∀ E:En,(∀ b,E b∈aK 2)->b.den h0 h1 E∈aK 4):SP j d i h0 h1 (n+1+1+1+1) (.bin .join a b) .set g:=λσ e E w S hE hw=>by
 have hw':w+(a.cost 0+b.cost 0)<=1000000:=hw;refine ao rfl cq (ax (ρ:=vZ j (N.bin .join a b).d e none) rfl ?_);refine b6 "op" (.str "join") 9 (by kernel_rfl) ?_;refine ab (aB ?_);refine aS S rfl rfl (λ_ _=>by kernel_rfl) (ae (aa (d:=.str "join") rfl (ae ?_)));refine aS S rfl rfl (λ_ _=>by kernel_rfl) (ah (ds:=[a.d,.ref e]) rfl ⟨⟨w,S⟩,?_⟩);refine (H σ e E w S hE (aZ (.a (.v 0) (.v 1)) (.n 1000000) [(1,(.a (.v 0) (.a (.v 1) (.v 2))),.n 1000000)] rfl hw')).mono λr σ1 g1=>ae ?_;obtain ⟨rfl,k1,w1,e1,e2,S1⟩:=g1;have hE1:=hE.kp k1;refine aS S1 rfl rfl (λ_ _=>by kernel_rfl) (ah (ds:=[b.d,.ref e]) rfl ⟨⟨w1,S1⟩,?_⟩);refine (H2 σ1 e E w1 S1 hE1 (fW (.a (.v 0) (.v 1)) (.n 1000000) [(1,(.a (.v 2) (.a (.v 3) (.v 1))),.n 1000000),(1,.v 0,(.a (.v 2) (.v 3)))] rfl hw' e2)).mono λr σ2 g2=>aq ?_;obtain ⟨rfl,g2⟩:=g2;obtain ⟨k2,w2,e3,e4,S2⟩:=id g2;refine ⟨⟨w2,S2⟩,(mn (hd E hE.mem) (hd2 E hE.mem) σ2).mono λr σ3 g3=>?_⟩;obtain ⟨rfl,k3⟩:=g3;exact ⟨rfl,(EvK.trans k1 e1 e2 g2).grow k3⟩
theorem sN {a b:N}(H:SP j d i h0 h1 (n+1+1+1) a .set g)(H2:SP j d i h0 h1 (n+1+1+1) b .set g)(hd:∀ E:En,(∀ b,E b∈aK 2)->a.den h0 h1 E∈aK 2)(hd2:∀ E:En,(∀ b,E b∈aK 2)->b.den h0 h1 E∈aK 2):SP j d i h0 h1 (n+1+1+1+1) (.bin .product a b) .pair g:=λσ e E w S hE hw=>by
 have hw':w+(a.cost 0+b.cost 0)<=1000000:=hw;refine ao rfl cq (ax (ρ:=vZ j (N.bin .product a b).d e none) rfl ?_);refine b6 "op" (.str "product") 9 (by kernel_rfl) ?_;refine ab (aB ?_);refine aS S rfl rfl (λ_ _=>by kernel_rfl) (ae (aa (d:=.str "product") rfl (ae ?_)));refine aS S rfl rfl (λ_ _=>by kernel_rfl) (ah (ds:=[a.d,.ref e]) rfl ⟨⟨w,S⟩,?_⟩);refine (H σ e E w S hE (by exact aZ (.a (.v 0) (.v 1)) (.n 1000000) [(1,(.a (.v 0) (.a (.v 1) (.v 2))),.n 1000000)] rfl hw')).mono λr σ1 g1=>ae ?_;obtain ⟨rfl,k1,w1,e1,e2,S1⟩:=g1;have hE1:=hE.kp k1;refine aS S1 rfl rfl (λ_ _=>by kernel_rfl) (ah (ds:=[b.d,.ref e]) rfl ⟨⟨w1,S1⟩,?_⟩);refine (H2 σ1 e E w1 S1 hE1 (by exact fW (.a (.v 0) (.v 1)) (.n 1000000) [(1,(.a (.v 2) (.a (.v 3) (.v 1))),.n 1000000),(1,.v 0,(.a (.v 2) (.v 3)))] rfl hw' e2)).mono λr σ2 g2=>aq ?_;obtain ⟨rfl,g2⟩:=g2;obtain ⟨k2,w2,e3,e4,S2⟩:=id g2;refine ⟨⟨w2,S2⟩,(lQ (hd E hE.mem) (hd2 E hE.mem) σ2).mono λr σ3 g3=>?_⟩;obtain ⟨rfl,k3⟩:=g3;exact ⟨rfl,(EvK.trans k1 e1 e2 g2).grow k3⟩
noncomputable def xZ (j:Nat)(x:D)(e:Nat)(o1 o2 o3 o4:Option D):Loc:=[("self",some (.ref j)),("f",some x),("env",some (.ref e)),("op",o1),("found",o2),("s",o3),("t",o4)]
noncomputable def A0 (j:Nat)(o:Str)(m:D):Loc:=[("self",some (.ref j)),("op",some (.str o)),("many",some m)]
noncomputable def dL:U1->Bool
 | .some | .no | .one | .lone=>true
 | _=>false
theorem wc {o:U1}(ho:dL o=true)(m:Nat)(σ:Sto):Ok (aL (n+1) "Evaluator.has_many" [.ref j,.str o.s,.int m]) σ λr σ'=>r = .bool (oL o m)/\σ'=σ:=by
 refine ao rfl jA (ax (ρ:=A0 j o.s (.int m)) rfl ?_);have hz:(((m:Int)==0)=(m==0))/\(((m:Int)==1)=(m==1)):=by
  constructor <;> (rw [Bool.eq_iff_iff,beq_iff_eq,beq_iff_eq];exact Int.ofNat_inj (n:=_))
 induction o using U1.casesOn with
 | some =>
  refine ab (fJ (aU (b:=true) (by kernel_rfl) (bv (ab (aB (aa (d:=.bool (decide ((m:Int) > 0))) rfl ⟨?_,rfl⟩))))));congr 1;exact decide_eq_decide.mpr (Int.ofNat_lt (n:=0))
 | no =>
  refine bK 1 (by kernel_rfl) ?_;refine ab (fJ (aU (b:=true) (by kernel_rfl) (bv (ab (aB (aa (d:=.bool ((m:Int)==0)) rfl ⟨?_,rfl⟩))))));exact (hz.1).symm▸rfl
 | one =>
  refine bK 1 (by kernel_rfl) ?_;refine bK 1 (by kernel_rfl) ?_;refine ab (aB (aa (d:=.bool ((m:Int)==1)) (by kernel_rfl) ⟨?_,rfl⟩));exact (hz.2).symm▸rfl
 | lone =>
  refine bK 1 (by kernel_rfl) ?_;refine bK 1 (by kernel_rfl) ?_;refine ab (aB (aa (d:=.bool (decide ((m:Int) < 2))) (by kernel_rfl) ⟨?_,rfl⟩));congr 1;exact decide_eq_decide.mpr (Int.ofNat_lt (m:=2))
 | closure=>cases ho
 | star=>cases ho
 | turn=>cases ho
theorem ze {o:U1}(ho:dL o=true){a:N}(H:SP j d i h0 h1 (n+1) a .set g):TP j d i h0 h1 (n+1+1) (.un o a) g:=λσ e E w S hE hw=>by
 refine ao rfl cI (ax (ρ:=xZ j (N.un o a).d e none none none none) rfl ?_);refine b6 "op" (.str o.s) 9 (by induction o using U1.casesOn <;> first | (subst ho;done) | kernel_rfl) ?_;refine ab (aB ?_);refine aS S rfl rfl (λ_ _=>by kernel_rfl) (ae (aa (d:=.str o.s) rfl (ae (bM rfl rfl ?_))));refine aS S rfl rfl (λ_ _=>by kernel_rfl) (ah (ds:=[a.d,.ref e]) rfl ⟨⟨w,S⟩,?_⟩);refine (H σ e E w S hE hw).mono λr σ1 g1=>?_;obtain ⟨rfl,g1⟩:=g1;obtain ⟨k1,w1,e1,e2,S1⟩:=id g1;have hlen:b9 "len" (.tup (au (Ty.un .set) (a.den h0 h1 E)))=pure (.int (au (Ty.un .set) (a.den h0 h1 E)).length):=by kernel_rfl
 refine (?_:Ok _ _ _);refine hlen.symm▸?_;refine Ok.ret (aq ⟨⟨w1,S1⟩,?_⟩);refine (length_map _).symm▸?_;refine (wc ho _ σ1).mono λr σ2 g2=>?_;obtain ⟨rfl,rfl⟩:=g2;exact ⟨rfl,g1⟩
theorem yd {a b:N}(H:SP j d i h0 h1 (n+1+1) a .set g)(H2:SP j d i h0 h1 (n+1+1) b .set g)(hd:∀ E:En,(∀ b,E b∈aK 2)->a.den h0 h1 E∈aK 2)(hd2:∀ E:En,(∀ b,E b∈aK 2)->b.den h0 h1 E∈aK 2):TP j d i h0 h1 (n+1+1+1) (.bin .isin a b) g:=λσ e E w S hE hw=>by
 have hw':w+(a.cost 0+b.cost 0)<=1000000:=hw;refine ao rfl cI (ax (ρ:=xZ j (N.bin .isin a b).d e none none none none) rfl ?_);refine bi "op" (.str "in") 8 (by kernel_rfl) ?_;refine ab (kR rfl rfl rfl (aI (ae ?_)));refine aS S rfl rfl (λ_ _=>by kernel_rfl) (ah (ds:=[a.d,.ref e]) rfl ⟨⟨w,S⟩,?_⟩);refine (H σ e E w S hE (by lia)).mono λr σ1 g1=>ae ?_;obtain ⟨rfl,k1,w1,e1,e2,S1⟩:=g1;refine aS S1 rfl rfl (λ_ _=>by kernel_rfl) (ah (ds:=[b.d,.ref e]) rfl ⟨⟨w1,S1⟩,?_⟩);refine (H2 σ1 e E w1 S1 (hE.kp k1) (by lia)).mono λr σ2 g2=>aq ⟨le_of_ble_eq_true rfl,_,_,rfl,?_⟩;obtain ⟨rfl,g2⟩:=g2;obtain ⟨s1,s2⟩:=ba (hd E hE.mem);obtain ⟨t1,t2⟩:=ba (hd2 E hE.mem);refine ab (aB (bu (aU (b:=true) (by kernel_rfl) (cC ?_))));refine am rfl (by kernel_rfl) (ah (ds:=[.tup (au .one (a.den h0 h1 E)),.tup (au .one (b.den h0 h1 E))]) rfl ?_);refine (ln (u:=.one) rfl t1 (le_trans s2 (by decide)) (le_trans t2 (by decide)) n σ2).mono λr σ3 g3=>?_;obtain ⟨rfl,k3⟩:=g3;exact ⟨rfl,(EvK.trans k1 e1 e2 g2).grow k3⟩
theorem lX {a b:N}(H:TP j d i h0 h1 n a g)(H2:TP j d i h0 h1 n b g):TP j d i h0 h1 (n+1) (.bin .implies a b) g:=λσ e E w S hE hw=>by
 have hw':w+(a.cost 0+b.cost 0)<=1000000:=hw;refine ao rfl cI (ax (ρ:=xZ j (N.bin .implies a b).d e none none none none) rfl ?_);refine bi "op" (.str "implies") 4 (by kernel_rfl) (ab (aB (nr (Bk (yl ?_)))));refine aS S rfl rfl (λ_ _=>by kernel_rfl) (ah (ds:=[a.d,.ref e]) rfl ⟨⟨w,S⟩,?_⟩);refine (H σ e E w S hE (by lia)).mono λr σ1 g1=>?_;obtain ⟨rfl,g1⟩:=g1;obtain ⟨k1,w1,e1,e2,S1⟩:=id g1;have ht:(N.bin .implies a b).tru h0 h1 E=(!a.tru h0 h1 E || b.tru h0 h1 E):=rfl;refine ⟨_,rfl,_,rfl,λhb=>?_,λhb=>?_⟩
 ·exact ⟨by (refine ht.symm▸?_;exact hb.symm▸rfl),g1.le (le_add_right _ _)⟩
 ·refine zu ?_;refine aS S1 rfl rfl (λ_ _=>by kernel_rfl) (ah (ds:=[b.d,.ref e]) rfl ⟨⟨w1,S1⟩,?_⟩);refine (H2 σ1 e E w1 S1 (hE.kp k1) (by lia)).mono λr σ2 g2=>?_;obtain ⟨rfl,g2⟩:=g2;exact ⟨by (refine ht.symm▸?_;exact hb.symm▸rfl),EvK.trans k1 e1 e2 g2⟩
theorem vS {a b:N}(H:TP j d i h0 h1 n a g)(H2:TP j d i h0 h1 n b g):TP j d i h0 h1 (n+1) (.bin .iff a b) g:=λσ e E w S hE hw=>by
 have hw':w+(a.cost 0+b.cost 0)<=1000000:=hw;refine ao rfl cI (ax (ρ:=xZ j (N.bin .iff a b).d e none none none none) rfl ?_);refine bi "op" (.str "iff") 5 (by kernel_rfl) (ab (aB (bZ ?_)));refine aS S rfl rfl (λ_ _=>by kernel_rfl) (ah (ds:=[a.d,.ref e]) rfl ⟨⟨w,S⟩,?_⟩);refine (H σ e E w S hE (by lia)).mono λr σ1 g1=>?_;obtain ⟨rfl,k1,w1,e1,e2,S1⟩:=g1;refine aS S1 rfl rfl (λ_ _=>by kernel_rfl) (ah (ds:=[b.d,.ref e]) rfl ⟨⟨w1,S1⟩,?_⟩);refine (H2 σ1 e E w1 S1 (hE.kp k1) (by lia)).mono λr σ2 g2=>?_;obtain ⟨rfl,g2⟩:=g2;have hc:pK .Eq (.bool (a.tru h0 h1 E)) (.bool (b.tru h0 h1 E))=pure (.bool (a.tru h0 h1 E==b.tru h0 h1 E)):=by kernel_rfl
 rw [hc];exact Ok.ret ⟨rfl,EvK.trans k1 e1 e2 g2⟩
theorem yy {a b:N}(H:TP j d i h0 h1 n a g)(H2:TP j d i h0 h1 n b g):TP j d i h0 h1 (n+1) (.or a b) g:=λσ e E w S hE hw=>by
 have hw':w+(a.cost 0+b.cost 0)<=1000000:=hw;refine ao rfl cI (ax (ρ:=xZ j (N.or a b).d e none none none none) rfl ?_);refine bi "op" (.str "or") 3 (by kernel_rfl) (ab (aB (bM rfl rfl (aX rfl (bm (s:=.tup [a.d,b.d]) rfl ?_)))));refine aW trivial (aY rfl ?_);refine aS S (by kernel_rfl) rfl (λ_ _=>by kernel_rfl) (ah (ds:=[a.d,.ref e]) rfl ⟨⟨w,S⟩,?_⟩);refine (H σ e E w S hE (by lia)).mono λr σ1 g1=>aW trivial (aY rfl ?_);obtain ⟨rfl,k1,w1,e1,e2,S1⟩:=g1;refine aS S1 (by kernel_rfl) rfl (λ_ _=>by kernel_rfl) (ah (ds:=[b.d,.ref e]) rfl ⟨⟨w1,S1⟩,?_⟩);refine (H2 σ1 e E w1 S1 (hE.kp k1) (by lia)).mono λr σ2 g2=>cg ⟨trivial,le_of_ble_eq_true rfl,?_⟩;obtain ⟨rfl,g2⟩:=g2;have hc:b9 "any" (.ref σ2.length)=(do pure (.bool ((<- ofOpt (dj (<- listAt σ2.length))).any λb=>b))):=by kernel_rfl
 refine (?_:Ok _ _ _);refine hc.symm▸?_;refine Ok.bind (Ok.listAt (ag _ _) (Ok.bind (Ok.ofOpt (a:=[a.tru h0 h1 E,b.tru h0 h1 E]) rfl (Ok.ret ⟨?_,(EvK.trans k1 e1 e2 g2).grow ((av.refl _ _).push _)⟩))));refine (?_:D.bool (a.tru h0 h1 E || (b.tru h0 h1 E || false))=_);exact (Bool.or_false _).symm▸rfl
end
theorem lm {cs:List Nat}(h:∀ c∈cs,c < 2):filt cs∈aK 2:=by
 have e:∀ b0 b1:Bool,(if b0 then [0] else [])++(if b1 then [1] else [])∈aK 2:=by decide +kernel
 have h2:cs.contains 2=false:=by
  cases q:cs.contains 2 with
  | false=>rfl
  | true=>exact absurd (h 2 (List.contains_iff_mem.mp q)) (by decide)
 have h3:cs.contains 3=false:=by
  cases q:cs.contains 3 with
  | false=>rfl
  | true=>exact absurd (h 3 (List.contains_iff_mem.mp q)) (by decide)
 have hf:filt cs=(if cs.contains 0 then [0] else [])++(if cs.contains 1 then [1] else []):=by
  refine (?_:[0,1,2,3].filter (λn=>cs.contains n)=_);simp only [filter_cons,List.filter_nil,h2,h3,false_eq_true,if_false];by_cases h0:cs.contains 0=true <;> by_cases h1:cs.contains 1=true <;> simp only [h0,h1,if_true,if_false,false_eq_true] <;> rfl
 exact hf▸(e _ _)
theorem tL:∀ s∈aK 2,∀ t∈aK 2,f8 s t∈aK 4:=by decide +kernel
structure GdP (p:List Nat×En):Prop where
 en:∀ b,p.2 b∈aK 2
 cs:∀ c∈p.1,c < 2
theorem jw {T S:Ty}(h:(T==S)=true):T=S:=beq_iff_eq.mp h
theorem Ao (h0 h1:List Nat)(o:U1)(a:N)(E:En):(N.un o a).den h0 h1 E∈aK (bn (uT o).1.un)\/(uT o).1 = .form:=by
 induction o using U1.casesOn <;> first | exact .inr rfl | exact .inl (dh _)
theorem of_q {o:Q3}{n:Nat}{T:Ty}(h:qT o n T=true):(o = .comp/\T = .set)\/T = .form:=by
 induction o using Q3.casesOn with
 | comp=>exact .inl ⟨rfl,jw (bq h)⟩
 | _=>exact .inr (jw h)
theorem ua (s p:List Nat):sf s p∈aK 2:=lm λc hc=>by
 obtain ⟨x,_,hx⟩:=mem_flatMap.mp hc;obtain ⟨q,_,e⟩:=mem_map.mp hx;exact e▸mod_lt q (by decide)
theorem qx {l:List Nat}(h:∀ c∈l,c < 2):l.headD 0 < 2:=by
 induction l using List.casesOn with
 | nil=>exact Nat.zero_lt_two
 | cons c r=>exact h c (.head _)
theorem gk {P:Prop}(h:P\/Ty.set = .form):P:=h.resolve_right (λe=>Ty.noConfusion e)
theorem GdP.step {s:List Nat×En}(g:GdP s){b:Bool}{c:Nat}(hc:c < 2):GdP (s.1++[c],s.2.set b [c]):=by
 refine ⟨λb'=>?_,λc' h=>?_⟩
 ·refine (?_:(if b'=b then [c] else s.2 b')∈aK 2);split
  ·exact gp hc
  ·exact g.en b'
 ·rcases mem_append.mp h with h | h
  ·exact g.cs c' h
  ·exact mem_singleton.mp h▸hc
theorem GdP.one {E:En}(hE:∀ b,E b∈aK 2):GdP ([],E):=⟨hE,λ_ h=>(not_mem_nil h).elim⟩
theorem oe {h0 h1:List Nat}(H0:h0∈aK 2)(H1:h1∈aK 4):(∀ (x:N) (T:Ty),x.ok T=true->∀ E:En,(∀ b,E b∈aK 2)->x.den h0 h1 E∈aK (bn T.un)\/T = .form) /\
  ∀ ds:Ds,ds.ok=true->∀ l:List (List Nat×En),(∀ p∈l,GdP p)->∀ p∈ds.opens h0 h1 l,GdP p:=by
 refine N.both (λb T e E hE=>?_) (λi T e E hE=>?_) (λT e E hE=>?_) (λo a _ T e E hE=>?_) (λo a b ia ib T e E hE=>?_) (λa b _ _ T e E hE => .inr (jw (bq (bq e)))) (λo ds f id _ T e E hE=>?_)
  (λ_ l hl=>hl) (λb a r ia ir e l hl=>ir (cH e) _ λq hq=>?_)
 ·exact (jw e).symm ▸ .inl (hE b)
 ·induction i using Bool.casesOn with
  | false=>exact (jw e).symm ▸ .inl H0
  | true=>exact (jw e).symm ▸ .inl H1
 ·exact (jw e).symm ▸ .inl (show []∈aK 2 by decide +kernel)
 ·exact (jw (bq ((je o a T).symm.trans e))).symm▸Ao h0 h1 o a E
 ·have e:=(eY o a b T).symm.trans e;refine (jw (bq (bq e))).symm▸?_;induction o using B2.casesOn with
  | join=>exact .inl (ua _ _)
  | product=>exact .inl (tL _ (gk (ia .set (cH (bq e)) E hE)) _ (gk (ib .set (cH e) E hE)))
  | _=>exact .inr rfl
 ·have e:=(sJ o ds f T).symm.trans e;rcases of_q (cH e) with ⟨ho,hT⟩ | h
  ·refine hT.symm▸ho.symm ▸ .inl (lm λc hc=>?_);obtain ⟨p,hp,hc⟩:=mem_map.mp hc;exact hc▸qx (id (bq (bq (bq e))) _ (λq hq=>mem_singleton.mp hq ▸ .one hE) p (mem_filter.mp hp).1).cs
  ·exact .inr h
 ·obtain ⟨s,hs,hq⟩:=mem_flatMap.mp hq;obtain ⟨c,hc,hq⟩:=mem_map.mp hq;exact hq▸(hl s hs).step ((ba (gk (ia .set (bq e) s.2 (hl s hs).en))).1 c hc)
theorem fO {h0 h1:List Nat}(H0:h0∈aK 2)(H1:h1∈aK 4)(x:N)(T:Ty)(e:x.ok T=true)(E:En)(hE:∀ b,E b∈aK 2):x.den h0 h1 E∈aK (bn T.un)\/T = .form:=(oe H0 H1).1 x T e E hE
theorem gM {h0 h1:List Nat}(H0:h0∈aK 2)(H1:h1∈aK 4)(ds:Ds)(e:ds.ok=true)(l:List (List Nat×En))(hl:∀ p∈l,GdP p):∀ p∈ds.opens h0 h1 l,GdP p:=(oe H0 H1).2 ds e l hl
theorem rA {h0 h1:List Nat}(H0:h0∈aK 2)(H1:h1∈aK 4)(ds:Ds):ds.ok=true->∀ l:List (List Nat×En),(∀ p∈l,GdP p)->(ds.opens h0 h1 l).length<=l.length * 2 ^ ds.len :=
 Ds.ind (P:=λds=>ds.ok=true->∀ l:List (List Nat×En),(∀ p∈l,GdP p)->(ds.opens h0 h1 l).length<=l.length * 2 ^ ds.len) (λ_ l _=>le_of_eq (Nat.mul_one _).symm) (λb a r ih e l hl=>by
  refine le_trans (ih (cH e) (l.flatMap (dg h0 h1 b a)) λp hp=>gM H0 H1 (.cons b a .nil) (e7 (bq e) rfl) l hl p hp) (le_trans (mul_le_mul_right _ (eW (b:=b) (λE hE=>gk (fO H0 H1 a .set (bq e) E hE)) l (λp hp=>(hl p hp).en))) (le_of_eq ?_));refine (?_:_=l.length * (2 ^ r.len * 2));(refine (mul_comm _ 2).symm▸?_;refine (mul_comm 2 l.length).symm▸?_;exact (mul_assoc _ _ _).symm▸rfl)) ds
theorem pj {h0 h1:List Nat}(ds:Ds):∀ (k:Nat) (l:List (List Nat×En)),(∀ p∈l,p.1.length=k)->∀ p∈ds.opens h0 h1 l,p.1.length=k+ds.len :=
 Ds.ind (P:=λds=>∀ (k:Nat) (l:List (List Nat×En)),(∀ p∈l,p.1.length=k)->∀ p∈ds.opens h0 h1 l,p.1.length=k+ds.len) (λ_ _ hl=>hl) (λb a r ih k l hl p hp=>by
  refine (ih (k+1) (l.flatMap (dg h0 h1 b a)) (λq hq=>?_) p hp).trans ((Nat.add_assoc _ _ _).trans (congrArg (k + ·) (add_comm _ _)));obtain ⟨s,hs,hq⟩:=mem_flatMap.mp hq;obtain ⟨c,hc,hq⟩:=mem_map.mp hq;exact hq▸length_append.trans (hl s hs▸rfl)) ds
section
variable {j d i:Nat}{h0 h1:List Nat}{n:Nat}{g:Bool->Bool}
noncomputable def OI (j d i:Nat)(h0 h1:List Nat)(f:N)(σ1:Sto)(w1 k:Nat)(acc:Nat)(σ':Sto):Prop:=av (· = d) σ1 σ'/\k≠d/\∃ w',w1<=w'/\w'<=w1+acc * f.cost 0/\lw σ' j d i h0 h1 w'
theorem gA {h0 h1:List Nat}(H0:h0∈aK 2)(H1:h1∈aK 4){ds:Ds}(hok:ds.ok=true){E:En}(hE:∀ b,E b∈aK 2){es:List Tri}(e:es.map d8=ds.opens h0 h1 [([],E)]):es.length<=2 ^ ds.len:=by
 have h:=rA H0 H1 ds hok [([],E)] (λp hp=>mem_singleton.mp hp ▸ .one hE);rw [<- e,length_map] at h;simpa using h
noncomputable def uA (h0 h1:List Nat)(ds:Ds)(f:N)(E:En):List Nat:=((ds.opens h0 h1 [([],E)]).filter λp=>f.tru h0 h1 p.2).map λp=>p.1.headD 0
theorem zq {l:List Nat}(h:l.length=1)(k:∀ c∈l,c < 2):∃ c,c < 2/\l=[c]:=by
 obtain ⟨c,e⟩:=List.length_eq_one_iff.mp h;exact ⟨c,k c (e ▸ .head _),e⟩
theorem nX {h0 h1:List Nat}(H0:h0∈aK 2)(H1:h1∈aK 4){ds:Ds}(hok:ds.ok=true)(hl:ds.len=1){E:En}(hE:∀ b,E b∈aK 2){es:List Tri}(hes:es.map d8=ds.opens h0 h1 [([],E)])(t:Tri)(ht:t∈es):∃ c,c < 2/\t.1=[c]:=by
 have hm:d8 t∈ds.opens h0 h1 [([],E)]:=hes▸mem_map.mpr ⟨t,ht,rfl⟩;exact zq (l:=t.1) ((pj ds 0 [([],E)] (λp hp=>mem_singleton.mp hp▸rfl) _ hm).trans ((zero_add _).trans hl)) (gM H0 H1 ds hok [([],E)] (λp hp=>mem_singleton.mp hp ▸ .one hE) _ hm).cs
theorem lc {h0 h1:List Nat}{ds:Ds}(f:N){E:En}{es:List Tri}(hes:es.map d8=ds.opens h0 h1 [([],E)]):((es.filter λt=>f.tru h0 h1 t.2.1).map λt=>dec .one (t.1.headD 0))=au .one (uA h0 h1 ds f E):=by
 unfold uA;(refine hes▸?_;refine (List.filter_map).symm▸?_;refine (List.map_map).symm▸?_);unfold au;rw [List.map_map];rfl
theorem rq {h0 h1:List Nat}(H0:h0∈aK 2)(H1:h1∈aK 4){ds:Ds}(hok:ds.ok=true)(f:N){E:En}(hE:∀ b,E b∈aK 2):∀ c∈uA h0 h1 ds f E,c < 2:=λc hc=>by
 obtain ⟨p,hp,e⟩:=mem_map.mp hc;exact e▸qx (gM H0 H1 ds hok [([],E)] (λp hp=>mem_singleton.mp hp ▸ .one hE) p (mem_filter.mp hp).1).cs
theorem kh {h0 h1:List Nat}{ds:Ds}(f:N){E:En}{es:List Tri}(hes:es.map d8=ds.opens h0 h1 [([],E)])(hlen:es.length<=2 ^ 1):(uA h0 h1 ds f E).length<=aQ:=by
 refine le_trans (le_of_eq (length_map _)) (le_trans (length_filter_le _ _) (le_trans (le_of_eq ?_) (le_trans hlen (show 2<=4096 by decide))));exact (congrArg List.length hes).symm.trans (length_map _)
theorem AX {o:Q3}(ho:o = .all\/o = .exist){ds:Ds}{f:N}(H0:h0∈aK 2)(H1:h1∈aK 4)(hok:ds.ok=true)(hl:ds.len<=3)(H:SPs j d i h0 h1 n ds g)(H2:TP j d i h0 h1 (n+1) f (ds.gs g)):TP j d i h0 h1 (n+1+1) (.q o ds f) g:=λσ e E w S hE hw=>by
 have hw':w+(ds.cost 0 1+2 ^ ds.len * f.cost 0)<=1000000:=hw;refine ao rfl cI (ax (ρ:=xZ j (N.q o ds f).d e none none none none) rfl ?_);refine bi "op" (.str o.s) 6 (by rcases ho with rfl | rfl <;> kernel_rfl) ?_;refine ab (aA rfl (aX rfl (bV rfl ?_)));refine aS S rfl rfl (λ_ _=>by kernel_rfl) (ah (ds:=[.tup ds.d,.ref e]) rfl ⟨⟨w,S⟩,?_⟩);refine (j7 ds g H hl S hE (aZ (.a (.v 0) (.v 1)) (.n 1000000) [(1,(.a (.v 0) (.a (.v 1) (.v 2))),.n 1000000)] rfl hw')).mono λr σ1 g1=>?_;obtain ⟨k,v,es,rfl,hk,hkd,hes,hEs,k1,w1,e1,e2,S1⟩:=g1;have hlen:=gA H0 H1 hok hE.mem hes;refine aN hk ?_;have hmul:es.length * f.cost 0<=2 ^ ds.len * f.cost 0:=mul_le_mul_right _ hlen;refine (ki (src:=.at k v (es.map itD)) itD (λt=>[D.bool (f.tru h0 h1 t.2.1)]) (λ(acc:List Tri) (σ':Sto)=>OI j d i h0 h1 f σ1 w1 k acc.length σ') (λacc σ' h=>⟨_,h.1.2 _ _ h.2.1 hk⟩) es (λt acc r σ2 hsp h=>?_) es [] σ1 rfl ⟨av.refl _ _,hkd,w1,le_refl _,le_add_right _ _,S1⟩).mono λl σ2 h=>?_
 ·obtain ⟨k2,_,w2,hq⟩:=h;have a1:=hq.1;have a2:=hq.2.1;have S2:=hq.2.2;have ht:t∈es:=by refine hsp▸?_;simp
  have hacc:acc.length+1<=es.length:=by
   have:=congrArg List.length hsp;(replace this:=(length_append)▸this;replace this:=(length_cons)▸this);exact aZ (.a (.v 0) (.n 1)) (.v 1) [(1,(.a (.v 0) (.a (.v 2) (.n 1))),.v 1)] rfl (le_of_eq this)
  have hm2:acc.length * f.cost 0+f.cost 0<=es.length * f.cost 0:=by
   have:=mul_le_mul_right (f.cost 0) hacc;rwa [succ_mul] at this
  refine aY rfl ?_;refine aS S2 rfl rfl (λ_ _=>by kernel_rfl) (ah (ds:=[f.d,.ref t.2.2]) rfl ⟨⟨w2,S2⟩,?_⟩);refine (H2 σ2 t.2.2 t.2.1 w2 S2 ((hEs t ht).kp k2) (Ab (.a (.v 0) (.v 1)) (.n 1000000) [(1,(.a (.v 2) (.a (.v 3) (.v 4))),.n 1000000),(1,.v 5,(.a (.v 2) (.v 3))),(1,.v 6,.v 4),(1,.v 0,(.a (.v 5) (.v 7))),(1,(.a (.v 7) (.v 1)),.v 6)] rfl hw' e2 hmul hq.2.1 hm2)).mono λr σ3 g3=>?_;obtain ⟨rfl,k3,w3,b1,b2,S3⟩:=g3;refine ⟨rfl,k2.trans k3,hkd,w3,aZ (.v 0) (.v 1) [(1,.v 0,.v 2),(1,.v 2,.v 1)] rfl hq.1 b1,?_,S3⟩;(refine (length_append).symm▸?_;refine (length_cons).symm▸?_;refine (length_nil).symm▸?_;refine (zero_add _).symm▸?_;refine (succ_mul _ _).symm▸?_);exact sX (.v 0) (.a (.v 1) (.a (.v 2) (.v 3))) [(1,.v 4,(.a (.v 1) (.v 2))),(1,.v 0,(.a (.v 4) (.v 3)))] rfl hq.2.1 b2
 obtain ⟨rfl,k2,_,w2,hq⟩:=h;have a1:=hq.1;have a2:=hq.2.1;have S2:=hq.2.2;have hfl:(es.flatMap λt=>[D.bool (f.tru h0 h1 t.2.1)])=(es.map λt=>f.tru h0 h1 t.2.1).map .bool:=by (refine (bF _ _).symm▸?_;exact (List.map_map).symm▸rfl)
 refine hfl.symm▸?_;have hp8:(2:Nat) ^ ds.len<=2 ^ 3:=Nat.pow_le_pow_right (by decide) hl;refine ⟨⟨_,k2.2 _ _ hkd hk⟩,by (refine (length_map _).symm▸?_;refine (length_map _).symm▸?_);exact le_trans hlen (le_trans hp8 (by decide)),?_⟩;have hev:EvK j d i h0 h1 w ((N.q o ds f).cost 0) σ (σ2++[(PO.list ((es.map λt=>f.tru h0 h1 t.2.1).map .bool),0)]) :=
  EvK.grow (EvK.le (EvK.trans k1 e1 e2 ⟨k2,w2,a1,a2,S2⟩) (add_le_add_left hmul _)) ((av.refl _ _).push _)
 have hb:∀ l:List Bool,dj (l.map .bool)=some l:=λl=>by
  induction l with
  | nil=>rfl
  | cons b r ih=>refine (?_:(dj (r.map .bool)).map (b :: ·)=_);exact ih▸rfl
 have hmap:(es.map λt=>f.tru h0 h1 t.2.1)=(ds.opens h0 h1 [([],E)]).map λp=>f.tru h0 h1 p.2:=by
  (refine hes▸?_;exact (List.map_map).symm▸rfl)
 refine ab (aB (bu ?_));rcases ho with rfl | rfl
 ·refine aU (b:=true) (by kernel_rfl) (cC (bM rfl rfl (aa (d:=.ref σ2.length) rfl ?_)));have hc:b9 "all" (.ref σ2.length)=(do pure (.bool ((<- ofOpt (dj (<- listAt σ2.length))).all λb=>b))):=by kernel_rfl
  refine (?_:Ok _ _ _);refine hc.symm▸?_;refine Ok.bind (Ok.listAt (ag _ _) (Ok.bind (Ok.ofOpt (hb _) (Ok.ret ⟨?_,hev⟩))));(refine hmap.symm▸?_;refine (all_map).symm▸?_);rfl
 ·refine aU (b:=false) (by kernel_rfl) (cv (bM rfl rfl (aa (d:=.ref σ2.length) rfl ?_)));have hc:b9 "any" (.ref σ2.length)=(do pure (.bool ((<- ofOpt (dj (<- listAt σ2.length))).any λb=>b))):=by kernel_rfl
  refine (?_:Ok _ _ _);refine hc.symm▸?_;refine Ok.bind (Ok.listAt (ag _ _) (Ok.bind (Ok.ofOpt (hb _) (Ok.ret ⟨?_,hev⟩))));(refine hmap.symm▸?_;refine (any_map).symm▸?_);rfl
theorem sU {ds:Ds}{f:N}(H0:h0∈aK 2)(H1:h1∈aK 4)(hok:ds.ok=true)(hl:ds.len=1)(H:SPs j d i h0 h1 n ds g)(H2:TP j d i h0 h1 (n+1) f (ds.gs g)):SP j d i h0 h1 (n+1+1) (.q .comp ds f) .set g:=λσ e E w S hE hw=>by
 have hw':w+(ds.cost 0 1+2 ^ ds.len * f.cost 0)<=1000000:=hw;refine ao rfl cq (ax (ρ:=vZ j (N.q .comp ds f).d e none) rfl ?_);refine bi "op" (.str "comp") 7 (by kernel_rfl) (ab (aB (am rfl (by kernel_rfl) (ae (aX rfl (bV rfl ?_))))));refine aS S rfl rfl (λ_ _=>by kernel_rfl) (ah (ds:=[.tup ds.d,.ref e]) rfl ⟨⟨w,S⟩,?_⟩);refine (j7 ds g H (bh (.v 0) (.n 3) [(1,.v 0,.n 1)] rfl (le_of_eq hl)) S hE (aZ (.a (.v 0) (.v 1)) (.n 1000000) [(1,(.a (.v 0) (.a (.v 1) (.v 2))),.n 1000000)] rfl hw')).mono λr σ1 g1=>?_;obtain ⟨k,v,es,rfl,hk,hkd,hes,hEs,k1,w1,e1,e2,S1⟩:=g1;have hlen:=gA H0 H1 hok hE.mem hes;refine aN hk ?_;have hmul:es.length * f.cost 0<=2 ^ ds.len * f.cost 0:=mul_le_mul_right _ hlen;refine (ki (src:=.at k v (es.map itD)) itD (λt=>if f.tru h0 h1 t.2.1 then [dec .one (t.1.headD 0)] else []) (λ(acc:List Tri) (σ':Sto)=>OI j d i h0 h1 f σ1 w1 k acc.length σ') (λacc σ' h=>⟨_,h.1.2 _ _ h.2.1 hk⟩) es (λt acc r σ2 hsp h=>?_) es [] σ1 rfl ⟨av.refl _ _,hkd,w1,le_refl _,le_add_right _ _,S1⟩).mono λl σ2 h=>?_
 ·obtain ⟨k2,_,w2,hq⟩:=h;have a1:=hq.1;have a2:=hq.2.1;have S2:=hq.2.2;have ht:t∈es:=by refine hsp▸?_;simp
  have hacc:acc.length+1<=es.length:=by
   have:=congrArg List.length hsp;(replace this:=(length_append)▸this;replace this:=(length_cons)▸this);exact aZ (.a (.v 0) (.n 1)) (.v 1) [(1,(.a (.v 0) (.a (.v 2) (.n 1))),.v 1)] rfl (le_of_eq this)
  have hm2:acc.length * f.cost 0+f.cost 0<=es.length * f.cost 0:=by
   have:=mul_le_mul_right (f.cost 0) hacc;rwa [succ_mul] at this
  refine ff rfl (cU (gf rfl ?_));refine aS S2 rfl rfl (λ_ _=>by kernel_rfl) (ah (ds:=[f.d,.ref t.2.2]) rfl ⟨⟨w2,S2⟩,?_⟩);refine (H2 σ2 t.2.2 t.2.1 w2 S2 ((hEs t ht).kp k2) (Ab (.a (.v 0) (.v 1)) (.n 1000000) [(1,(.a (.v 2) (.a (.v 3) (.v 4))),.n 1000000),(1,.v 5,(.a (.v 2) (.v 3))),(1,.v 6,.v 4),(1,.v 0,(.a (.v 5) (.v 7))),(1,(.a (.v 7) (.v 1)),.v 6)] rfl hw' e2 hmul hq.2.1 hm2)).mono λr σ3 g3=>?_;obtain ⟨rfl,k3,w3,b1,b2,S3⟩:=g3;have hI:OI j d i h0 h1 f σ1 w1 k (acc++[t]).length σ3:=by
   refine ⟨k2.trans k3,hkd,w3,aZ (.v 0) (.v 1) [(1,.v 0,.v 2),(1,.v 2,.v 1)] rfl hq.1 b1,?_,S3⟩;(refine (length_append).symm▸?_;refine (length_cons).symm▸?_;refine (length_nil).symm▸?_;refine (zero_add _).symm▸?_;refine (succ_mul _ _).symm▸?_);exact sX (.v 0) (.a (.v 1) (.a (.v 2) (.v 3))) [(1,.v 4,(.a (.v 1) (.v 2))),(1,.v 0,(.a (.v 4) (.v 3)))] rfl hq.2.1 b2
  obtain ⟨c,hq⟩:=nX H0 H1 hok hl hE.mem hes t ht;have hc:=hq.2;refine ⟨_,rfl,λhb=>?_,λhb=>?_⟩
  ·refine aa (d:=.tup (t.1.map λ(c:Nat)=>D.int c)) rfl ⟨?_,hI⟩;(refine (if_pos hb).symm▸?_;exact hc.symm▸rfl)
  ·exact ⟨by rw [if_neg (by refine hb.symm▸?_;decide)],hI⟩
 obtain ⟨rfl,k2,_,w2,hq⟩:=h;have a1:=hq.1;have a2:=hq.2.1;have S2:=hq.2.2;refine (cp (λt:Tri=>f.tru h0 h1 t.2.1) (λt=>dec .one (t.1.headD 0)) _).symm▸?_;have hb:=rq H0 H1 hok f hE.mem;have hcl:=kh f hes (hl▸hlen);refine (lc f hes).symm▸?_;refine ⟨⟨_,k2.2 _ _ hkd hk⟩,by refine (length_map _).symm▸?_;exact hcl,aq ?_⟩;have hev:=EvK.le (EvK.trans k1 e1 e2 ⟨k2,w2,a1,a2,S2⟩) (add_le_add_left hmul (ds.cost 0 1));refine (eU bU rfl (u:=.one) rfl hb hcl n (i3 (ag _ _)) rfl ⟨_,ag _ _⟩).mono λr σ4 h4=>?_;obtain ⟨rfl,k4⟩:=h4;exact ⟨rfl,EvK.grow hev (((av.refl _ _).push _).trans k4)⟩
end
theorem AZ (ds:Ds)(g:Bool->Bool)(c:Bool):ds.gs g c=(g c || ds.binds c):=by
 refine Ds.ind (P:=λds=>∀ g:Bool->Bool,ds.gs g c=(g c || ds.binds c)) (λg=>(Bool.or_false _).symm) (λb a r ih g=>?_) ds g;refine (?_:r.gs (cj g b) c=(g c || (c==b || r.binds c)));rw [ih,<- Bool.or_assoc];rfl
theorem nj {g:Bool->Bool}{b c:Bool}(h:(c==b)=false->g c=true):cj g b c=true:=by
 unfold cj;cases hb:c==b with
 | true=>rw [Bool.or_true]
 | false=>exact (h hb).symm▸rfl
theorem wx {ds:Ds}{g:Bool->Bool}{c:Bool}(h:ds.binds c=false->g c=true):ds.gs g c=true:=by
 refine (AZ _ _ _).symm▸?_;cases hb:ds.binds c with
 | true=>exact (Bool.or_true _).symm▸rfl
 | false=>exact (h hb).symm▸rfl
structure jx (S:N->Ty->Nat->(Bool->Bool)->Prop)(F:N->Nat->(Bool->Bool)->Prop)(L:Ds->Nat->(Bool->Bool)->Prop):Prop where
 var:∀ b n g,g b=true->S (.var b) .set (n+1) g
 rel0:∀ n g,S (.rel false) .set (n+1) g
 rel1:∀ n g,S (.rel true) .pair (n+1) g
 non:∀ n g,S .none .set (n+1) g
 un:∀ o a n g,eu o=true->a.ok .pair=true->S a .pair (n+5) g->S (.un o a) .pair (n+6) g
 join:∀ a b n g,a.ok .set=true->b.ok .pair=true->S a .set (n+5) g->S b .pair (n+5) g->S (.bin .join a b) .set (n+6) g
 prod:∀ a b n g,a.ok .set=true->b.ok .set=true->S a .set (n+5) g->S b .set (n+5) g->S (.bin .product a b) .pair (n+6) g
 comp:∀ ds f n g,ds.ok=true->ds.len=1->L ds (n+4) g->F f (n+5) (ds.gs g)->S (.q .comp ds f) .set (n+6) g
 nil:∀ n g,L .nil n g
 cons:∀ b a r n g,a.ok .set=true->S a .set n g->L r n (cj g b)->L (.cons b a r) n g
 unF:∀ o a n g,dL o=true->a.ok .set=true->S a .set (n+5) g->F (.un o a) (n+6) g
 isin:∀ a b n g,a.ok .set=true->b.ok .set=true->S a .set (n+5) g->S b .set (n+5) g->F (.bin .isin a b) (n+6) g
 two:∀ o a b n g,(o = .implies\/o = .iff)->F a (n+5) g->F b (n+5) g->F (.bin o a b) (n+6) g
 or:∀ a b n g,F a (n+5) g->F b (n+5) g->F (.or a b) (n+6) g
 q:∀ o ds f n g,(o = .all\/o = .exist)->ds.ok=true->ds.len<=3->L ds (n+4) g->F f (n+5) (ds.gs g)->F (.q o ds f) (n+6) g
theorem xN {n:Nat}(h:2 * 1+6<=n):∃ m,n=m+1:=pk 1 (le_trans (le_of_ble_eq_true rfl) h)
theorem lZ {k n:Nat}(h:2 * (k+1)+6<=n):∃ m,n=m+6/\2 * k+6<=m+4:=⟨n - 6,(Nat.sub_add_cancel (le_trans (le_add_left 6 _) h)).symm,add_le_add_right (Nat.le_sub_of_add_le h:2 * (k+1)<=n - 6) 4⟩
theorem oG {a b m:Nat}(h:2 * max a b+6<=m):2 * a+6<=m:=le_trans (add_le_add_right (mul_le_mul_left 2 (le_max_left a b)) 6) h
theorem oP {a b m:Nat}(h:2 * max a b+6<=m):2 * b+6<=m:=le_trans (add_le_add_right (mul_le_mul_left 2 (le_max_right a b)) 6) h
theorem wm {o:U1}(h:(uT o).1 ≠ .form):eu o=true/\uT o=(.pair,.pair):=by
 induction o using U1.casesOn <;> first | exact ⟨rfl,rfl⟩ | exact absurd rfl h
theorem xw {o:U1}(h : .form=(uT o).1):dL o=true/\uT o=(.form,.set):=by
 induction o using U1.casesOn <;> first | exact ⟨rfl,rfl⟩ | exact Ty.noConfusion h
section
variable {S:N->Ty->Nat->(Bool->Bool)->Prop}{F:N->Nat->(Bool->Bool)->Prop}{L:Ds->Nat->(Bool->Bool)->Prop}
theorem jx.all (I:jx S F L):(∀ x:N,(∀ T,x.ok T=true->T ≠ .form->∀ n,2 * x.ht+6<=n->∀ g:Bool->Bool,(∀ b,x.fv b=true->g b=true)->S x T n g)/\(x.ok .form=true->∀ n,2 * x.ht+6<=n->∀ g:Bool->Bool,(∀ b,x.fv b=true->g b=true)->F x n g)) /\
  ∀ ds:Ds,ds.ok=true->∀ n,2 * ds.ht+6<=n->∀ g:Bool->Bool,(∀ b,ds.fv b=true->g b=true)->L ds n g:=by
 refine N.both (λb=>⟨λT h _ n hn g hg=>?_,λh=>Bool.noConfusion h⟩) (λi=>⟨λT h _ n hn g hg=>?_,λh=>?_⟩) ⟨λT h _ n hn g hg=>?_,λh=>Bool.noConfusion h⟩ (λo a ia=>⟨λT h hT n hn g hg=>?_,λh n hn g hg=>?_⟩)
  (λo a b ia ib=>⟨λT h hT n hn g hg=>?_,λh n hn g hg=>?_⟩) (λa b ia ib=>⟨λT h hT=>absurd (beq_iff_eq.mp (bq (bq h))) hT,λh n hn g hg=>?_⟩) (λo ds f il jf=>⟨λT h hT n hn g hg=>?_,λh n hn g hg=>?_⟩) (λ_ n _ g _=>I.nil n g) λb a r ia ir h n hn g hg=>?_
 ·obtain ⟨m,e⟩:=xN hn;exact e▸(beq_iff_eq.mp h).symm▸I.var b m g (hg b (beq_self_eq_true b))
 ·obtain ⟨m,e⟩:=xN hn;cases i with
  | false=>exact e▸(beq_iff_eq.mp h).symm▸I.rel0 m g
  | true=>exact e▸(beq_iff_eq.mp h).symm▸I.rel1 m g
 ·cases i <;> exact Bool.noConfusion h
 ·obtain ⟨m,e⟩:=xN hn;exact e▸(beq_iff_eq.mp h).symm▸I.non m g
 ·have h:=(je o a T).symm.trans h;have hT':=beq_iff_eq.mp (bq h);have hq:=wm (hT'▸hT);have k:=hq.1;have ku:=hq.2;rw [ku] at hT' h;obtain ⟨m,hq⟩:=lZ hn;have e:=hq.1;have hm:=hq.2;exact e▸hT'.symm▸I.un o a m g k (cH h) (ia.1 .pair (cH h) (λe=>Ty.noConfusion e) _ (le_succ_of_le hm) g hg)
 ·have h:=(je o a .form).symm.trans h;have hq:=xw (beq_iff_eq.mp (bq h));have k:=hq.1;have ku:=hq.2;replace h:=ku▸h;obtain ⟨m,hq⟩:=lZ hn;have e:=hq.1;have hm:=hq.2;exact e▸I.unF o a m g k (cH h) (ia.1 .set (cH h) (λe=>Ty.noConfusion e) _ (le_succ_of_le hm) g hg)
 ·obtain ⟨m,hq⟩:=lZ hn;have e:=hq.1;have hm:=hq.2;have la:=le_succ_of_le (oG hm);have lb:=le_succ_of_le (oP hm);have ga:∀ c,a.fv c=true->g c=true:=λc hc=>hg c (orl hc);have gb:∀ c,b.fv c=true->g c=true:=λc hc=>hg c (orr hc);clear hn hg hm;have h:=(eY o a b T).symm.trans h;have hT':=beq_iff_eq.mp (bq (bq h));have ha:=cH (bq h);have hb:=cH h;clear h;replace hT:=hT'▸hT;(refine e.symm▸?_;refine hT'.symm▸?_);clear e hT';induction o using B2.casesOn with
  | join=>exact I.join a b m g ha hb (ia.1 .set ha (λe=>Ty.noConfusion e) _ la g ga) (ib.1 .pair hb (λe=>Ty.noConfusion e) _ lb g gb)
  | product=>exact I.prod a b m g ha hb (ia.1 .set ha (λe=>Ty.noConfusion e) _ la g ga) (ib.1 .set hb (λe=>Ty.noConfusion e) _ lb g gb)
  | _=>exact absurd rfl hT
 ·obtain ⟨m,hq⟩:=lZ hn;have e:=hq.1;have hm:=hq.2;have la:=le_succ_of_le (oG hm);have lb:=le_succ_of_le (oP hm);have ga:∀ c,a.fv c=true->g c=true:=λc hc=>hg c (orl hc);have gb:∀ c,b.fv c=true->g c=true:=λc hc=>hg c (orr hc);clear hn hg hm;have h:=(eY o a b .form).symm.trans h;have hT':=beq_iff_eq.mp (bq (bq h));have ha:=cH (bq h);have hb:=cH h;clear h;refine e.symm▸?_;clear e;induction o using B2.casesOn with
  | isin=>exact I.isin a b m g ha hb (ia.1 .set ha (λe=>Ty.noConfusion e) _ la g ga) (ib.1 .set hb (λe=>Ty.noConfusion e) _ lb g gb)
  | implies=>exact I.two .implies a b m g (.inl rfl) (ia.2 ha _ la g ga) (ib.2 hb _ lb g gb)
  | iff=>exact I.two .iff a b m g (.inr rfl) (ia.2 ha _ la g ga) (ib.2 hb _ lb g gb)
  | _=>exact Ty.noConfusion hT'
 ·obtain ⟨m,hq⟩:=lZ hn;have e:=hq.1;have hm:=hq.2;refine e.symm▸?_;exact I.or a b m g (ia.2 (cH (bq h)) _ (le_succ_of_le (oG hm)) g λc hc=>hg c (orl hc)) (ib.2 (cH h) _ (le_succ_of_le (oP hm)) g λc hc=>hg c (orr hc))
 ·obtain ⟨m,hq⟩:=lZ hn;have e:=hq.1;have hm:=hq.2;have h:=(sJ o ds f T).symm.trans h;have l:=il (bq (bq (bq h))) _ (oG hm) g λc hc=>hg c (orl hc);have k:=jf.2 (cH (bq (bq h))) _ (le_succ_of_le (oP hm)) (ds.gs g) λc hc=>wx λhb=>hg c (orr (e7 (hb.symm▸rfl) hc));have hok:=bq (bq (bq h));have hq:=cH h;refine e.symm▸?_;clear e hn h hm;induction o using Q3.casesOn with
  | comp=>exact (beq_iff_eq.mp (bq hq)).symm▸I.comp ds f m g hok (beq_iff_eq.mp (cH hq)) l k
  | _=>exact absurd (beq_iff_eq.mp hq) hT
 ·obtain ⟨m,hq⟩:=lZ hn;have e:=hq.1;have hm:=hq.2;have h:=(sJ o ds f .form).symm.trans h;have l:=il (bq (bq (bq h))) _ (oG hm) g λc hc=>hg c (orl hc);have k:=jf.2 (cH (bq (bq h))) _ (le_succ_of_le (oP hm)) (ds.gs g) λc hc=>wx λhb=>hg c (orr (e7 (hb.symm▸rfl) hc));have hok:=bq (bq (bq h));have hle:=of_decide_eq_true (cH (bq h));have hq:=cH h;refine e.symm▸?_;clear e hn h hm;induction o using Q3.casesOn with
  | comp=>exact Ty.noConfusion (beq_iff_eq.mp (bq (show (Ty.form==Ty.set && ds.len==1)=true from hq)))
  | all=>exact I.q .all ds f m g (.inl rfl) hok hle l k
  | exist=>exact I.q .exist ds f m g (.inr rfl) hok hle l k
 ·exact I.cons b a r n g (bq h) (ia.1 .set (bq h) (λe=>Ty.noConfusion e) n (oG hn) g λc hc=>hg c (orl hc)) (ir (cH h) n (oP hn) (cj g b) λc hc=>nj λhb=>hg c (orr (e7 (show (!(c==b))=true by exact hb.symm▸rfl) hc)))
end
section
variable {j d i:Nat}{h0 h1:List Nat}
theorem bR (H0:h0∈aK 2)(H1:h1∈aK 4){a:N}(h:a.ok .set=true)(E:En)(hE:∀ b,E b∈aK 2):a.den h0 h1 E∈aK 2:=(fO H0 H1 a .set h E hE).resolve_right (by simp)
theorem gw (H0:h0∈aK 2)(H1:h1∈aK 4){a:N}(h:a.ok .pair=true)(E:En)(hE:∀ b,E b∈aK 2):a.den h0 h1 E∈aK 4:=(fO H0 H1 a .pair h E hE).resolve_right (by simp)
theorem vt (H0:h0∈aK 2)(H1:h1∈aK 4):jx (λx T n g=>SP j d i h0 h1 n x T g) (λx n g=>TP j d i h0 h1 n x g) (λds n g=>SPs j d i h0 h1 n ds g) where
 var b n g h:=wY b h
 rel0 n g:=rP false
 rel1 n g:=rP true
 non n g:=s7
 un o a n g k h H:=yF k H (gw H0 H1 h)
 join a b n g h k H H2:=uB H H2 (bR H0 H1 h) (gw H0 H1 k)
 prod a b n g h k H H2:=sN H H2 (bR H0 H1 h) (bR H0 H1 k)
 comp ds f n g h k H H2:=sU H0 H1 h k H H2
 nil n g:=trivial
 cons b a r n g h H H2:=⟨H,bR H0 H1 h,H2⟩
 unF o a n g k h H:=ze k H
 isin a b n g h k H H2:=yd H H2 (bR H0 H1 h) (bR H0 H1 k)
 two o a b n g ho H H2:=by
  rcases ho with rfl | rfl
  ·exact lX H H2
  ·exact vS H H2
 or a b n g H H2:=yy H H2
 q o ds f n g ho h k H H2:=AX ho H0 H1 h k H H2
theorem yN (H0:h0∈aK 2)(H1:h1∈aK 4)(x:N)(T:Ty)(h:x.ok T=true)(hT:T ≠ .form)(n:Nat)(hn:2 * x.ht+6<=n)(g:Bool->Bool)(hg:∀ b,x.fv b=true->g b=true):SP j d i h0 h1 n x T g:=((vt H0 H1).all.1 x).1 T h hT n hn g hg
theorem yV (H0:h0∈aK 2)(H1:h1∈aK 4)(x:N)(h:x.ok .form=true)(n:Nat)(hn:2 * x.ht+6<=n)(g:Bool->Bool)(hg:∀ b,x.fv b=true->g b=true):TP j d i h0 h1 n x g:=((vt H0 H1).all.1 x).2 h n hn g hg
end
inductive du (σ:Sto)(hr:Nat)(h0 h1:List Nat):Prop
 | intro (a b v va vb:Nat) (e1:σ[hr]? = some (.list [.ref a,.ref b],v)) (e2:σ[a]? = some (.list (au .one h0),va)) (e3:σ[b]? = some (.list (au .two h1),vb)):du σ hr h0 h1
theorem du.kp {σ σ':Sto}{hr:Nat}{h0 h1:List Nat}(h:du σ hr h0 h1)(k:av NoW σ σ'):du σ' hr h0 h1:=let ⟨a,b,v,va,vb,x,y,z⟩:=h;⟨a,b,v,va,vb,k.get x,k.get y,k.get z⟩
inductive oT (σ:Sto)(l:List (Str×D))(E:En)(b:Bool):Prop
 | intro (k vk:Nat) (e:l.lookup (nm b)=some (.ref k)) (h:σ[k]? = some (.list (au .one (E b)),vk)):oT σ l E b
theorem oT.of {σ:Sto}{l:List (Str×D)}{E:En}{b:Bool}(h:∃ k vk,l.lookup (nm b)=some (.ref k)/\σ[k]? = some (.list (au .one (E b)),vk)):oT σ l E b:=let ⟨k,vk,x,y⟩:=h;⟨k,vk,x,y⟩
inductive ScE (σ:Sto)(s:Nat)(E:En)(g:Bool->Bool):Prop
 | intro (mem:∀ b,E b∈aK 2) (l:List (Str×D)) (v:Nat) (h:σ[s]? = some (.dS l,v)) (xy:XY l) (lk:∀ b,g b=true->oT σ l E b):ScE σ s E g
theorem ScE.mem {σ:Sto}{s:Nat}{E:En}{g:Bool->Bool}(h:ScE σ s E g):∀ b,E b∈aK 2:=let ⟨a,_,_,_,_,_⟩:=h;a
theorem ScE.kp {σ σ':Sto}{s:Nat}{E:En}{g:Bool->Bool}(h:ScE σ s E g)(k:av NoW σ σ'):ScE σ' s E g:=let ⟨a,l,v,b,c,d⟩:=h;⟨a,l,v,k.get b,c,λq hq=>let ⟨i,w,x,y⟩:=d q hq;⟨i,w,x,k.get y⟩⟩
theorem ScE.sub {σ:Sto}{s:Nat}{E:En}{g g':Bool->Bool}(h:ScE σ s E g)(hg:∀ b,g' b=true->g b=true):ScE σ s E g':=let ⟨a,l,v,b,c,d⟩:=h;⟨a,l,v,b,c,λq hq=>d q (hg q hq)⟩
inductive Bu (u:Un)(cs:List Nat)(r:D)(σ':Sto):Prop
 | intro (k v:Nat) (e:r = .ref k) (h:σ'[k]? = some (.list (au u cs),v)):Bu u cs r σ'
inductive zW (u:Un)(cs:List Nat)(σ:Sto)(r:D)(σ':Sto):Prop
 | intro (l:Bu u cs r σ') (k:av NoW σ σ'):zW u cs σ r σ'
noncomputable def WP (h0 h1:List Nat)(n:Nat)(a:N)(T:Ty)(g:Bool->Bool):Prop:=∀ σ hr s E,du σ hr h0 h1->ScE σ s E g->Ok (aL n "_law_worth" [a.d,.ref hr,.ref s]) σ (zW T.un (a.den h0 h1 E) σ)
noncomputable def WT (h0 h1:List Nat)(n:Nat)(a:N)(g:Bool->Bool):Prop:=∀ σ hr s E,du σ hr h0 h1->ScE σ s E g->Ok (aL n "_law_worth" [a.d,.ref hr,.ref s]) σ λr σ'=>r = .bool (a.tru h0 h1 E)/\av NoW σ σ'
noncomputable def WPs (h0 h1:List Nat)(n:Nat):Ds->(Bool->Bool)->Prop
 | .nil,_=>True
 | .cons b a r,g=>WP h0 h1 n a .set g/\(∀ E:En,(∀ b,E b∈aK 2)->a.den h0 h1 E∈aK 2)/\WPs h0 h1 n r (cj g b)
theorem mE:aM "_law_chosen"=some (aO 31):=rfl
theorem oJ:aM "_law_steps"=some (aO 32):=rfl
theorem bf:aM "_law_worth"=some (aO 33):=rfl
theorem dc:aM "_law_free"=some (aO 34):=rfl
section
variable {σ:Sto}{P:D->Sto->Prop}
theorem ch {u:Un}{k v:Nat}{cs:List Nat}(hb:∀ c∈cs,c < bn u)(hl:cs.length<=aQ)(e:σ[k]? = some (.list (au u cs),v))(h:P (.ref σ.length) (σ++[(.list (au u (filt cs)),0)])):Ok (do mkList (<- cV (<- qb (.ref k)))) σ P:=by
 refine Ok.bind (Ok.listAt e ?_);have hfl:(au u (filt cs)).length<=aQ:=by refine (length_map _).symm▸?_;exact le_trans (length_filter_le _ _) (by decide)
 refine Ok.bind (Ok.bind (Ok.must (by refine (length_map _).symm▸?_;simpa using hl) ?_));by_cases hc:cs=[]
 ·subst hc;exact Ok.bind (Ok.ofOpt rfl (Ok.ret (Ok.mkList hfl h)))
 ·exact Ok.bind (Ok.ofOpt (sB hc hb) (Ok.ret (Ok.mkList hfl h)))
theorem add_list {j k v w:Nat}{a b:List D}(e1:σ[j]? = some (.list a,v))(e2:σ[k]? = some (.list b,w))(hl:(a++b).length<=aQ)(h:P (.ref σ.length) (σ++[(.list (a++b),0)])):Ok (pD .Add (.ref j) (.ref k)) σ P :=
 Ok.bind (Ok.listAt e1 (Ok.bind (Ok.listAt e2 (Ok.mkList hl h))))
end
theorem wE:∀ s∈aK 4,filt s=s:=by decide +kernel
theorem zU (a b:Nat):((a:Int)==(b:Int))=(a==b):=by
 rw [Bool.eq_iff_iff,beq_iff_eq,beq_iff_eq];exact Int.ofNat_inj
theorem qL (a b:Nat)(hb:b < 2):D.tup [.int a,.int b]=dec .two (2 * a+b):=(jP hb).symm
theorem nP {p:List Nat}(hp:p∈aK 4)(n:Nat){σ:Sto}{k v:Nat}(hk:σ[k]? = some (.list (au .two p),v)):Ok (aL (n+1) "_law_steps" [.ref k]) σ (zW .two (cL p) σ):=by
 obtain ⟨p1,p2⟩:=ba hp;refine ao rfl oJ (ax (ρ:=[("pairs",some (.ref k))]) rfl ?_);refine ab (aB (cN rfl rfl (bB (aa (d:=.ref k) rfl ?_))));refine fA rfl (bV rfl (aa (d:=.ref k) rfl (aN hk ?_)));refine aG (σ0:=σ) (src:=.at k v (au .two p)) (dec .two) (λq=>au .two ((p.filter λr=>q % 2==r / 2).map λr=>2 * (q / 2)+r % 2)) ⟨_,hk⟩ (av.refl _ _) (λq _ σ2 k2=>?_) λσ3 k3=>?_
 ·refine fG rfl (bV rfl (aa (d:=.ref k) rfl (aN (k2.get hk) ?_)));refine aG (σ0:=σ2) (src:=.at k v (au .two p)) (dec .two) (λr=>if q % 2==r / 2 then [dec .two (2 * (q / 2)+r % 2)] else []) ⟨_,k2.get hk⟩ (av.refl _ _) (λr _ σ3 k3=>?_) λσ3 k3=>⟨⟨_,k3.get (k2.get hk)⟩,?_,k2.trans k3⟩
  ·refine ff rfl (cU (aU (b:=((q % 2:Nat):Int)==((r / 2:Nat):Int)) rfl ⟨λhb=>?_,λhb=>?_⟩))
   ·replace hb:=(zU _ _)▸hb;refine aa (d:=.tup [.int (q / 2:Nat),.int (r % 2:Nat)]) rfl ⟨?_,k3⟩;rw [if_pos hb,qL _ _ (sL _)]
   ·replace hb:=(zU _ _)▸hb;exact ⟨by rw [if_neg (by refine hb.symm▸?_;decide)],k3⟩
  ·refine (cp (λr=>q % 2==r / 2) (λr=>dec .two (2 * (q / 2)+r % 2)) _).symm▸?_;unfold au;rw [List.map_map];rfl
 ·have e1:(p.flatMap λq=>au .two ((p.filter λr=>q % 2==r / 2).map λr=>2 * (q / 2)+r % 2))=au .two (p.flatMap λq=>(p.filter λr=>q % 2==r / 2).map λr=>2 * (q / 2)+r % 2):=by
   exact (map_flatMap).symm▸rfl
  refine e1.symm▸?_;have hlen:∀ s:List Nat,(s.flatMap λq=>(p.filter λr=>q % 2==r / 2).map λr=>2 * (q / 2)+r % 2).length<=s.length * p.length:=λs=>by
   induction s with
   | nil=>simp
   | cons c r ih =>
    (refine (List.flatMap_cons).symm▸?_;refine (length_append).symm▸?_;refine (length_map _).symm▸?_;refine (length_cons).symm▸?_;refine (succ_mul _ _).symm▸?_);have:=length_filter_le (λr=>c % 2==r / 2) p;exact fW (.a (.v 0) (.v 1)) (.a (.v 2) (.v 3)) [(1,.v 1,.v 2),(1,.v 0,.v 3)] rfl ih this
  have hlp:=le_trans (hlen p) (mul_le_mul p2 p2);have h4:aQ=4096:=rfl;refine ⟨⟨_,k3.get hk⟩,by refine (length_map _).symm▸?_;exact a5 (.v 0) (.v 1) [(1,.v 0,(.m 4 (.n 4))),(1,.n 4096,.v 1)] rfl hlp (le_of_eq h4.symm),?_⟩;refine add_list (al (k3.get hk)) (ag _ _) (by (refine (length_append).symm▸?_;refine (length_map _).symm▸?_;refine (length_map _).symm▸?_);exact aZ (.a (.v 0) (.v 1)) (.v 2) [(1,.v 0,.n 4),(1,.v 1,(.m 4 (.n 4))),(1,.n 4096,.v 2)] rfl p2 hlp (le_of_eq h4.symm)) ?_;have hn:=ag (σ3++[(PO.list (au .two (p.flatMap λq=>(p.filter λr=>q % 2==r / 2).map λr=>2 * (q / 2)+r % 2)),0)]) (PO.list (au .two p++au .two (p.flatMap λq=>(p.filter λr=>q % 2==r / 2).map λr=>2 * (q / 2)+r % 2)),0);rw [<- map_append] at hn ⊢;refine ch (u:=.two) (λc hc=>?_) (by refine (length_append).symm▸?_;exact aZ (.a (.v 0) (.v 1)) (.v 2) [(1,.v 0,.n 4),(1,.v 1,(.m 4 (.n 4))),(1,.n 4096,.v 2)] rfl p2 hlp (le_of_eq h4.symm)) hn ⟨⟨_,0,rfl,ag _ _⟩,((k3.push _).push _).push _⟩;rcases mem_append.mp hc with hc | hc
  ·exact p1 c hc
  ·obtain ⟨q,hq,hc⟩:=mem_flatMap.mp hc;obtain ⟨r,_,rfl⟩:=mem_map.mp hc;have:=p1 q hq;refine (?_:_ < 4);exact jk (lK this) (sL _)
theorem fK:∀ (l acc:List (Str×D)),((acc++l).map (·.1)).Nodup->b8 (l.map λp => .tup [.str p.1,p.2]) (.dS acc)=some (.dS (acc++l)):=λl=>by
 induction l using List.rec with
 | nil =>
  rintro acc _;exact (append_nil _).symm▸rfl
 | cons pp r ih =>
  obtain ⟨k,v⟩:=pp;rintro acc h;refine (?_:(lG (.dS acc) (.str k) v).bind (b8 (r.map λp => .tup [.str p.1,p.2]))=_);have hk:put k v acc=acc++[(k,v)]:=by
   unfold put;rw [if_neg];intro q;obtain ⟨p,hp,he⟩:=any_eq_true.mp q;rw [map_append,nodup_append] at h;exact h.2.2 p.1 (mem_map.mpr ⟨p,hp,rfl⟩) k (by simp) (of_decide_eq_true he)
  have e:lG (.dS acc) (.str k) v=some (.dS (acc++[(k,v)])):=by
   refine (?_:some (PO.dS (put k v acc))=_);exact hk.symm▸rfl
  refine e.symm▸?_;have:=ih (acc++[(k,v)]) (by refine (append_assoc _ _ _).symm▸?_;exact h);replace this:=(append_assoc _ _ _)▸this;exact this
theorem qc (a b:List D):∀ (o:PO),b8 (a++b) o=(b8 a o).bind (b8 b):=by
 induction a with
 | nil=>intro o;rfl
 | cons x r ih =>
  intro o;induction x using D.casesOn with
  | tup l =>
   induction l using iD with
   | h2 k v =>
    refine (?_:(lG o k v).bind (b8 (r++b))=((lG o k v).bind (b8 r)).bind (b8 b));cases lG o k v with
    | none=>rfl
    | some o'=>exact ih o'
   | _=>rfl
  | _=>rfl
theorem qP {l:List (Str×D)}(h:XY l)(b:Bool)(v:D):b8 ((l.map λp=>D.tup [.str p.1,p.2])++[.tup [.str (nm b),v]]) (.dS [])=some (.dS (put (nm b) v l)):=by
 rw [qc,fK l [] h.1];rfl
section
variable {h0 h1:List Nat}{n:Nat}
theorem wb {src:Src}{body:D->Loc->PM (Fl×Loc)}{N:Loc->Sto->Prop}{R:D->Sto->Prop}(I:List Tri->(Bool->Bool)->Loc->Sto->Prop)(hs:∀ es g ρ σ,I es g ρ σ->src.Fix σ)(hE:∀ es g ρ σ,I es g ρ σ->∀ t∈es,∀ b,t.2.1 b∈aK 2)
  (step:∀ b a es g ρ σ,WP h0 h1 n a .set g->(∀ E:En,(∀ b,E b∈aK 2)->a.den h0 h1 E∈aK 2)->es.length<=1024->(∀ t∈es,t.1.length<=1999)->I es g ρ σ ->
   Ex (body (.tup [.str (nm b),a.d]) ρ) σ (λρ' σ'=>∃ es':List Tri,es'.map d8=(es.map d8).flatMap (dg h0 h1 b a)/\I es' (cj g b) ρ' σ') R) :
  ∀ (ds:Ds) (es:List Tri) (g:Bool->Bool) (ρ:Loc) (σ:Sto),WPs h0 h1 n ds g->es.length * 2 ^ ds.len<=1024->(∀ t∈es,t.1.length+ds.len<=1999)->I es g ρ σ ->
   (∀ (es':List Tri) ρ' σ',es'.map d8=ds.opens h0 h1 (es.map d8)->I es' (ds.gs g) ρ' σ'->N ρ' σ')->Ex (d3 src body ds.d ρ) σ N R:=λds=>by
 induction ds using Ds.ind with
 | h0=>exact λes g ρ σ _ _ _ h hN=>iW (hs _ _ _ _ h) (hN es _ _ rfl h)
 | h1 b a r ih =>
  intro es g ρ σ H hm hl h hN;have hm':es.length * 2 ^ (r.len+1)<=1024:=hm;have hl':∀ t∈es,t.1.length+(r.len+1)<=1999:=hl;have h2:1<=2 ^ (r.len+1):=Nat.one_le_two_pow;refine ip (hs _ _ _ _ h) (Ex.mono (step b a es g ρ σ H.1 H.2.1 (le_trans (Nat.le_mul_of_pos_right _ h2) hm') (λt ht=>by have:=hl' t ht;exact a5 (.v 0) (.n 1999) [(1,(.a (.v 0) (.a (.v 1) (.n 1))),.n 1999)] rfl this) h) (λρ1 σ1 h1=>?_) λ_ _ q=>q);obtain ⟨es',hq⟩:=h1;have e1:=hq.1;have I1:=hq.2;have hlen:es'.length<=2 * es.length:=by
   have:=eW (b:=b) H.2.1 (es.map d8) (λp hp=>by
    obtain ⟨t,ht,rfl⟩:=mem_map.mp hp;exact hE _ _ _ _ h t ht)
   rw [<- e1,length_map,length_map] at this;exact this
  refine ih es' (cj g b) ρ1 σ1 H.2.2 ?_ ?_ I1 λes2 ρ2 σ2 e3 I2=>hN es2 ρ2 σ2 ?_ I2
  ·rw [Nat.pow_succ] at hm';exact le_trans (mul_le_mul_right _ hlen) (by rw [mul_comm 2 es.length,mul_assoc,mul_comm 2];exact hm')
  ·intro t ht;have:d8 t∈(es.map d8).flatMap (dg h0 h1 b a):=by exact e1▸(mem_map.mpr ⟨t,ht,rfl⟩)
   obtain ⟨p,hq⟩:=mem_flatMap.mp this;have hp:=hq.1;have ht2:=hq.2;obtain ⟨s,hs',rfl⟩:=mem_map.mp hp;obtain ⟨c,hq⟩:=mem_map.mp ht2;have hc2:=hq.2;have h3:=hl' s hs';have h4:t.1=s.1++[c]:=(congrArg Prod.fst hc2).symm;rw [h4,length_append];simp only [length_cons,length_nil];exact a5 (.a (.a (.v 0) (.a (.n 0) (.n 1))) (.v 1)) (.n 1999) [(1,(.a (.v 0) (.a (.v 1) (.n 1))),.n 1999)] rfl h3
  ·rw [e3,e1];rfl
end
noncomputable def lCh (hr s:Nat)(dd:D)(f o1 o2 o3 o4 o5 o6:Option D):Loc:=[("names",some dd),("here",some (.ref hr)),("scope",some (.ref s)),("found",f),("sign",o1),("some",o2),("late",o3),("atoms",o4),("around",o5),("one",o6)]
noncomputable def a7 (l:List (Str×D)):List D:=l.map λp => .tup [.str p.1,p.2]
inductive A6 (kl:Nat)(σ:Sto)(l:List (Str×D))(E:En)(q:Bool):Prop
 | intro (k vk:Nat) (ne:k≠kl) (e:l.lookup (nm q)=some (.ref k)) (h:σ[k]? = some (.list (au .one (E q)),vk)):A6 kl σ l E q
inductive ChL (kl:Nat)(σ:Sto)(u:Tri)(g:Bool->Bool):Prop
 | intro (l:List (Str×D)) (v:Nat) (h:σ[u.2.2]? = some (.dS l,v)) (xy:XY l) (lk:∀ q,g q=true->A6 kl σ l u.2.1 q):ChL kl σ u g
inductive ChG (kl:Nat)(σ:Sto)(u:Tri)(g:Bool->Bool):Prop
 | intro (ne:u.2.2≠kl) (l:ChL kl σ u g) (mem:∀ q,u.2.1 q∈aK 2):ChG kl σ u g
theorem ChG.kp {kl:Nat}{σ σ':Sto}{u:Tri}{g:Bool->Bool}(h:ChG kl σ u g)(k:av (· = kl) σ σ'):ChG kl σ' u g:=by
 obtain ⟨a,⟨l,v,b,c,d⟩,e⟩:=h;exact ⟨a,⟨l,v,k.2 _ _ a b,c,λq hq=>let ⟨i,w,x,y,z⟩:=d q hq;⟨i,w,x,y,k.2 _ _ x z⟩⟩,e⟩
theorem ChG.sc {kl:Nat}{σ:Sto}{u:Tri}{g:Bool->Bool}(h:ChG kl σ u g):ScE σ u.2.2 u.2.1 g:=by
 obtain ⟨a,⟨l,v,b,c,d⟩,e⟩:=h;exact ⟨e,l,v,b,c,λq hq=>let ⟨i,w,_,y,z⟩:=d q hq;⟨i,w,y,z⟩⟩
theorem qr {ts:List Tri}{cs:List Nat}(h:ts.map itD=au .one cs):cs=[]:=by
 induction cs using List.casesOn with
 | nil=>rfl
 | cons c r =>
  induction ts using List.casesOn with
  | nil=>cases h
  | cons t r' =>
   rw [map_cons] at h;have:=(List.cons.inj h).1;have h2:=D.tup.inj this;cases h2
section
variable (h0 h1:List Nat)(hr s:Nat)
inductive ChA (ds:Ds)(E:En)(g:Bool->Bool)(σ:Sto)(r:D)(σ':Sto):Prop
 | intro (k v:Nat) (es:List Tri) (e:r = .ref k) (h:σ'[k]? = some (.list (es.map itD),v)) (em:es.map d8=ds.opens h0 h1 [([],E)]) (en:∀ t∈es,ScE σ' t.2.2 t.2.1 (ds.gs g)) (kk:av NoW σ σ'):ChA ds E g σ r σ'
inductive Br (dd:D)(es:List Tri)(ρ':Loc)(σ':Sto):Prop
 | intro (kf v:Nat) (o1 o2 o3 o4 o5 o6:Option D) (hρ:ρ'=lCh hr s dd (some (.ref kf)) o1 o2 o3 o4 o5 o6) (h:σ'[kf]? = some (.list (es.map itD),v)):Br dd es ρ' σ'
inductive ChI (dd:D)(σ:Sto)(es:List Tri)(g':Bool->Bool)(ρ':Loc)(σ':Sto):Prop
 | intro (l:Br hr s dd es ρ' σ') (k:av NoW σ σ') (en:∀ t∈es,ScE σ' t.2.2 t.2.1 g'):ChI dd σ es g' ρ' σ'
theorem ChI.en {hr s:Nat}{dd:D}{σ:Sto}{es:List Tri}{g':Bool->Bool}{ρ':Loc}{σ':Sto}(h:ChI hr s dd σ es g' ρ' σ'):∀ t∈es,ScE σ' t.2.2 t.2.1 g':=by cases h;assumption
inductive Bb (dd:D)(kf:Nat)(b:Bool)(a:D)(kl:Nat)(ρ2:Loc):Prop
 | intro (p4 p5 p6:Option D) (h:ρ2=lCh hr s dd (some (.ref kf)) (some (.str (nm b))) (some a) (some (.ref kl)) p4 p5 p6):Bb dd kf b a kl ρ2
inductive ChT (σ0:Nat)(b:Bool)(g':Bool->Bool)(pre:List Tri)(l:List (List Nat×En))(σ2:Sto):Prop
 | intro (ts:List Tri) (e:ts.map d8=l) (at_:∃ v2,σ2[σ0]? = some (.list ((pre++ts).map itD),v2)) (en:∀ u∈ts,ChG σ0 σ2 u (cj g' b)):ChT σ0 b g' pre l σ2
inductive y7 (dd:D)(kf:Nat)(b:Bool)(a:N)(g':Bool->Bool)(σ':Sto)(acc:List Tri)(ρ2:Loc)(σ2:Sto):Prop
 | intro (l:Bb hr s dd kf b a.d σ'.length ρ2) (k:av (· = σ'.length) (σ'++[(PO.list [],0)]) σ2) (t:ChT σ'.length b g' [] ((acc.map d8).flatMap (dg h0 h1 b a)) σ2):y7 dd kf b a g' σ' acc ρ2 σ2
theorem y7.k {h0 h1:List Nat}{hr s:Nat}{dd:D}{kf:Nat}{b:Bool}{a:N}{g':Bool->Bool}{σ':Sto}{acc:List Tri}{ρ2:Loc}{σ2:Sto}(h:y7 h0 h1 hr s dd kf b a g' σ' acc ρ2 σ2):av (· = σ'.length) (σ'++[(PO.list [],0)]) σ2:=by cases h;assumption
inductive Bx (dd:D)(kf:Nat)(b:Bool)(a:D)(kl:Nat)(t:Tri)(ρ4:Loc):Prop
 | intro (p6:Option D) (h:ρ4=lCh hr s dd (some (.ref kf)) (some (.str (nm b))) (some a) (some (.ref kl)) (some (.tup (t.1.map λ(c:Nat)=>D.int c))) (some (.ref t.2.2)) p6):Bx dd kf b a kl t ρ4
inductive zV (dd:D)(kf:Nat)(b:Bool)(a:D)(g':Bool->Bool)(kl:Nat)(t:Tri)(ts:List Tri)(σ4:Sto)(acc3:List Nat)(ρ4:Loc)(σ5:Sto):Prop
 | intro (l:Bx hr s dd kf b a kl t ρ4) (k:av (· = kl) σ4 σ5) (ot:ChT kl b g' ts (acc3.map (λc=>(t.1++[c],t.2.1.set b [c]))) σ5):zV dd kf b a g' kl t ts σ4 acc3 ρ4 σ5
theorem zV.k {hr s:Nat}{dd:D}{kf:Nat}{b:Bool}{a:D}{g':Bool->Bool}{kl:Nat}{t:Tri}{ts:List Tri}{σ4:Sto}{acc3:List Nat}{ρ4:Loc}{σ5:Sto}(h:zV hr s dd kf b a g' kl t ts σ4 acc3 ρ4 σ5):av (· = kl) σ4 σ5:=by cases h;assumption
end
theorem kP {h0 h1:List Nat}{n:Nat}(ds:Ds)(g:Bool->Bool)(H:WPs h0 h1 n ds g)(hl:ds.len<=3){σ:Sto}{hr s:Nat}{E:En}(hH:du σ hr h0 h1)(hE:ScE σ s E g) :
  Ok (aL (n+1) "_law_chosen" [.tup ds.d,.ref hr,.ref s]) σ (ChA h0 h1 ds E g σ):=by
 refine ao rfl mE (ax (ρ:=lCh hr s (.tup ds.d) none none none none none none none) rfl ?_);refine ab (aA (by kernel_rfl) (bw (ae (aI (ae (aa (d:=.tup []) rfl (ae (aa (d:=.ref s) rfl (aq ⟨le_of_ble_eq_true rfl,aq ⟨le_of_ble_eq_true rfl,?_⟩⟩)))))))));refine ab (fi (bm (s:=.tup ds.d) rfl ?_));have kf0:av NoW σ (σ++[(PO.list [.tup [.tup [],.ref s]],0)]):=(av.refl _ _).push _;have hpow:(2:Nat) ^ ds.len<=2 ^ 3:=Nat.pow_le_pow_right (by decide) hl;refine wb (src:=.tup ds.d) (h0:=h0) (h1:=h1) (n:=n) (ChI hr s (.tup ds.d) σ)
  (λ_ _ _ _ _=>trivial) (λes g' ρ' σ' h t ht=>(h.en t ht).mem) ?_ ds [([],E,s)] g _ _ H (by simp;exact bh (.v 0) (.n 1024) [(1,.v 0,.n 8)] rfl hpow) (by intro t ht;rw [mem_singleton] at ht;subst ht;simp;exact bh (.v 0) (.n 1999) [(1,.v 0,.n 3)] rfl hl)
  ⟨⟨σ.length,0,none,none,none,none,none,none,by kernel_rfl,ag _ _⟩,kf0,λt ht=>by rw [mem_singleton] at ht;subst ht;exact hE.kp kf0⟩ ?_
 rotate_left
 ·rintro es' ρ' σ' e1 ⟨⟨kf,v,o1,o2,o3,o4,o5,o6,rfl,hkf⟩,k0,hEs⟩;exact ab (aB (aa (d:=.ref kf) rfl ⟨kf,v,es',rfl,hkf,e1,hEs,k0⟩))
 rintro b a es g' ρ' σ' HS Hd hlen htl ⟨⟨kf,v,o1,o2,o3,o4,o5,o6,rfl,hkf⟩,k0,hEs⟩;refine cE (ρ':=lCh hr s (.tup ds.d) (some (.ref kf)) (some (.str (nm b))) (some a.d) o3 o4 o5 o6) rfl ?_;refine ab (aA rfl (bw (aq ⟨zero_le _,?_⟩)));refine ab (fi (bV rfl (aa (d:=.ref kf) rfl (aN (al hkf) ?_))));have hkl:kf < σ'.length:=aH hkf;have old:∀ {σ2:Sto} {k:Nat} {p:PO×Nat},av (· = σ'.length) (σ'++[(PO.list [],0)]) σ2->σ'[k]? = some p->σ2[k]? = some p:=λk2 e=>k2.2 _ _ (λq=>by have:=aH e;exact not_succ_le_zero 0 (lin [_,_] 0 (.n 1) (.n 0) [(1,.v 0,.v 1),(1,(.a (.v 1) (.n 1)),.v 0)] rfl (le_of_eq q.symm) this)) (al e);have toK:∀ {σ2:Sto},av (· = σ'.length) (σ'++[(PO.list [],0)]) σ2->av NoW σ' σ2:=λk2=>⟨by have:=k2.1;replace this:=(length_append)▸this;exact aZ (.v 0) (.v 1) [(1,(.a (.v 0) (.v 2)),.v 1)] rfl this,λa q _ e=>old k2 e⟩;refine cY (src:=.at kf v (es.map itD)) itD (y7 h0 h1 hr s (.tup ds.d) kf b a g' σ')
  (λacc ρ2 σ2 h=>⟨_,old h.k hkf⟩) es ?_ ?_ es [] _ _ rfl
  ⟨⟨o4,o5,o6,by kernel_rfl⟩,av.refl _ _,[],rfl,⟨0,ag _ _⟩,λu hu=>by cases hu⟩
 ·
  rintro t acc r ρ2 σ2 hsplit ⟨⟨p4,p5,p6,rfl⟩,k2,ts,hts,⟨v2,hl2⟩,hE2⟩;have ht:t∈es:=by refine hsplit▸?_;simp
  have hacc:acc.length+1<=es.length:=by
   have:=congrArg List.length hsplit;(replace this:=(length_append)▸this;replace this:=(length_cons)▸this);exact aZ (.a (.v 0) (.n 1)) (.v 1) [(1,(.a (.v 0) (.a (.v 2) (.n 1))),.v 1)] rfl (le_of_eq this)
  have Et:ScE σ2 t.2.2 t.2.1 g':=(hEs t ht).kp (toK k2);have Ht:du σ2 hr h0 h1:=(hH.kp k0).kp (toK k2);refine cE (ρ':=lCh hr s (.tup ds.d) (some (.ref kf)) (some (.str (nm b))) (some a.d) (some (.ref σ'.length)) (some (.tup (t.1.map λ(c:Nat)=>D.int c))) (some (.ref t.2.2)) p6) rfl ?_;refine ab (fi (bV rfl (am rfl (by kernel_rfl) (ah (ds:=[a.d,.ref hr,.ref t.2.2]) rfl ?_))));refine (HS σ2 hr t.2.2 t.2.1 Ht Et).mono λrr σ4 h3=>?_;obtain ⟨⟨kw,vw,rfl,hkw⟩,k24⟩:=h3;have hcs:=Hd t.2.1 (hEs t ht).mem;change σ4[kw]? = some (.list (au .one (a.den h0 h1 t.2.1)),vw) at hkw;generalize hcsd:a.den h0 h1 t.2.1=cs at hcs hkw;obtain ⟨hclt,hclen⟩:=ba hcs;refine aN hkw ?_;have hl4:σ4[σ'.length]? = some (.list (ts.map itD),v2):=k24.get hl2;obtain ⟨Esub,le,ve,hle,hxy,hlk⟩:=hEs t ht;have hle4:σ4[t.2.2]? = some (.dS le,ve):=k24.get (old k2 hle);have htl2:=aH hle;have hlk4:∀ q,g' q=true->∃ k vk,k≠σ'.length/\le.lookup (nm q)=some (.ref k)/\σ4[k]? = some (.list (au .one (t.2.1 q)),vk):=λq hq=>by
   obtain ⟨k,vk,x,y⟩:=hlk q hq;exact ⟨k,vk,by have:=aH y;exact ne_of_lt (a5 (.a (.v 0) (.n 1)) (.v 1) [(1,(.a (.v 0) (.n 1)),.v 1)] rfl this),x,k24.get (old k2 y)⟩
  have hE4:∀ u∈ts,ChG σ'.length σ4 u (cj g' b):=λu hu=>(hE2 u hu).kp k24.weak;have hts2:=eW (b:=b) Hd (acc.map d8) (λp hp=>by
   obtain ⟨t',ht',rfl⟩:=mem_map.mp hp;exact (hEs t' (hsplit▸(List.mem_append_left _ ht'))).mem)
  have hts3:=congrArg List.length hts;rw [length_map] at hts2 hts3;have fin:∀ (σ5:Sto) (p6:Option D) (ts3:List Tri),av (· = σ'.length) σ4 σ5->ts3.map d8=cs.map (λc=>(t.1++[c],t.2.1.set b [c]))->(∃ v3,σ5[σ'.length]? = some (.list ((ts++ts3).map itD),v3))->(∀ u∈ts3,ChG σ'.length σ5 u (cj g' b)) ->
    y7 h0 h1 hr s (.tup ds.d) kf b a g' σ' (acc++[t]) (lCh hr s (.tup ds.d) (some (.ref kf)) (some (.str (nm b))) (some a.d) (some (.ref σ'.length)) (some (.tup (t.1.map λ(c:Nat)=>D.int c))) (some (.ref t.2.2)) p6) σ5:=λσ5 p6 ts3 k5 e3 hv hg=>by
   refine ⟨⟨_,_,_,rfl⟩,(k2.trans k24.weak).trans k5,ts++ts3,?_,hv,λu hu=>?_⟩
   ·(refine (map_append).symm▸?_;refine hts.symm▸?_;refine e3.symm▸?_;refine (map_append).symm▸?_;refine (List.flatMap_append).symm▸?_);congr 1;refine (?_:_=(dg h0 h1 b a (d8 t))++[]);refine (append_nil _).symm▸?_;exact hcsd.symm▸rfl
   ·rcases mem_append.mp hu with hu | hu
    ·exact (hE4 u hu).kp k5
    ·exact hg u hu
  by_cases hq:kw=σ'.length
  ·subst hq;have hkw':=hkw;replace hkw:=hl4▸hkw;have h0':cs=[]:=qr (PO.list.inj (Prod.mk.inj (Option.some.inj hkw)).1);subst h0';exact iW ⟨_,hkw'⟩ (a9 (fin σ4 p6 [] (av.refl _ _) rfl ⟨v2,by refine (append_nil _).symm▸?_;exact hl4⟩ (λu hu=>by cases hu)))
  refine cY (src:=.at kw vw (au .one cs)) (dec .one) (zV hr s (.tup ds.d) kf b a.d g' σ'.length t ts σ4)
   (λacc3 ρ4 σ5 h=>⟨_,h.k.2 _ _ hq hkw⟩) cs ?_ ?_ cs [] _ _ rfl ⟨⟨p6,rfl⟩,av.refl _ _,[],rfl,⟨v2,by refine (append_nil _).symm▸?_;exact hl4⟩,λu hu=>by cases hu⟩
  ·
   rintro c acc3 r3 ρ4 σ5 hs3 ⟨⟨p6',rfl⟩,k5,ts3,hts4,⟨v3,hl3⟩,hE3⟩;have hc2:c < 2:=hclt c (by refine hs3▸?_;simp);have hle5:σ5[t.2.2]? = some (.dS le,ve):=k5.2 _ _ (λq=>not_succ_le_zero 0 (lin [_,_] 0 (.n 1) (.n 0) [(1,(.a (.v 0) (.n 1)),.v 1),(1,.v 1,.v 0)] rfl htl2 (le_of_eq q.symm))) hle4;have hgrow:σ'.length < σ5.length:=aH hl3;refine cE (ρ':=lCh hr s (.tup ds.d) (some (.ref kf)) (some (.str (nm b))) (some a.d) (some (.ref σ'.length)) (some (.tup (t.1.map λ(c:Nat)=>D.int c))) (some (.ref t.2.2)) (some (dec .one c))) rfl ?_;refine ab (im rfl (dM rfl (aa (d:=.ref σ'.length) rfl ⟨_,_,_,rfl,hl3,?_⟩)));refine aI (ae (bB (aa (d:=.tup (t.1.map λ(c:Nat)=>D.int c)) rfl (aa (d:=.tup [.int c]) rfl (iw ?_ ?_)))))
   ·have:=htl t ht;(refine (length_append).symm▸?_;refine (length_map _).symm▸?_);have h4:aQ=4096:=rfl;simp;exact a5 (.a (.v 0) (.n 1)) (.v 1) [(1,.v 0,.n 1999),(1,.n 4096,.v 1)] rfl this (le_of_eq h4.symm)
   refine ae (bM rfl rfl (bB (wf rfl rfl (aa (d:=.ref t.2.2) rfl ⟨_,_,_,rfl,hle5,le_trans hxy.len (by decide),?_⟩))));refine bw (ae (aI (ae (aa (d:=.str (nm b)) rfl (ae (bw (ae (aa (d:=dec .one c) rfl (aq ⟨le_of_ble_eq_true rfl,aq ⟨le_of_ble_eq_true rfl,aq ⟨le_of_ble_eq_true rfl,?_⟩⟩⟩)))))))));have hk2:(σ5++[(PO.list (a7 le),0)]).length=σ5.length+1:=by simp
   rw [show (le.map λ(p:Str×D)=>D.tup [.str p.1,p.2])=a7 le from rfl,hk2];generalize hA:D.tup [.str (nm b),.ref (σ5.length+1)]=A;have s1:((σ5++[(PO.list (a7 le),0)])++[(PO.list [dec .one c],0)])[σ5.length+1]? = some (.list [dec .one c],0):=hk2▸(ag _ _);have s2:=al (q:=(PO.list [A],0)) s1;have g0:=al (q:=(PO.list [A],0)) (al (q:=(PO.list [dec .one c],0)) (ag σ5 (PO.list (a7 le),0)));have g1:=ag ((σ5++[(PO.list (a7 le),0)])++[(PO.list [dec .one c],0)]) (PO.list [A],0);refine add_list g0 g1 (by rw [length_append,show (a7 le).length=le.length from length_map _];have:=hxy.len;have h4:aQ=4096:=rfl;simp;exact a5 (.a (.v 0) (.n 1)) (.v 1) [(1,.v 0,.n 2),(1,.n 4096,.v 1)] rfl this (le_of_eq h4.symm)) ?_;have kk:av NoW σ5 (((σ5++[(PO.list (a7 le),0)])++[(PO.list [dec .one c],0)])++[(PO.list [A],0)]):=(((av.refl _ _).push _).push _).push _;generalize (((σ5++[(PO.list (a7 le),0)])++[(PO.list [dec .one c],0)])++[(PO.list [A],0)])=σ6 at kk s2 ⊢;refine dQ (ag _ _) (by rw [length_append,show (a7 le).length=le.length from length_map _];have:=hxy.len;have h4:aQ=4096:=rfl;simp;exact a5 (.a (.v 0) (.n 1)) (.v 1) [(1,.v 0,.n 2),(1,.n 4096,.v 1)] rfl this (le_of_eq h4.symm)) (hA▸(qP hxy b (.ref (σ5.length+1)))) ?_;have k7:av NoW σ5 ((σ6++[(PO.list ((a7 le)++[A]),0)])++[(PO.dS (put (nm b) (.ref (σ5.length+1)) le),0)]):=(kk.push _).push _;have hn7:=ag (σ6++[(PO.list ((a7 le)++[A]),0)]) (PO.dS (put (nm b) (.ref (σ5.length+1)) le),0);have s3:=al (q:=(PO.dS (put (nm b) (.ref (σ5.length+1)) le),0)) (al (q:=(PO.list ((a7 le)++[A]),0)) s2);generalize hkn:(σ6++[(PO.list ((a7 le)++[A]),0)]).length=kn at hn7 ⊢;have hkn2:σ5.length<=kn:=by (refine hkn▸?_;refine (length_append).symm▸?_);have:=kk.1;exact aZ (.v 0) (.a (.v 1) (.v 2)) [(1,.v 0,.v 1)] rfl this
   generalize ((σ6++[(PO.list ((a7 le)++[A]),0)])++[(PO.dS (put (nm b) (.ref (σ5.length+1)) le),0)])=σ7 at k7 hn7 s3 ⊢;refine aq ⟨le_of_ble_eq_true rfl,_,v3,k7.get hl3,?_,a9 ?_⟩
   ·have e2:=congrArg List.length hts4;have e4:=congrArg List.length hs3;(replace e4:=(length_append)▸e4;replace e4:=(length_cons)▸e4);(replace e2:=(length_map _)▸e2;replace e2:=(length_map _)▸e2);(refine (length_map _).symm▸?_;refine (length_append).symm▸?_);have h4:aQ=4096:=rfl;exact lin [_,_,_,_,_,_,_,_,_] 1 (.a (.v 0) (.v 1)) (.v 2) [(2,.v 3,.n 1024),(2,(.a (.v 4) (.n 1)),.v 3),(1,.v 5,.n 2),(1,.v 6,(.m 2 (.v 4))),(1,.v 0,.v 6),(1,(.a (.v 7) (.a (.v 8) (.n 1))),.v 5),(1,.v 1,.v 7),(1,.n 4096,.v 2)] rfl hlen hacc hclen hts2 (le_of_eq hts3) (le_of_eq e4) (le_of_eq e2) (le_of_eq h4.symm)
   have hnew:ChG σ'.length σ7 (t.1++[c],t.2.1.set b [c],kn) (cj g' b):=by
    refine ⟨λ(q:kn=σ'.length)=>not_succ_le_zero 0 (lin [_,_,_] 0 (.n 1) (.n 0) [(1,(.a (.v 0) (.n 1)),.v 1),(1,.v 1,.v 2),(1,.v 2,.v 0)] rfl hgrow hkn2 (le_of_eq q)),⟨_,_,hn7,hxy.put _ _,λq hq=>?_⟩,λq=>?_⟩
    ·refine (λ(h:∃ k vk,k≠σ'.length/\(put (nm b) (D.ref (σ5.length+1)) le).lookup (nm q)=some (.ref k)/\σ7[k]? = some (.list (au .one (En.set t.2.1 b [c] q)),vk))=>(by obtain ⟨k,vk,x,y,z⟩:=h;exact ⟨k,vk,x,y,z⟩)) ?_;refine (fQ _ _ _ _).symm▸?_;unfold En.set;by_cases hqb:q=b
     ·subst hqb;exact ⟨σ5.length+1,0,by exact ne_of_gt (a5 (.a (.v 0) (.n 1)) (.a (.v 1) (.n 1)) [(1,(.a (.v 0) (.n 1)),.v 1)] rfl hgrow),by rw [if_pos rfl],(if_pos rfl)▸s3⟩
     ·obtain ⟨k,vk,x,y,z⟩:=hlk4 q (by
       replace hq:=(or_eq_true _ _)▸hq;exact hq.elim id (λh=>absurd (beq_iff_eq.mp h) hqb))
      exact ⟨k,vk,x,by refine (if_neg (λh=>hqb (lr.mp h))).symm▸?_;exact y,by refine (if_neg hqb).symm▸?_;exact k7.get (k5.2 _ _ x z)⟩
    ·refine (?_:En.set t.2.1 b [c] q∈aK 2);unfold En.set;split
     ·exact gp hc2
     ·exact Esub q
   have k8:av (· = σ'.length) σ7 (σ7.set σ'.length (.list ((ts++ts3).map itD++[.tup [.tup (t.1.map (λ(c:Nat)=>D.int c)++[.int c]),.ref kn]]),v3+1)):=av.setW (W:=(· = σ'.length)) (av.refl _ _) (k:=σ'.length) rfl _;refine ⟨⟨_,rfl⟩,(k5.trans k7.weak).trans k8,ts3++[(t.1++[c],t.2.1.set b [c],kn)],?_,⟨v3+1,?_⟩,λu hu=>?_⟩
   ·(refine (map_append).symm▸?_;refine (map_append).symm▸?_;exact hts4.symm▸rfl)
   ·(refine (bN (k7.get hl3)).symm▸?_;refine (append_assoc _ _ _)▸?_;refine (map_append (l₁:=ts++ts3)).symm▸?_);have:[(t.1++[c],t.2.1.set b [c],kn)].map itD=[D.tup [.tup (t.1.map (λ(c:Nat)=>D.int c)++[.int c]),.ref kn]]:=by
     refine (?_:[itD (t.1++[c],t.2.1.set b [c],kn)]=_);unfold itD;exact map_append▸rfl
    exact this.symm▸rfl
   ·rcases mem_append.mp hu with hu | hu
    ·exact ((hE3 u hu).kp k7.weak).kp k8
    ·rw [mem_singleton] at hu;subst hu;exact hnew.kp k8
  ·
   rintro ρ4 σ5 ⟨⟨p6',rfl⟩,k5,ts3,hts4,hv3,hE3⟩;exact a9 (fin σ5 p6' ts3 k5 hts4 hv3 hE3)
 ·
  rintro ρ2 σ2 ⟨⟨p4,p5,p6,rfl⟩,k2,ts,hts,⟨v2,hl2⟩,hE2⟩;refine ab (aA (by kernel_rfl) (aa (d:=.ref σ'.length) rfl (a9 ⟨ts,hts,⟨σ'.length,v2,some (.str (nm b)),some a.d,some (.ref σ'.length),p4,p5,p6,by kernel_rfl,hl2⟩,k0.trans (toK k2),λu hu=>?_⟩)));exact (hE2 u hu).sc
noncomputable def lWo (x:D)(hr s:Nat)(o1 o2 o3:Option D):Loc:=[("node",some x),("here",some (.ref hr)),("scope",some (.ref s)),("op",o1),("rows",o2),("some",o3)]
section
variable {h0 h1:List Nat}{n:Nat}{g:Bool->Bool}
theorem AY (b:Bool)(hg:g b=true):WP h0 h1 (n+1) (.var b) .set g:=λσ hr s E hH hE=>by
 obtain ⟨_,l,v,he,_,hl⟩:=hE;obtain ⟨k,vk,h2,h3⟩:=hl b hg;refine ao rfl bf (ax (ρ:=lWo (N.var b).d hr s none none none) rfl ?_);refine bi "op" (.str "var") 1 (by kernel_rfl) (ab (aB (bu (aU (b:=true) (by kernel_rfl) (cC ?_)))));exact bz rfl (aa (d:=.ref s) rfl (aa (d:=.str (nm b)) rfl (bg he h2 ⟨⟨k,vk,rfl,h3⟩,av.refl _ _⟩)))
theorem zc:WP h0 h1 (n+1) .none .set g:=λσ hr s E hH hE=>by
 refine ao rfl bf (ax (ρ:=lWo N.none.d hr s none none none) rfl ?_);refine bi "op" (.str "none") 1 (by kernel_rfl) (ab (aB (bu (aU (b:=false) (by kernel_rfl) (cv ?_)))));exact bw (aq ⟨zero_le _,⟨_,0,rfl,ag _ _⟩,(av.refl _ _).push _⟩)
theorem yw (r:Bool):WP h0 h1 (n+1) (.rel r) (if r then .pair else .set) g:=λσ hr s E hH hE=>by
 obtain ⟨a,b,v,va,vb,e1,e2,e3⟩:=hH;refine ao rfl bf (ax (ρ:=lWo (N.rel r).d hr s none none none) rfl ?_);refine ab (aA rfl (aa (d:=.str "rel") rfl ?_));refine ab (fJ (aU (b:=true) (by kernel_rfl) (bv (ab (aB ?_)))));refine bz rfl (aa (d:=.ref hr) rfl ?_);induction r using Bool.casesOn with
 | false=>exact aa (d:=.int (0:Nat)) rfl (az e1 (r:=.ref a) rfl ⟨⟨a,va,rfl,e2⟩,av.refl _ _⟩)
 | true=>exact aa (d:=.int (1:Nat)) rfl (az e1 (r:=.ref b) rfl ⟨⟨b,vb,rfl,e3⟩,av.refl _ _⟩)
theorem w0 {o:U1}(ho:eu o=true){a:N}(H:WP h0 h1 (n+1) a .pair g)(hd:∀ E:En,(∀ b,E b∈aK 2)->a.den h0 h1 E∈aK 4):WP h0 h1 (n+1+1) (.un o a) .pair g:=λσ hr s E hH hE=>by
 have hden:(N.un o a).den h0 h1 E=vT o (a.den h0 h1 E):=by induction o using U1.casesOn <;> first | rfl | cases ho
 refine hden.symm▸?_;refine ao rfl bf (ax (ρ:=lWo (N.un o a).d hr s none none none) (by kernel_rfl) ?_);refine b6 "op" (.str o.s) 4 (by induction o using U1.casesOn <;> first | (cases ho;done) | kernel_rfl) ?_;refine ab (aA (by kernel_rfl) (aX (by kernel_rfl) (bm (s:=.tup [a.d]) (by kernel_rfl) ?_)));refine aW trivial (aY rfl (am (by kernel_rfl) (by kernel_rfl) (ah (ds:=[a.d,.ref hr,.ref s]) (by kernel_rfl) ?_)));refine (H σ hr s E hH hE).mono λr σ1 g1=>cg ⟨trivial,le_of_ble_eq_true rfl,?_⟩;obtain ⟨⟨k,v,rfl,hk⟩,k1⟩:=g1;have hp:=hd E hE.mem;generalize a.den h0 h1 E=p at hk hp;have hk2:=al (q:=(PO.list ([D.ref k]++[]),0)) hk;have hn2:=ag σ1 (PO.list ([D.ref k]++[]),0);have kk:av NoW σ (σ1++[(PO.list ([D.ref k]++[]),0)]):=k1.push _;generalize hks:σ1.length=ks at hn2;generalize (σ1++[(PO.list ([D.ref k]++[]),0)])=σ2 at hk2 hn2 kk;obtain ⟨p1,p2⟩:=ba hp;have h4:aQ=4096:=rfl;induction o using U1.casesOn with
 | turn =>
  refine fR 4 (by kernel_rfl) (ab (aB (bM (by kernel_rfl) (by kernel_rfl) ?_)));refine aX rfl (bV rfl (bz rfl (aa (d:=.ref ks) rfl (aa (d:=.int (0:Nat)) rfl (az hn2 (r:=.ref k) rfl (aN hk2 ?_))))));refine aG (σ0:=σ2) (src:=.at k v (au .two p)) (dec .two) (λq=>[dec .two (2 * (q % 2)+q / 2)]) ⟨_,hk2⟩ (av.refl _ _) (λq hq σ3 k3=>?_) λσ3 k3=>?_
  ·refine aY rfl (aa (d:=.tup [.int (q % 2:Nat),.int (q / 2:Nat)]) rfl ⟨?_,k3⟩);have:=p1 q hq;rw [qL _ _ (lK this)]
  ·refine (bF (λq=>dec .two (2 * (q % 2)+q / 2)) _).symm▸?_;have e1:(p.map λq=>dec .two (2 * (q % 2)+q / 2))=au .two (p.map λq=>2 * (q % 2)+q / 2):=by unfold au;exact (List.map_map).symm▸rfl
   refine e1.symm▸?_;refine ⟨⟨_,k3.get hk2⟩,by (refine (length_map _).symm▸?_;refine (length_map _).symm▸?_);exact a5 (.v 0) (.v 1) [(1,.v 0,.n 4),(1,.n 4096,.v 1)] rfl p2 (le_of_eq h4.symm),?_⟩;have hc:b9 "sorted" (.ref σ3.length)=(do mkList (<- pT (<- eS (.ref σ3.length)))):=by kernel_rfl
   refine (?_:Ok _ _ _);refine hc.symm▸?_;refine Ok.bind ?_;refine Ok.bind (Ok.getO (ag _ _) (Ok.ret (Ok.bind (i7 (u:=.two) ?_ ?_ ?_ (Ok.mkList ?_ ⟨⟨_,0,rfl,ag _ _⟩,((kk.trans k3).push _).push _⟩)))))
   ·refine (length_map _).symm▸?_;exact p2
   ·intro c hc;obtain ⟨q,hq,rfl⟩:=mem_map.mp hc;have:=p1 q hq;refine (?_:_ < 4);exact jk (sL q) (lK this)
   ·have:∀ p∈aK 4,(p.map λq=>2 * (q % 2)+q / 2).Nodup:=by decide +kernel
    exact this p hp
   ·refine (length_map _).symm▸?_;exact le_trans (length_filter_le _ _) (by decide)
 | closure =>
  refine fR 5 (by kernel_rfl) (ab (aB (cN (by kernel_rfl) (by kernel_rfl) (bB (am (by kernel_rfl) (by kernel_rfl) (ae ?_))))));refine bz (by kernel_rfl) (aa (d:=.ref ks) rfl (aa (d:=.int (0:Nat)) rfl (az hn2 (r:=.ref k) rfl (aq ?_))));refine (nP hp n hk2).mono λr σ3 g3=>?_;obtain ⟨⟨kq,vq,rfl,hkq⟩,k3⟩:=g3;refine bB (bw (ae (aa (d:=.tup [.int 0,.int 0]) rfl (ae (aa (d:=.tup [.int 1,.int 1]) rfl (aq ⟨le_of_ble_eq_true rfl,?_⟩))))));refine aa (d:=.int 0) (by kernel_rfl) ?_;refine Ok.bind (Ok.listAt (ag _ _) (Ok.bind (Ok.must (by kernel_rfl) (Ok.mkList (le_of_ble_eq_true rfl) ?_))));have hq3:=ba (s:=cL p) (dh _);refine add_list (a:=au .two (cL p)) (b:=au .two []) (al (al hkq)) (ag _ _) (by (refine (map_append)▸?_;refine (length_map _).symm▸?_;refine (length_append).symm▸?_);have:=hq3.2;simp;exact a5 (.v 0) (.v 1) [(1,.n 4096,.v 1),(1,.v 0,.n 4)] rfl (le_of_eq h4.symm) hq3.2) ?_;refine (map_append)▸?_;refine ch (u:=.two) (cs:=cL p++[]) (λc hc=>?_) (by refine (length_append).symm▸?_;have:=hq3.2;simp;exact a5 (.v 0) (.v 1) [(1,.n 4096,.v 1),(1,.v 0,.n 4)] rfl (le_of_eq h4.symm) hq3.2) (ag _ _) ⟨⟨_,0,rfl,?_⟩,((((kk.trans k3).push _).push _).push _).push _⟩
  ·rcases mem_append.mp hc with hc | hc
   ·exact hq3.1 c hc
   ·exact (show ∀ c∈([]:List Nat),c < 4 by decide) c hc
  ·(refine (append_nil _).symm▸?_;refine (wE (cL p) (dh _)).symm▸?_);exact ag _ _
 | star =>
  refine fR 5 (by kernel_rfl) (ab (aB (cN (by kernel_rfl) (by kernel_rfl) (bB (am (by kernel_rfl) (by kernel_rfl) (ae ?_))))));refine bz (by kernel_rfl) (aa (d:=.ref ks) rfl (aa (d:=.int (0:Nat)) rfl (az hn2 (r:=.ref k) rfl (aq ?_))));refine (nP hp n hk2).mono λr σ3 g3=>?_;obtain ⟨⟨kq,vq,rfl,hkq⟩,k3⟩:=g3;refine bB (bw (ae (aa (d:=.tup [.int 0,.int 0]) rfl (ae (aa (d:=.tup [.int 1,.int 1]) rfl (aq ⟨le_of_ble_eq_true rfl,?_⟩))))));refine aa (d:=.int 1) (by kernel_rfl) ?_;refine Ok.bind (Ok.listAt (ag _ _) (Ok.bind (Ok.must (by kernel_rfl) (Ok.mkList (le_of_ble_eq_true rfl) ?_))));have hq3:=ba (s:=cL p) (dh _);refine add_list (a:=au .two (cL p)) (b:=au .two [0,3]) (al (al hkq)) (ag _ _) (by (refine (map_append)▸?_;refine (length_map _).symm▸?_;refine (length_append).symm▸?_);have:=hq3.2;simp;exact a5 (.a (.v 0) (.n 2)) (.v 1) [(1,.n 4096,.v 1),(1,.v 0,.n 4)] rfl (le_of_eq h4.symm) hq3.2) ?_;refine (map_append)▸?_;refine ch (u:=.two) (cs:=cL p++[0,3]) (λc hc=>?_) (by refine (length_append).symm▸?_;have:=hq3.2;simp;exact a5 (.a (.v 0) (.n 2)) (.v 1) [(1,.n 4096,.v 1),(1,.v 0,.n 4)] rfl (le_of_eq h4.symm) hq3.2) (ag _ _) ⟨⟨_,0,rfl,?_⟩,((((kk.trans k3).push _).push _).push _).push _⟩
  ·rcases mem_append.mp hc with hc | hc
   ·exact hq3.1 c hc
   ·exact (show ∀ c∈([0,3]:List Nat),c < 4 by decide) c hc
  ·exact ag _ _
 | some=>cases ho
 | no=>cases ho
 | one=>cases ho
 | lone=>cases ho
theorem zL {a b:N}(H:WP h0 h1 n a .set g)(H2:WP h0 h1 n b .pair g)(hd:∀ E:En,(∀ b,E b∈aK 2)->a.den h0 h1 E∈aK 2)(hd2:∀ E:En,(∀ b,E b∈aK 2)->b.den h0 h1 E∈aK 4):WP h0 h1 (n+1) (.bin .join a b) .set g:=λσ hr s E hH hE=>by
 refine ao rfl bf (ax (ρ:=lWo (N.bin .join a b).d hr s none none none) rfl ?_);refine b6 "op" (.str "join") 4 (by kernel_rfl) ?_;refine ab (aA rfl (aX rfl (bm (s:=.tup [a.d,b.d]) rfl ?_)));refine aW trivial (aY rfl (am (by kernel_rfl) (by kernel_rfl) (ah (ds:=[a.d,.ref hr,.ref s]) rfl ?_)));refine (H σ hr s E hH hE).mono λr σ1 g1=>?_;obtain ⟨⟨k,v,rfl,hk⟩,k1⟩:=g1;refine aW trivial (aY rfl (am (by kernel_rfl) (by kernel_rfl) (ah (ds:=[b.d,.ref hr,.ref s]) rfl ?_)));refine (H2 σ1 hr s E (hH.kp k1) (hE.kp k1)).mono λr σ2 g2=>cg ⟨trivial,le_of_ble_eq_true rfl,?_⟩;obtain ⟨⟨k',v',rfl,hk'⟩,k2⟩:=g2;have hp:=hd E hE.mem;have hp2:=hd2 E hE.mem;have hdn:(N.bin .join a b).den h0 h1 E=sf (a.den h0 h1 E) (b.den h0 h1 E):=rfl;refine hdn.symm▸?_;generalize a.den h0 h1 E=p at hk hp;generalize b.den h0 h1 E=q at hk' hp2;have hk2:=al (q:=(PO.list ([D.ref k]++([D.ref k']++[])),0)) (k2.get hk);have hk3:=al (q:=(PO.list ([D.ref k]++([D.ref k']++[])),0)) hk';have hn2:=ag σ2 (PO.list ([D.ref k]++([D.ref k']++[])),0);have kk:av NoW σ (σ2++[(PO.list ([D.ref k]++([D.ref k']++[])),0)]):=(k1.trans k2).push _;generalize hks:σ2.length=ks at hn2;generalize (σ2++[(PO.list ([D.ref k]++([D.ref k']++[])),0)])=σ3 at hk2 hk3 hn2 kk;have hq:=ba hp;have p1:=hq.1;have p2:=hq.2;have hq:=ba hp2;have q1:=hq.1;have q2:=hq.2;have h4:aQ=4096:=rfl;refine fR 2 (by kernel_rfl) (ab (aB (cN rfl rfl ?_)));refine fA rfl (bV rfl (bz rfl (aa (d:=.ref ks) rfl (aa (d:=.int (0:Nat)) rfl (az hn2 (r:=.ref k) rfl (aN hk2 ?_))))));refine aG (σ0:=σ3) (src:=.at k v (au .one p)) (dec .one) (λc=>au .one ((q.filter λr=>c==r / 2).map λr=>r % 2)) ⟨_,hk2⟩ (av.refl _ _) (λc _ σ4 k4=>?_) λσ4 k4=>?_
 ·refine fG rfl (bV rfl (bz rfl (aa (d:=.ref ks) rfl (aa (d:=.int (1:Nat)) rfl (az (k4.get hn2) (r:=.ref k') rfl (aN (k4.get hk3) ?_))))));refine aG (σ0:=σ4) (src:=.at k' v' (au .two q)) (dec .two) (λr=>if c==r / 2 then [dec .one (r % 2)] else []) ⟨_,k4.get hk3⟩ (av.refl _ _) (λr _ σ5 k5=>?_) λσ5 k5=>⟨⟨_,k5.get (k4.get hk3)⟩,?_,k4.trans k5⟩
  ·refine ff rfl (cU (aU (b:=((c:Nat):Int)==((r / 2:Nat):Int)) rfl ⟨λhb=>?_,λhb=>?_⟩))
   ·replace hb:=(zU _ _)▸hb;exact aa (d:=.tup [.int (r % 2:Nat)]) rfl ⟨(if_pos hb).symm▸rfl,k5⟩
   ·replace hb:=(zU _ _)▸hb;exact ⟨by rw [if_neg (by refine hb.symm▸?_;decide)],k5⟩
  ·refine (cp (λr=>c==r / 2) (λr=>dec .one (r % 2)) _).symm▸?_;unfold au;rw [List.map_map];rfl
 ·have e1:(p.flatMap λc=>au .one ((q.filter λr=>c==r / 2).map λr=>r % 2))=au .one (p.flatMap λc=>(q.filter λr=>c==r / 2).map λr=>r % 2):=by
   exact (map_flatMap).symm▸rfl
  refine e1.symm▸?_;have hlen:∀ s:List Nat,(s.flatMap λc=>(q.filter λr=>c==r / 2).map λr=>r % 2).length<=s.length * q.length:=λs=>by
   induction s with
   | nil=>simp
   | cons c r ih =>
    (refine (List.flatMap_cons).symm▸?_;refine (length_append).symm▸?_;refine (length_map _).symm▸?_;refine (length_cons).symm▸?_;refine (succ_mul _ _).symm▸?_);have:=length_filter_le (λr=>c==r / 2) q;exact fW (.a (.v 0) (.v 1)) (.a (.v 2) (.v 3)) [(1,.v 1,.v 2),(1,.v 0,.v 3)] rfl ih this
  have hlp:=le_trans (hlen p) (mul_le_mul p2 q2);refine ⟨⟨_,k4.get hk2⟩,by refine (length_map _).symm▸?_;exact a5 (.v 0) (.v 1) [(1,.n 4096,.v 1),(1,.v 0,(.m 2 (.n 4)))] rfl (le_of_eq h4.symm) hlp,?_⟩;refine ch (u:=.one) (λc hc=>?_) (a5 (.v 0) (.v 1) [(1,.n 4096,.v 1),(1,.v 0,(.m 2 (.n 4)))] rfl (le_of_eq h4.symm) hlp) (ag _ _) ⟨⟨_,0,rfl,ag _ _⟩,((kk.trans k4).push _).push _⟩;obtain ⟨x,hq⟩:=mem_flatMap.mp hc;have hc:=hq.2;obtain ⟨r,_,rfl⟩:=mem_map.mp hc;refine (?_:_ < 2);exact sL _
theorem yP {a b:N}(H:WP h0 h1 n a .set g)(H2:WP h0 h1 n b .set g)(hd:∀ E:En,(∀ b,E b∈aK 2)->a.den h0 h1 E∈aK 2)(hd2:∀ E:En,(∀ b,E b∈aK 2)->b.den h0 h1 E∈aK 2):WP h0 h1 (n+1) (.bin .product a b) .pair g:=λσ hr s E hH hE=>by
 refine ao rfl bf (ax (ρ:=lWo (N.bin .product a b).d hr s none none none) rfl ?_);refine b6 "op" (.str "product") 4 (by kernel_rfl) ?_;refine ab (aA rfl (aX rfl (bm (s:=.tup [a.d,b.d]) rfl ?_)));refine aW trivial (aY rfl (am (by kernel_rfl) (by kernel_rfl) (ah (ds:=[a.d,.ref hr,.ref s]) rfl ?_)));refine (H σ hr s E hH hE).mono λr σ1 g1=>?_;obtain ⟨⟨k,v,rfl,hk⟩,k1⟩:=g1;refine aW trivial (aY rfl (am (by kernel_rfl) (by kernel_rfl) (ah (ds:=[b.d,.ref hr,.ref s]) rfl ?_)));refine (H2 σ1 hr s E (hH.kp k1) (hE.kp k1)).mono λr σ2 g2=>cg ⟨trivial,le_of_ble_eq_true rfl,?_⟩;obtain ⟨⟨k',v',rfl,hk'⟩,k2⟩:=g2;have hp:=hd E hE.mem;have hp2:=hd2 E hE.mem;have hdn:(N.bin .product a b).den h0 h1 E=f8 (a.den h0 h1 E) (b.den h0 h1 E):=rfl;refine hdn.symm▸?_;generalize a.den h0 h1 E=p at hk hp;generalize b.den h0 h1 E=q at hk' hp2;have hk2:=al (q:=(PO.list ([D.ref k]++([D.ref k']++[])),0)) (k2.get hk);have hk3:=al (q:=(PO.list ([D.ref k]++([D.ref k']++[])),0)) hk';have hn2:=ag σ2 (PO.list ([D.ref k]++([D.ref k']++[])),0);have kk:av NoW σ (σ2++[(PO.list ([D.ref k]++([D.ref k']++[])),0)]):=(k1.trans k2).push _;generalize hks:σ2.length=ks at hn2;generalize (σ2++[(PO.list ([D.ref k]++([D.ref k']++[])),0)])=σ3 at hk2 hk3 hn2 kk;have hq:=ba hp;have p1:=hq.1;have p2:=hq.2;have hq:=ba hp2;have q1:=hq.1;have q2:=hq.2;have h4:aQ=4096:=rfl;refine fR 3 (by kernel_rfl) (ab (aB ?_));refine fA rfl (bV rfl (bz rfl (aa (d:=.ref ks) rfl (aa (d:=.int (0:Nat)) rfl (az hn2 (r:=.ref k) rfl (aN hk2 ?_))))));refine aG (σ0:=σ3) (src:=.at k v (au .one p)) (dec .one) (λc=>au .two (q.map λd=>2 * c+d)) ⟨_,hk2⟩ (av.refl _ _) (λc _ σ4 k4=>?_) λσ4 k4=>?_
 ·refine fG rfl (bV rfl (bz rfl (aa (d:=.ref ks) rfl (aa (d:=.int (1:Nat)) rfl (az (k4.get hn2) (r:=.ref k') rfl (aN (k4.get hk3) ?_))))));refine aG (σ0:=σ4) (src:=.at k' v' (au .one q)) (dec .one) (λd=>[dec .two (2 * c+d)]) ⟨_,k4.get hk3⟩ (av.refl _ _) (λd hd' σ5 k5=>?_) λσ5 k5=>⟨⟨_,k5.get (k4.get hk3)⟩,?_,k4.trans k5⟩
  ·refine aY rfl (aa (d:=.tup [.int c,.int d]) rfl ⟨?_,k5⟩);exact (jP (q1 d hd')).symm▸rfl
  ·refine (bF (λd=>dec .two (2 * c+d)) _).symm▸?_;unfold au;rw [List.map_map];rfl
 ·have e1:(p.flatMap λc=>au .two (q.map λd=>2 * c+d))=au .two (f8 p q):=by
   exact (map_flatMap).symm▸rfl
  refine e1.symm▸?_;have hlp:(f8 p q).length<=4:=by refine (ng _ _).symm▸?_;exact mul_le_mul p2 q2
  exact ⟨⟨_,k4.get hk2⟩,by refine (length_map _).symm▸?_;exact a5 (.v 0) (.v 1) [(1,.n 4096,.v 1),(1,.v 0,.n 4)] rfl (le_of_eq h4.symm) hlp,⟨_,0,rfl,ag _ _⟩,(kk.trans k4).push _⟩
end
section
variable {h0 h1:List Nat}{n:Nat}{g:Bool->Bool}
theorem AG {a b:N}(H:WT h0 h1 n a g)(H2:WT h0 h1 n b g):WT h0 h1 (n+1) (.or a b) g:=λσ hr s E hH hE=>by
 refine ao rfl bf (ax (ρ:=lWo (N.or a b).d hr s none none none) rfl ?_);refine bi "op" (.str "or") 3 (by kernel_rfl) (ab (aB (bZ (aa (d:=.bool true) rfl (aX rfl (bm (s:=.tup [a.d,b.d]) rfl ?_))))));refine aW trivial (aY rfl (am (by kernel_rfl) (by kernel_rfl) (ah (ds:=[a.d,.ref hr,.ref s]) rfl ?_)));refine (H σ hr s E hH hE).mono λr σ1 g1=>?_;obtain ⟨rfl,k1⟩:=g1;refine aW trivial (aY rfl (am (by kernel_rfl) (by kernel_rfl) (ah (ds:=[b.d,.ref hr,.ref s]) rfl ?_)));refine (H2 σ1 hr s E (hH.kp k1) (hE.kp k1)).mono λr σ2 g2=>cg ⟨trivial,le_of_ble_eq_true rfl,?_⟩;obtain ⟨rfl,k2⟩:=g2;have ht:(N.or a b).tru h0 h1 E=(a.tru h0 h1 E || b.tru h0 h1 E):=rfl;refine ht.symm▸?_;generalize a.tru h0 h1 E=A;generalize b.tru h0 h1 E=B;refine Ok.bind ?_;refine Ok.bind (Ok.getO (ag _ _) ?_);refine Ok.run (a:=(A || B)) (σ':=σ2++[(PO.list [.bool A,.bool B],0)]) ?_ (Ok.ret ⟨rfl,(k1.trans k2).push _⟩);induction A using Bool.casesOn <;> induction B using Bool.casesOn <;> kernel_rfl
theorem zC {o:B2}(ho:o = .implies\/o = .iff){a b:N}(H:WT h0 h1 n a g)(H2:WT h0 h1 n b g):WT h0 h1 (n+1) (.bin o a b) g:=λσ hr s E hH hE=>by
 refine ao rfl bf (ax (ρ:=lWo (N.bin o a b).d hr s none none none) (by kernel_rfl) ?_);refine b6 "op" (.str o.s) 4 (by rcases ho with rfl | rfl <;> kernel_rfl) ?_;refine ab (aA rfl (aX rfl (bm (s:=.tup [a.d,b.d]) rfl ?_)));refine aW trivial (aY rfl (am (by kernel_rfl) (by kernel_rfl) (ah (ds:=[a.d,.ref hr,.ref s]) rfl ?_)));refine (H σ hr s E hH hE).mono λr σ1 g1=>?_;obtain ⟨rfl,k1⟩:=g1;refine aW trivial (aY rfl (am (by kernel_rfl) (by kernel_rfl) (ah (ds:=[b.d,.ref hr,.ref s]) rfl ?_)));refine (H2 σ1 hr s E (hH.kp k1) (hE.kp k1)).mono λr σ2 g2=>cg ⟨trivial,le_of_ble_eq_true rfl,?_⟩;obtain ⟨rfl,k2⟩:=g2;have ht:(N.bin o a b).tru h0 h1 E=if o.s=("iff" : Str) then a.tru h0 h1 E==b.tru h0 h1 E else !a.tru h0 h1 E || b.tru h0 h1 E:=by
  rcases ho with rfl | rfl
  ·rw [if_neg (by decide +kernel)];rfl
  ·exact (if_pos ((rfl:B2.iff.s=("iff" : Str))))▸rfl
 refine ht.symm▸?_;generalize a.tru h0 h1 E=A;generalize b.tru h0 h1 E=B;have hn:=ag σ2 (PO.list ([D.bool A]++([D.bool B]++[])),0);have kk:av NoW σ (σ2++[(PO.list ([D.bool A]++([D.bool B]++[])),0)]):=(k1.trans k2).push _;generalize hks:σ2.length=ks at hn;generalize (σ2++[(PO.list ([D.bool A]++([D.bool B]++[])),0)])=σ3 at hn kk;refine ab (fJ (aU (b:=true) (by rcases ho with rfl | rfl <;> kernel_rfl) (bv (ab (aB (bu ?_))))));rcases ho with rfl | rfl
 ·refine aU (b:=false) (by kernel_rfl) (cv (nr (Bk ?_)));refine bz rfl (aa (d:=.ref ks) rfl (aa (d:=.int (1:Nat)) rfl (az hn (r:=.bool B) rfl ⟨B,rfl,λhb=>?_,λhb=>?_⟩)))
  ·refine ⟨?_,kk⟩;rw [if_neg (by decide +kernel),hb,Bool.or_true]
  ·refine zu (yl (bz rfl (aa (d:=.ref ks) rfl (aa (d:=.int (0:Nat)) rfl (az hn (r:=.bool A) rfl ⟨A,rfl,?_,kk⟩)))));rw [if_neg (by decide +kernel),hb,Bool.or_false]
 ·refine aU (b:=true) (by kernel_rfl) (cC (bZ ?_));refine bz rfl (aa (d:=.ref ks) rfl (aa (d:=.int (0:Nat)) rfl (az hn (r:=.bool A) rfl ?_)));refine bz rfl (aa (d:=.ref ks) rfl (aa (d:=.int (1:Nat)) rfl (az hn (r:=.bool B) rfl ?_)));have hc:pK .Eq (.bool A) (.bool B)=pure (.bool (A==B)):=by kernel_rfl
  refine hc.symm▸?_;exact Ok.ret ⟨by rw [if_pos (show B2.iff.s=("iff" : Str) from rfl)],kk⟩
theorem An {a b:N}(H:WP h0 h1 n a .set g)(H2:WP h0 h1 n b .set g)(hd:∀ E:En,(∀ b,E b∈aK 2)->a.den h0 h1 E∈aK 2):WT h0 h1 (n+1) (.bin .isin a b) g:=λσ hr s E hH hE=>by
 refine ao rfl bf (ax (ρ:=lWo (N.bin .isin a b).d hr s none none none) rfl ?_);refine b6 "op" (.str "in") 4 (by kernel_rfl) ?_;refine ab (aA rfl (aX rfl (bm (s:=.tup [a.d,b.d]) rfl ?_)));refine aW trivial (aY rfl (am (by kernel_rfl) (by kernel_rfl) (ah (ds:=[a.d,.ref hr,.ref s]) rfl ?_)));refine (H σ hr s E hH hE).mono λr σ1 g1=>?_;obtain ⟨⟨k,v,rfl,hk⟩,k1⟩:=g1;refine aW trivial (aY rfl (am (by kernel_rfl) (by kernel_rfl) (ah (ds:=[b.d,.ref hr,.ref s]) rfl ?_)));refine (H2 σ1 hr s E (hH.kp k1) (hE.kp k1)).mono λr σ2 g2=>cg ⟨trivial,le_of_ble_eq_true rfl,?_⟩;obtain ⟨⟨k',v',rfl,hk'⟩,k2⟩:=g2;have hp:=hd E hE.mem;have hdn:(N.bin .isin a b).tru h0 h1 E=(a.den h0 h1 E).all λc=>(b.den h0 h1 E).contains c:=rfl;refine hdn.symm▸?_;generalize a.den h0 h1 E=p at hk hp;generalize b.den h0 h1 E=q at hk';have hk2:=al (q:=(PO.list ([D.ref k]++([D.ref k']++[])),0)) (k2.get hk);have hk3:=al (q:=(PO.list ([D.ref k]++([D.ref k']++[])),0)) hk';have hn2:=ag σ2 (PO.list ([D.ref k]++([D.ref k']++[])),0);have kk:av NoW σ (σ2++[(PO.list ([D.ref k]++([D.ref k']++[])),0)]):=(k1.trans k2).push _;generalize hks:σ2.length=ks at hn2;generalize (σ2++[(PO.list ([D.ref k]++([D.ref k']++[])),0)])=σ3 at hk2 hk3 hn2 kk;have hq:=ba hp;have p1:=hq.1;have p2:=hq.2;refine fR 1 (by kernel_rfl) (ab (aB (bZ ?_)));refine aX rfl (bV rfl (bz rfl (aa (d:=.ref ks) rfl (aa (d:=.int (0:Nat)) rfl (az hn2 (r:=.ref k) rfl (aN hk2 ?_))))));refine aG (σ0:=σ3) (src:=.at k v (au .one p)) (dec .one) (λc=>if !q.contains c then [dec .one c] else []) ⟨_,hk2⟩ (av.refl _ _) (λc _ σ4 k4=>?_) λσ4 k4=>?_
 ·refine ff rfl (cU (gf rfl (bZ (aa (d:=dec .one c) rfl (bz rfl (aa (d:=.ref ks) rfl (aa (d:=.int (1:Nat)) rfl (az (k4.get hn2) (r:=.ref k') rfl ?_))))))));refine Ok.bind (sQ (u:=.one) rfl (k4.get hk3) (Ok.ret ⟨_,rfl,λhb=>?_,λhb=>?_⟩))
  ·exact aa (d:=dec .one c) rfl ⟨(if_pos hb).symm▸rfl,k4⟩
  ·exact ⟨by rw [if_neg (by refine hb.symm▸?_;decide)],k4⟩
 ·refine (cp (λc => !q.contains c) (dec .one) _).symm▸?_;refine ⟨⟨_,k4.get hk2⟩,by refine (length_map _).symm▸?_;exact le_trans (length_filter_le _ _) (le_trans p2 (by decide)),?_⟩;refine bw (aq ⟨zero_le _,?_⟩);refine Ok.bind (x7 (u:=.one) rfl (a:=p.filter λc => !q.contains c) (b:=[]) (al (ag _ _)) (ag _ _) (Ok.ret ⟨?_,((kk.trans k4).push _).push _⟩));congr 1;rw [Bool.eq_iff_iff,beq_iff_eq,List.filter_eq_nil_iff,all_eq_true];simp
theorem AR {o:U1}(ho:dL o=true){a:N}(H:WP h0 h1 n a .set g)(hd:∀ E:En,(∀ b,E b∈aK 2)->a.den h0 h1 E∈aK 2):WT h0 h1 (n+1) (.un o a) g:=λσ hr s E hH hE=>by
 have hden:(N.un o a).tru h0 h1 E=oL o (a.den h0 h1 E).length:=by induction o using U1.casesOn <;> first | rfl | cases ho
 refine hden.symm▸?_;refine ao rfl bf (ax (ρ:=lWo (N.un o a).d hr s none none none) (by kernel_rfl) ?_);refine b6 "op" (.str o.s) 4 (by induction o using U1.casesOn <;> first | (cases ho;done) | kernel_rfl) ?_;refine ab (aA (by kernel_rfl) (aX (by kernel_rfl) (bm (s:=.tup [a.d]) (by kernel_rfl) ?_)));refine aW trivial (aY rfl (am (by kernel_rfl) (by kernel_rfl) (ah (ds:=[a.d,.ref hr,.ref s]) rfl ?_)));refine (H σ hr s E hH hE).mono λr σ1 g1=>cg ⟨trivial,le_of_ble_eq_true rfl,?_⟩;obtain ⟨⟨k,v,rfl,hk⟩,k1⟩:=g1;have hp:=hd E hE.mem;change σ1[k]? = some (.list (au .one (a.den h0 h1 E)),v) at hk;generalize a.den h0 h1 E=p at hk hp;have hk2:=al (q:=(PO.list ([D.ref k]++[]),0)) hk;have hn2:=ag σ1 (PO.list ([D.ref k]++[]),0);have kk:av NoW σ (σ1++[(PO.list ([D.ref k]++[]),0)]):=k1.push _;generalize hks:σ1.length=ks at hn2;generalize (σ1++[(PO.list ([D.ref k]++[]),0)])=σ2 at hk2 hn2 kk;obtain ⟨p1,p2⟩:=ba hp;refine bK 6 (by induction o using U1.casesOn <;> first | (cases ho;done) | kernel_rfl) ?_;refine ab (aB (bZ (bM rfl rfl (bz rfl (aa (d:=.ref ks) rfl (aa (d:=.int (0:Nat)) rfl (az hn2 (r:=.ref k) rfl ?_)))))));have hc:b9 "len" (.ref k)=(do pure (.int (<- listAt k).length)):=by kernel_rfl
 refine (?_:Ok _ _ _);refine hc.symm▸?_;refine Ok.bind (Ok.listAt hk2 (Ok.ret ?_));refine (length_map _).symm▸?_;refine bz rfl (nk rfl ?_);refine cZ (aa (d:=.str "some") rfl (aa (d:=.tup [.int 1,.int 2]) rfl ?_));refine cZ (aa (d:=.str "no") rfl (aa (d:=.tup [.int 0]) rfl ?_));refine cZ (aa (d:=.str "one") rfl (aa (d:=.tup [.int 1]) rfl ?_));refine cZ (aa (d:=.str "lone") rfl (aa (d:=.tup [.int 0,.int 1]) rfl (nF ⟨[("some",.tup [.int 1,.int 2]),("no",.tup [.int 0]),("one",.tup [.int 1]),("lone",.tup [.int 0,.int 1])],by kernel_rfl,?_⟩)));refine aa (d:=.str o.s) rfl ?_;have fin:∀ l:List D,(pK .In (.int p.length) (.tup l):PM D)=pure (.bool (oL o p.length))->([(("some" : Str),D.tup [.int 1,.int 2]),("no",.tup [.int 0]),("one",.tup [.int 1]),("lone",.tup [.int 0,.int 1])]:List (Str×D)).lookup o.s=some (.tup l) ->
   Ok (l8 (.ref σ2.length) (.str o.s)) (σ2++[(PO.dS [("some",.tup [.int 1,.int 2]),("no",.tup [.int 0]),("one",.tup [.int 1]),("lone",.tup [.int 0,.int 1])],0)]) λb σ'=>Ok (pK .In (.int p.length) b) σ' λr σ'=>r = .bool (oL o p.length)/\av NoW σ σ':=λl h1 h2=>by
  refine bg (ag _ _) h2 ?_;refine h1.symm▸?_;exact Ok.ret ⟨rfl,kk.push _⟩
 have h3:p.length=0\/p.length=1\/p.length=2:=ltS (P:=λn=>n=0\/n=1\/n=2) (Nat.lt_succ_of_le p2) (.inr (.inr rfl)) λh=>lt2 (P:=λn=>n=0\/n=1\/n=2) h (.inl rfl) (.inr (.inl rfl));induction o using U1.casesOn with
 | some=>exact fin [.int 1,.int 2] (by rcases h3 with h | h | h <;> refine h.symm▸?_ <;> kernel_rfl) rfl
 | no=>exact fin [.int 0] (by rcases h3 with h | h | h <;> refine h.symm▸?_ <;> kernel_rfl) rfl
 | one=>exact fin [.int 1] (by rcases h3 with h | h | h <;> refine h.symm▸?_ <;> kernel_rfl) rfl
 | lone=>exact fin [.int 0,.int 1] (by rcases h3 with h | h | h <;> refine h.symm▸?_ <;> kernel_rfl) rfl
 | closure=>cases ho
 | star=>cases ho
 | turn=>cases ho
end
noncomputable def atD (p:List Nat):D:=.tup (p.map λ(c:Nat)=>D.int c)
noncomputable def atP (p:List Nat):Ca:=.tuple ((p.map λ(c:Nat)=>(c:Int)).map .int)
theorem zw:∀ ps:List (List Nat),D.pys (ps.map atD)=some (ps.map atP):=λl=>by
 induction l using List.rec with
 | nil =>
  exact rfl
 | cons p r ih =>
  have e:D.py (atD p)=some (atP p):=by
   refine (?_:(D.pys (p.map λ(c:Nat)=>D.int c)).map PyData.tuple=_);have:(p.map λ(c:Nat)=>D.int c)=(p.map λ(c:Nat)=>(c:Int)).map D.int:=(List.map_map).symm▸rfl;(refine this.symm▸?_;exact (nY _).symm▸rfl)
  exact eO e (ih)
theorem yY:∀ ps:List (List Nat),PyData.canLayAll0 (ps.map atP)=true/\PyData.depthAll (ps.map atP)<=1:=λl=>by
 induction l using List.rec with
 | nil =>
  exact ⟨rfl,zero_le _⟩
 | cons p r ih =>
  have:=ih;refine (map_cons).symm▸?_;unfold PyData.canLayAll0 PyData.depthAll;rw [this.1];have h:=jL (p.map λ(c:Nat)=>(c:Int));constructor
  ·unfold atP PyData.canLay0;rw [h.1];rfl
  ·have e:PyData.depth (atP p)=1:=by unfold atP PyData.depth;exact (h.2).symm▸rfl
   refine e.symm▸?_;exact max_le.mpr ⟨le_refl _,this.2⟩
theorem oQ (ps:List (List Nat)):SeqAt.shaped (.list (ps.map atP))=true:=by
 have h:=yY ps;unfold SeqAt.shaped PyData.canLay0 PyData.depth;rw [h.1,Bool.true_and,decide_eq_true_eq];exact bh (.a (.v 0) (.n 1)) (.n 64) [(1,.v 0,.n 1)] rfl h.2
theorem rJ {σ:Sto}{j k v v':Nat}{ps:List (List Nat)}(e1:σ[j]? = some (.list (ps.map atD),v))(e2:σ[k]? = some (.list [],v')){Q:Bool->Sto->Prop}(h:Q ps.isEmpty σ):Ok (eqD (.ref j) (.ref k)) σ Q:=by
 refine Ok.bind (Ok.bind (Ok.listAt e1 ?_));refine (zw _).symm▸?_;refine Ok.ret (Ok.bind (Ok.bind (Ok.listAt e2 (Ok.run (a:=PyData.list []) (σ':=σ) rfl (Ok.bind (Ok.must ?_ (Ok.ret ?_)))))))
 ·exact (oQ _).symm▸rfl
 ·have:PyData.eqv (.list (ps.map atP)) (.list [])=ps.isEmpty:=by
   induction ps using List.casesOn <;> rfl
  exact this▸h
section
variable {h0 h1:List Nat}{n:Nat}{g:Bool->Bool}
noncomputable def lF (h0 h1:List Nat)(f:N)(t:Tri):D:=.tup [atD t.1,.bool (f.tru h0 h1 t.2.1)]
theorem wt_q {o:Q3}(ho:o = .all\/o = .exist){ds:Ds}{f:N}(H0:h0∈aK 2)(H1:h1∈aK 4)(hok:ds.ok=true)(hl:ds.len<=3)(H:WPs h0 h1 n ds g)(H2:WT h0 h1 (n+1) f (ds.gs g)):WT h0 h1 (n+1+1) (.q o ds f) g:=λσ hr s E hH hE=>by
 refine ao rfl bf (ax (ρ:=lWo (N.q o ds f).d hr s none none none) (by kernel_rfl) ?_);refine bi "op" (.str o.s) 2 (by rcases ho with rfl | rfl <;> kernel_rfl) ?_;refine ab (aA (by kernel_rfl) (aX (by kernel_rfl) (bV (by kernel_rfl) (am (by kernel_rfl) (by kernel_rfl) (ah (ds:=[.tup ds.d,.ref hr,.ref s]) rfl ?_)))));refine (kP ds g H hl hH hE).mono λr σ1 g1=>?_;obtain ⟨k,v,es,rfl,hk,hes,hEs,k1⟩:=g1;have hlen:=gA H0 H1 hok hE.mem hes;have hp8:(2:Nat) ^ ds.len<=2 ^ 3:=Nat.pow_le_pow_right (by decide) hl;have h4:aQ=4096:=rfl;refine aN hk ?_;refine aG (σ0:=σ1) (src:=.at k v (es.map itD)) itD (λt=>[lF h0 h1 f t]) ⟨_,hk⟩ (av.refl _ _) (λt ht σ2 k2=>?_) λσ2 k2=>?_
 ·refine aY rfl (aI (ae (aa (d:=atD t.1) rfl (ae (am rfl (by kernel_rfl) (ah (ds:=[f.d,.ref hr,.ref t.2.2]) rfl ?_))))));refine (H2 σ2 hr t.2.2 t.2.1 ((hH.kp k1).kp k2) ((hEs t ht).kp k2)).mono λr σ3 g3=>aq ⟨le_of_ble_eq_true rfl,?_⟩;obtain ⟨rfl,k3⟩:=g3;exact ⟨rfl,k2.trans k3⟩
 refine (bF (lF h0 h1 f) _).symm▸?_;refine ⟨⟨_,k2.get hk⟩,by refine (length_map _).symm▸?_;exact aZ (.v 0) (.v 1) [(1,.v 0,.v 2),(1,.v 2,.n 8),(1,.n 4096,.v 1)] rfl hlen hp8 (le_of_eq h4.symm),?_⟩;have hn:=ag σ2 (PO.list (es.map (lF h0 h1 f)),0);have kk:av NoW σ (σ2++[(PO.list (es.map (lF h0 h1 f)),0)]):=(k1.trans k2).push _;generalize hkr:σ2.length=kr at hn;generalize (σ2++[(PO.list (es.map (lF h0 h1 f)),0)])=σ3 at hn kk;refine bK 1 (by rcases ho with rfl | rfl <;> kernel_rfl) ?_;have fin:∀ (p:Tri->Bool) σ4,av NoW σ3 σ4->((es.filter p).map λt=>atD t.1)=((es.filter p).map λt=>t.1).map atD:=λp σ4 _=>(List.map_map).symm▸rfl;refine ab (aB (bu ?_));rcases ho with rfl | rfl
 ·refine aU (b:=true) (by kernel_rfl) (cC (bZ (aX rfl (bV rfl (aa (d:=.ref kr) rfl (aN hn ?_))))));refine aG (σ0:=σ3) (src:=.at kr 0 (es.map (lF h0 h1 f))) (lF h0 h1 f) (λt=>if !(f.tru h0 h1 t.2.1) then [atD t.1] else []) ⟨_,hn⟩ (av.refl _ _) (λt _ σ4 k4=>?_) λσ4 k4=>?_
  ·refine ff rfl (cU (aU (b := !(f.tru h0 h1 t.2.1==true)) (by kernel_rfl) ⟨λhb=>?_,λhb=>?_⟩))
   ·exact aa (d:=atD t.1) rfl ⟨by rw [if_pos (by simpa using hb)],k4⟩
   ·exact ⟨by rw [if_neg (by simpa using hb)],k4⟩
  ·(refine (cp (λt:Tri => !(f.tru h0 h1 t.2.1)) (λt=>atD t.1) _).symm▸?_;refine (fin _ _ k4).symm▸?_);refine ⟨⟨_,k4.get hn⟩,by (refine (length_map _).symm▸?_;refine (length_map _).symm▸?_);have:=length_filter_le (λt:Tri => !(f.tru h0 h1 t.2.1)) es;exact fW (.v 0) (.v 1) [(1,.v 2,.v 3),(1,.v 3,.n 8),(1,.n 4096,.v 1),(1,.v 0,.v 2)] rfl hlen hp8 (le_of_eq h4.symm) this,?_⟩;refine bw (aq ⟨zero_le _,Ok.bind (rJ (al (ag _ _)) (ag _ _) (Ok.ret ⟨?_,((kk.trans k4).push _).push _⟩))⟩);congr 1;have ht:(N.q .all ds f).tru h0 h1 E=(ds.opens h0 h1 [([],E)]).all λp=>f.tru h0 h1 p.2:=rfl;(refine ht.symm▸?_;refine hes▸?_;refine (all_map).symm▸?_);rw [Bool.eq_iff_iff,List.isEmpty_iff,List.map_eq_nil_iff,List.filter_eq_nil_iff,all_eq_true];simp [d8]
 ·refine aU (b:=false) (by kernel_rfl) (cv (bZ (aX rfl (bV rfl (aa (d:=.ref kr) rfl (aN hn ?_))))));refine aG (σ0:=σ3) (src:=.at kr 0 (es.map (lF h0 h1 f))) (lF h0 h1 f) (λt=>if f.tru h0 h1 t.2.1 then [atD t.1] else []) ⟨_,hn⟩ (av.refl _ _) (λt _ σ4 k4=>?_) λσ4 k4=>?_
  ·refine ff rfl (cU (aU (b:=f.tru h0 h1 t.2.1) rfl ⟨λhb=>?_,λhb=>?_⟩))
   ·exact aa (d:=atD t.1) rfl ⟨(if_pos hb).symm▸rfl,k4⟩
   ·exact ⟨by rw [if_neg (by refine hb.symm▸?_;decide)],k4⟩
  ·(refine (cp (λt:Tri=>f.tru h0 h1 t.2.1) (λt=>atD t.1) _).symm▸?_;refine (fin _ _ k4).symm▸?_);refine ⟨⟨_,k4.get hn⟩,by (refine (length_map _).symm▸?_;refine (length_map _).symm▸?_);have:=length_filter_le (λt:Tri=>f.tru h0 h1 t.2.1) es;exact fW (.v 0) (.v 1) [(1,.v 2,.v 3),(1,.v 3,.n 8),(1,.n 4096,.v 1),(1,.v 0,.v 2)] rfl hlen hp8 (le_of_eq h4.symm) this,?_⟩;refine bw (aq ⟨zero_le _,Ok.bind (rJ (al (ag _ _)) (ag _ _) (Ok.ret ⟨?_,((kk.trans k4).push _).push _⟩))⟩);congr 1;have ht:(N.q .exist ds f).tru h0 h1 E=(ds.opens h0 h1 [([],E)]).any λp=>f.tru h0 h1 p.2:=rfl;(refine ht.symm▸?_;refine hes▸?_;refine (any_map).symm▸?_);rw [Bool.eq_iff_iff,not_eq_true',Bool.eq_false_iff,ne_eq,List.isEmpty_iff,List.map_eq_nil_iff,List.filter_eq_nil_iff,any_eq_true];simp [d8]
theorem yL {ds:Ds}{f:N}(H0:h0∈aK 2)(H1:h1∈aK 4)(hok:ds.ok=true)(hl:ds.len=1)(H:WPs h0 h1 n ds g)(H2:WT h0 h1 (n+1) f (ds.gs g)):WP h0 h1 (n+1+1) (.q .comp ds f) .set g:=λσ hr s E hH hE=>by
 refine ao rfl bf (ax (ρ:=lWo (N.q .comp ds f).d hr s none none none) (by kernel_rfl) ?_);refine bi "op" (.str "comp") 2 (by kernel_rfl) ?_;refine ab (aA rfl (aX rfl (bV rfl (am rfl (by kernel_rfl) (ah (ds:=[.tup ds.d,.ref hr,.ref s]) rfl ?_)))));refine (kP ds g H (bh (.v 0) (.n 3) [(1,.v 0,.n 1)] rfl (le_of_eq hl)) hH hE).mono λr σ1 g1=>?_;obtain ⟨k,v,es,rfl,hk,hes,hEs,k1⟩:=g1;have hlen:=gA H0 H1 hok hE.mem hes;replace hlen:=hl▸hlen;have h4:aQ=4096:=rfl;refine aN hk ?_;refine aG (σ0:=σ1) (src:=.at k v (es.map itD)) itD (λt=>[lF h0 h1 f t]) ⟨_,hk⟩ (av.refl _ _) (λt ht σ2 k2=>?_) λσ2 k2=>?_
 ·refine aY rfl (aI (ae (aa (d:=atD t.1) rfl (ae (am rfl (by kernel_rfl) (ah (ds:=[f.d,.ref hr,.ref t.2.2]) rfl ?_))))));refine (H2 σ2 hr t.2.2 t.2.1 ((hH.kp k1).kp k2) ((hEs t ht).kp k2)).mono λr σ3 g3=>aq ⟨le_of_ble_eq_true rfl,?_⟩;obtain ⟨rfl,k3⟩:=g3;exact ⟨rfl,k2.trans k3⟩
 refine (bF (lF h0 h1 f) _).symm▸?_;refine ⟨⟨_,k2.get hk⟩,by refine (length_map _).symm▸?_;exact a5 (.v 0) (.v 1) [(1,.v 0,.n 2),(1,.n 4096,.v 1)] rfl hlen (le_of_eq h4.symm),?_⟩;have hn:=ag σ2 (PO.list (es.map (lF h0 h1 f)),0);have kk:av NoW σ (σ2++[(PO.list (es.map (lF h0 h1 f)),0)]):=(k1.trans k2).push _;generalize hkr:σ2.length=kr at hn;generalize (σ2++[(PO.list (es.map (lF h0 h1 f)),0)])=σ3 at hn kk;refine ab (fJ (aU (b:=true) (by kernel_rfl) (bv (ab (aB (cN rfl rfl (aX rfl (bV rfl (aa (d:=.ref kr) rfl (aN hn ?_))))))))));refine aG (σ0:=σ3) (src:=.at kr 0 (es.map (lF h0 h1 f))) (lF h0 h1 f) (λt=>if f.tru h0 h1 t.2.1 then [dec .one (t.1.headD 0)] else []) ⟨_,hn⟩ (av.refl _ _) (λt ht σ4 k4=>?_) λσ4 k4=>?_
 ·refine ff rfl (cU (aU (b:=f.tru h0 h1 t.2.1) rfl ⟨λhb=>?_,λhb=>?_⟩))
  ·obtain ⟨c,hq⟩:=nX H0 H1 hok hl hE.mem hes t ht;have hc:=hq.2;exact aa (d:=atD t.1) rfl ⟨by (refine (if_pos hb).symm▸?_;exact hc.symm▸rfl),k4⟩
  ·exact ⟨by rw [if_neg (by refine hb.symm▸?_;decide)],k4⟩
 refine (cp (λt:Tri=>f.tru h0 h1 t.2.1) (λt=>dec .one (t.1.headD 0)) _).symm▸?_;have hb:=rq H0 H1 hok f hE.mem;have hcl:=kh f hes hlen;refine (lc f hes).symm▸?_;refine ⟨⟨_,k4.get hn⟩,by refine (length_map _).symm▸?_;exact hcl,?_⟩;exact ch (u:=.one) hb hcl (ag _ _) ⟨⟨_,0,rfl,ag _ _⟩,((kk.trans k4).push _).push _⟩
end
section
variable {h0 h1:List Nat}
theorem u0 (H0:h0∈aK 2)(H1:h1∈aK 4):jx (λx T n g=>WP h0 h1 n x T g) (λx n g=>WT h0 h1 n x g) (λds n g=>WPs h0 h1 n ds g) where
 var b n g h:=AY b h
 rel0 n g:=yw false
 rel1 n g:=yw true
 non n g:=zc
 un o a n g k h H:=w0 k H (gw H0 H1 h)
 join a b n g h k H H2:=zL H H2 (bR H0 H1 h) (gw H0 H1 k)
 prod a b n g h k H H2:=yP H H2 (bR H0 H1 h) (bR H0 H1 k)
 comp ds f n g h k H H2:=yL H0 H1 h k H H2
 nil n g:=trivial
 cons b a r n g h H H2:=⟨H,bR H0 H1 h,H2⟩
 unF o a n g k h H:=AR k H (bR H0 H1 h)
 isin a b n g h k H H2:=An H H2 (bR H0 H1 h)
 two o a b n g ho H H2:=zC ho H H2
 or a b n g H H2:=AG H H2
 q o ds f n g ho h k H H2:=wt_q ho H0 H1 h k H H2
theorem uL (H0:h0∈aK 2)(H1:h1∈aK 4)(x:N)(T:Ty)(h:x.ok T=true)(hT:T ≠ .form)(n:Nat)(hn:2 * x.ht+6<=n)(g:Bool->Bool)(hg:∀ b,x.fv b=true->g b=true):WP h0 h1 n x T g:=((u0 H0 H1).all.1 x).1 T h hT n hn g hg
theorem yT (H0:h0∈aK 2)(H1:h1∈aK 4)(x:N)(h:x.ok .form=true)(n:Nat)(hn:2 * x.ht+6<=n)(g:Bool->Bool)(hg:∀ b,x.fv b=true->g b=true):WT h0 h1 n x g:=((u0 H0 H1).all.1 x).2 h n hn g hg
end
mutual
noncomputable def N.sz (v:Nat):N->Nat
 | .var _=>v
 | .rel _ | .none=>20
 | .un _ a=>a.sz v+30
 | .bin _ a b=>a.sz v+b.sz v+30
 | .or a b=>a.sz v+b.sz v+40
 | .q _ ds f=>ds.sz v+f.sz v+40
noncomputable def Ds.sz (v:Nat):Ds->Nat
 | .nil=>0
 | .cons _ a r=>a.sz v+r.sz v+20
end
structure aw (ep:Pl):Prop where
 fv:∀ b c,ep b=some c->∀ x,c.fv x=false
 ok:∀ b c,ep b=some c->c.ok .set=true
 ht:∀ b c,ep b=some c->c.ht<=8
 cost:∀ b c,ep b=some c->c.cost 0<=2
 sz:∀ b c,ep b=some c->c.sz 20<=1000
theorem dC {ep:Pl}{b a:Bool}{c:N}(h:ep.drop b a=some c):ep a=some c:=by
 unfold Pl.drop at h;split at h
 ·exact an h
 ·exact h
theorem aw.drop {ep:Pl}(h:aw ep)(b:Bool):aw (ep.drop b) :=
 ⟨λa c hc=>h.fv a c (dC hc),λa c hc=>h.ok a c (dC hc),λa c hc=>h.ht a c (dC hc),λa c hc=>h.cost a c (dC hc),λa c hc=>h.sz a c (dC hc)⟩
theorem aw.drops (ds:Ds){ep:Pl}(h:aw ep):aw (ds.drops ep) :=
 Ds.ind (P:=λds=>∀ ep,aw ep->aw (ds.drops ep)) (λ_ h=>h) (λb _ _ ih _ h=>ih _ (h.drop b)) ds ep h
theorem j6 (ds:Ds)(ep:Pl):(ds.place ep).len=ds.len :=
 Ds.ind (P:=λds=>∀ ep,(ds.place ep).len=ds.len) (λ_=>rfl) (λb _ _ ih ep=>congrArg (· + 1) (ih (ep.drop b))) ds ep
theorem qe:(∀ (x:N) (ep:Pl),aw ep->∀ T:Ty,x.ok T=true->(x.place ep).ok T=true)/\∀ (ds:Ds) (ep:Pl),aw ep->ds.ok=true->(ds.place ep).ok=true:=by
 refine N.both (λb ep h T e=>?_) (λi ep h T e=>e) (λep h T e=>e) (λo a ia ep h T e=>?_) (λo a b ia ib ep h T e=>?_) (λa b ia ib ep h T e=>e7 (e7 (bq (bq e)) (ia ep h _ (cH (bq e)))) (ib ep h _ (cH e)))
  (λo ds f id jf ep h T e=>?_) (λep h e=>rfl) λb a r ia ir ep h e=>e7 (ia ep h _ (bq e)) (ir _ (h.drop b) (cH e))
 ·refine (?_:((ep b).getD (.var b)).ok T=true);cases q:ep b with
  | none=>exact e
  | some c=>exact (beq_iff_eq.mp e).symm▸h.ok b c q
 ·have e:=(je o a T).symm.trans e;exact (je o (a.place ep) T).trans (e7 (bq e) (ia ep h _ (cH e)))
 ·have e:=(eY o a b T).symm.trans e;exact (eY o (a.place ep) (b.place ep) T).trans (e7 (e7 (bq (bq e)) (ia ep h _ (cH (bq e)))) (ib ep h _ (cH e)))
 ·have e:=(sJ o ds f T).symm.trans e;refine (sJ o (ds.place ep) (f.place (ds.drops ep)) T).trans ?_;refine (j6 _ _).symm▸?_;exact e7 (e7 (e7 (id ep h (bq (bq (bq e)))) (jf _ (h.drops ds) _ (cH (bq (bq e))))) (cH (bq e))) (cH e)
theorem jK {ep:Pl}(h:aw ep)(x:N)(T:Ty)(e:x.ok T=true):(x.place ep).ok T=true:=qe.1 x ep h T e
theorem z4 {a b a' b':Nat}(h:a<=a'+8)(k:b<=b'+8):max a b<=max a' b'+8 :=
 max_le.mpr ⟨le_trans h (add_le_add_right (le_max_left _ _) _),le_trans k (add_le_add_right (le_max_right _ _) _)⟩
theorem z0 {a b:Nat}(h:a<=b+8):a+1<=b+1+8:=le_trans (succ_le_succ h) (le_of_eq (Nat.add_right_comm b 8 1))
theorem qI:(∀ (x:N) (ep:Pl),aw ep->(x.place ep).ht<=x.ht+8)/\∀ (ds:Ds) (ep:Pl),aw ep->(ds.place ep).ht<=ds.ht+8:=by
 refine N.both (λb ep h=>?_) (λi ep h=>show 1<=9 by decide) (λep h=>show 1<=9 by decide) (λo a ia ep h=>z0 (ia ep h)) (λo a b ia ib ep h=>z0 (z4 (ia ep h) (ib ep h))) (λa b ia ib ep h=>z0 (z4 (ia ep h) (ib ep h)))
  (λo ds f id jf ep h=>z0 (z4 (id ep h) (jf _ (h.drops ds)))) (λep h=>show 1<=9 by decide) λb a r ia ir ep h=>z4 (ia ep h) (ir _ (h.drop b))
 refine (?_:((ep b).getD (.var b)).ht<=1+8);cases q:ep b with
 | none=>refine (?_:1<=9);decide
 | some c=>exact le_succ_of_le (h.ht b c q)
theorem jt {ep:Pl}(h:aw ep)(x:N):(x.place ep).ht<=x.ht+8:=qI.1 x ep h
theorem l3:(∀ (x:N) (ep:Pl),aw ep->(x.place ep).cost 0<=x.cost 2)/\∀ (ds:Ds) (ep:Pl),aw ep->∀ k:Nat,(ds.place ep).cost 0 k<=ds.cost 2 k:=by
 refine N.both (λb ep h=>?_) (λi ep h=>le_refl _) (λep h=>le_refl _) (λo a ia ep h=>ia ep h) (λo a b ia ib ep h=>add_le_add (ia ep h) (ib ep h)) (λa b ia ib ep h=>add_le_add (ia ep h) (ib ep h))
  (λo ds f id jf ep h=>?_) (λep h k=>le_refl _) λb a r ia ir ep h k=>add_le_add (mul_le_mul_left _ (add_le_add_right (ia ep h) _)) (ir _ (h.drop b) (2 * k))
 ·refine (?_:((ep b).getD (.var b)).cost 0<=2);cases q:ep b with
  | none=>refine (?_:0<=2);decide
  | some c=>exact h.cost b c q
 ·refine (?_:(ds.place ep).cost 0 1+2 ^ (ds.place ep).len * (f.place (ds.drops ep)).cost 0<=ds.cost 2 1+2 ^ ds.len * f.cost 2);refine (j6 _ _).symm▸?_;exact add_le_add (id ep h 1) (mul_le_mul_left _ (jf _ (h.drops ds)))
theorem pG {ep:Pl}(h:aw ep)(x:N):(x.place ep).cost 0<=x.cost 2:=l3.1 x ep h
theorem qt:(∀ (x:N) (ep:Pl),aw ep->(x.place ep).sz 20<=x.sz 1000)/\∀ (ds:Ds) (ep:Pl),aw ep->(ds.place ep).sz 20<=ds.sz 1000:=by
 refine N.both (λb ep h=>?_) (λi ep h=>le_refl _) (λep h=>le_refl _) (λo a ia ep h=>add_le_add_right (ia ep h) _) (λo a b ia ib ep h=>add_le_add_right (add_le_add (ia ep h) (ib ep h)) _) (λa b ia ib ep h=>add_le_add_right (add_le_add (ia ep h) (ib ep h)) _)
  (λo ds f id jf ep h=>add_le_add_right (add_le_add (id ep h) (jf _ (h.drops ds))) _) (λep h=>le_refl _) λb a r ia ir ep h=>add_le_add_right (add_le_add (ia ep h) (ir _ (h.drop b))) _
 refine (?_:((ep b).getD (.var b)).sz 20<=1000);cases q:ep b with
 | none=>refine (?_:20<=1000);decide
 | some c=>exact h.sz b c q
theorem ub {ep:Pl}(h:aw ep)(x:N):(x.place ep).sz 20<=x.sz 1000:=qt.1 x ep h
theorem fw (ep:Pl)(b c:Bool):ep.drop b c=if c==b then none else ep c:=by
 unfold Pl.drop;by_cases h:c=b
 ·rw [if_pos h,if_pos (beq_iff_eq.mpr h)]
 ·rw [if_neg h,if_neg λq=>h (beq_iff_eq.mp q)]
theorem nh (ds:Ds)(ep:Pl)(c:Bool):ds.drops ep c=if ds.binds c then none else ep c:=by
 refine Ds.ind (P:=λds=>∀ ep:Pl,ds.drops ep c=if ds.binds c then none else ep c) (λ_=>rfl) (λb a r ih ep=>?_) ds ep;refine (?_:r.drops (ep.drop b) c=if (c==b || r.binds c) then none else ep c);rw [ih,fw];cases r.binds c <;> cases c==b <;> rfl
theorem mq (ds:Ds)(ep:Pl)(c:Bool):(ds.place ep).binds c=ds.binds c :=
 Ds.ind (P:=λds=>∀ ep,(ds.place ep).binds c=ds.binds c) (λ_=>rfl) (λb _ _ ih ep=>congrArg (c==b || ·) (ih (ep.drop b))) ds ep
theorem sj (p:Bool)(o:Option N):(if p then none else o).isNone=(p || o.isNone):=by cases p <;> rfl
theorem fv_q:∀ b d f e:Bool,((d && e) || (!b && (f && (b || e))))=((d || (!b && f)) && e):=by decide
theorem fv_c:∀ n a r e:Bool,((a && e) || (!n && (r && (n || e))))=((a || (!n && r)) && e):=by decide
theorem se:(∀ (x:N) (ep:Pl),aw ep->∀ c:Bool,(x.place ep).fv c=(x.fv c && (ep c).isNone))/\∀ (ds:Ds) (ep:Pl),aw ep->∀ c:Bool,(ds.place ep).fv c=(ds.fv c && (ep c).isNone):=by
 have two:∀ (a b:N) (ep:Pl) (c:Bool),(a.place ep).fv c=(a.fv c && (ep c).isNone)->(b.place ep).fv c=(b.fv c && (ep c).isNone)->((a.place ep).fv c || (b.place ep).fv c)=((a.fv c || b.fv c) && (ep c).isNone):=λa b ep c h k=>by
  (refine h.symm▸?_;refine k.symm▸?_;exact (Bool.and_or_distrib_right _ _ _).symm▸rfl)
 refine N.both (λb ep h c=>?_) (λi ep h c=>rfl) (λep h c=>rfl) (λo a ia ep h c=>ia ep h c) (λo a b ia ib ep h c=>two a b ep c (ia ep h c) (ib ep h c)) (λa b ia ib ep h c=>two a b ep c (ia ep h c) (ib ep h c))
  (λo ds f id jf ep h c=>?_) (λep h c=>rfl) λb a r ia ir ep h c=>?_
 ·refine (?_:((ep b).getD (.var b)).fv c=((c==b) && (ep c).isNone));by_cases hc:c=b
  ·rw [hc,beq_self_eq_true,Bool.true_and];cases q:ep b with
   | none=>exact beq_self_eq_true b
   | some e=>exact h.fv b e q b
  ·(refine (beq_false_of_ne hc).symm▸?_;refine (Bool.false_and _).symm▸?_);cases q:ep b with
   | none=>exact beq_false_of_ne hc
   | some e=>exact h.fv b e q c
 ·refine (?_:((ds.place ep).fv c || (!(ds.place ep).binds c && (f.place (ds.drops ep)).fv c))=((ds.fv c || (!ds.binds c && f.fv c)) && (ep c).isNone));rw [id ep h,mq,jf _ (h.drops ds),nh,sj];exact fv_q _ _ _ _
 ·refine (?_:((a.place ep).fv c || (!(c==b) && (r.place (ep.drop b)).fv c))=((a.fv c || (!(c==b) && r.fv c)) && (ep c).isNone));rw [ia ep h,ir _ (h.drop b),fw,sj];exact fv_c _ _ _ _
theorem nO {ep:Pl}(h:aw ep)(x:N)(c:Bool):(x.place ep).fv c=(x.fv c && (ep c).isNone):=se.1 x ep h c
theorem oH {ds:Ds}{ep:Pl}{c:Bool}(h:ds.binds c=false->ep c=none):ds.drops ep c=none:=by
 rw [nh];cases hb:ds.binds c with
 | true=>rfl
 | false=>exact h hb
theorem qH {ep:Pl}{b c:Bool}(h:(c==b)=false->ep c=none):ep.drop b c=none:=by
 rw [fw];cases hb:c==b with
 | true=>rfl
 | false=>exact h hb
theorem rg:(∀ (x:N) (ep:Pl),(∀ b,x.fv b=true->ep b=none)->x.place ep=x)/\∀ (ds:Ds) (ep:Pl),(∀ b,ds.fv b=true->ep b=none)->ds.place ep=ds:=by
 refine N.both (λb ep h=>?_) (λi ep h=>rfl) (λep h=>rfl) (λo a ia ep h=>congrArg (N.un o) (ia ep h)) (λo a b ia ib ep h=>?_) (λa b ia ib ep h=>?_) (λo ds f id jf ep h=>?_) (λep h=>rfl) λb a r ia ir ep h=>?_
 ·refine (?_:(ep b).getD (.var b) = .var b);exact (h b (beq_self_eq_true b)).symm▸rfl
 ·exact congr (congrArg (N.bin o) (ia ep λc hc=>h c (orl hc))) (ib ep λc hc=>h c (orr hc))
 ·exact congr (congrArg N.or (ia ep λc hc=>h c (orl hc))) (ib ep λc hc=>h c (orr hc))
 ·exact congr (congrArg (N.q o) (id ep λc hc=>h c (orl hc))) (jf _ λc hc=>oH λhb=>h c (orr (e7 (hb.symm▸rfl) hc)))
 ·exact congr (congrArg (Ds.cons b) (ia ep λc hc=>h c (orl hc))) (ir _ λc hc=>qH λhb=>h c (orr (e7 (show (!(c==b))=true by exact hb.symm▸rfl) hc)))
theorem uG (x:N)(ep:Pl)(h:∀ b,x.fv b=true->ep b=none):x.place ep=x:=rg.1 x ep h
noncomputable def Pl.both (e1 e2:Pl):Pl:=λb=>(e1 b).or (e2 b)
theorem kJ (e1 e2:Pl)(b:Bool):(e1.both e2).drop b=(e1.drop b).both (e2.drop b):=by
 funext c;unfold Pl.both;rw [fw,fw,fw];cases c==b <;> rfl
theorem o9 (ds:Ds)(e1 e2:Pl):ds.drops (e1.both e2)=(ds.drops e1).both (ds.drops e2):=by
 refine Ds.ind (P:=λds=>∀ e1 e2:Pl,ds.drops (e1.both e2)=(ds.drops e1).both (ds.drops e2)) (λ_ _=>rfl) (λb _ r ih e1 e2=>?_) ds e1 e2;refine (?_:r.drops ((e1.both e2).drop b)=_);refine (kJ _ _ _).symm▸?_;exact ih _ _
theorem mL (ds:Ds)(e1 e2:Pl):(ds.place e1).drops e2=ds.drops e2 :=
 Ds.ind (P:=λds=>∀ e1 e2:Pl,(ds.place e1).drops e2=ds.drops e2) (λ_ _=>rfl) (λb _ _ ih e1 e2=>ih (e1.drop b) (e2.drop b)) ds e1 e2
theorem lh:(∀ (x:N) (e1:Pl),aw e1->∀ e2:Pl,(x.place e1).place e2=x.place (e1.both e2))/\∀ (ds:Ds) (e1:Pl),aw e1->∀ e2:Pl,(ds.place e1).place e2=ds.place (e1.both e2):=by
 refine N.both (λb e1 h e2=>?_) (λi _ _ _=>rfl) (λ_ _ _=>rfl) (λo a ia e1 h e2=>congrArg (N.un o) (ia e1 h e2)) (λo a b ia ib e1 h e2=>(congr (congrArg (N.bin o) (ia e1 h e2)) (ib e1 h e2) :)) (λa b ia ib e1 h e2=>(congr (congrArg N.or (ia e1 h e2)) (ib e1 h e2) :))
  (λo ds f id jf e1 h e2=>?_) (λ_ _ _=>rfl) λb a r ia ir e1 h e2=>?_
 ·refine (?_:((e1 b).getD (.var b)).place e2=(((e1 b).or (e2 b)).getD (.var b)));cases q:e1 b with
  | none=>rfl
  | some c=>exact uG c e2 λx hx=>Bool.noConfusion ((h.fv b c q x).symm.trans hx)
 ·refine (?_:N.q o ((ds.place e1).place e2) ((f.place (ds.drops e1)).place ((ds.place e1).drops e2))=N.q o (ds.place (e1.both e2)) (f.place (ds.drops (e1.both e2))));rw [id e1 h,mL,jf _ (h.drops ds),o9]
 ·refine (?_:Ds.cons b ((a.place e1).place e2) ((r.place (e1.drop b)).place (e2.drop b))=Ds.cons b (a.place (e1.both e2)) (r.place ((e1.both e2).drop b)));rw [ia e1 h,ir _ (h.drop b),kJ]
theorem mU (x:N){e1:Pl}(h:aw e1)(e2:Pl):(x.place e1).place e2=x.place (e1.both e2):=lh.1 x e1 h e2
section
variable {h0 h1:List Nat}
noncomputable def nrm (g:Bool->Bool)(E:En):En:=λb=>if g b then E b else []
noncomputable def lq (g:Bool->Bool)(p:List Nat×En):List Nat×En:=(p.1,nrm g p.2)
theorem xX (g:Bool->Bool)(E:En)(b:Bool)(v:List Nat):nrm (cj g b) ((nrm g E).set b v)=nrm (cj g b) (E.set b v):=by
 funext c;unfold nrm En.set cj;by_cases h:c=b
 ·simp [h]
 ·have:(c==b)=false:=by simpa using h
  (refine this.symm▸?_;refine (if_neg h).symm▸?_;refine (if_neg h).symm▸?_;refine (Bool.or_false _).symm▸?_);by_cases hg:g c=true <;> simp [hg]
noncomputable def denU (o:U1)(x:List Nat):List Nat:=match o with
 | .closure=>cL x
 | .star=>tU x
 | .turn=>sS x
 | _=>[]
noncomputable def denB (o:B2)(x y:List Nat):List Nat:=match o with
 | .join=>sf x y
 | .product=>f8 x y
 | _=>[]
noncomputable def truB (o:B2)(x y:List Nat)(p q:Bool):Bool:=match o with
 | .isin=>x.all λc=>y.contains c
 | .implies => !p || q
 | .iff=>p==q
 | _=>false
theorem jR (o:U1)(a:N)(E:En):(N.un o a).den h0 h1 E=denU o (a.den h0 h1 E):=by induction o using U1.casesOn <;> rfl
theorem jj (o:U1)(a:N)(E:En):(N.un o a).tru h0 h1 E=oL o (a.den h0 h1 E).length:=rfl
theorem gr (o:B2)(a b:N)(E:En):(N.bin o a b).den h0 h1 E=denB o (a.den h0 h1 E) (b.den h0 h1 E):=by induction o using B2.casesOn <;> rfl
theorem gu (o:B2)(a b:N)(E:En):(N.bin o a b).tru h0 h1 E=truB o (a.den h0 h1 E) (b.den h0 h1 E) (a.tru h0 h1 E) (b.tru h0 h1 E):=by induction o using B2.casesOn <;> rfl
theorem jV (a b:N)(E:En):(N.or a b).tru h0 h1 E=(a.tru h0 h1 E || b.tru h0 h1 E):=rfl
theorem nS (o:Q3)(ds:Ds)(f:N)(E:En):(N.q o ds f).den h0 h1 E=filt (((ds.opens h0 h1 [([],E)]).filter λp=>f.tru h0 h1 p.2).map λp=>p.1.headD 0):=rfl
noncomputable def AJ (o:Q3)(l:List (List Nat×En))(f:List Nat×En->Bool):Bool:=match o with
 | .exist=>l.any f
 | .all=>l.all f
 | .comp=>false
theorem nd (o:Q3)(ds:Ds)(f:N)(E:En):(N.q o ds f).tru h0 h1 E=AJ o (ds.opens h0 h1 [([],E)]) λp=>f.tru h0 h1 p.2:=by induction o using Q3.casesOn <;> rfl
theorem jr (o:Q3)(l:List (List Nat×En))(g:List Nat×En->List Nat×En)(f:List Nat×En->Bool):AJ o (l.map g) f=AJ o l λp=>f (g p):=by
 induction o using Q3.casesOn with
 | comp=>rfl
 | all=>exact all_map
 | exist=>exact any_map
theorem jF (l:List (List Nat×En))(g:List Nat×En->List Nat×En)(hg:∀ p,(g p).1=p.1)(f:List Nat×En->Bool):((l.map g).filter f).map (λp=>p.1.headD 0)=(l.filter λp=>f (g p)).map λp=>p.1.headD 0:=by
 rw [List.filter_map,List.map_map];exact map_congr_left λp _=>congrArg (·.headD 0) (hg p)
theorem te:(∀ (x:N) (g:Bool->Bool) (E:En),(∀ b,x.fv b=true->g b=true)->x.den h0 h1 (nrm g E)=x.den h0 h1 E/\x.tru h0 h1 (nrm g E)=x.tru h0 h1 E) /\
  ∀ (ds:Ds) (g:Bool->Bool) (l:List (List Nat×En)),(∀ b,ds.fv b=true->g b=true)->(ds.opens h0 h1 (l.map (lq g))).map (lq (ds.gs g))=(ds.opens h0 h1 l).map (lq (ds.gs g)):=by
 refine N.both (λb g E h=>⟨if_pos (h b (beq_self_eq_true b)),rfl⟩) (λi g E h=>?_) (λg E h=>⟨rfl,rfl⟩) (λo a ia g E h=>?_) (λo a b ia ib g E h=>?_) (λa b ia ib g E h=>?_) (λo ds f id jf g E h=>?_) (λg l h=>?_) λb a r ia ir g l h=>?_
 ·cases i <;> exact ⟨rfl,rfl⟩
 ·(refine (jR _ _ _).symm▸?_;refine (jR _ _ _).symm▸?_;refine (jj _ _ _).symm▸?_;refine (jj _ _ _).symm▸?_;refine ((ia g E h).1).symm▸?_);exact ⟨rfl,rfl⟩
 ·(refine (gr _ _ _ _).symm▸?_;refine (gr _ _ _ _).symm▸?_;refine (gu _ _ _ _).symm▸?_;refine (gu _ _ _ _).symm▸?_;refine ((ia g E λc hc=>h c (orl hc)).1).symm▸?_;refine ((ib g E λc hc=>h c (orr hc)).1).symm▸?_;refine ((ia g E λc hc=>h c (orl hc)).2).symm▸?_;refine ((ib g E λc hc=>h c (orr hc)).2).symm▸?_);exact ⟨rfl,rfl⟩
 ·(refine (jV _ _ _).symm▸?_;refine (jV _ _ _).symm▸?_;refine ((ia g E λc hc=>h c (orl hc)).2).symm▸?_;refine ((ib g E λc hc=>h c (orr hc)).2).symm▸?_);exact ⟨rfl,rfl⟩
 ·have ho:(ds.opens h0 h1 [([],nrm g E)]).map (lq (ds.gs g))=(ds.opens h0 h1 [([],E)]).map (lq (ds.gs g)):=id g [([],E)] λc hc=>h c (orl hc);have hf:(λp:List Nat×En=>f.tru h0 h1 p.2)=λp=>f.tru h0 h1 (lq (ds.gs g) p).2:=funext λp=>(jf (ds.gs g) p.2 λc hc=>wx λhb=>h c (orr (e7 (hb.symm▸rfl) hc))).2.symm;(refine (nS _ _ _ _).symm▸?_;refine (nS _ _ _ _).symm▸?_;refine (nd _ _ _ _).symm▸?_;refine (nd _ _ _ _).symm▸?_;refine hf.symm▸?_);refine ⟨congrArg filt ?_,?_⟩
  ·(refine (jF _ (lq (ds.gs g)) (λ_=>rfl) λp=>f.tru h0 h1 p.2)▸?_;refine (jF _ (lq (ds.gs g)) (λ_=>rfl) λp=>f.tru h0 h1 p.2)▸?_;exact ho.symm▸rfl)
  ·(refine (jr o _ (lq (ds.gs g)) λp=>f.tru h0 h1 p.2)▸?_;refine (jr o _ (lq (ds.gs g)) λp=>f.tru h0 h1 p.2)▸?_;exact ho.symm▸rfl)
 ·refine (?_:(l.map (lq g)).map (lq g)=l.map (lq g));refine (List.map_map).symm▸?_;refine map_congr_left λp _=>congrArg (Prod.mk p.1) (funext λc=>?_);refine (?_:(if g c=true then (if g c=true then p.2 c else []) else [])=if g c=true then p.2 c else []);cases g c <;> rfl
 ·have hw:∀ c,r.fv c=true->cj g b c=true:=λc hc=>nj λhb=>h c (orr (e7 (show (!(c==b))=true by exact hb.symm▸rfl) hc));refine (?_:(r.opens h0 h1 ((l.map (lq g)).flatMap (dg h0 h1 b a))).map (lq (r.gs (cj g b)))=(r.opens h0 h1 (l.flatMap (dg h0 h1 b a))).map (lq (r.gs (cj g b))));(refine (ir (cj g b) (l.flatMap (dg h0 h1 b a)) hw)▸?_;refine (ir (cj g b) ((l.map (lq g)).flatMap (dg h0 h1 b a)) hw)▸?_);congr 2;(refine (map_flatMap).symm▸?_;refine (map_flatMap).symm▸?_;refine (List.flatMap_map _ _ _).symm▸?_;refine (List.flatMap_def).symm▸?_;refine (List.flatMap_def).symm▸?_);refine congrArg _ (map_congr_left λp _=>?_);(refine (List.map_map).symm▸?_;refine (List.map_map).symm▸?_;refine ((ia g p.2 λc hc=>h c (orl hc)).1).symm▸?_);exact map_congr_left λc _=>congrArg (Prod.mk (p.1++[c])) (xX g p.2 b [c])
theorem rE (x:N)(g:Bool->Bool)(E:En)(h:∀ b,x.fv b=true->g b=true):x.den h0 h1 (nrm g E)=x.den h0 h1 E/\x.tru h0 h1 (nrm g E)=x.tru h0 h1 E:=te.1 x g E h
theorem oF {x:N}(h:∀ b,x.fv b=false)(E E':En):x.den h0 h1 E=x.den h0 h1 E':=by
 have h1':=(rE (h0:=h0) (h1:=h1) x (λ_=>false) E λb hb=>Bool.noConfusion ((h b).symm.trans hb)).1;have h2':=(rE (h0:=h0) (h1:=h1) x (λ_=>false) E' λb hb=>Bool.noConfusion ((h b).symm.trans hb)).1;(refine h1'▸?_;refine h2'▸?_);rfl
noncomputable def lD (h0 h1:List Nat)(ep:Pl)(E:En):En:=λb=>match ep b with
 | some c=>c.den h0 h1 λ_=>[]
 | none=>E b
noncomputable def vN (h0 h1:List Nat)(ep:Pl)(p:List Nat×En):List Nat×En:=(p.1,lD h0 h1 ep p.2)
theorem wa (ep:Pl)(E:En)(b:Bool)(v:List Nat):lD h0 h1 (ep.drop b) (E.set b v)=(lD h0 h1 ep E).set b v:=by
 funext c;unfold lD En.set Pl.drop;by_cases h:c=b
 ·simp [h]
 ·simp [h]
theorem vY:∀ {c:N},c.ok .set=true->∀ E,c.tru h0 h1 E=false:=by
 intro c e E;induction c using N.casesOn with
 | un o a=>have:=bq ((je o a .set).symm.trans e);induction o using U1.casesOn <;> exact Bool.noConfusion this
 | bin o a b =>
  have:=bq (bq ((eY o a b .set).symm.trans e));induction o using B2.casesOn with
  | join=>rfl
  | _=>exact Bool.noConfusion this
 | or a b=>exact Bool.noConfusion (bq (bq e))
 | q o ds f =>
  have:=cH ((sJ o ds f .set).symm.trans e);induction o using Q3.casesOn with
  | comp=>rfl
  | _=>exact Bool.noConfusion this
 | _=>rfl
theorem oi:(∀ (x:N) (ep:Pl),aw ep->∀ E:En,(x.place ep).den h0 h1 E=x.den h0 h1 (lD h0 h1 ep E)/\(x.place ep).tru h0 h1 E=x.tru h0 h1 (lD h0 h1 ep E)) /\
  ∀ (ds:Ds) (ep:Pl),aw ep->∀ l:List (List Nat×En),ds.opens h0 h1 (l.map (vN h0 h1 ep))=((ds.place ep).opens h0 h1 l).map (vN h0 h1 (ds.drops ep)):=by
 refine N.both (λb ep h E=>?_) (λi ep h E=>?_) (λep h E=>⟨rfl,rfl⟩) (λo a ia ep h E=>?_) (λo a b ia ib ep h E=>?_) (λa b ia ib ep h E=>?_) (λo ds f id jf ep h E=>?_) (λ_ _ _=>rfl) λb a r ia ir ep h l=>?_
 ·refine (?_:((ep b).getD (.var b)).den h0 h1 E=lD h0 h1 ep E b/\((ep b).getD (.var b)).tru h0 h1 E=false);unfold lD;cases q:ep b with
  | none=>exact ⟨rfl,rfl⟩
  | some c=>exact ⟨oF (h.fv b c q) _ _,vY (h.ok b c q) E⟩
 ·cases i <;> exact ⟨rfl,rfl⟩
 ·refine (?_:(N.un o (a.place ep)).den h0 h1 E=_/\(N.un o (a.place ep)).tru h0 h1 E=_);(refine (jR _ _ _).symm▸?_;refine (jR _ _ _).symm▸?_;refine (jj _ _ _).symm▸?_;refine (jj _ _ _).symm▸?_;refine ((ia ep h E).1).symm▸?_);exact ⟨rfl,rfl⟩
 ·refine (?_:(N.bin o (a.place ep) (b.place ep)).den h0 _ E=_/\(N.bin o (a.place ep) (b.place ep)).tru h0 _ E=_);(refine (gr _ _ _ _).symm▸?_;refine (gr _ _ _ _).symm▸?_;refine (gu _ _ _ _).symm▸?_;refine (gu _ _ _ _).symm▸?_;refine ((ia ep h E).1).symm▸?_;refine ((ib ep h E).1).symm▸?_;refine ((ia ep h E).2).symm▸?_;refine ((ib ep h E).2).symm▸?_);exact ⟨rfl,rfl⟩
 ·refine (?_:(N.or (a.place ep) (b.place ep)).den h0 _ E=_/\(N.or (a.place ep) (b.place ep)).tru h0 _ E=_);(refine (jV _ _ _).symm▸?_;refine (jV _ _ _).symm▸?_;refine ((ia ep h E).2).symm▸?_;refine ((ib ep h E).2).symm▸?_);exact ⟨rfl,rfl⟩
 ·have ho:ds.opens h0 h1 [([],lD h0 h1 ep E)]=((ds.place ep).opens h0 h1 [([],E)]).map (vN h0 h1 (ds.drops ep)):=id ep h [([],E)];have hf:(λp:List Nat×En=>(f.place (ds.drops ep)).tru h0 h1 p.2)=λp=>f.tru h0 h1 (vN h0 h1 (ds.drops ep) p).2:=funext λp=>(jf _ (h.drops ds) p.2).2;refine (?_:(N.q o (ds.place ep) (f.place (ds.drops ep))).den h0 h1 E=_/\(N.q o (ds.place ep) (f.place (ds.drops ep))).tru h0 h1 E=_);(refine (nS _ _ _ _).symm▸?_;refine (nS _ _ _ _).symm▸?_;refine (nd _ _ _ _).symm▸?_;refine (nd _ _ _ _).symm▸?_;refine hf.symm▸?_;refine ho.symm▸?_;refine (jF _ (vN h0 h1 (ds.drops ep)) (λ_=>rfl) λp=>f.tru h0 h1 p.2).symm▸?_;refine (jr _ _ _ _).symm▸?_);exact ⟨rfl,rfl⟩
 ·refine (?_:r.opens h0 h1 ((l.map (vN h0 h1 ep)).flatMap (dg h0 h1 b a))=((r.place (ep.drop b)).opens h0 h1 (l.flatMap (dg h0 h1 b (a.place ep)))).map (vN h0 h1 (r.drops (ep.drop b))));rw [<- ir _ (h.drop b)];congr 1;(refine (List.flatMap_map _ _ _).symm▸?_;refine (map_flatMap).symm▸?_;refine (List.flatMap_def).symm▸?_;refine (List.flatMap_def).symm▸?_);refine congrArg _ (map_congr_left λp _=>?_);(refine (List.map_map).symm▸?_;refine ((ia ep h p.2).1).symm▸?_);exact map_congr_left λc _=>congrArg (Prod.mk (p.1++[c])) (wa ep p.2 b [c]).symm
theorem qE (x:N){ep:Pl}(h:aw ep)(E:En):(x.place ep).den h0 h1 E=x.den h0 h1 (lD h0 h1 ep E)/\(x.place ep).tru h0 h1 E=x.tru h0 h1 (lD h0 h1 ep E):=oi.1 x ep h E
end
noncomputable def bc (b:Bool):Nat:=if b then 1 else 0
noncomputable def aV (p:Bool->Bool):List Nat:=(if p false then [0] else [])++(if p true then [1] else [])
structure Cd (cs:List Nat)(p:Bool->Bool):Prop where
 lt:∀ c∈cs,c < 2
 mem:∀ b,bc b∈cs ↔ p b=true
theorem Cd.filt {cs:List Nat}{p:Bool->Bool}(h:Cd cs p):filt cs=aV p:=by
 have h2:cs.contains 2=false:=by
  cases q:cs.contains 2 with
  | false=>rfl
  | true=>exact absurd (h.lt 2 (List.contains_iff_mem.mp q)) (by decide)
 have h3:cs.contains 3=false:=by
  cases q:cs.contains 3 with
  | false=>rfl
  | true=>exact absurd (h.lt 3 (List.contains_iff_mem.mp q)) (by decide)
 have h0:cs.contains 0=p false:=by
  rw [Bool.eq_iff_iff,List.contains_iff_mem];exact h.mem false
 have h1:cs.contains 1=p true:=by
  rw [Bool.eq_iff_iff,List.contains_iff_mem];exact h.mem true
 refine (?_:[0,1,2,3].filter (λn=>cs.contains n)=_);simp only [filter_cons,List.filter_nil,h2,h3,h0,h1,false_eq_true,if_false];unfold aV;cases p false <;> cases p true <;> rfl
theorem eI (p:Bool->Bool):Cd (aV p) p:=by
 unfold aV;refine ⟨λc hc=>?_,λb=>?_⟩
 ·rcases mem_append.mp hc with hc | hc
  ·split at hc
   ·rw [mem_singleton] at hc;exact bh (.a (.v 0) (.n 1)) (.n 2) [(1,.v 0,.n 0)] rfl (le_of_eq hc)
   ·cases hc
  ·split at hc
   ·rw [mem_singleton] at hc;exact bh (.a (.v 0) (.n 1)) (.n 2) [(1,.v 0,.n 1)] rfl (le_of_eq hc)
   ·cases hc
 ·induction b using Bool.casesOn with
  | false=>cases h1:p false <;> cases h2:p true <;> simp [bc]
  | true=>cases h1:p false <;> cases h2:p true <;> simp [bc]
theorem vz:Cd [] λ_=>false:=⟨λc hc=>(by cases hc),λb=>⟨λh=>(by cases h),λh=>(by cases h)⟩⟩
theorem Cd.append {cs ds:List Nat}{p q:Bool->Bool}(h:Cd cs p)(k:Cd ds q):Cd (cs++ds) λb=>p b || q b :=
 ⟨λc hc=>(mem_append.mp hc).elim (h.lt c) (k.lt c),λb=>by rw [mem_append,h.mem,k.mem,or_eq_true]⟩
theorem Cd.congr {cs:List Nat}{p q:Bool->Bool}(h:Cd cs p)(e:∀ b,p b=q b):Cd cs q:=⟨h.lt,λb=>by rw [h.mem,e]⟩
theorem cT {p q:Bool->Bool}(e:∀ b,p b=q b):aV p=aV q:=by unfold aV;rw [e,e]
theorem da (p:Bool->Bool):(aV p).length<=2:=by
 unfold aV;cases p false <;> cases p true <;> decide
noncomputable def nmL (l:List Bool):List D:=l.map λb=>D.str (nm b)
noncomputable def BdL (σ:Sto)(k:Nat)(l:List Bool):Prop:=∃ v,σ[k]? = some (.list (nmL l),v)
noncomputable def FP (n:Nat)(x:N):Prop:=∀ σ k l,BdL σ k l->l.length+3 * x.ht<=4000->Ok (aL n "_law_free" [x.d,.ref k]) σ (zW .str (aV λb=>x.fv b && !l.contains b) σ)
theorem tO (b:Bool):PyData.strOk (nm b)=true:=by induction b using Bool.casesOn <;> decide +kernel
theorem ul {σ:Sto}{k v:Nat}{l:List Bool}{b:Bool}(e:σ[k]? = some (.list (nmL l),v)){Q:Bool->Sto->Prop}(h:Q (l.contains b) σ):Ok (inD (.str (nm b)) (.ref k)) σ Q:=by
 refine Ok.bind (Ok.getO e ?_);have e1:D.pys (nmL l)=some ((l.map nm).map .str):=by
  refine qW ?_;induction l with
  | nil=>rfl
  | cons a r ih =>
   refine (?_:(r9 (r.map λb=>D.str (nm b))).map (nm a :: ·)=_);have:r9 (r.map λb=>D.str (nm b))=some (r.map nm):=by
    clear ih e h;induction r with
    | nil=>rfl
    | cons x r ih=>refine (?_:(r9 (r.map λb=>D.str (nm b))).map (nm x :: ·)=_);exact ih▸rfl
   exact this▸rfl
 refine Ok.bind (Ok.ofOpt (a:=.str (nm b)) rfl (Ok.bind (Ok.ofOpt e1 (Ok.bind (Ok.must ?_ (Ok.ret ?_))))))
 ·(refine (fu _).symm▸?_;refine (tO _).symm▸?_);unfold SeqAt.shaped PyData.canLay0 PyData.depth;rw [(ie _).1,(ie _).2];have:(l.map nm).all PyData.strOk=true:=by
   rw [all_eq_true];intro x hx;obtain ⟨b,_,rfl⟩:=mem_map.mp hx;exact tO b
  exact this.symm▸rfl
 ·refine (on _ _).symm▸?_;have:(l.map nm).contains (nm b)=l.contains b:=by
   rw [Bool.eq_iff_iff,List.contains_iff_mem,List.contains_iff_mem,mem_map];constructor
   ·rintro ⟨x,hx,he⟩;exact (lr.mp he)▸hx
   ·intro hx;exact ⟨b,hx,rfl⟩
  exact this▸h
noncomputable def lFr (x:D)(k:Nat)(o1 o2 o3 o4 o5 o6:Option D):Loc:=[("node",some x),("bound",some (.ref k)),("op",o1),("sign",o2),("found",o3),("inner",o4),("some",o5),("within",o6)]
theorem AT (b:Bool)(n:Nat):FP (n+1) (.var b):=λσ k l ⟨v,hk⟩ _=>by
 refine ao rfl dc (ax (ρ:=lFr (N.var b).d k none none none none none none) rfl ?_);refine bi "op" (.str "var") 1 (by kernel_rfl) (ab (aB (aX rfl (bm (s:=.tup [.str (nm b)]) rfl ?_))));refine aW trivial (ff rfl (cU (gf rfl (bZ (aa (d:=.str (nm b)) rfl (aa (d:=.ref k) rfl ?_))))));refine Ok.bind (ul hk (Ok.ret ⟨_,rfl,λhb=>?_,λhb=>?_⟩))
 ·refine aa (d:=.str (nm b)) rfl (cg ⟨trivial,le_of_ble_eq_true rfl,⟨_,0,rfl,?_⟩,(av.refl _ _).push _⟩);have:au .str (aV λc=>(N.var b).fv c && !l.contains c)=[D.str (nm b)]++[]:=by
   have hp:∀ c,((N.var b).fv c && !l.contains c)=(c==b):=λc=>by
    refine (?_:((c==b) && !l.contains c)=(c==b));by_cases h:c=b
    ·subst h;refine hb.symm▸?_;simp
    ·have:(c==b)=false:=by simpa using h
     exact this.symm▸rfl
   refine (cT hp).symm▸?_;induction b using Bool.casesOn <;> rfl
  refine this.symm▸?_;exact ag _ _
 ·refine cg ⟨trivial,zero_le _,⟨_,0,rfl,?_⟩,(av.refl _ _).push _⟩;have:au .str (aV λc=>(N.var b).fv c && !l.contains c)=[]++[]:=by
   have hp:∀ c,((N.var b).fv c && !l.contains c)=false:=λc=>by
    refine (?_:((c==b) && !l.contains c)=false);by_cases h:c=b
    ·subst h;refine hb.symm▸?_;simp
    ·have:(c==b)=false:=by simpa using h
     exact this.symm▸rfl
   refine (cT hp).symm▸?_;rfl
  refine this.symm▸?_;exact ag _ _
theorem uN (x:N)(s:Str)(y:D)(hx:x.d = .tup [.str s,y])(hs:s="rel"\/s="none")(hf:∀ b,x.fv b=false)(n:Nat):FP (n+1) x:=λσ k l _ _=>by
 refine hx.symm▸?_;refine ao rfl dc (ax (ρ:=lFr (.tup [.str s,y]) k none none none none none none) rfl ?_);refine bi "op" (.str s) 0 (by rcases hs with rfl | rfl <;> kernel_rfl) (ab (aB (bw (aq ⟨zero_le _,⟨_,0,rfl,?_⟩,(av.refl _ _).push _⟩))));have:aV (λc=>x.fv c && !l.contains c)=[]:=by
  rw [cT (q:=λ_=>false) λc=>by rw [hf];rfl];rfl
 refine this.symm▸?_;exact ag _ _
theorem mC {o:Str}{x:N}{parts:List N}{w:D}(n:Nat)(ho:∀ σ k,∀ P:D->Sto->Prop,Ex (aE (aL n) 59 (aO 34).scope (lFr x.d k (some (.str o)) none none none none (some (.tup (parts.map N.d)))) ((aO 34).body.drop 5)) σ (λ_ σ'=>P .none σ') P->Ok (aL (n+1) "_law_free" [x.d,.ref k]) σ P)
  (H:∀ a∈parts,FP n a) (hht:∀ a∈parts,a.ht<=x.ht) (h2:parts.length<=2) (hfv:∀ b,x.fv b=parts.any λa=>a.fv b):FP (n+1) x:=λσ k l hk hl=>by
 refine ho σ k _ ?_;refine ab (aB (cN rfl rfl ?_));refine fA rfl (bm (s:=.tup (parts.map N.d)) rfl ?_);refine aG (σ0:=σ) (src:=.tup (parts.map N.d)) N.d (λa=>au .str (aV λb=>a.fv b && !l.contains b)) trivial (av.refl _ _) (λa ha σ2 k2=>?_) λσ3 k3=>?_
 ·refine fG rfl (bV rfl (am rfl (by kernel_rfl) (ah (ds:=[a.d,.ref k]) rfl ?_)));obtain ⟨v,hk⟩:=hk;refine (H a ha σ2 k l ⟨v,k2.get hk⟩ (by have:=hht a ha;exact aZ (.a (.v 0) (.m 3 (.v 1))) (.n 4000) [(1,(.a (.v 0) (.m 3 (.v 2))),.n 4000),(3,.v 1,.v 2)] rfl hl this)).mono λr σ4 h4=>?_;obtain ⟨⟨kr,vr,rfl,hkr⟩,k4⟩:=h4;refine aN hkr ?_;refine aG (σ0:=σ4) (src:=.at kr vr (au .str (aV λb=>a.fv b && !l.contains b))) (dec .str) (λc=>[dec .str c]) ⟨_,hkr⟩ (av.refl _ _) (λc _ σ5 k5=>?_) λσ5 k5=>⟨⟨_,k5.get hkr⟩,bF _ _,(k2.trans k4).trans k5⟩;exact aY rfl (aa (d:=dec .str c) rfl ⟨rfl,k5⟩)
 ·have e1:(parts.flatMap λa=>au .str (aV λb=>a.fv b && !l.contains b))=au .str (parts.flatMap λa=>aV λb=>a.fv b && !l.contains b):=by
   exact (map_flatMap).symm▸rfl
  refine e1.symm▸?_;have hcd:Cd (parts.flatMap λa=>aV λb=>a.fv b && !l.contains b) λb=>x.fv b && !l.contains b:=by
   refine Cd.congr (p:=λb=>parts.any λa=>a.fv b && !l.contains b) ?_ λb=>?_
   ·clear H hht h2 hfv e1 ho;induction parts with
    | nil=>exact vz
    | cons a r ih =>
     refine (List.flatMap_cons).symm▸?_;exact ((eI _).append ih).congr λb=>(any_cons).symm▸rfl
   ·rw [hfv];cases l.contains b <;> simp
  have hlen:(parts.flatMap λa=>aV λb=>a.fv b && !l.contains b).length<=2 * parts.length:=by
   clear H hht h2 hfv e1 hcd ho;induction parts with
   | nil=>exact le_refl _
   | cons a r ih =>
    (refine (List.flatMap_cons).symm▸?_;refine (length_append).symm▸?_;refine (length_cons).symm▸?_);exact le_trans (add_le_add (da _) ih) (le_of_eq (add_comm 2 _))
  have h4:aQ=4096:=rfl;refine ⟨trivial,by refine (length_map _).symm▸?_;exact aZ (.v 0) (.v 1) [(2,.v 2,.n 2),(1,.v 0,(.m 2 (.v 2))),(1,.n 4096,.v 1)] rfl h2 hlen (le_of_eq h4.symm),?_⟩;refine ch (u:=.str) hcd.lt (aZ (.v 0) (.v 1) [(2,.v 2,.n 2),(1,.v 0,(.m 2 (.v 2))),(1,.n 4096,.v 1)] rfl h2 hlen (le_of_eq h4.symm)) (ag _ _) ⟨⟨_,0,rfl,?_⟩,(k3.push _).push _⟩;refine (hcd.filt).symm▸?_;exact ag _ _
theorem f_un (o:U1)(a:N)(n:Nat)(H:FP n a):FP (n+1) (.un o a):=by
 refine mC (o:=o.s) (x:=.un o a) (parts:=[a]) (w:=.none) n (λσ k P h=>?_) (λx hx=>by rw [mem_singleton] at hx;subst hx;exact H) (λx hx=>by rw [mem_singleton] at hx;subst hx;exact le_succ _) (le_of_ble_eq_true rfl) (λb=>by show a.fv b=(a.fv b || false);rw [Bool.or_false]);refine ao rfl dc (ax (ρ:=lFr (N.un o a).d k none none none none none none) rfl ?_);refine b6 "op" (.str o.s) 3 (by induction o using U1.casesOn <;> kernel_rfl) ?_;exact ab (aA rfl (aa (d:=.tup [a.d]) (by induction o using U1.casesOn <;> kernel_rfl) h))
theorem Az (o:B2)(a b:N)(n:Nat)(H:FP n a)(H2:FP n b):FP (n+1) (.bin o a b):=by
 refine mC (o:=o.s) (x:=.bin o a b) (parts:=[a,b]) (w:=.none) n (λσ k P h=>?_) (λx hx=>?_) (λx hx=>?_) (le_of_ble_eq_true rfl) (λc=>by show (a.fv c || b.fv c)=(a.fv c || (b.fv c || false));exact (Bool.or_false _).symm▸rfl)
 ·refine ao rfl dc (ax (ρ:=lFr (N.bin o a b).d k none none none none none none) rfl ?_);refine b6 "op" (.str o.s) 3 (by induction o using B2.casesOn <;> kernel_rfl) ?_;exact ab (aA rfl (aa (d:=.tup [a.d,b.d]) (by induction o using B2.casesOn <;> kernel_rfl) h))
 ·rcases mem_cons.mp hx with rfl | hx
  ·exact H
  ·rw [mem_singleton] at hx;subst hx;exact H2
 ·have e:(N.bin o a b).ht=max a.ht b.ht+1:=rfl;rcases mem_cons.mp hx with rfl | hx
  ·exact le_succ_of_le (le_max_left _ _)
  ·rw [mem_singleton] at hx;subst hx;exact le_succ_of_le (le_max_right _ _)
theorem f_or (a b:N)(n:Nat)(H:FP n a)(H2:FP n b):FP (n+1) (.or a b):=by
 refine mC (o:="or") (x:=.or a b) (parts:=[a,b]) (w:=.none) n (λσ k P h=>?_) (λx hx=>?_) (λx hx=>?_) (le_of_ble_eq_true rfl) (λc=>by show (a.fv c || b.fv c)=(a.fv c || (b.fv c || false));exact (Bool.or_false _).symm▸rfl)
 ·refine ao rfl dc (ax (ρ:=lFr (N.or a b).d k none none none none none none) rfl ?_);refine b6 "op" (.str "or") 3 (by kernel_rfl) ?_;exact ab (aA rfl (aa (d:=.tup [a.d,b.d]) (by kernel_rfl) h))
 ·rcases mem_cons.mp hx with rfl | hx
  ·exact H
  ·rw [mem_singleton] at hx;subst hx;exact H2
 ·have e:(N.or a b).ht=max a.ht b.ht+1:=rfl;rcases mem_cons.mp hx with rfl | hx
  ·exact le_succ_of_le (le_max_left _ _)
  ·rw [mem_singleton] at hx;subst hx;exact le_succ_of_le (le_max_right _ _)
noncomputable def FPs (n:Nat):Ds->Prop
 | .nil=>True
 | .cons _ a r=>FP n a/\FPs n r
noncomputable def Ds.names:Ds->List Bool
 | .nil=>[]
 | .cons b _ r=>b::r.names
theorem pP (ds:Ds):ds.names.length=ds.len:=Ds.ind (P:=λds=>ds.names.length=ds.len) rfl (λ_ _ _ ih=>congrArg (· + 1) ih) ds
theorem l4 (ds:Ds)(b:Bool):ds.names.contains b=ds.binds b:=Ds.ind (P:=λds=>ds.names.contains b=ds.binds b) rfl (λc _ _ ih=>congrArg (b==c || ·) ih) ds
theorem eJ (l m:List Bool)(c:Bool):(l++m).contains c=(l.contains c || m.contains c):=by
 rw [Bool.eq_iff_iff,List.contains_iff_mem,mem_append,or_eq_true,List.contains_iff_mem,List.contains_iff_mem]
theorem fr_b:∀ p a r l e:Bool,(p || (a && !l) || (r && !(l || (e || false))))=(p || ((a || (!e && r)) && !l)):=by decide
theorem fq_b:∀ d f l b:Bool,(false || (d && !l) || (f && !(l || b)))=((d || (!b && f)) && !l):=by decide
theorem wF {n:Nat}{src:Src}{body:D->Loc->PM (Fl×Loc)}{N:Loc->Sto->Prop}{R:D->Sto->Prop}(I:List Nat->List Bool->Loc->Sto->Prop)(hs:∀ cs l ρ σ,I cs l ρ σ->src.Fix σ)(B:Nat)
  (step:∀ b a cs l ρ σ,FP n a->a.ht<=B->cs.length<=100->l.length+3 * B+1<=4000->I cs l ρ σ->Ex (body (.tup [.str (nm b),a.d]) ρ) σ (λρ' σ'=>I (cs++aV λc=>a.fv c && !l.contains c) (l++[b]) ρ' σ') R)
  (ds:Ds):∀ (cs:List Nat) (l:List Bool) (p:Bool->Bool) (ρ:Loc) (σ:Sto),FPs n ds->ds.ht<=B->cs.length+2 * ds.len<=100->l.length+ds.len+3 * B<=4000->Cd cs p->I cs l ρ σ ->
   (∀ cs' ρ' σ',Cd cs' (λc=>p c || (ds.fv c && !l.contains c))->cs'.length<=cs.length+2 * ds.len->I cs' (l++ds.names) ρ' σ'->N ρ' σ')->Ex (d3 src body ds.d ρ) σ N R:=by
 refine Ds.ind (P:=λds=>∀ (cs:List Nat) (l:List Bool) (p:Bool->Bool) (ρ:Loc) (σ:Sto),FPs n ds->ds.ht<=B->cs.length+2 * ds.len<=100->l.length+ds.len+3 * B<=4000->Cd cs p->I cs l ρ σ ->
   (∀ cs' ρ' σ',Cd cs' (λc=>p c || (ds.fv c && !l.contains c))->cs'.length<=cs.length+2 * ds.len->I cs' (l++ds.names) ρ' σ'->N ρ' σ')->Ex (d3 src body ds.d ρ) σ N R) (λcs l p ρ σ _ _ _ _ hc h hN=>iW (hs _ _ _ _ h) (hN cs _ _ (hc.congr λc=>(Bool.or_false _).symm) (le_refl _) ((append_nil l).symm▸h))) (λb a r ih cs l p ρ σ H hB hcl hl hc h hN=>?_) ds
 have hcl':cs.length+2 * (r.len+1)<=100:=hcl;have hl':l.length+(r.len+1)+3 * B<=4000:=hl;have hfl:=da λc=>a.fv c && !l.contains c;refine ip (hs _ _ _ _ h) (Ex.mono (step b a cs l ρ σ H.1 (le_trans (le_max_left _ _) hB) (le_trans (le_add_right _ _) hcl) (aZ (.a (.a (.v 0) (.m 3 (.v 1))) (.n 1)) (.n 4000) [(1,(.a (.a (.v 0) (.a (.v 2) (.n 1))) (.m 3 (.v 1))),.n 4000)] rfl hl') h) (λρ1 σ1 h1=>?_) λ_ _ q=>q);refine ih _ (l++[b]) _ ρ1 σ1 H.2 (le_trans (le_max_right _ _) hB) (by refine (length_append).symm▸?_;exact aZ (.a (.a (.v 0) (.v 1)) (.m 2 (.v 2))) (.n 100) [(1,(.a (.v 0) (.m 2 (.a (.v 2) (.n 1)))),.n 100),(1,.v 1,.n 2)] rfl hcl' hfl) (by refine (length_append).symm▸?_;exact le_trans (le_of_eq (congrArg (· + 3 * B) (Nat.add_right_comm _ 1 _))) hl') (hc.append (eI _)) h1 λcs' ρ' σ' h2 h3 h4=>hN cs' ρ' σ' (h2.congr λc=>?_) ?_ (append_assoc l [b] r.names▸h4)
 ·refine (?_:(p c || (a.fv c && !l.contains c) || (r.fv c && !(l++[b]).contains c))=(p c || ((a.fv c || (!(c==b) && r.fv c)) && !l.contains c)));refine (eJ _ _ _).symm▸?_;exact fr_b _ _ _ _ _
 ·replace h3:=(length_append)▸h3;refine (?_:cs'.length<=cs.length+2 * (r.len+1));exact fW (.v 0) (.a (.v 1) (.m 2 (.a (.v 2) (.n 1)))) [(1,.v 3,.n 2),(1,.v 0,(.a (.a (.v 1) (.v 3)) (.m 2 (.v 2))))] rfl hfl h3
theorem f_q (o:Q3)(ds:Ds)(f:N)(n:Nat)(hlen:ds.len<=3)(H:FPs n ds)(H2:FP n f):FP (n+1) (.q o ds f):=λσ k l ⟨v,hk⟩ hl=>by
 have hht:(N.q o ds f).ht=max ds.ht f.ht+1:=rfl;have h4:aQ=4096:=rfl;have hnl:∀ l:List Bool,(nmL l).length=l.length:=λl=>length_map _;refine ao rfl dc (ax (ρ:=lFr (N.q o ds f).d k none none none none none none) rfl ?_);refine bi "op" (.str o.s) 2 (by induction o using Q3.casesOn <;> kernel_rfl) ?_;refine ab (kR (by kernel_rfl) rfl rfl (aI (ae (bw (aq ⟨zero_le _,ae (bM rfl rfl (aa (d:=.ref k) rfl ?_))⟩)))));have hc:b9 "list" (.ref k)=(do mkList (<- oD (.ref k))):=by kernel_rfl
 refine (?_:Ok _ _ _);refine hc.symm▸?_;refine Ok.bind (Ok.bind (Ok.getO (al hk) (Ok.ret (Ok.mkList (by rw [hnl];exact aZ (.v 0) (.v 1) [(1,(.a (.v 0) (.m 3 (.v 2))),.n 4000),(1,.n 4096,.v 1)] rfl hl (le_of_eq h4.symm)) (aq ⟨le_of_ble_eq_true rfl,_,_,rfl,?_⟩)))));have hlen1:(σ++[(PO.list [],0)]).length=σ.length+1:=by simp
 refine hlen1.symm▸?_;have k0:av NoW σ ((σ++[(PO.list [],0)])++[(PO.list (nmL l),0)]):=((av.refl _ _).push _).push _;have g1:((σ++[(PO.list [],0)])++[(PO.list (nmL l),0)])[σ.length]? = some (.list (au .str []),0):=al (ag _ _);have g2:((σ++[(PO.list [],0)])++[(PO.list (nmL l),0)])[σ.length+1]? = some (.list (nmL l),0):=by exact hlen1▸(ag _ _)
 generalize ((σ++[(PO.list [],0)])++[(PO.list (nmL l),0)])=σ1 at k0 g1 g2;have hE:∀ o,(N.q o ds f).d = .tup [.str o.s,.tup ds.d,f.d]:=λ_=>rfl;refine ab (fi (bm (s:=.tup ds.d) rfl ?_));refine wF (n:=n) (src:=.tup ds.d) (λ(cs:List Nat) (l':List Bool) (ρ':Loc) (σ':Sto)=>(∃ (kf:Nat) (v:Nat) (o2 o5:Option D),ρ'=lFr (N.q o ds f).d k (some (.str o.s)) o2 (some (.ref kf)) (some (.ref (σ.length+1))) o5 none/\kf≠σ.length+1/\σ'[kf]? = some (.list (au .str cs),v))/\av NoW σ σ'/\BdL σ' (σ.length+1) l')
  (λ_ _ _ _ _=>trivial) ds.ht ?_ ds [] l _ _ _ H (le_refl _) (by simp;exact bh (.m 2 (.v 0)) (.n 100) [(2,.v 0,.n 3)] rfl hlen) (by have:=le_max_left ds.ht f.ht;lia) vz ⟨⟨σ.length,0,none,none,by kernel_rfl,by exact ne_of_lt (bh (.a (.v 0) (.n 1)) (.a (.v 0) (.n 1)) [] rfl),g1⟩,k0,⟨0,g2⟩⟩ ?_
 ·rintro b a cs l' ρ' σ' HA hB hcs hl' ⟨⟨kf,vf,o2,o5,rfl,hne,hkf⟩,k1,⟨vi,hki⟩⟩;refine cE (ρ':=lFr (N.q o ds f).d k (some (.str o.s)) (some (.str (nm b))) (some (.ref kf)) (some (.ref (σ.length+1))) (some a.d) none) rfl ?_;refine ab (aA (by kernel_rfl) (bB (aa (d:=.ref kf) rfl (am (by kernel_rfl) (by kernel_rfl) (ah (ds:=[a.d,.ref (σ.length+1)]) rfl ?_)))));refine (HA σ' (σ.length+1) l' ⟨vi,hki⟩ (by exact aZ (.a (.v 0) (.m 3 (.v 1))) (.n 4000) [(3,.v 1,.v 2),(1,(.a (.a (.v 0) (.m 3 (.v 2))) (.n 1)),.n 4000)] rfl hB hl')).mono λr σ2 h2=>?_;obtain ⟨⟨kr,vr,rfl,hkr⟩,k2⟩:=h2;have hfl:=da λc=>a.fv c && !l'.contains c;refine add_list (k2.get hkf) hkr (by (refine (map_append)▸?_;refine (length_map _).symm▸?_;refine (length_append).symm▸?_);exact aZ (.a (.v 0) (.v 1)) (.v 2) [(1,.n 4096,.v 2),(1,.v 0,.n 100),(1,.v 1,.n 2)] rfl (le_of_eq h4.symm) hcs hfl) ?_;refine (map_append)▸?_;have hi2:=al (q:=(PO.list (List.map (dec .str) (cs++aV λc=>a.fv c && !l'.contains c)),0)) (k2.get hki);have hf2:=ag σ2 (PO.list (List.map (dec .str) (cs++aV λc=>a.fv c && !l'.contains c)),0);have hlt:σ.length+1 < σ2.length:=aH (k2.get hki);refine ab (im rfl (dM rfl (aa (d:=.ref (σ.length+1)) rfl ⟨_,_,_,rfl,hi2,aa (d:=.str (nm b)) rfl ⟨_,_,hi2,by rw [hnl];exact aZ (.v 0) (.v 1) [(1,.n 4096,.v 1),(1,(.a (.a (.v 0) (.m 3 (.v 2))) (.n 1)),.n 4000)] rfl (le_of_eq h4.symm) hl',a9 ?_⟩⟩)));refine ⟨⟨σ2.length,0,some (.str (nm b)),some a.d,by kernel_rfl,by exact ne_of_gt (a5 (.a (.a (.v 0) (.n 1)) (.n 1)) (.v 1) [(1,(.a (.a (.v 0) (.n 1)) (.n 1)),.v 1)] rfl hlt),aF (by exact ne_of_lt (a5 (.a (.a (.v 0) (.n 1)) (.n 1)) (.v 1) [(1,(.a (.a (.v 0) (.n 1)) (.n 1)),.v 1)] rfl hlt)) hf2⟩,((k1.trans k2).push _).set (by exact bh (.v 0) (.a (.v 0) (.n 1)) [] rfl) _,⟨vi+1,?_⟩⟩;refine (bN hi2).symm▸?_;unfold nmL;exact map_append▸rfl
 ·rintro cs' ρ' σ' hcd hcl ⟨⟨kf,vf,o2,o5,rfl,hne,hkf⟩,k1,⟨vi,hki⟩⟩;refine ab (aB (cN rfl rfl (bB (aa (d:=.ref kf) rfl (am (by kernel_rfl) (by kernel_rfl) (ah (ds:=[f.d,.ref (σ.length+1)]) rfl ?_))))));refine (H2 σ' (σ.length+1) (l++ds.names) ⟨vi,hki⟩ (by (refine (length_append).symm▸?_;refine (pP _).symm▸?_);have:=le_max_right ds.ht f.ht;lia)).mono λr σ2 h2=>?_;obtain ⟨⟨kr,vr,rfl,hkr⟩,k2⟩:=h2;have hfl:=da λc=>f.fv c && !(l++ds.names).contains c;have hcl':cs'.length<=2 * ds.len:=by simpa using hcl
  refine add_list (k2.get hkf) hkr (by (refine (map_append)▸?_;refine (length_map _).symm▸?_;refine (length_append).symm▸?_);exact fW (.a (.v 0) (.v 1)) (.v 2) [(2,.v 3,.n 3),(1,.n 4096,.v 2),(1,.v 1,.n 2),(1,.v 0,(.m 2 (.v 3)))] rfl hlen (le_of_eq h4.symm) hfl hcl') ?_;refine (map_append)▸?_;have hall:=(hcd.append (eI λc=>f.fv c && !(l++ds.names).contains c)).congr (q:=λb=>(N.q o ds f).fv b && !l.contains b) λc=>by
   refine (?_:(false || (ds.fv c && !l.contains c) || (f.fv c && !(l++ds.names).contains c))=((ds.fv c || (!ds.binds c && f.fv c)) && !l.contains c));(refine (eJ _ _ _).symm▸?_;refine (l4 _ _).symm▸?_);exact fq_b _ _ _ _
  refine ch (u:=.str) hall.lt (by refine (length_append).symm▸?_;exact fW (.a (.v 0) (.v 1)) (.v 2) [(2,.v 3,.n 3),(1,.n 4096,.v 2),(1,.v 1,.n 2),(1,.v 0,(.m 2 (.v 3)))] rfl hlen (le_of_eq h4.symm) hfl hcl') (ag _ _) ⟨⟨_,0,rfl,?_⟩,(((k1.trans k2).push _).push _)⟩;refine (hall.filt).symm▸?_;exact ag _ _
theorem sZ {k n:Nat}(h:k+1<=n):∃ m,n=m+1/\k<=m:=by
 induction n using Nat.casesOn with
 | zero=>exact absurd h (not_succ_le_zero _)
 | succ m=>exact ⟨m,rfl,Nat.le_of_succ_le_succ h⟩
theorem y3:(∀ (x:N) (T:Ty) (n:Nat),x.ok T=true->x.ht<=n->FP (n+1) x)/\∀ (ds:Ds) (n:Nat),ds.ok=true->ds.ht<=n->FPs (n+1) ds:=by
 refine N.both (λb T n _ _=>AT b n) (λi T n _ _=>uN (.rel i) "rel" _ rfl (.inl rfl) (λ_=>rfl) n) (λT n _ _=>uN .none "none" _ rfl (.inr rfl) (λ_=>rfl) n) (λo a ia T n h hn=>?_) (λo a b ia ib T n h hn=>?_) (λa b ia ib T n h hn=>?_)
  (λo ds f id jf T n h hn=>?_) (λ_ _ _=>trivial) λb a r ia ir n h hn=>⟨ia _ n (bq h) (le_trans (le_max_left _ _) hn),ir n (cH h) (le_trans (le_max_right _ _) hn)⟩
 ·obtain ⟨m,rfl,hm⟩:=sZ hn;exact f_un o a (m+1) (ia _ m (cH ((je o a T).symm.trans h)) hm)
 ·obtain ⟨m,rfl,hm⟩:=sZ hn;have h:=(eY o a b T).symm.trans h;exact Az o a b (m+1) (ia _ m (cH (bq h)) (le_trans (le_max_left _ _) hm)) (ib _ m (cH h) (le_trans (le_max_right _ _) hm))
 ·obtain ⟨m,rfl,hm⟩:=sZ hn;exact f_or a b (m+1) (ia _ m (cH (bq h)) (le_trans (le_max_left _ _) hm)) (ib _ m (cH h) (le_trans (le_max_right _ _) hm))
 ·obtain ⟨m,rfl,hm⟩:=sZ hn;have h:=(sJ o ds f T).symm.trans h;exact f_q o ds f (m+1) (of_decide_eq_true (cH (bq h))) (id m (bq (bq (bq h))) (le_trans (le_max_left _ _) hm)) (jf _ m (cH (bq (bq h))) (le_trans (le_max_right _ _) hm))
theorem zE (x:N)(T:Ty)(n:Nat)(h:x.ok T=true)(hn:x.ht<=n):FP (n+1) x:=y3.1 x T n h hn
noncomputable def tz:N->Prop
 | .var _=>True
 | .rel false=>True
 | .none=>True
 | _=>False
noncomputable def Ds.leaf:Ds->Prop
 | .nil=>True
 | .cons _ a r=>tz a/\r.leaf
noncomputable def CC:Nat->Nat
 | 0=>2
 | k+1=>4 * CC k+20
noncomputable def ZZ:Nat->Nat
 | 0=>1000
 | k+1=>2 * ZZ k+1060
structure Bd (T:Ty)(j:Nat)(x:N):Prop where
 ok:x.ok T=true
 ht:x.ht<=j+1
 cost:x.cost 2<=CC j
 sz:x.sz 1000<=ZZ j
theorem Aa (j:Nat):CC j<=CC (j+1):=(Nat.le_add_right_of_le (Nat.le_mul_of_pos_left _ (by decide)):CC j<=4 * CC j+20)
theorem As (j:Nat):ZZ j<=ZZ (j+1):=(Nat.le_add_right_of_le (Nat.le_mul_of_pos_left _ (by decide)):ZZ j<=2 * ZZ j+1060)
theorem Bd.up {T:Ty}{j:Nat}{x:N}(h:Bd T j x):Bd T (j+1) x:=⟨h.ok,le_succ_of_le h.ht,le_trans h.cost (Aa j),le_trans h.sz (As j)⟩
theorem Bd.add {T:Ty}{i:Nat}{x:N}(h:Bd T i x)(n:Nat):Bd T (i+n) x:=Nat.rec h (λ_ ih=>ih.up) n
theorem Bd.le {T:Ty}{i j:Nat}{x:N}(h:Bd T i x)(hi:i<=j):Bd T j x:=Nat.add_sub_cancel' hi▸h.add (j - i)
theorem sd (x:N):tz x->Bd .set 0 x:=by
 induction x using N.casesOn with
 | var b=>exact λ_=>⟨rfl,le_refl _,le_refl 2,le_refl 1000⟩
 | rel i=>induction i using Bool.casesOn with
  | false=>exact λ_=>⟨rfl,le_refl _,zero_le _,show 20<=1000 by decide⟩
  | true=>exact λh=>h.elim
 | none=>exact λ_=>⟨rfl,le_refl _,zero_le _,show 20<=1000 by decide⟩
 | _=>exact λh=>h.elim
structure LfB (ds:Ds):Prop where
 ok:ds.ok=true
 ht:ds.ht<=1
 cost:∀ j,ds.cost 2 j+4 * j<=4 * j * 2 ^ ds.len
 sz:ds.sz 1000<=1020 * ds.len
theorem Aj (j c d n:Nat)(h:c<=2)(k:d+4 * (2 * j)<=4 * (2 * j) * 2 ^ n):j * (c+2)+d+4 * j<=4 * j * 2 ^ (n+1):=by
 have e1:j * (c+2)<=j * 4:=mul_le_mul_left _ (add_le_add_right h 2);have e2:4 * j * 2 ^ (n+1)=4 * (2 * j) * 2 ^ n:=by refine (Nat.pow_succ _ _).symm▸?_;ac_rfl
 refine e2.symm▸?_;exact fW (.a (.a (.v 0) (.v 1)) (.m 4 (.v 2))) (.v 3) [(1,(.a (.v 1) (.m 4 (.m 2 (.v 2)))),.v 3),(1,.v 0,(.r (.v 2) 4))] rfl k e1
theorem lf_z {a r n:Nat}(h:a<=1000)(k:r<=1020 * n):a+r+20<=1020 * (n+1):=aZ (.a (.a (.v 0) (.v 1)) (.n 20)) (.m 1020 (.a (.v 2) (.n 1))) [(1,.v 0,.n 1000),(1,.v 1,(.m 1020 (.v 2)))] rfl h k
theorem bdl (ds:Ds):ds.leaf->LfB ds :=
 Ds.ind (P:=λds=>ds.leaf->LfB ds) (λ_=>⟨rfl,le_refl 1,λj=>le_of_eq ((zero_add _).trans (Nat.mul_one _).symm),le_refl 0⟩)
  (λb a r ih h=>have A:=sd a h.1
   have B:=ih h.2
   ⟨e7 A.ok B.ok,max_le.mpr ⟨A.ht,B.ht⟩,λj=>Aj j _ _ _ A.cost (B.cost (2 * j)),lf_z A.sz B.sz⟩) ds
theorem A8 {a b c:Nat}(h:a<=c)(k:b<=c):a+b<=4 * c+20:=aZ (.a (.v 0) (.v 1)) (.a (.m 4 (.v 2)) (.n 20)) [(1,.v 0,.v 2),(3,.v 1,.v 2)] rfl h k
theorem BI {a b c n:Nat}(h:a<=c)(k:b<=c)(l:n<=1060):a+b+n<=2 * c+1060:=add_le_add (le_trans (add_le_add h k) (le_of_eq (Nat.two_mul c).symm)) l
theorem Bd.un {T S:Ty}{o:U1}{j:Nat}{a:N}(h:Bd T j a)(e:∀ x,x=true->(S==(uT o).1 && x)=true)(q:(uT o).2=T):Bd S (j+1) (.un o a) :=
 ⟨(je o a S).trans (e _ (q▸h.ok)),succ_le_succ h.ht,h.up.cost,le_trans (add_le_add_right h.sz 30) (add_le_add (Nat.le_mul_of_pos_left _ (by decide)) (show 30<=1060 by decide))⟩
theorem Bd.two {T U S:Ty}{o:B2}{j:Nat}{a b:N}(h:Bd T j a)(k:Bd U j b)(e:bT o=(S,T,U)):Bd S (j+1) (.bin o a b) :=
 ⟨(eY o a b S).trans (by refine e.symm▸?_;exact e7 (e7 (beq_self_eq_true S) h.ok) k.ok),succ_le_succ (max_le.mpr ⟨h.ht,k.ht⟩),A8 h.cost k.cost,BI h.sz k.sz (by decide)⟩
theorem AN {d f c n:Nat}(h:d+4 * 1<=4 * 1 * 2 ^ n)(hn:n<=3)(k:f<=c):d+2 ^ n * f<=4 * (4 * c+20)+20:=by
 have hp:2 ^ n<=8:=Nat.pow_le_pow_right (by decide) hn;have:=mul_le_mul hp k;exact le_trans (add_le_add (le_trans (le_add_right d 4) (le_trans h (mul_le_mul_left 4 hp))) this) (bh (.a (.n 32) (.m 8 (.v 0))) (.a (.m 4 (.a (.m 4 (.v 0)) (.n 20))) (.n 20)) [] rfl)
theorem AL {d f z n:Nat}(h:d<=1020 * n)(hn:n<=3)(k:f<=z):d+f+40<=2 * (2 * z+1060)+1060:=fW (.a (.a (.v 0) (.v 1)) (.n 40)) (.a (.m 2 (.a (.m 2 (.v 2)) (.n 1060))) (.n 1060)) [(1,.v 0,(.m 1020 (.v 3))),(1020,.v 3,.n 3),(1,.v 1,.v 2)] rfl h hn k
theorem bd_q {k:Nat}{o:Q3}{ds:Ds}{f:N}(d:LfB ds)(hn:ds.len<=3)(h:Bd .form (2 * k+1) f)(e:qT o ds.len .form=true):Bd .form (2 * k+1+1+1) (.q o ds f) :=
 ⟨(sJ o ds f .form).trans (e7 (e7 (e7 d.ok h.ok) (decide_eq_true hn)) e),succ_le_succ (max_le.mpr ⟨le_trans d.ht (le_add_left _ _),le_succ_of_le h.ht⟩),AN (d.cost 1) hn h.cost,AL d.sz hn h.sz⟩
theorem Al {d f c:Nat}(h:d+4<=8)(k:f<=c):d+2 * f<=4 * c+20:=aZ (.a (.v 0) (.m 2 (.v 1))) (.a (.m 4 (.v 2)) (.n 20)) [(1,(.a (.v 0) (.n 4)),.n 8),(2,.v 1,.v 2)] rfl h k
theorem Ar {d f z:Nat}(h:d<=1020)(k:f<=z):d+f+40<=2 * z+1060:=aZ (.a (.a (.v 0) (.v 1)) (.n 40)) (.a (.m 2 (.v 2)) (.n 1060)) [(1,.v 0,.n 1020),(1,.v 1,.v 2)] rfl h k
noncomputable def lv (T:Ty)(k:Nat):Nat:=match T with
 | .form=>2 * k+1
 | _=>2 * k
noncomputable def G (T:Ty)(k:Nat)(x:N):Prop:=k<=3->Bd T (lv T k) x
theorem G.leaf {k:Nat}{x:N}(h:tz x):G .set k x:=λ_=>(sd x h).le (zero_le _)
theorem G.join {k:Nat}{a b:N}(ih1:G .set k a)(ih2:G .pair k b):G .set (k+1) (.bin .join a b):=λhk=>(Bd.two (o:=.join) (ih1 (le_of_succ_le hk)) (ih2 (le_of_succ_le hk)) rfl).up
theorem G.comp {k:Nat}{ds:Ds}{f:N}(hl:ds.leaf)(hn:ds.len=1)(ih:G .form k f):G .set (k+1) (.q .comp ds f):=by
 intro hk;have ih:=ih (le_of_succ_le hk);have d:=bdl ds hl;refine ⟨(sJ .comp ds f .set).trans (e7 (e7 (e7 d.ok ih.ok) (hn▸rfl)) (hn▸rfl)),succ_le_succ (max_le.mpr ⟨le_trans d.ht (le_add_left _ _),ih.ht⟩),?_,?_⟩
 ·refine (?_:ds.cost 2 1+2 ^ ds.len * f.cost 2<=4 * CC (2 * k+1)+20);have:=d.cost 1;rw [hn] at this ⊢;exact Al this ih.cost
 ·exact Ar (le_trans d.sz (hn▸le_refl _)) ih.sz
theorem G.rel1 {k:Nat} : G .pair k (.rel true):=λ_=>Bd.le (i:=0) ⟨rfl,le_refl _,zero_le _,show 20<=1000 by decide⟩ (zero_le _)
theorem G.prod {k:Nat}{a b:N}(ih1:G .set k a)(ih2:G .set k b):G .pair (k+1) (.bin .product a b):=λhk=>(Bd.two (o:=.product) (ih1 (le_of_succ_le hk)) (ih2 (le_of_succ_le hk)) rfl).up
theorem G.unp {k:Nat}{o:U1}{a:N}(ho:eu o=true)(ih:G .pair k a):G .pair (k+1) (.un o a):=λhk=>Bd.up (Bd.un (ih (le_of_succ_le hk)) (λ_ h=>by induction o using U1.casesOn <;> first | exact (Bool.false_ne_true ho).elim | exact h) (by induction o using U1.casesOn <;> first | exact (Bool.false_ne_true ho).elim | rfl))
theorem G.unf {k:Nat}{o:U1}{a:N}(ho:dL o=true)(ih:G .set (k - 1) a):G .form k (.un o a):=by
 intro hk;have ih:=Bd.le (ih (le_trans (sub_le k 1) hk)) (j:=2 * k) (mul_le_mul_left 2 (sub_le k 1));exact Bd.un ih (λ_ h=>by induction o using U1.casesOn <;> first | exact (Bool.false_ne_true ho).elim | exact h) (by induction o using U1.casesOn <;> first | exact (Bool.false_ne_true ho).elim | rfl)
theorem G.isin {k:Nat}{a b:N}(ih1:G .set (k - 1) a)(ih2:G .set (k - 1) b):G .form k (.bin .isin a b):=λhk=>Bd.two (o:=.isin) ((ih1 (le_trans (sub_le k 1) hk)).le (j:=2 * k) (mul_le_mul_left 2 (sub_le k 1))) ((ih2 (le_trans (sub_le k 1) hk)).le (mul_le_mul_left 2 (sub_le k 1))) rfl
theorem G.quant {k:Nat}{o:Q3}{ds:Ds}{f:N}(ho:(o = .all\/o = .exist))(hl:ds.leaf)(hn:ds.len<=k+1)(ih:G .form k f):G .form (k+1) (.q o ds f):=by
 exact λhk=>bd_q (k:=k) (bdl ds hl) (le_trans hn hk) (ih (le_of_succ_le hk)) (by rcases ho with rfl | rfl <;> rfl)
theorem G.or {k:Nat}{a b:N}(ih1:G .form k a)(ih2:G .form k b):G .form (k+1) (.or a b):=by
 intro hk;have ih1:=ih1 (le_of_succ_le hk);have ih2:=ih2 (le_of_succ_le hk);exact Bd.up ⟨e7 (e7 rfl ih1.ok) ih2.ok,succ_le_succ (max_le.mpr ⟨ih1.ht,ih2.ht⟩),A8 ih1.cost ih2.cost,BI ih1.sz ih2.sz (by decide)⟩
theorem G.two {k:Nat}{o:B2}{a b:N}(ho:(o = .implies\/o = .iff))(ih1:G .form k a)(ih2:G .form k b):G .form (k+1) (.bin o a b):=λhk=>Bd.up (Bd.two (ih1 (le_of_succ_le hk)) (ih2 (le_of_succ_le hk)) (by rcases ho with rfl | rfl <;> rfl))
noncomputable def fdD (c t:Nat)(b:Int):List (Str×D):=[("cells",.ref c),("taken",.int t),("blend",.int b)]
structure cy (σ:Sto)(f c:Nat)(cells:List Int)(t:Nat)(b:Int):Prop where
 feed:∃ v,σ[f]? = some (.dS (fdD c t b),v)
 cells:∃ v,σ[c]? = some (.list (cells.map .int),v)
theorem cy.ne {σ:Sto}{f c t:Nat}{cells:List Int}{b:Int}(S:cy σ f c cells t b):c≠f:=by
 obtain ⟨v,e⟩:=S.feed;obtain ⟨w,e2⟩:=S.cells;intro h;(replace e2:=h▸e2;replace e2:=e▸e2);cases e2
theorem cy.kp {σ σ':Sto}{f c t:Nat}{cells:List Int}{b:Int}(S:cy σ f c cells t b)(k:av NoW σ σ'):cy σ' f c cells t b:=⟨S.feed.imp λv e=>k.get e,S.cells.imp λv e=>k.get e⟩
inductive br (f c:Nat)(cells:List Int)(b:Int)(t m:Nat)(σ σ':Sto):Prop
 | intro (k:av (· = f) σ σ') (t':Nat) (l:t<=t') (u:t'<=t+m) (S:cy σ' f c cells t' b):br f c cells b t m σ σ'
inductive ue (f c:Nat)(cells:List Int)(b:Int)(w t:Nat)(σ:Sto)(r:D)(σ':Sto):Prop
 | intro (k:Nat) (h:k < w) (e:r = .int k) (q:br f c cells b t 1 σ σ'):ue f c cells b w t σ r σ'
inductive x3 (f c:Nat)(cells:List Int)(b:Int)(p:N->Prop)(m t:Nat)(σ:Sto)(r:D)(σ':Sto):Prop
 | intro (x:N) (e:r=x.d) (h:p x) (q:br f c cells b t m σ σ'):x3 f c cells b p m t σ r σ'
inductive Bs (f c:Nat)(cells:List Int)(b:Int)(m t:Nat)(σ:Sto)(r:D)(σ':Sto):Prop
 | intro (ds:Ds) (e:r = .tup ds.d) (h:ds.leaf) (l:ds.len=m) (q:br f c cells b t (3 * m) σ σ'):Bs f c cells b m t σ r σ'
theorem r6:aM "_law_take"=some (aO 26):=rfl
theorem tF:aM "_law_row"=some (aO 27):=rfl
theorem kK:aM "_law_set"=some (aO 28):=rfl
theorem iH:aM "_law_pairs"=some (aO 29):=rfl
theorem f6:aM "_law_formula"=some (aO 30):=rfl
section
variable {σ:Sto}{P:D->Sto->Prop}{x y:Int}
theorem dY (h:0<=x)(h2:x<=4000000000000000000):fz x=true:=by
 unfold fz;have e:(2:Int) ^ 62=4611686018427387904:=by decide
 rw [e,and_eq_true,decide_eq_true_eq,decide_eq_true_eq];exact ⟨Int.le_trans (by decide) h,Int.le_trans h2 (by decide)⟩
theorem mul_int (h:fz x=true)(h2:fz y=true)(hp:P (.int (x * y)) σ):Ok (pD .Mult (.int x) (.int y)) σ P:=Ok.bind (Ok.must (by (refine h.symm▸?_;exact h2.symm▸rfl)) (Ok.ret hp))
theorem add_int (hp:P (.int (x+y)) σ):Ok (pD .Add (.int x) (.int y)) σ P:=Ok.ret hp
theorem sub_int (hp:P (.int (x - y)) σ):Ok (pD .Sub (.int x) (.int y)) σ P:=Ok.ret hp
theorem nv (h:0 < y)(h2:y < 1073741824)(hp:P (.int (x.fdiv y)) σ):Ok (pD .FloorDiv (.int x) (.int y)) σ P:=Ok.bind (Ok.ret (Ok.bind (Ok.ret (Ok.bind (Ok.must (by rw [and_eq_true,decide_eq_true_eq,decide_eq_true_eq];exact ⟨h,h2⟩) (Ok.ret hp))))))
theorem dR (h:0 < y)(h2:y < 1073741824)(hp:P (.int (x.fmod y)) σ):Ok (pD .Mod (.int x) (.int y)) σ P:=Ok.bind (Ok.ret (Ok.bind (Ok.ret (Ok.bind (Ok.must (by rw [and_eq_true,decide_eq_true_eq,decide_eq_true_eq];exact ⟨h,h2⟩) (Ok.ret hp))))))
end
theorem bX {f c:Nat}{cells:List Int}{b:Int}(w:Nat)(hw:1<=w)(hw2:w<=100)(n:Nat){σ:Sto}{t:Nat}(S:cy σ f c cells t b)(ht:t<=2000000) :
  Ok (aL (n+1) "_law_take" [.ref f,.int w]) σ (ue f c cells b w t σ):=by
 have hne:=S.ne;obtain ⟨v,hf⟩:=S.feed;obtain ⟨vc,hc⟩:=S.cells;refine ao rfl r6 (ax (ρ:=[("feed",some (.ref f)),("wide",some (.int w)),("taken",none)]) rfl ?_);refine ab (uy (bB (bz rfl (aa (d:=.ref f) rfl (aa (d:=.str "taken") rfl (bg (r:=.int t) hf rfl ?_))))));refine aa (d:=.int 1) rfl (add_int (aa (d:=.ref f) rfl (aa (d:=.str "taken") rfl ?_)));refine Ok.bind (Ok.getO hf (Ok.bind (Ok.must rfl (Ok.bind (Ok.ofOpt (a:=PO.dS (put "taken" (.int ((t:Int)+1)) (fdD c t b))) rfl (Ok.setO ?_))))));have hput:put ("taken" : Str) (D.int ((t:Int)+1)) (fdD c t b)=fdD c (t+1) b:=by kernel_rfl
 refine hput.symm▸?_;generalize ver σ f+1=v';have k1:av (· = f) σ (σ.set f (.dS (fdD c (t+1) b),v')):=av.setW (W:=(· = f)) (av.refl _ _) (k:=f) rfl _;have hf1:(σ.set f (.dS (fdD c (t+1) b),v'))[f]? = some (.dS (fdD c (t+1) b),v'):=bN hf;have hc1:(σ.set f (.dS (fdD c (t+1) b),v'))[c]? = some (.list (cells.map .int),vc):=aF (λq=>hne q.symm) hc;generalize σ.set f (.dS (fdD c (t+1) b),v')=σ1 at k1 hf1 hc1;have done:∀ k:Nat,k < w->ue f c cells b w t σ (.int k) σ1:=λk hk=>⟨k,hk,rfl,k1,t+1,bh (.v 0) (.a (.v 0) (.n 1)) [] rfl,bh (.a (.v 0) (.n 1)) (.a (.v 0) (.n 1)) [] rfl,⟨v',hf1⟩,⟨vc,hc1⟩⟩;have wlt:(w:Int) < 1073741824:=Int.lt_of_le_of_lt (Int.ofNat_le.mpr hw2) (by decide);have t0:(0:Int)<=((t+1:Nat):Int):=Int.natCast_nonneg _;have t3:((t+1:Nat):Int)<=((2000001:Nat):Int):=Int.ofNat_le.mpr (succ_le_succ ht);have t4:=Int.le_trans t3 (by decide:((2000001:Nat):Int)<=4000000000000000000);have modw:∀ z:Int,ue f c cells b w t σ (.int (z.fmod w)) σ1:=λz=>by
  have h1:0<=z.fmod w:=Int.fmod_nonneg_of_pos _ (Int.natCast_pos.mpr hw);have h2:z.fmod w < w:=Int.fmod_lt_of_pos _ (Int.natCast_pos.mpr hw);obtain ⟨k,hk⟩:=Int.eq_ofNat_of_zero_le h1;rw [hk] at h2 ⊢;exact done k (Int.ofNat_lt.mp h2)
 refine ab (aA rfl (bz rfl (aa (d:=.ref f) rfl (aa (d:=.str "taken") rfl (bg (r:=.int (t+1:Nat)) hf1 rfl ?_)))));refine ab (fJ (gf rfl (bZ (aa (d:=.int (t+1:Nat)) rfl (bM rfl rfl (bz rfl (aa (d:=.ref f) rfl (aa (d:=.str "cells") rfl (bg (r:=.ref c) hf1 rfl ?_)))))))));have hl:b9 "len" (.ref c)=(do pure (.int (<- listAt c).length)):=by kernel_rfl
 refine (?_:Ok _ _ _);refine hl.symm▸?_;refine Ok.bind (Ok.listAt hc1 (Ok.ret (Ok.bind (Ok.ret (Ok.bind (Ok.ret (Ok.ret ⟨_,rfl,?_⟩)))))));refine (length_map _).symm▸?_;by_cases hle:((t+1:Nat):Int)<=(cells.length:Nat)
 ·refine (decide_eq_true hle).symm▸?_;refine bv (ab (aB (bB (bz rfl (bz rfl (aa (d:=.ref f) rfl (aa (d:=.str "cells") rfl (bg (r:=.ref c) hf1 rfl ?_))))))));refine bB (aa (d:=.int (t+1:Nat)) rfl (aa (d:=.int 1) rfl (sub_int ?_)));have ht1:((t+1:Nat):Int) - 1=(t:Nat):=Int.add_sub_cancel (t:Int) 1;refine ht1.symm▸?_;have hlt:t < cells.length:=Int.ofNat_le.mp hle;refine az hc1 (r:=.int cells[t]) (by (refine (List.getElem?_map).symm▸?_;exact (List.getElem?_eq_getElem hlt).symm▸rfl)) ?_;refine aa (d:=.int w) rfl (dR (Int.natCast_pos.mpr hw) wlt (modw _))
 ·refine (decide_eq_false hle).symm▸?_;refine cF (a9 ?_);refine ab (aB (bB (bB (bB (bB (bB (bB (bB (aa (d:=.int 3) rfl (aa (d:=.int (t+1:Nat)) rfl ?_))))))))));refine mul_int (dY (by decide) (by decide)) (dY t0 t4) ?_;refine aa (d:=.int (t+1:Nat)) rfl (mul_int (dY (Int.mul_nonneg (by decide) t0) (Int.le_trans (Int.mul_le_mul_of_nonneg_left t3 (by decide)) (by decide))) (dY t0 t4) ?_);refine bB (aa (d:=.int 8) rfl (aa (d:=.int (t+1:Nat)) rfl (mul_int (dY (by decide) (by decide)) (dY t0 t4) (add_int ?_))));refine bB (aa (d:=.int (t+1:Nat)) rfl (aa (d:=.int 3) rfl (nv (by decide) (by decide) (add_int ?_))));refine bz rfl (aa (d:=.ref f) rfl (aa (d:=.str "blend") rfl (bg (r:=.int b) hf1 rfl (add_int ?_))));refine aa (d:=.int 97) rfl (dR (by decide) (by decide) ?_);exact aa (d:=.int w) rfl (dR (Int.natCast_pos.mpr hw) wlt (modw _))
noncomputable def BB:Nat->Nat
 | 0=>8
 | k+1=>2 * BB k+3 * (k+1)+12
section
variable {f c:Nat}{cells:List Int}{b:Int}
noncomputable def lC (f c:Nat)(cells:List Int)(b:Int)(T:Ty)(name:Str)(deep:Int)(k n:Nat):Prop:=∀ σ t,cy σ f c cells t b->t+BB k<=1000000 ->
 Ok (aL n name [.ref f,.int deep]) σ (x3 f c cells b (G T k) (BB k) t σ)
theorem br.trans {t t1 m1 m2:Nat}{σ σ1 σ2:Sto}(k1:av (· = f) σ σ1)(a:t<=t1)(h:t1<=t+m1)(x:br f c cells b t1 m2 σ1 σ2):br f c cells b t (m1+m2) σ σ2:=by
 obtain ⟨k,t2,e1,e2,S⟩:=x;exact ⟨k1.trans k,t2,aZ (.v 0) (.v 1) [(1,.v 0,.v 2),(1,.v 2,.v 1)] rfl a e1,sX (.v 0) (.a (.v 1) (.a (.v 2) (.v 3))) [(1,.v 4,(.a (.v 1) (.v 2))),(1,.v 0,(.a (.v 4) (.v 3)))] rfl h e2,S⟩
theorem br.le {t m m':Nat}{σ σ1:Sto}(x:br f c cells b t m σ σ1)(h:m<=m'):br f c cells b t m' σ σ1:=by
 obtain ⟨k,t2,e1,e2,S⟩:=x;exact ⟨k,t2,e1,fW (.v 0) (.a (.v 1) (.v 2)) [(1,.v 3,.v 2),(1,.v 0,(.a (.v 1) (.v 3)))] rfl h e2,S⟩
theorem br.grow {t m:Nat}{σ σ1 σ2:Sto}(x:br f c cells b t m σ σ1)(k:av NoW σ1 σ2):br f c cells b t m σ σ2:=by
 obtain ⟨k1,t2,e1,e2,S⟩:=x;exact ⟨k1.trans k.weak,t2,e1,e2,S.kp k⟩
noncomputable def sV (f:Nat)(d:Int)(o1 o2 o3:Option D):Loc:=[("feed",some (.ref f)),("deep",some (.int d)),("way",o1),("one",o2),("names",o3)]
noncomputable def nU:D:=.tup [.str "x",.str "y"]
theorem nD {n k:Nat}{deep:Int}{way:Nat}(hw:way < 4){σ:Sto}{t:Nat}(S:cy σ f c cells t b)(ht:t<=1500000){N':Loc->Sto->Prop}{R:D->Sto->Prop}(hR:∀ x σ',tz x->br f c cells b t 1 σ σ'->R x.d σ') :
  Ex (aE (aL (n+1)) 63 (aO 28).scope (sV f deep (some (.int way)) none none) ((aO 28).body.drop 1)) σ N' R:=by
 refine lt4 (P:=λway:Nat=>Ex (aE (aL (n+1)) 63 (aO 28).scope (sV f deep (some (.int (way:Nat))) none none) ((aO 28).body.drop 1)) σ N' R) hw ?_ ?_ ?_ ?_;iterate 2
  focus
   refine ab (fJ (aU (b:=true) rfl (bv (ab (aB (aI (ae (aa (d:=.str "var") rfl (ae (bz rfl (aa (d:=nU) rfl (am rfl (by kernel_rfl) (ah (ds:=[.ref f,.int (2:Nat)]) rfl ?_)))))))))))));refine (bX 2 (by decide) (by decide) n S (bh (.v 0) (.n 2000000) [(1,.v 0,.n 1500000)] rfl ht)).mono λr σ1 h1=>?_;obtain ⟨k,hk,rfl,h1⟩:=h1;obtain rfl | rfl:k=0\/k=1:=lt2 (P:=λk=>k=0\/k=1) hk (.inl rfl) (.inr rfl)
   ·exact gv (d:=.str "x") rfl (aq ⟨le_of_ble_eq_true rfl,hR (.var false) _ trivial h1⟩)
   ·exact gv (d:=.str "y") rfl (aq ⟨le_of_ble_eq_true rfl,hR (.var true) _ trivial h1⟩)
 ·refine bK 1 (by kernel_rfl) ?_;refine ab (fJ (aU (b:=true) rfl (bv (ab (aB (aa (d:=(N.rel false).d) rfl (hR (.rel false) _ trivial ⟨av.refl _ _,t,le_refl _,bh (.v 0) (.a (.v 0) (.n 1)) [] rfl,S⟩)))))))
 ·refine bK 1 (by kernel_rfl) ?_;refine ab (fJ (aU (b:=true) rfl (bv (ab (aB (aa (d:=N.none.d) rfl (hR .none _ trivial ⟨av.refl _ _,t,le_refl _,bh (.v 0) (.a (.v 0) (.n 1)) [] rfl,S⟩)))))))
theorem mx {deep:Int}(hd:deep<=0)(n:Nat){σ:Sto}{t:Nat}(S:cy σ f c cells t b)(ht:t<=1400000):Ok (aL (n+1+1) "_law_set" [.ref f,.int deep]) σ (x3 f c cells b tz 2 t σ):=by
 refine ao rfl kK (ax (ρ:=sV f deep none none none) rfl ?_);refine ab (aA rfl (am rfl (by kernel_rfl) (ae (aa (d:=.ref f) rfl (ae (bu (gf rfl (bZ (aa (d:=.int deep) rfl (aa (d:=.int 0) rfl ?_))))))))));refine Ok.bind (Ok.ret (Ok.bind (Ok.ret (Ok.ret ⟨_,rfl,?_⟩))));rw [(decide_eq_false (Int.not_lt.mpr hd):decide (deep > 0)=false)];refine cv (aa (d:=.int (3:Nat)) rfl (aq ?_));refine (bX 3 (by decide) (by decide) n S (by exact bh (.v 0) (.n 2000000) [(1,.v 0,.n 1400000)] rfl ht)).mono λr σ1 h1=>?_;obtain ⟨way,hw,rfl,k1,t1,a1,a2,S1⟩:=h1;exact nD (k:=0) (by exact bh (.a (.v 0) (.n 1)) (.n 4) [(1,(.a (.v 0) (.n 1)),.n 3)] rfl hw) S1 (by exact a5 (.v 0) (.n 1500000) [(1,.v 1,.n 1400000),(1,.v 0,(.a (.v 1) (.n 1)))] rfl ht a2) λx σ2 hx h2=>⟨x,rfl,hx,br.trans k1 a1 a2 h2⟩
noncomputable def Ds.snoc (b:Bool)(a:N):Ds->Ds
 | .nil => .cons b a .nil
 | .cons b' a' r => .cons b' a' (r.snoc b a)
theorem wi (b:Bool)(a:N):∀ ds:Ds,(ds.snoc b a).d=ds.d++[.tup [.str (nm b),a.d]]/\(ds.leaf->tz a->(ds.snoc b a).leaf)/\(ds.snoc b a).len=ds.len+1:=λl=>by
 induction l using Ds.ind with
 | h0 =>
  exact ⟨rfl,λ_ h=>(⟨h,trivial⟩:tz a/\True),rfl⟩
 | h1 b' a' r ih =>
  have hq:=ih;have h1:=hq.1;have h2:=hq.2.1;have h3:=hq.2.2;refine ⟨?_,λh ha=>(⟨h.1,h2 h.2 ha⟩:tz a'/\(r.snoc b a).leaf),?_⟩
  ·show D.tup [.str (nm b'),a'.d]::(r.snoc b a).d=D.tup [.str (nm b'),a'.d]::(r.d++[.tup [.str (nm b),a.d]]);rw [h1]
  ·show (r.snoc b a).len+1=r.len+1+1;rw [h3]
theorem BE:∀ ds:Ds,ds.d.length=ds.len:=λl=>by
 induction l using Ds.ind with
 | h0 =>
  exact rfl
 | h1 b a r ih =>
  show r.d.length+1=r.len+1;exact (ih).symm▸rfl
noncomputable def At (f:Nat)(m:Nat)(o1 o2 o3:Option D):Loc:=[("feed",some (.ref f)),("many",some (.int m)),("found",o1),("lap",o2),("sign",o3)]
inductive Bv (f m n:Nat)(ρ':Loc):Prop
 | intro (o2 o3:Option D) (h:ρ'=At f m (some (.ref n)) o2 o3):Bv f m n ρ'
inductive Bm (f c:Nat)(cells:List Int)(b:Int)(m t:Nat)(σ:Sto)(acc:List Nat)(ρ':Loc)(σ':Sto):Prop
 | intro (l:Bv f m σ.length ρ') (k:br f c cells b t (3 * acc.length) σ σ') (ds:Ds) (v:Nat) (h:σ'[σ.length]? = some (.list ds.d,v)) (lf:ds.leaf) (e:ds.len=acc.length):Bm f c cells b m t σ acc ρ' σ'
theorem u6 (m:Nat)(hm:m<=4)(n:Nat){σ:Sto}{t:Nat}(S:cy σ f c cells t b)(ht:t<=1200000):Ok (aL (n+1+1+1) "_law_row" [.ref f,.int m]) σ (Bs f c cells b m t σ):=by
 refine ao rfl tF (ax (ρ:=At f m none none none) rfl ?_);refine ab (aA rfl (bw (aq ⟨zero_le _,?_⟩)));refine ab (fi (lS rfl (aa (d:=.int m) rfl ⟨m,rfl,bh (.v 0) (.n 64) [(1,.v 0,.n 4)] rfl hm,?_⟩)));have hfl:f < σ.length:=S.feed.elim λ_ e=>aH e;have hsn:∀ (ds:Ds) (b:Bool) (a:N),∃ ds':Ds,ds'.d=ds.d++[.tup [.str (nm b),a.d]]/\(ds.leaf->tz a->ds'.leaf)/\ds'.len=ds.len+1:=λds b a=>by
  exact ⟨ds.snoc b a,wi b a ds⟩
 refine cY (src:=.rng m) (λ(i:Nat)=>D.int i) (Bm f c cells b m t σ) (λ_ _ _ _=>trivial) (List.range m) ?_ ?_ (List.range m) [] _ _ rfl
  ⟨⟨none,none,by kernel_rfl⟩,br.grow ⟨av.refl _ _,t,le_refl _,le_refl _,S⟩ ((av.refl _ _).push _),.nil,0,ag _ _,trivial,rfl⟩
 ·rintro i acc r ρ' σ' hsp ⟨⟨o2,o3,rfl⟩,⟨k1,t1,a1,a2,S1⟩,ds,v,hl,hlf,hln⟩;have hacc:acc.length+1<=m:=by
   have:=congrArg List.length hsp;rw [length_append,length_cons,length_range] at this;exact aZ (.a (.v 0) (.n 1)) (.v 1) [(1,(.a (.v 0) (.a (.v 2) (.n 1))),.v 1)] rfl (le_of_eq this)
  refine cE (ρ':=At f m (some (.ref σ.length)) (some (.int i)) o3) rfl ?_;refine ab (aA rfl (bz rfl (aa (d:=nU) rfl (am rfl (by kernel_rfl) (ah (ds:=[.ref f,.int (2:Nat)]) rfl ?_)))));refine (bX 2 (by decide) (by decide) (n+1) S1 (fW (.v 0) (.n 2000000) [(3,.v 1,.n 4),(1,.v 2,.n 1200000),(1,.v 0,(.a (.v 2) (.m 3 (.v 3)))),(3,(.a (.v 3) (.n 1)),.v 1)] rfl hm ht a2 hacc)).mono λr σ2 h2=>?_;obtain ⟨k,hk,rfl,k2,t2,b1,b2,S2⟩:=h2;have hsign:∃ bb:Bool,l8 nU (.int (k:Int))=pure (.str (nm bb)):=by
   exact lt2 (P:=λk:Nat=>∃ bb:Bool,l8 nU (.int (k:Int))=pure (.str (nm bb))) hk ⟨false,by kernel_rfl⟩ ⟨true,by kernel_rfl⟩
  obtain ⟨bb,hbb⟩:=hsign;refine gv hbb ?_;have hl2:σ2[σ.length]? = some (.list ds.d,v):=k2.2 _ _ (λq=>not_succ_le_zero 0 (lin [_,_] 0 (.n 1) (.n 0) [(1,(.a (.v 0) (.n 1)),.v 1),(1,.v 1,.v 0)] rfl hfl (le_of_eq q))) hl;refine ab (im rfl (dM rfl (aa (d:=.ref σ.length) rfl ⟨_,_,_,rfl,hl2,?_⟩)));refine aI (ae (aa (d:=.str (nm bb)) rfl (ae (am rfl (by kernel_rfl) (ah (ds:=[.ref f,.int 0]) rfl ?_)))));refine (mx (Int.le_refl 0) n S2 (sX (.v 0) (.n 1400000) [(3,.v 1,.n 4),(1,.v 2,.n 1200000),(1,.v 3,(.a (.v 2) (.m 3 (.v 4)))),(3,(.a (.v 4) (.n 1)),.v 1),(1,.v 0,(.a (.v 3) (.n 1)))] rfl hm ht a2 hacc b2)).mono λr σ3 h3=>aq ⟨le_of_ble_eq_true rfl,?_⟩;obtain ⟨x,rfl,hx,k3,t3,c1,c2,S3⟩:=h3;have hl3:σ3[σ.length]? = some (.list ds.d,v):=k3.2 _ _ (λq=>not_succ_le_zero 0 (lin [_,_] 0 (.n 1) (.n 0) [(1,(.a (.v 0) (.n 1)),.v 1),(1,.v 1,.v 0)] rfl hfl (le_of_eq q))) hl2;obtain ⟨ds',hq⟩:=hsn ds bb x;have e1:=hq.1;have e2:=hq.2.1;have e3:=hq.2.2;have hdl:ds.d.length<=aQ:=by
   rw [BE,hln];have:aQ=4096:=rfl;exact aZ (.v 0) (.v 1) [(1,.v 2,.n 4),(1,(.a (.v 0) (.n 1)),.v 2),(1,.n 4096,.v 1)] rfl hm hacc (le_of_eq this.symm)
  refine ⟨_,v,hl3,hdl,a9 ⟨⟨_,_,rfl⟩,?_,ds',v+1,?_,e2 hlf hx,?_⟩⟩
  ·have k4:av (· = f) σ (σ3.set σ.length (.list (ds.d++[.tup [.str (nm bb),x.d]]),v+1)):=((k1.trans k2).trans k3).set (le_refl _) _;refine ⟨k4,t3,fW (.v 0) (.v 1) [(1,.v 0,.v 2),(1,.v 2,.v 3),(1,.v 3,.v 1)] rfl a1 b1 c1,by rw [length_append];simp;exact sX (.v 0) (.a (.v 1) (.m 3 (.a (.v 2) (.n 1)))) [(1,.v 3,(.a (.v 1) (.m 3 (.v 2)))),(1,.v 4,(.a (.v 3) (.n 1))),(1,.v 0,(.a (.v 4) (.n 2)))] rfl a2 b2 c2,?_,?_⟩
   ·obtain ⟨v3,q⟩:=S3.feed;exact ⟨v3,aF (by exact ne_of_gt (a5 (.a (.v 0) (.n 1)) (.v 1) [(1,(.a (.v 0) (.n 1)),.v 1)] rfl hfl)) q⟩
   ·obtain ⟨v3,q⟩:=S3.cells;exact ⟨v3,aF (λq'=>by
     obtain ⟨v0,q0⟩:=S.cells;have:=aH q0;exact not_succ_le_zero 0 (lin [_,_] 0 (.n 1) (.n 0) [(1,.v 0,.v 1),(1,(.a (.v 1) (.n 1)),.v 0)] rfl (le_of_eq q') this)) q⟩
  ·rw [bN hl3,e1]
  ·rw [e3,hln,length_append];rfl
 ·rintro ρ' σ' ⟨⟨o2,o3,rfl⟩,hk,ds,v,hl,hlf,hln⟩;rw [length_range] at hk hln;refine ab (aB (bM rfl rfl (aa (d:=.ref σ.length) rfl (b4 hl ?_ ⟨ds,rfl,hlf,hln,hk⟩))));rw [BE,hln];have:aQ=4096:=rfl;exact a5 (.v 0) (.v 1) [(1,.v 0,.n 4),(1,.n 4096,.v 1)] rfl hm (le_of_eq this.symm)
end
section
variable {f c:Nat}{cells:List Int}{b:Int}
theorem br.one {t:Nat}{σ:Sto}(S:cy σ f c cells t b):br f c cells b t 0 σ σ:=⟨av.refl _ _,t,le_refl _,le_refl _,S⟩
theorem uI {w:Nat}(h:¬ w < 2)(k:w < 7):(w < 5->w=2\/w=3\/w=4)/\(¬ w < 5->w=5\/w=6) :=
 ltS (P:=λw=>¬ w < 2->(w < 5->w=2\/w=3\/w=4)/\(¬ w < 5->w=5\/w=6)) k (by decide) (λk=>lt6 (P:=λw=>¬ w < 2->(w < 5->w=2\/w=3\/w=4)/\(¬ w < 5->w=5\/w=6)) k (by decide) (by decide) (by decide) (by decide) (by decide) (by decide)) h
theorem cu (k:Nat):((k+1:Nat):Int) - 1=(k:Nat):=Int.add_sub_cancel (k:Int) 1
theorem xF (k n:Nat)(H:lC f c cells b .set "_law_set" k k (n+1+1+1))(H2:lC f c cells b .pair "_law_pairs" k k (n+1+1+1))(H3:lC f c cells b .form "_law_formula" k k (n+1+1+1)):lC f c cells b .set "_law_set" (k+1:Nat) (k+1) (n+1+1+1+1):=λσ t S ht=>by
 have hB:BB (k+1)=2 * BB k+3 * (k+1)+12:=rfl;refine ao rfl kK (ax (ρ:=sV f (k+1:Nat) none none none) (by kernel_rfl) ?_);refine ab (aA (by kernel_rfl) (am rfl (by kernel_rfl) (ae (aa (d:=.ref f) rfl (ae (bu (gf rfl (bZ (aa (d:=.int (k+1:Nat)) rfl (aa (d:=.int 0) rfl ?_))))))))));refine Ok.bind (Ok.ret (Ok.bind (Ok.ret (Ok.ret ⟨_,rfl,?_⟩))));rw [show decide (((k+1:Nat):Int) > 0)=true from decide_eq_true (Int.natCast_pos.mpr (succ_pos k))];refine cC (aa (d:=.int (6:Nat)) rfl (aq ?_));refine (bX 6 (by decide) (by decide) (n+1+1) S (a5 (.v 0) (.n 2000000) [(1,(.a (.v 0) (.v 1)),.n 1000000)] rfl ht)).mono λr σ1 h1=>?_;obtain ⟨way,hw,rfl,k1,t1,a1,a2,S1⟩:=h1;by_cases hw4:way < 4
 ·exact nD (k:=0) hw4 S1 (aZ (.v 0) (.n 1500000) [(1,(.a (.v 1) (.v 2)),.n 1000000),(1,.v 0,(.a (.v 1) (.n 1)))] rfl ht a2) λx σ2 hx h2=>⟨x,rfl,.leaf hx,(br.trans k1 a1 a2 h2).le (aZ (.a (.n 1) (.n 1)) (.v 0) [(1,(.a (.a (.m 2 (.v 1)) (.m 3 (.a (.v 2) (.n 1)))) (.n 12)),.v 0)] rfl (le_of_eq hB.symm))⟩
 have hw5:way=4\/way=5:=lt6 (P:=λw=>¬ w < 4->w=4\/w=5) hw (λq=>(q (by decide)).elim) (λq=>(q (by decide)).elim) (λq=>(q (by decide)).elim) (λq=>(q (by decide)).elim) (λ_ => .inl rfl) (λ_ => .inr rfl) hw4;rcases hw5 with rfl | rfl
 ·refine bK 2 (by kernel_rfl) ?_;refine ab (fJ (aU (b:=true) rfl (bv ?_)));refine ab (aA rfl (am rfl (by kernel_rfl) (ah (ds:=[.ref f,.int (((k+1:Nat):Int) - 1)]) rfl ?_)));rw [cu];refine (H σ1 t1 S1 (lin [_,_,_,_,_] 2 (.a (.v 0) (.v 1)) (.n 1000000) [(2,(.a (.v 2) (.v 3)),.n 1000000),(1,(.a (.a (.m 2 (.v 1)) (.m 3 (.a (.v 4) (.n 1)))) (.n 12)),.v 3),(2,.v 0,(.a (.v 2) (.n 1)))] rfl ht (le_of_eq hB.symm) a2)).mono λr σ2 h2=>?_;obtain ⟨x,rfl,gx,k2,t2,b1,b2,S2⟩:=h2;refine ab (aB (aI (ae (aa (d:=.str "join") rfl (ae (aa (d:=x.d) rfl (ae (am rfl (by kernel_rfl) (ah (ds:=[.ref f,.int (((k+1:Nat):Int) - 1)]) rfl ?_)))))))));rw [cu];refine (H2 σ2 t2 S2 (zN (.a (.v 0) (.v 1)) (.n 1000000) [(1,(.a (.v 2) (.v 3)),.n 1000000),(1,(.a (.a (.m 2 (.v 1)) (.m 3 (.a (.v 4) (.n 1)))) (.n 12)),.v 3),(1,.v 5,(.a (.v 2) (.n 1))),(1,.v 0,(.a (.v 5) (.v 1)))] rfl ht (le_of_eq hB.symm) a2 b2)).mono λr σ3 h3=>aq ⟨le_of_ble_eq_true rfl,?_⟩;obtain ⟨y,rfl,gy,h3⟩:=h3;exact ⟨.bin .join x y,rfl,.join gx gy,(br.trans k1 a1 a2 (br.trans k2 b1 b2 h3)).le (aZ (.a (.n 1) (.a (.v 0) (.v 0))) (.v 1) [(1,(.a (.a (.m 2 (.v 0)) (.m 3 (.a (.v 2) (.n 1)))) (.n 12)),.v 1)] rfl (le_of_eq hB.symm))⟩
 ·refine bK 3 (by kernel_rfl) ?_;refine ab (aA rfl (am rfl (by kernel_rfl) (ah (ds:=[.ref f,.int (1:Nat)]) rfl ?_)));refine (u6 1 (by decide) n S1 (aZ (.v 0) (.n 1200000) [(1,(.a (.v 1) (.v 2)),.n 1000000),(1,.v 0,(.a (.v 1) (.n 1)))] rfl ht a2)).mono λr σ2 h2=>?_;obtain ⟨ds,rfl,hlf,hln,k2,t2,b1,b2,S2⟩:=h2;refine ab (aB (aI (ae (aa (d:=.str "comp") rfl (ae (aa (d:=.tup ds.d) rfl (ae (am rfl (by kernel_rfl) (ah (ds:=[.ref f,.int (((k+1:Nat):Int) - 1)]) rfl ?_)))))))));rw [cu];refine (H3 σ2 t2 S2 (lin [_,_,_,_,_,_] 2 (.a (.v 0) (.v 1)) (.n 1000000) [(2,(.a (.v 2) (.v 3)),.n 1000000),(1,(.a (.a (.m 2 (.v 1)) (.m 3 (.a (.v 4) (.n 1)))) (.n 12)),.v 3),(2,.v 5,(.a (.v 2) (.n 1))),(2,.v 0,(.a (.v 5) (.m 3 (.n 1))))] rfl ht (le_of_eq hB.symm) a2 b2)).mono λr σ3 h3=>aq ⟨le_of_ble_eq_true rfl,?_⟩;obtain ⟨y,rfl,gy,h3⟩:=h3;exact ⟨.q .comp ds y,rfl,.comp hlf hln gy,(br.trans k1 a1 a2 (br.trans k2 b1 b2 h3)).le (lin [_,_,_] 2 (.a (.n 1) (.a (.m 3 (.n 1)) (.v 0))) (.v 1) [(1,(.a (.a (.m 2 (.v 0)) (.m 3 (.a (.v 2) (.n 1)))) (.n 12)),.v 1)] rfl (le_of_eq hB.symm))⟩
theorem tK (n:Nat):lC f c cells b .set "_law_set" (0:Nat) 0 (n+1+1):=λσ t S ht=>by
 have hB:BB 0=8:=rfl;refine (mx (deep:=(0:Nat)) (by decide) n S (a5 (.v 0) (.n 1400000) [(1,(.a (.v 0) (.v 1)),.n 1000000)] rfl ht)).mono λr σ' h=>?_;obtain ⟨x,hr,hx,h⟩:=h;exact ⟨x,hr,.leaf hx,h.le (bh (.n 2) (.v 0) [(1,.n 8,.v 0)] rfl (le_of_eq hB.symm))⟩
noncomputable def we (f:Nat)(d:Int)(o1 o2:Option D):Loc:=[("feed",some (.ref f)),("deep",some (.int d)),("way",o1),("one",o2)]
theorem sA (n:Nat):lC f c cells b .pair "_law_pairs" (0:Nat) 0 (n+1):=λσ t S ht=>by
 refine ao rfl iH (ax (ρ:=we f (0:Nat) none none) rfl ?_);refine ab (aA rfl (aa (d:=.int 0) rfl ?_));refine ab (fJ (aU (b:=true) rfl (bv (ab (aB (aa (d:=(N.rel true).d) rfl ?_))))));exact ⟨.rel true,rfl,.rel1,(br.one S).le (zero_le _)⟩
noncomputable def vR (f c:Nat)(cells:List Int)(b:Int)(k n t:Nat)(σ σ1:Sto)(way:Nat):Prop:=Ex (aE (aL (n+1)) 63 (aO 29).scope (we f (k+1:Nat) (some (.int way)) none) ((aO 29).body.drop 1)) σ1 (λ_ σ'=>x3 f c cells b (G .pair (k+1)) (BB (k+1)) t σ .none σ') (x3 f c cells b (G .pair (k+1)) (BB (k+1)) t σ)
theorem tP (k n:Nat)(H:lC f c cells b .set "_law_set" k k (n+1))(H2:lC f c cells b .pair "_law_pairs" k k (n+1)):lC f c cells b .pair "_law_pairs" (k+1:Nat) (k+1) (n+1+1):=λσ t S ht=>by
 have hB:BB (k+1)=2 * BB k+3 * (k+1)+12:=rfl;refine ao rfl iH (ax (ρ:=we f (k+1:Nat) none none) rfl ?_);refine ab (aA rfl (bu (gf rfl (bZ (aa (d:=.int (k+1:Nat)) rfl (aa (d:=.int 0) rfl ?_))))));refine Ok.bind (Ok.ret (Ok.bind (Ok.ret (Ok.ret ⟨_,rfl,?_⟩))));rw [(decide_eq_true (Int.natCast_pos.mpr (succ_pos k)):decide (((k+1:Nat):Int) > 0)=true)];refine cC (am rfl (by kernel_rfl) (ah (ds:=[.ref f,.int (6:Nat)]) rfl ?_));refine (bX 6 (by decide) (by decide) n S (a5 (.v 0) (.n 2000000) [(1,(.a (.v 0) (.v 1)),.n 1000000)] rfl ht)).mono λr σ1 h1=>?_;obtain ⟨way,hw,rfl,k1,t1,a1,a2,S1⟩:=h1;have un:∀ (o:U1) (w:Nat),eu o=true->(w=3/\o = .closure)\/(w=4/\o = .star)\/(w=5/\o = .turn)->vR f c cells b k n t σ σ1 w:=λo w ho hwo=>by
  refine bK 2 (by rcases hwo with ⟨rfl,rfl⟩ | ⟨rfl,rfl⟩ | ⟨rfl,rfl⟩ <;> kernel_rfl) ?_;refine ab (aB (aI (ae (aa (d:=.str o.s) (by rcases hwo with ⟨rfl,rfl⟩ | ⟨rfl,rfl⟩ | ⟨rfl,rfl⟩ <;> kernel_rfl) (ae (am rfl (by kernel_rfl) (ah (ds:=[.ref f,.int (((k+1:Nat):Int) - 1)]) rfl ?_)))))));refine (cu _).symm▸?_;refine (H2 σ1 t1 S1 (lin [_,_,_,_,_] 2 (.a (.v 0) (.v 1)) (.n 1000000) [(2,(.a (.v 2) (.v 3)),.n 1000000),(1,(.a (.a (.m 2 (.v 1)) (.m 3 (.a (.v 4) (.n 1)))) (.n 12)),.v 3),(2,.v 0,(.a (.v 2) (.n 1)))] rfl ht (le_of_eq hB.symm) a2)).mono λr σ2 h2=>aq ⟨le_of_ble_eq_true rfl,?_⟩;obtain ⟨x,rfl,gx,h2⟩:=h2;exact ⟨.un o x,rfl,.unp ho gx,(br.trans k1 a1 a2 h2).le (lin [_,_,_] 2 (.a (.n 1) (.v 0)) (.v 1) [(1,(.a (.a (.m 2 (.v 0)) (.m 3 (.a (.v 2) (.n 1)))) (.n 12)),.v 1)] rfl (le_of_eq hB.symm))⟩
 have pr:∀ w:Nat,w=1\/w=2->vR f c cells b k n t σ σ1 w:=λw hw=>by
  refine bK 1 (by rcases hw with rfl | rfl <;> kernel_rfl) ?_;refine ab (fJ (aU (b:=true) (by rcases hw with rfl | rfl <;> kernel_rfl) (bv ?_)));refine ab (aA rfl (am (by kernel_rfl) (by kernel_rfl) (ah (ds:=[.ref f,.int (((k+1:Nat):Int) - 1)]) rfl ?_)));refine (cu _).symm▸?_;refine (H σ1 t1 S1 (lin [_,_,_,_,_] 2 (.a (.v 0) (.v 1)) (.n 1000000) [(2,(.a (.v 2) (.v 3)),.n 1000000),(1,(.a (.a (.m 2 (.v 1)) (.m 3 (.a (.v 4) (.n 1)))) (.n 12)),.v 3),(2,.v 0,(.a (.v 2) (.n 1)))] rfl ht (le_of_eq hB.symm) a2)).mono λr σ2 h2=>?_;obtain ⟨x,rfl,gx,k2,t2,b1,b2,S2⟩:=h2;refine ab (aB (aI (ae (aa (d:=.str "product") rfl (ae (aa (d:=x.d) rfl (ae (am (by kernel_rfl) (by kernel_rfl) (ah (ds:=[.ref f,.int (((k+1:Nat):Int) - 1)]) rfl ?_)))))))));refine (cu _).symm▸?_;refine (H σ2 t2 S2 (zN (.a (.v 0) (.v 1)) (.n 1000000) [(1,(.a (.v 2) (.v 3)),.n 1000000),(1,(.a (.a (.m 2 (.v 1)) (.m 3 (.a (.v 4) (.n 1)))) (.n 12)),.v 3),(1,.v 5,(.a (.v 2) (.n 1))),(1,.v 0,(.a (.v 5) (.v 1)))] rfl ht (le_of_eq hB.symm) a2 b2)).mono λr σ3 h3=>aq ⟨le_of_ble_eq_true rfl,?_⟩;obtain ⟨y,rfl,gy,h3⟩:=h3;exact ⟨.bin .product x y,rfl,.prod gx gy,(br.trans k1 a1 a2 (br.trans k2 b1 b2 h3)).le (aZ (.a (.n 1) (.a (.v 0) (.v 0))) (.v 1) [(1,(.a (.a (.m 2 (.v 0)) (.m 3 (.a (.v 2) (.n 1)))) (.n 12)),.v 1)] rfl (le_of_eq hB.symm))⟩
 refine lt6 (P:=vR f c cells b k n t σ σ1) hw ?_ (pr 1 (.inl rfl)) (pr 2 (.inr rfl)) (un .closure 3 rfl (.inl ⟨rfl,rfl⟩)) (un .star 4 rfl (.inr (.inl ⟨rfl,rfl⟩))) (un .turn 5 rfl (.inr (.inr ⟨rfl,rfl⟩)));refine ab (fJ (aU (b:=true) rfl (bv (ab (aB (aa (d:=(N.rel true).d) rfl ?_))))));exact ⟨.rel true,rfl,.rel1,(br.trans k1 a1 a2 (br.one S1)).le (aZ (.a (.n 1) (.n 0)) (.v 0) [(1,(.a (.a (.m 2 (.v 1)) (.m 3 (.a (.v 2) (.n 1)))) (.n 12)),.v 0)] rfl (le_of_eq hB.symm))⟩
noncomputable def tr (f:Nat)(d:Int)(o1 o2 o3 o4:Option D):Loc:=[("feed",some (.ref f)),("deep",some (.int d)),("way",o1),("one",o2),("names",o3),("other",o4)]
noncomputable def SM (f c:Nat)(cells:List Int)(b:Int)(k n m:Nat):Prop:=∀ σ t,cy σ f c cells t b->t+m<=1000000 ->
 Ok (aL n "_law_set" [.ref f,.int ((k:Int) - 1)]) σ (x3 f c cells b (G .set (k - 1)) m t σ)
theorem n9 {k n m way:Nat}(hw:way < 2)(H:SM f c cells b k (n+1) m){σ:Sto}{t:Nat}(S:cy σ f c cells t b)(ht:t+2 * m+1<=1000000){N':Loc->Sto->Prop}{R:D->Sto->Prop}(hR:∀ x σ',G .form k x->br f c cells b t (2 * m+1) σ σ'->R x.d σ') :
  Ex (aE (aL (n+1)) 63 (aO 30).scope (tr f k (some (.int way)) none none none) ((aO 30).body.drop 1)) σ N' R:=by
 refine lt2 (P:=λway=>Ex (aE (aL (n+1)) 63 (aO 30).scope (tr f k (some (.int (way:Nat))) none none none) ((aO 30).body.drop 1)) σ N' R) hw ?_ ?_
 ·refine ab (fJ (aU (b:=true) rfl (bv (ab (aB (aI (ae (bz rfl (aa (d:=.tup [.str "some",.str "no",.str "one",.str "lone"]) rfl (am rfl (by kernel_rfl) (ah (ds:=[.ref f,.int (4:Nat)]) rfl ?_)))))))))));refine (bX 4 (by decide) (by decide) n S (a5 (.v 0) (.n 2000000) [(1,(.a (.a (.v 0) (.m 2 (.v 1))) (.n 1)),.n 1000000)] rfl ht)).mono λr σ1 h1=>?_;obtain ⟨j,hj,rfl,k1,t1,a1,a2,S1⟩:=h1;have ho:∃ o:U1,dL o=true/\l8 (.tup [.str "some",.str "no",.str "one",.str "lone"]) (.int (j:Int))=pure (.str o.s):=by
   refine lt4 (P:=λj=>∃ o:U1,dL o=true/\l8 (.tup [.str "some",.str "no",.str "one",.str "lone"]) (.int (j:Nat))=pure (.str o.s)) hj ?_ ?_ ?_ ?_
   ·exact ⟨.some,rfl,by kernel_rfl⟩
   ·exact ⟨.no,rfl,by kernel_rfl⟩
   ·exact ⟨.one,rfl,by kernel_rfl⟩
   ·exact ⟨.lone,rfl,by kernel_rfl⟩
  obtain ⟨o,ho,hi⟩:=ho;refine gv hi (ae (am (by kernel_rfl) (by kernel_rfl) (ah (ds:=[.ref f,.int ((k:Int) - 1)]) rfl ?_)));refine (H σ1 t1 S1 (aZ (.a (.v 0) (.v 1)) (.n 1000000) [(1,(.a (.a (.v 2) (.m 2 (.v 1))) (.n 1)),.n 1000000),(1,.v 0,(.a (.v 2) (.n 1)))] rfl ht a2)).mono λr σ2 h2=>aq ⟨le_of_ble_eq_true rfl,?_⟩;obtain ⟨x,rfl,gx,h2⟩:=h2;exact hR (.un o x) _ (.unf ho gx) ((br.trans k1 a1 a2 h2).le (bh (.a (.n 1) (.v 0)) (.a (.m 2 (.v 0)) (.n 1)) [] rfl))
 ·refine bK 1 (by kernel_rfl) ?_;refine ab (fJ (aU (b:=true) rfl (bv ?_)));refine ab (aA rfl (am (by kernel_rfl) (by kernel_rfl) (ah (ds:=[.ref f,.int ((k:Int) - 1)]) rfl ?_)));refine (H σ t S (a5 (.a (.v 0) (.v 1)) (.n 1000000) [(1,(.a (.a (.v 0) (.m 2 (.v 1))) (.n 1)),.n 1000000)] rfl ht)).mono λr σ2 h2=>?_;obtain ⟨x,rfl,gx,k2,t2,b1,b2,S2⟩:=h2;refine ab (aB (aI (ae (aa (d:=.str "in") rfl (ae (aa (d:=x.d) rfl (ae (am (by kernel_rfl) (by kernel_rfl) (ah (ds:=[.ref f,.int ((k:Int) - 1)]) rfl ?_)))))))));refine (H σ2 t2 S2 (aZ (.a (.v 0) (.v 1)) (.n 1000000) [(1,(.a (.a (.v 2) (.m 2 (.v 1))) (.n 1)),.n 1000000),(1,.v 0,(.a (.v 2) (.v 1)))] rfl ht b2)).mono λr σ3 h3=>aq ⟨le_of_ble_eq_true rfl,?_⟩;obtain ⟨y,rfl,gy,h3⟩:=h3;exact hR (.bin .isin x y) _ (.isin gx gy) ((br.trans k2 b1 b2 h3).le (bh (.a (.v 0) (.v 0)) (.a (.m 2 (.v 0)) (.n 1)) [] rfl))
theorem pW (n:Nat):lC f c cells b .form "_law_formula" (0:Nat) 0 (n+1+1+1):=λσ t S ht=>by
 have hB:BB 0=8:=rfl;have H:SM f c cells b 0 (n+1+1) 2:=λσ t S ht=>(mx (deep:=((0:Nat):Int) - 1) (by decide) n S (bh (.v 0) (.n 1400000) [(1,(.a (.v 0) (.n 2)),.n 1000000)] rfl ht)).mono λr σ' h=>by
  obtain ⟨x,hr,hx,h⟩:=h;exact ⟨x,hr,.leaf hx,h⟩
 refine ao rfl f6 (ax (ρ:=tr f (0:Nat) none none none none) rfl ?_);refine ab (aA rfl (am rfl (by kernel_rfl) (ah (ds:=[.ref f,.int (2:Nat)]) rfl ?_)));refine (bX 2 (by decide) (by decide) (n+1) S (a5 (.v 0) (.n 2000000) [(1,(.a (.v 0) (.v 1)),.n 1000000)] rfl ht)).mono λr σ1 h1=>?_;obtain ⟨way,hw,rfl,k1,t1,a1,a2,S1⟩:=h1;exact n9 hw H S1 (aZ (.a (.a (.v 0) (.m 2 (.n 2))) (.n 1)) (.n 1000000) [(1,(.a (.v 1) (.v 2)),.n 1000000),(1,.n 8,.v 2),(1,.v 0,(.a (.v 1) (.n 1)))] rfl ht (le_of_eq hB.symm) a2) λx σ2 hx h2=>⟨x,rfl,hx,(br.trans k1 a1 a2 h2).le (bh (.a (.n 1) (.a (.m 2 (.n 2)) (.n 1))) (.v 0) [(1,.n 8,.v 0)] rfl (le_of_eq hB.symm))⟩
theorem uF (k n:Nat)(hk:k<=3)(H:lC f c cells b .set "_law_set" k k (n+1+1+1))(H2:lC f c cells b .form "_law_formula" k k (n+1+1+1)):lC f c cells b .form "_law_formula" (k+1:Nat) (k+1) (n+1+1+1+1):=λσ t S ht=>by
 have hB:BB (k+1)=2 * BB k+3 * (k+1)+12:=rfl;have HS:SM f c cells b (k+1) (n+1+1+1) (BB k):=λσ t S ht=>by
  refine (cu _).symm▸?_;exact H σ t S ht
 refine ao rfl f6 (ax (ρ:=tr f (k+1:Nat) none none none none) (by kernel_rfl) ?_);refine ab (aA (by kernel_rfl) (am (by kernel_rfl) (by kernel_rfl) (ae (aa (d:=.ref f) rfl (ae (bu (gf rfl (bZ (aa (d:=.int (k+1:Nat)) rfl (aa (d:=.int 0) rfl ?_))))))))));refine Ok.bind (Ok.ret (Ok.bind (Ok.ret (Ok.ret ⟨_,rfl,?_⟩))));rw [(decide_eq_true (Int.natCast_pos.mpr (succ_pos k)):decide (((k+1:Nat):Int) > 0)=true)];refine cC (aa (d:=.int (7:Nat)) rfl (aq ?_));refine (bX 7 (by decide) (by decide) (n+1+1) S (a5 (.v 0) (.n 2000000) [(1,(.a (.v 0) (.v 1)),.n 1000000)] rfl ht)).mono λr σ1 h1=>?_;obtain ⟨way,hw,rfl,k1,t1,a1,a2,S1⟩:=h1;by_cases hw2:way < 2
 ·exact n9 hw2 HS S1 (sX (.a (.a (.v 0) (.m 2 (.v 1))) (.n 1)) (.n 1000000) [(1,(.a (.v 2) (.v 3)),.n 1000000),(1,(.a (.a (.m 2 (.v 1)) (.m 3 (.a (.v 4) (.n 1)))) (.n 12)),.v 3),(1,.v 0,(.a (.v 2) (.n 1)))] rfl ht (le_of_eq hB.symm) a2) λx σ2 hx h2=>⟨x,rfl,hx,(br.trans k1 a1 a2 h2).le (aZ (.a (.n 1) (.a (.m 2 (.v 0)) (.n 1))) (.v 1) [(1,(.a (.a (.m 2 (.v 0)) (.m 3 (.a (.v 2) (.n 1)))) (.n 12)),.v 1)] rfl (le_of_eq hB.symm))⟩
 refine bK 2 (by
  have h5:way=2\/way=3\/way=4\/way=5\/way=6:=(Nat.lt_or_ge way 5).elim (λh=>(uI hw2 hw).1 h |>.imp id (Or.imp id .inl)) λh => .inr (.inr (.inr ((uI hw2 hw).2 (not_lt.mpr h))));rcases h5 with rfl | rfl | rfl | rfl | rfl <;> kernel_rfl) ?_
 by_cases hw5:way < 5
 ·have h5:way=2\/way=3\/way=4:=(uI hw2 hw).1 hw5;refine bK 1 (by rcases h5 with rfl | rfl | rfl <;> kernel_rfl) ?_;refine ab (aA rfl (am (by kernel_rfl) (by kernel_rfl) (ah (ds:=[.ref f,.int (((k+1:Nat):Int) - 1)]) rfl ?_)));refine (cu _).symm▸?_;refine (H2 σ1 t1 S1 (lin [_,_,_,_,_] 2 (.a (.v 0) (.v 1)) (.n 1000000) [(2,(.a (.v 2) (.v 3)),.n 1000000),(1,(.a (.a (.m 2 (.v 1)) (.m 3 (.a (.v 4) (.n 1)))) (.n 12)),.v 3),(2,.v 0,(.a (.v 2) (.n 1)))] rfl ht (le_of_eq hB.symm) a2)).mono λr σ2 h2=>?_;obtain ⟨x,rfl,gx,k2,t2,b1,b2,S2⟩:=h2;refine ab (aA rfl (am (by kernel_rfl) (by kernel_rfl) (ah (ds:=[.ref f,.int (((k+1:Nat):Int) - 1)]) rfl ?_)));refine (cu _).symm▸?_;refine (H2 σ2 t2 S2 (zN (.a (.v 0) (.v 1)) (.n 1000000) [(1,(.a (.v 2) (.v 3)),.n 1000000),(1,(.a (.a (.m 2 (.v 1)) (.m 3 (.a (.v 4) (.n 1)))) (.n 12)),.v 3),(1,.v 5,(.a (.v 2) (.n 1))),(1,.v 0,(.a (.v 5) (.v 1)))] rfl ht (le_of_eq hB.symm) a2 b2)).mono λr σ3 h3=>?_;obtain ⟨y,rfl,gy,h3⟩:=h3;have hfin:=(br.trans k1 a1 a2 (br.trans k2 b1 b2 h3)).le (show 1+(BB k+BB k)<=BB (k+1) by exact aZ (.a (.n 1) (.a (.v 0) (.v 0))) (.v 1) [(1,(.a (.a (.m 2 (.v 0)) (.m 3 (.a (.v 2) (.n 1)))) (.n 12)),.v 1)] rfl (le_of_eq hB.symm));rcases h5 with rfl | rfl | rfl
  ·exact ab (aB (aa (d:=(N.or x y).d) rfl ⟨.or x y,rfl,.or gx gy,hfin⟩))
  ·exact ab (aB (aa (d:=(N.bin .implies x y).d) rfl ⟨.bin .implies x y,rfl,.two (.inl rfl) gx gy,hfin⟩))
  ·exact ab (aB (aa (d:=(N.bin .iff x y).d) rfl ⟨.bin .iff x y,rfl,.two (.inr rfl) gx gy,hfin⟩))
 ·have h5:way=5\/way=6:=(uI hw2 hw).2 hw5;refine ab (fJ (aU (b:=true) (by rcases h5 with rfl | rfl <;> kernel_rfl) (bv ?_)));refine ab (aA rfl (am rfl (by kernel_rfl) (ae (aa (d:=.ref f) rfl (ae (bB (aa (d:=.int 1) rfl (am (by kernel_rfl) (by kernel_rfl) (ah (ds:=[.ref f,.int (k+1:Nat)]) rfl ?_)))))))));refine (bX (k+1) (bh (.n 1) (.a (.v 0) (.n 1)) [] rfl) (bh (.a (.v 0) (.n 1)) (.n 100) [(1,.v 0,.n 3)] rfl hk) (n+1+1) S1 (aZ (.v 0) (.n 2000000) [(1,(.a (.v 1) (.v 2)),.n 1000000),(1,.v 0,(.a (.v 1) (.n 1)))] rfl ht a2)).mono λr σ2 h2=>?_;obtain ⟨j,hj,rfl,k2,t2,b1,b2,S2⟩:=h2;refine add_int (aq ?_);have e1:(1:Int)+(j:Nat)=((j+1:Nat):Int):=(Int.add_comm 1 (j:Int));refine e1.symm▸?_;refine (u6 (j+1) (a5 (.a (.v 0) (.n 1)) (.n 4) [(1,.v 1,.n 3),(1,(.a (.v 0) (.n 1)),(.a (.v 1) (.n 1)))] rfl hk hj) n S2 (fW (.v 0) (.n 1200000) [(1,(.a (.v 1) (.v 2)),.n 1000000),(1,.v 3,(.a (.v 1) (.n 1))),(1,.v 0,(.a (.v 3) (.n 1)))] rfl ht a2 b2)).mono λr σ3 h3=>?_;obtain ⟨ds,rfl,hlf,hln,k3,t3,c1,c2,S3⟩:=h3;have ho:∃ o:Q3,(o = .all\/o = .exist)/\((way=5/\o = .all)\/(way=6/\o = .exist)):=by
   rcases h5 with rfl | rfl
   ·exact ⟨.all,.inl rfl,.inl ⟨rfl,rfl⟩⟩
   ·exact ⟨.exist,.inr rfl,.inr ⟨rfl,rfl⟩⟩
  obtain ⟨o,ho,hwo⟩:=ho;refine ab (aB (aI (ae (aa (d:=.str o.s) (by rcases hwo with ⟨rfl,rfl⟩ | ⟨rfl,rfl⟩ <;> kernel_rfl) (ae (aa (d:=.tup ds.d) rfl (ae (am (by kernel_rfl) (by kernel_rfl) (ah (ds:=[.ref f,.int (((k+1:Nat):Int) - 1)]) rfl ?_)))))))));refine (cu _).symm▸?_;refine (H2 σ3 t3 S3 (Ab (.a (.v 0) (.v 1)) (.n 1000000) [(1,(.a (.v 2) (.v 3)),.n 1000000),(1,(.a (.a (.m 2 (.v 1)) (.m 3 (.a (.v 4) (.n 1)))) (.n 12)),.v 3),(1,.v 5,(.a (.v 2) (.n 1))),(3,(.a (.v 6) (.n 1)),(.a (.v 4) (.n 1))),(1,.v 7,(.a (.v 5) (.n 1))),(1,.v 0,(.a (.v 7) (.m 3 (.a (.v 6) (.n 1)))))] rfl ht (le_of_eq hB.symm) a2 hj b2 c2)).mono λr σ4 h4=>aq ⟨le_of_ble_eq_true rfl,?_⟩;obtain ⟨y,rfl,gy,h4⟩:=h4;exact ⟨.q o ds y,rfl,.quant ho hlf (aZ (.v 0) (.a (.v 1) (.n 1)) [(1,(.a (.v 2) (.n 1)),(.a (.v 1) (.n 1))),(1,.v 0,(.a (.v 2) (.n 1)))] rfl hj (le_of_eq hln)) gy,(br.trans k1 a1 a2 (br.trans k2 b1 b2 (br.trans k3 c1 c2 h4))).le (fW (.a (.n 1) (.a (.n 1) (.a (.m 3 (.a (.v 0) (.n 1))) (.v 1)))) (.v 2) [(1,(.a (.a (.m 2 (.v 1)) (.m 3 (.a (.v 3) (.n 1)))) (.n 12)),.v 2),(3,(.a (.v 0) (.n 1)),(.a (.v 3) (.n 1)))] rfl (le_of_eq hB.symm) hj)⟩
theorem sx (k:Nat):k<=4->∀ n,2 * k+4<=n->lC f c cells b .set "_law_set" k k n/\lC f c cells b .pair "_law_pairs" k k n/\lC f c cells b .form "_law_formula" k k n:=by
 induction k using Nat.rec with
 | zero =>
  intro _ n hn;obtain ⟨m,e⟩:∃ m,n=m+1+1+1:=pk 3 (le_of_succ_le hn);exact e▸⟨tK (m+1),sA (m+1+1),pW m⟩
 | succ k ih =>
  intro hk n hn;obtain ⟨m,e⟩:∃ m,n=m+1+1+1+1:=pk 4 (le_trans (le_add_left 4 _) hn);obtain ⟨h1,h2,h3⟩:=ih (le_of_succ_le hk) (m+1+1+1) (aZ (.a (.m 2 (.v 0)) (.n 4)) (.a (.a (.a (.v 1) (.n 1)) (.n 1)) (.n 1)) [(1,(.a (.m 2 (.a (.v 0) (.n 1))) (.n 4)),.v 2),(1,.v 2,(.a (.a (.a (.a (.v 1) (.n 1)) (.n 1)) (.n 1)) (.n 1)))] rfl hn (le_of_eq e));exact e▸⟨xF k m h1 h2 h3,tP k (m+1+1) h1 h2,uF k m (Nat.le_of_succ_le_succ hk) h1 h3⟩
end
theorem fk (a b:Str)(h:PyData.strOk a=true)(k:PyData.strOk b=true):PyData.strOk (a++b)=true:=by
 unfold PyData.strOk at *
 show ((a.cps++b.cps).all _)=true;rw [Array.all_append,h,k];rfl
theorem iR:∀ ts:List Str,(∀ t∈ts,PyData.strOk t=true)->PyData.strOk (Str.join ", " ts)=true
 | [],_=>by kernel_rfl
 | [x],h=>h x (.head _)
 | x::y::r,h=>by
  exact fk _ _ (fk _ _ (h x (.head _)) (by kernel_rfl)) (iR (y::r) λt ht=>h t (.tail _ ht))
theorem uz (ts:List Str)(h:∀ t∈ts,PyData.strOk t=true):PyData.strOk (tupleText ts)=true:=by
 refine fk _ _ (fk _ _ (by kernel_rfl) (iR ts h)) ?_;split <;> decide +kernel
theorem zj (ts:List Str):(tupleText ts).length<=piled ts+3:=by
 (refine (DL _ _).symm▸?_;refine (DL _ _).symm▸?_);have e1:((if (ts.length==1)=true then ",)" else ")" : String):Str).length<=2:=by split <;> decide +kernel
 have e2:(("(" : String):Str).length=1:=by kernel_rfl
 by_cases hn:ts=[]
 ·subst hn;have:(Str.join ", " ([]:List Str)).length=0:=by kernel_rfl
  exact fW (.a (.a (.v 0) (.v 1)) (.v 2)) (.a (.v 3) (.n 3)) [(1,.v 0,.n 1),(1,.v 2,.n 2),(1,.v 1,.n 0)] rfl (le_of_eq e2) e1 (le_of_eq this)
 ·have:=join_length_add ts hn;exact fW (.a (.a (.v 0) (.v 1)) (.v 2)) (.a (.v 3) (.n 3)) [(1,.v 2,.n 2),(1,.v 0,.n 1),(1,(.a (.v 1) (.n 2)),.v 3)] rfl e1 (le_of_eq e2) (le_of_eq this)
structure Shw (d:D)(m h:Nat)(p:Ca):Prop where
 py:d.py=some p
 show':p.showable=true
 ok:PyData.strOk p.shown=true
 len:p.shown.length<=m
 depth:p.depth<=h
theorem Shw.le {d:D}{m m' h h':Nat}{p:Ca}(a:Shw d m h p)(hm:m<=m')(hh:h<=h'):Shw d m' h' p:=⟨a.py,a.show',a.ok,le_trans a.len hm,le_trans a.depth hh⟩
theorem mj (x:Str)(m:Nat){h':Nat}(h:PyData.strOk (Dl x)=true)(h2:(Dl x).length<=m):Shw (.str x) m h' (.str x):=⟨rfl,rfl,h,h2,zero_le _⟩
theorem me (i:Int)(m:Nat){h':Nat}(h0:(PyData.int i).showable=true)(h:PyData.strOk (PyData.int i).shown=true)(h2:(PyData.int i).shown.length<=m):Shw (.int i) m h' (.int i):=⟨rfl,h0,h,h2,zero_le _⟩
structure sM (l:List D)(m h:Nat)(ps:List Ca):Prop where
 py:D.pys l=some ps
 show':PyData.showableAll ps=true
 ok:∀ t∈PyData.shownAll ps,PyData.strOk t=true
 len:piled (PyData.shownAll ps)<=m
 depth:PyData.depthAll ps<=h
theorem nE (h:Nat):sM [] 0 h []:=⟨rfl,rfl,λ_ ht=>(not_mem_nil ht).elim,le_refl _,zero_le _⟩
theorem cO {d:D}{l:List D}{m m' h:Nat}{p:Ca}{ps:List Ca}(a:Shw d m h p)(b:sM l m' h ps):sM (d::l) (m'+(m+2)) h (p::ps):=by
 refine ⟨eO a.py b.py,e7 a.show' b.show',λt ht=>?_,?_,max_le.mpr ⟨a.depth,b.depth⟩⟩
 ·rcases mem_cons.mp ht with e | ht
  ·exact e▸a.ok
  ·exact b.ok t ht
 ·refine (?_:piled (p.shown::PyData.shownAll ps)<=_);refine (piled_cons _ _).symm▸?_;exact le_trans (add_le_add (add_le_add_right a.len 2) b.len) (le_of_eq (add_comm _ _))
theorem gq {d:D}{m h:Nat}{p:Ca}(a:Shw d m h p):sM [d] (m+2) h [p]:=zero_add (m+2)▸cO a (nE h)
theorem gX {l:List D}{m h:Nat}{ps:List Ca}(a:sM l m h ps):Shw (.tup l) (m+3) (h+1) (.tuple ps) :=
 ⟨(congrArg (·.map PyData.tuple) a.py:(D.pys l).map PyData.tuple=_),a.show',uz _ a.ok,le_trans (zj (PyData.shownAll ps)) (add_le_add_right a.len 3),succ_le_succ a.depth⟩
theorem sM.le {l:List D}{m m' h:Nat}{p:List Ca}(a:sM l m h p)(hm:m<=m')(h':Nat:=h)(hh:h<=h':=by exact le_refl _):sM l m' h' p:=⟨a.py,a.show',a.ok,le_trans a.len hm,le_trans a.depth hh⟩
theorem u7 (b:Bool)(h:Nat):Shw (.str (nm b)) 3 h (.str (nm b)):=mj _ _ (by induction b using Bool.casesOn <;> kernel_rfl) (by induction b using Bool.casesOn <;> exact le_of_ble_eq_true (by kernel_rfl))
theorem sg {x:Str}{a b:D}{za zb z ha hb h:Nat}{p q:Ca}(h1:PyData.strOk (Dl x)=true)(h2:Nat.ble (Dl x).length 10=true)(A:Shw a za ha p)(B:Shw b zb hb q)(hz:za+zb+19<=z)(hh:max ha hb<=h):∃ p,Shw (.tup [.str x,a,b]) z (h+1) p :=
 ⟨_,(gX (cO (mj x 10 h1 (le_of_ble_eq_true h2)) (cO (A.le (le_refl _) (le_trans (le_max_left _ _) hh)) (gq (B.le (le_refl _) (le_trans (le_max_right _ _) hh)))))).le (aZ (.a (.a (.a (.a (.v 0) (.n 2)) (.a (.v 1) (.n 2))) (.a (.n 10) (.n 2))) (.n 3)) (.v 2) [(1,(.a (.a (.v 1) (.v 0)) (.n 19)),.v 2)] rfl hz) (le_refl _)⟩
theorem iT {x:Str}{a:D}{za h:Nat}{p:Ca}(h1:PyData.strOk (Dl x)=true)(h2:Nat.ble (Dl x).length 10=true)(A:Shw a za h p):∃ p,Shw (.tup [.str x,a]) (za+17) (h+1) p :=
 ⟨_,gX (cO (m:=10) (mj x 10 h1 (le_of_ble_eq_true h2)) (gq A))⟩
theorem BM (a b:Nat):max (3 * a) (3 * b)<=3 * max a b:=max_le.mpr ⟨mul_le_mul_left 3 (le_max_left _ _),mul_le_mul_left 3 (le_max_right _ _)⟩
theorem rS {d:D}{m m' h h':Nat}(hm:m<=m')(hh:h<=h'):(∃ p,Shw d m h p)->∃ p,Shw d m' h' p:=λ⟨p,a⟩=>⟨p,a.le hm hh⟩
theorem wu:(∀ x:N,∃ p,Shw x.d (x.sz 20) (3 * x.ht) p)/\∀ ds:Ds,∃ p,sM ds.d (ds.sz 20) (3 * ds.ht+1) p:=by
 refine N.both (λb=>rS (show 20<=20 by decide) (show 3<=3 by decide) (iT (h:=2) (by kernel_rfl) (by kernel_rfl) (u7 b 2))) (λi=>?_) (rS (show 20<=20 by decide) (show 3<=3 by decide) (iT (by kernel_rfl) (by kernel_rfl) (me (h':=2) 1 3 (by kernel_rfl) (by kernel_rfl) (le_of_ble_eq_true (by kernel_rfl)))))
  (λo a ⟨p,ih⟩=>rS (add_le_add_left (show 17<=30 by decide) _) (show 3 * a.ht+1<=3 * a.ht+3 by exact add_le_add_left (by decide) _) (iT (by induction o using U1.casesOn <;> kernel_rfl) (by induction o using U1.casesOn <;> kernel_rfl) ih))
  (λo a b ⟨p,ih⟩ ⟨q,jh⟩=>sg (h:=3 * max a.ht b.ht+2) (by induction o using B2.casesOn <;> kernel_rfl) (by induction o using B2.casesOn <;> kernel_rfl) ih jh (add_le_add_left (by decide) _) (Nat.le_add_right_of_le (BM _ _)))
  (λa b ⟨p,ih⟩ ⟨q,jh⟩=>?_)
  (λo ds f ⟨p,ih⟩ ⟨q,jh⟩=>sg (h:=3 * max ds.ht f.ht+2) (by induction o using Q3.casesOn <;> kernel_rfl) (by induction o using Q3.casesOn <;> kernel_rfl) (gX ih) jh (show ds.sz 20+3+f.sz 20+19<=ds.sz 20+f.sz 20+40 by exact a5 (.a (.a (.a (.v 0) (.n 3)) (.v 1)) (.n 19)) (.a (.a (.v 0) (.v 1)) (.n 40)) [] rfl) (max_le.mpr ⟨add_le_add_right (mul_le_mul_left 3 (le_max_left _ _)) 2,Nat.le_add_right_of_le (mul_le_mul_left 3 (le_max_right _ _))⟩))
  ⟨_,nE _⟩ (λb a r ⟨p,ih⟩ ⟨q,jh⟩=>?_)
 ·refine rS (show 20<=20 by decide) (show 3<=3 by decide) ?_;induction i using Bool.casesOn with
  | false=>exact iT (by kernel_rfl) (by kernel_rfl) (me (h':=2) 0 3 (by kernel_rfl) (by kernel_rfl) (le_of_ble_eq_true (by kernel_rfl)))
  | true=>exact iT (by kernel_rfl) (by kernel_rfl) (me (h':=2) 1 3 (by kernel_rfl) (by kernel_rfl) (le_of_ble_eq_true (by kernel_rfl)))
 ·have hm:=BM a.ht b.ht;refine rS (show b.sz 20+2+(a.sz 20+2)+3+17<=a.sz 20+b.sz 20+40 by exact a5 (.a (.a (.a (.a (.v 0) (.n 2)) (.a (.v 1) (.n 2))) (.n 3)) (.n 17)) (.a (.a (.v 1) (.v 0)) (.n 40)) [] rfl) (succ_le_succ (le_refl _)) (iT (by kernel_rfl) (by kernel_rfl) (gX (h:=3 * max a.ht b.ht+1) (cO (ih.le (le_refl _) ?_) (gq (jh.le (le_refl _) ?_)))))
  ·exact le_succ_of_le (le_trans (le_max_left _ _) hm)
  ·exact le_succ_of_le (le_trans (le_max_right _ _) hm)
 ·refine ⟨_,sM.le (cO (h:=3 * max a.ht r.ht+1) (gX (cO (u7 b (3 * max a.ht r.ht)) (gq (ih.le (le_refl _) (mul_le_mul_left 3 (le_max_left _ _)))))) (jh.le (le_refl _) _ (succ_le_succ (mul_le_mul_left 3 (le_max_right _ _))))) ?_⟩;refine (?_:r.sz 20+(a.sz 20+2+(3+2)+3+2)<=a.sz 20+r.sz 20+20);exact a5 (.a (.v 0) (.a (.a (.a (.a (.v 1) (.n 2)) (.a (.n 3) (.n 2))) (.n 3)) (.n 2))) (.a (.a (.v 1) (.v 0)) (.n 20)) [] rfl
theorem z8 (x:N):∃ p,Shw x.d (x.sz 20) (3 * x.ht) p:=wu.1 x
noncomputable def clD (ep:Pl):List (Str×D):=((ep false).toList.map λc=>(nm false,c.d))++((ep true).toList.map λc=>(nm true,c.d))
noncomputable def clN (ep:Pl):List Bool:=(if (ep false).isSome then [false] else [])++(if (ep true).isSome then [true] else [])
theorem jG (ep:Pl):((clD ep).map λp=>D.str p.1)=(clN ep).map λb=>D.str (nm b):=by
 unfold clD clN;cases ep false <;> cases ep true <;> rfl
theorem dF (ep:Pl)(b:Bool):(clD ep).lookup (nm b)=(ep b).map N.d:=by
 unfold clD;induction b using Bool.casesOn <;> cases h:ep false <;> cases h2:ep true <;> (simp only [Option.toList,map_cons,List.map_nil,append_nil,nil_append,cons_append,Option.map_none,map_some]) <;> kernel_rfl
theorem n7 (ep:Pl)(b:Bool):b∈clN ep ↔ (ep b).isSome=true:=by
 unfold clN;induction b using Bool.casesOn <;> cases ep false <;> cases ep true <;> simp
theorem AU (ep:Pl):XY (clD ep):=by
 unfold clD;cases ep false with
 | none=>cases ep true with
  | none=>exact ⟨show List.Nodup ([]:List Str) by decide +kernel,λp hp=>by cases hp⟩
  | some d=>exact ⟨show List.Nodup ([nm true]:List Str) by decide +kernel,λp hp=>by simp at hp;exact ⟨true,hp.symm▸rfl⟩⟩
 | some c=>cases ep true with
  | none=>exact ⟨show List.Nodup ([nm false]:List Str) by decide +kernel,λp hp=>by simp at hp;exact ⟨false,hp.symm▸rfl⟩⟩
  | some d=>exact ⟨show List.Nodup ([nm false,nm true]:List Str) by decide +kernel,λp hp=>by
    simp at hp;rcases hp with hp | hp
    ·exact ⟨false,hp.symm▸rfl⟩
    ·exact ⟨true,hp.symm▸rfl⟩⟩
noncomputable def ouD (o:Bool->Nat):List (Str×D):=[("x",.int (o false)),("y",.int (o true))]
theorem tN {σ:Sto}{j k v v':Nat}{p:Bool->Bool}(e1:σ[j]? = some (.list (au .str (aV p)),v))(e2:σ[k]? = some (.list (au .str (aV p)),v')){Q:Bool->Sto->Prop}(h:Q true σ):Ok (eqD (.ref j) (.ref k)) σ Q:=by
 have key:∃ pd,(D.pys (au .str (aV p))).map PyData.list=some pd/\SeqAt.shaped pd=true/\PyData.eqv pd pd=true:=by
  unfold aV;cases p false <;> cases p true
  ·exact ⟨.list [],rfl,by kernel_rfl,by kernel_rfl⟩
  ·exact ⟨.list [.str "y"],rfl,by kernel_rfl,by kernel_rfl⟩
  ·exact ⟨.list [.str "x"],rfl,by kernel_rfl,by kernel_rfl⟩
  ·exact ⟨.list [.str "x",.str "y"],rfl,by kernel_rfl,by kernel_rfl⟩
 obtain ⟨pd,hq⟩:=key;have k1:=hq.1;have k2:=hq.2.1;have k3:=hq.2.2;have hr:∀ {i v} {Q:Ca->Sto->Prop},σ[i]? = some (.list (au .str (aV p)),v)->Q pd σ->Ok (er (.ref i)) σ Q:=λe q=>Ok.bind (Ok.listAt e (Ok.ofOpt k1 q));refine Ok.bind (hr e1 (Ok.bind (hr e2 (Ok.bind (Ok.must (by exact k2.symm▸rfl) (Ok.ret ?_))))));exact k3▸h
theorem rK (p q:Bool->Bool):(aV p).filter (λc=>q (c==1))=aV λb=>p b && q b:=by
 unfold aV;cases h1:p false <;> cases h2:p true <;> cases h3:q false <;> cases h4:q true <;> simp [h1,h2,h3,h4]
theorem ou:aM "_law_is_right"=some (aO 35):=rfl
theorem sC {x:N}{p:Ca}{m h:Nat}(hp:Shw x.d m h p)(hm:m<=16000000)(hh:h<=64){σ:Sto}{P:D->Sto->Prop}(hP:P (.str p.shown) σ):Ok (b9 "repr" x.d) σ P:=by
 have ht:∃ l,x.d = .tup l:=by induction x using N.casesOn <;> exact ⟨_,by unfold N.d;rfl⟩
 obtain ⟨l,hl⟩:=ht;have hc:b9 "repr" (.tup l)=(do
   let p <- ofOpt (D.py (.tup l))
   must (p.showable && decide (p.shown.length<=Ct) && decide (p.depth<=64))
   pure (.str p.shown)):=by kernel_rfl
 (refine hl.symm▸?_;refine hc.symm▸?_);have h1:=hp.py;replace h1:=hl▸h1;refine Ok.bind (Ok.ofOpt h1 (Ok.bind (Ok.must ?_ (Ok.ret hP))));rw [hp.show',Bool.true_and,and_eq_true,decide_eq_true_eq,decide_eq_true_eq,Cz];exact ⟨le_trans hp.len (le_trans hm (by decide)),le_trans hp.depth hh⟩
noncomputable def A3 (j:Nat)(a b:D):Loc:=[("self",some (.ref j)),("many",some a),("instance",some b)]
theorem uJ {k v:Nat}{h0 h1:List Nat}(n:Nat){σ:Sto}(hk:σ[k]? = some (.list [.tup (au .one h0),.tup (au .two h1)],v)):Ok (aL (n+1) "Evaluator" [.int 2,.ref k]) σ λr σ'=>r = .ref (σ.length+1)/\lw σ' (σ.length+1) σ.length k h0 h1 0/\av NoW σ σ':=by
 unfold aL;rw [if_pos (by kernel_rfl)];refine Ok.bind (Ok.alloc ?_);refine Ok.bind (Ok.alloc ?_);refine Ok.bind (Ok.ofOpt qn ?_);have hlen:(σ++[(PO.dS [],0)]).length=σ.length+1:=by simp
 refine hlen.symm▸?_;have k0:av NoW σ ((σ++[(PO.dS [],0)])++[(PO.inst σ.length,0)]):=((av.refl _ _).push _).push _;have g1:((σ++[(PO.dS [],0)])++[(PO.inst σ.length,0)])[σ.length]? = some (.dS [],0):=al (ag _ _);have g2:((σ++[(PO.dS [],0)])++[(PO.inst σ.length,0)])[σ.length+1]? = some (.inst σ.length,0):=hlen▸(ag _ _);generalize ((σ++[(PO.dS [],0)])++[(PO.inst σ.length,0)])=σ1 at k0 g1 g2;have hkl:=aH hk;refine Ok.bind (ax (ρ:=A3 (σ.length+1) (.int 2) (.ref k)) rfl ?_);refine ab (nQ rfl (aa (d:=.int 2) rfl (aa (d:=.ref (σ.length+1)) rfl ⟨_,_,_,_,_,rfl,g2,g1,by decide,?_⟩)));have p1:put ("many" : Str) (D.int 2) ([]:List (Str×D))=([("many",.int 2)]:List (Str×D)):=by kernel_rfl
 refine p1.symm▸?_;have k1:=k0.set (k:=σ.length) (le_refl _) (PO.dS [("many",.int 2)],0+1);have g3:=bN (q:=(PO.dS [("many",.int 2)],0+1)) g1;have g4:=aF (j:=σ.length) (q:=(PO.dS [("many",.int 2)],0+1)) (by exact ne_of_lt (bh (.a (.v 0) (.n 1)) (.a (.v 0) (.n 1)) [] rfl)) g2;generalize σ1.set σ.length (PO.dS [("many",.int 2)],0+1)=σ2 at k1 g3 g4;refine ab (nQ rfl (aa (d:=.ref k) rfl (aa (d:=.ref (σ.length+1)) rfl ⟨_,_,_,_,_,rfl,g4,g3,by decide,?_⟩)));have p2:put ("instance" : Str) (D.ref k) ([("many",.int 2)]:List (Str×D))=([("many",.int 2),("instance",.ref k)]:List (Str×D)):=by kernel_rfl
 refine p2.symm▸?_;have k2:=k1.set (k:=σ.length) (le_refl _) (PO.dS [("many",.int 2),("instance",.ref k)],0+1+1);have g5:=bN (q:=(PO.dS [("many",.int 2),("instance",.ref k)],0+1+1)) g3;have g6:=aF (j:=σ.length) (q:=(PO.dS [("many",.int 2),("instance",.ref k)],0+1+1)) (by exact ne_of_lt (bh (.a (.v 0) (.n 1)) (.a (.v 0) (.n 1)) [] rfl)) g4;generalize σ2.set σ.length (PO.dS [("many",.int 2),("instance",.ref k)],0+1+1)=σ3 at k2 g5 g6;refine ab (nQ rfl (aa (d:=.int (0:Nat)) rfl (aa (d:=.ref (σ.length+1)) rfl ⟨_,_,_,_,_,rfl,g6,g5,le_of_ble_eq_true rfl,?_⟩)));have p3:put ("ways" : Str) (D.int (0:Nat)) ([("many",.int 2),("instance",.ref k)]:List (Str×D))=evD k 0:=by kernel_rfl
 refine p3.symm▸?_;have k3:=k2.set (k:=σ.length) (le_refl _) (PO.dS (evD k 0),0+1+1+1);have g7:=bN (q:=(PO.dS (evD k 0),0+1+1+1)) g5;have g8:=aF (j:=σ.length) (q:=(PO.dS (evD k 0),0+1+1+1)) (by exact ne_of_lt (bh (.a (.v 0) (.n 1)) (.a (.v 0) (.n 1)) [] rfl)) g6;exact a9 (Ok.ret ⟨rfl,⟨⟨_,g8⟩,⟨_,g7⟩,⟨v,k3.get hk⟩⟩,k3⟩)
theorem yW {σ:Sto}{P:D->Sto->Prop}{a b:Str}(h:PyData.strOk a=true)(h':PyData.strOk b=true)(hp:P (.bool (!(a==b))) σ):Ok (pK .NotEq (.str a) (.str b)) σ P:=by
 refine Ok.bind (Ok.bind (Ok.run (a:=PyData.str a) (σ':=σ) rfl (Ok.bind (Ok.run (a:=PyData.str b) (σ':=σ) rfl (Ok.bind (Ok.must (by (refine (fu _).symm▸?_;refine (fu _).symm▸?_;refine h.symm▸?_;exact h'.symm▸rfl)) (Ok.ret ?_)))))));have:PyData.eqv (.str a) (.str b)=(a==b):=by simp [PyData.eqv]
 refine this.symm▸?_;exact Ok.ret hp
noncomputable def xY (ep:Pl)(a:Bool):D:=((ep a).map N.d).getD .none
noncomputable def dw (ep:Pl)(b:Bool):List (Str×D):=((clN ep).filter λa=>a != b).map λa=>(nm a,xY ep a)
theorem r7 (a b:Bool):(!(nm a==nm b))=(a != b):=by induction a using Bool.casesOn <;> induction b using Bool.casesOn <;> decide +kernel
theorem qg (ep:Pl)(b a:Bool):(dw ep b).lookup (nm a)=(ep.drop b a).map N.d:=by
 unfold dw clN Pl.drop xY;cases h0:ep false <;> cases h1:ep true <;> induction a using Bool.casesOn <;> induction b using Bool.casesOn <;> simp [h0,h1,List.lookup,r7,show (nm true==nm false)=false by kernel_rfl,show (nm false==nm true)=false by kernel_rfl]
theorem xm (ep:Pl)(b:Bool):((dw ep b).map (·.1)).Nodup:=by
 unfold dw clN;cases h0:ep false <;> cases h1:ep true <;> induction b using Bool.casesOn <;> simp
theorem tC (c:N)(b a:Bool):([(nm b,c.d)]:List (Str×D)).lookup (nm a)=(if a=b then some c else none).map N.d:=by
 induction a using Bool.casesOn <;> induction b using Bool.casesOn <;> simp [List.lookup,show (nm true==nm false)=false by kernel_rfl,show (nm false==nm true)=false by kernel_rfl]
theorem tB (ep:Pl)(b:Bool)(c:N)(h:ep b=some c):(Pl.both (λa=>if a=b then some c else none) (ep.drop b))=ep:=by
 funext a;unfold Pl.both Pl.drop;by_cases ha:a=b
 ·subst ha;simp [h]
 ·simp [ha]
theorem aw.one {ep:Pl}(h:aw ep){b:Bool}{c:N}(hb:ep b=some c):aw (λa=>if a=b then some c else none):=by
 have key:∀ a d,(if a=b then some c else none)=some d->ep b=some d:=λa d hd=>by
  split at hd
  ·(have:=Option.some.inj hd;subst this);exact hb
  ·exact an hd
 exact ⟨λa d hd=>h.fv b d (key a d hd),λa d hd=>h.ok b d (key a d hd),λa d hd=>h.ht b d (key a d hd),λa d hd=>h.cost b d (key a d hd),λa d hd=>h.sz b d (key a d hd)⟩
noncomputable def lRi (x:D)(kc hr ko:Nat)(o1 o2 o3 o4 o5 o6 o7:Option D):Loc:=[("node",some x),("closed",some (.ref kc)),("here",some (.ref hr)),("outer",some (.ref ko)),("made",o1),("sign",o2),("rest",o3),("scope",o4),("judge",o5),("env",o6),("due",o7)]
theorem mY {T:Ty}{x:N}(hok:x.ok T=true)(hht:x.ht<=8)(hsz:x.sz 1000<=1000000){ep:Pl}(hP:aw ep){n:Nat}(hn:60<=n){σ:Sto}{kc hr ko:Nat}{v:Nat}(hc:σ[kc]? = some (.dS (clD ep),v)){N':Loc->Sto->Prop}{R:D->Sto->Prop}
  (hN:∀ o2 o3 σ',av NoW σ σ'->Ex (aE (aL n) 61 (aO 35).scope (lRi x.d kc hr ko (some (x.place ep).d) o2 o3 none none none none) ((aO 35).body.drop 3)) σ' N' R) :
  Ex (aE (aL n) 64 (aO 35).scope (lRi x.d kc hr ko none none none none none none none) (aO 35).body) σ N' R:=by
 obtain ⟨m,rfl⟩:∃ m,n=m+1:=pk 1 (le_trans (le_of_ble_eq_true rfl) hn);have hoky:=jK hP x T hok;have hhty:=jt hP x;have hE:∀ {σ':Sto},av NoW σ σ'->mf σ' kc ep:=λk=>⟨clD ep,v,k.get hc,dF ep⟩;refine ab (aA rfl (am (by kernel_rfl) (by kernel_rfl) (ah (ds:=[x.d,.ref kc]) rfl ?_)));refine (fN x T ep m hok (a5 (.m 2 (.v 0)) (.v 1) [(2,.v 0,.n 8),(1,.n 60,(.a (.v 1) (.n 1)))] rfl hht hn) σ kc (hE (av.refl _ _))).mono λr σ1 g1=>?_;obtain ⟨rfl,k1⟩:=g1;generalize hy:x.place ep=y at hoky hhty;refine ab (fJ (gf rfl (bZ (am (by kernel_rfl) (by kernel_rfl) (ae (aa (d:=y.d) rfl (ae (bw (aq ⟨zero_le _,aq ?_⟩)))))))));refine (zE y T m hoky (aZ (.v 0) (.v 1) [(1,.v 2,.n 8),(1,.n 60,(.a (.v 1) (.n 1))),(1,.v 0,(.a (.v 2) (.n 8)))] rfl hht hn hhty) (σ1++[(PO.list [],0)]) σ1.length [] ⟨0,ag _ _⟩ (by show 0+3 * y.ht<=4000;exact a5 (.a (.n 0) (.m 3 (.v 0))) (.n 4000) [(3,.v 1,.n 8),(3,.v 0,(.a (.v 1) (.n 8)))] rfl hht hhty)).mono λr σ2 g2=>?_;obtain ⟨⟨kf,vf,rfl,hkf⟩,k2⟩:=g2;have k12:av NoW σ σ2:=(k1.push _).trans k2;refine aX rfl (bV rfl (am (by kernel_rfl) (by kernel_rfl) (ae (aa (d:=x.d) rfl (ae (bw (aq ⟨zero_le _,aq ?_⟩)))))));refine (zE x T m hok (a5 (.v 0) (.v 1) [(1,.v 0,.n 8),(1,.n 60,(.a (.v 1) (.n 1)))] rfl hht hn) (σ2++[(PO.list [],0)]) σ2.length [] ⟨0,ag _ _⟩ (by show 0+3 * x.ht<=4000;exact bh (.a (.n 0) (.m 3 (.v 0))) (.n 4000) [(3,.v 0,.n 8)] rfl hht)).mono λr σ3 g3=>?_;obtain ⟨⟨kg,vg,rfl,hkg⟩,k3⟩:=g3;have k13:av NoW σ σ3:=(k12.push _).trans k3;have hkf3:σ3[kf]? = some (.list (au .str (aV λb=>y.fv b && !([]:List Bool).contains b)),vf):=k3.get (al hkf);refine aN hkg ?_;have hlt:∀ c∈aV λb=>x.fv b && !([]:List Bool).contains b,c < 2:=(eI _).lt;have h4:aQ=4096:=rfl;refine aG (σ0:=σ3) (src:=.at kg vg (au .str (aV λb=>x.fv b && !([]:List Bool).contains b))) (dec .str) (λc=>if (ep (c==1)).isNone then [dec .str c] else []) ⟨_,hkg⟩ (av.refl _ _) (λc hcm σ4 k4=>?_) λσ4 k4=>?_
 ·have hcn:dec .str c = .str (nm (c==1)):=by
   exact lt2 (P:=λc=>dec .str c = .str (nm (c==1))) (hlt c hcm) rfl rfl
  refine ff rfl (cU (gf rfl (bZ (aa (d:=dec .str c) rfl (aa (d:=.ref kc) rfl ?_)))));refine hcn.symm▸?_;refine Ok.bind (Ok.bind (Ok.getO ((k13.trans k4).get hc) (Ok.ret (Ok.ret ⟨_,rfl,λhb=>?_,λhb=>?_⟩))))
  ·replace hb:=(dF _ _)▸hb;refine aa (d:=.str (nm (c==1))) (by refine hcn▸?_;kernel_rfl) ⟨?_,k4⟩;rw [if_pos (by cases h:ep (c==1) with | none=>rfl | some d=>replace hb:=h▸hb;cases hb)]
  ·replace hb:=(dF _ _)▸hb;refine ⟨?_,k4⟩;rw [if_neg (by cases h:ep (c==1) with | none=>replace hb:=h▸hb;cases hb | some d=>simp)]
 refine (cp (λc:Nat=>(ep (c==1)).isNone) (dec .str) _).symm▸?_;refine (rK _ λb=>(ep b).isNone).symm▸?_;have e1:aV (λb=>(x.fv b && !([]:List Bool).contains b) && (ep b).isNone)=aV λb=>y.fv b && !([]:List Bool).contains b:=by
  refine cT λb=>?_;(refine hy▸?_;refine (nO hP x b).symm▸?_);simp
 refine e1.symm▸?_;have hfl:=da λb=>y.fv b && !([]:List Bool).contains b;refine ⟨⟨_,k4.get hkg⟩,by refine (length_map _).symm▸?_;exact a5 (.v 0) (.v 1) [(1,.n 4096,.v 1),(1,.v 0,.n 2)] rfl (le_of_eq h4.symm) hfl,?_⟩;refine Ok.bind (tN (al (k4.get hkf3)) (ag _ _) (Ok.ret ⟨_,rfl,?_⟩));refine cF (a9 ?_);have k5:av NoW σ (σ4++[(PO.list (au .str (aV λb=>y.fv b && !([]:List Bool).contains b)),0)]):=(k13.trans k4).push _;generalize (σ4++[(PO.list (au .str (aV λb=>y.fv b && !([]:List Bool).contains b)),0)])=σ5 at k5;refine ab (fi (bV rfl (aa (d:=.ref kc) rfl (eG (k5.get hc) ?_))));refine (jG _).symm▸?_;obtain ⟨py,hpy⟩:=z8 y;have hszy:y.sz 20<=1000000:=hy▸(le_trans (ub hP x) hsz);refine cY (src:=.at kc v ((clN ep).map λb=>D.str (nm b))) (λb=>D.str (nm b)) (λ(acc:List Bool) (ρ':Loc) (σ':Sto)=>(∃ o2 o3,ρ'=lRi x.d kc hr ko (some y.d) o2 o3 none none none none)/\av NoW σ σ') (λacc ρ' σ' h=>⟨_,h.2.get hc⟩) (clN ep) ?_ ?_ (clN ep) [] _ _ rfl ⟨⟨none,none,by kernel_rfl⟩,k5⟩
 ·rintro b acc r ρ' σ' hsp ⟨⟨o2,o3,rfl⟩,k6⟩;have hb:b∈clN ep:=by refine hsp▸?_;simp
  obtain ⟨cc,hcc⟩:=isSome_iff_exists.mp ((n7 ep b).mp hb);refine cE (ρ':=lRi x.d kc hr ko (some y.d) (some (.str (nm b))) o3 none none none none) rfl ?_;refine ab (aA rfl (bM rfl rfl (aX rfl (bV rfl (aa (d:=.ref kc) rfl (eG (k6.get hc) ?_))))));refine (jG _).symm▸?_;refine aG (σ0:=σ') (src:=.at kc v ((clN ep).map λb=>D.str (nm b))) (λb=>D.str (nm b)) (λa=>if a != b then [D.tup [.str (nm a),xY ep a]] else []) ⟨_,k6.get hc⟩ (av.refl _ _) (λa ha σ7 k7=>?_) λσ7 k7=>?_
  ·obtain ⟨ca,hca⟩:=isSome_iff_exists.mp ((n7 ep a).mp ha);refine ff rfl (cU (gf rfl (bZ (aa (d:=.str (nm a)) rfl (aa (d:=.str (nm b)) rfl (yW (tO a) (tO b) ⟨_,rfl,λhb'=>?_,λhb'=>?_⟩))))))
   ·replace hb':=(r7 _ _)▸hb';refine aI (ae (aa (d:=.str (nm a)) rfl (ae (bz rfl (aa (d:=.ref kc) rfl (aa (d:=.str (nm a)) rfl (bg ((k6.trans k7).get hc) (r:=ca.d) (by (refine (dF _ _).symm▸?_;exact hca.symm▸rfl)) (aq ⟨le_of_ble_eq_true rfl,?_,k7⟩))))))));refine (if_pos hb').symm▸?_;unfold xY;exact hca▸rfl
   ·replace hb':=(r7 _ _)▸hb';exact ⟨by rw [if_neg (by refine hb'.symm▸?_;decide)],k7⟩
  refine (cp (λa:Bool=>a != b) (λa=>D.tup [.str (nm a),xY ep a]) _).symm▸?_;have e2:(((clN ep).filter λa=>a != b).map λa=>D.tup [.str (nm a),xY ep a])=a7 (dw ep b):=by
   unfold a7 dw;rw [List.map_map];rfl
  refine e2.symm▸?_;have hrl:(a7 (dw ep b)).length<=aQ:=by
   (refine (length_map _).symm▸?_;refine (length_map _).symm▸?_);have:=length_filter_le (λa=>a != b) (clN ep);have h2:(clN ep).length<=2:=by unfold clN;cases ep false <;> cases ep true <;> exact le_of_ble_eq_true rfl
   exact aZ (.v 0) (.v 1) [(1,.n 4096,.v 1),(1,.v 0,.v 2),(1,.v 2,.n 2)] rfl (le_of_eq h4.symm) this h2
  have hpo:b8 (a7 (dw ep b)) (.dS [])=some (.dS (dw ep b)):=fK (dw ep b) [] (xm ep b);refine ⟨⟨_,k7.get (k6.get hc)⟩,hrl,dQ (ag _ _) hrl hpo ?_⟩;have hrest:=ag (σ7++[(PO.list (a7 (dw ep b)),0)]) (PO.dS (dw ep b),0);have k8:av NoW σ ((σ7++[(PO.list (a7 (dw ep b)),0)])++[(PO.dS (dw ep b),0)]):=((k6.trans k7).push _).push _;generalize (σ7++[(PO.list (a7 (dw ep b)),0)]).length=kr at hrest;generalize ((σ7++[(PO.list (a7 (dw ep b)),0)])++[(PO.dS (dw ep b),0)])=σ8 at hrest k8;refine ab (fJ (gf rfl (bZ (bM (by kernel_rfl) rfl (am (by kernel_rfl) (by kernel_rfl) (ae (am (by kernel_rfl) (by kernel_rfl) (ae (aa (d:=x.d) rfl (ae (nk rfl ?_)))))))))));refine cZ (aa (d:=.str (nm b)) rfl (bz rfl (aa (d:=.ref kc) rfl (aa (d:=.str (nm b)) rfl (bg (k8.get hc) (r:=cc.d) (by (refine (dF _ _).symm▸?_;exact hcc.symm▸rfl)) (nF ⟨[(nm b,cc.d)],rfl,aq ?_⟩))))));have hone:=hP.one hcc;refine (fN x T (λa=>if a=b then some cc else none) m hok (a5 (.m 2 (.v 0)) (.v 1) [(2,.v 0,.n 8),(1,.n 60,(.a (.v 1) (.n 1)))] rfl hht hn) (σ8++[(PO.dS [(nm b,cc.d)],0)]) σ8.length ⟨[(nm b,cc.d)],0,ag _ _,λa=>tC cc b a⟩).mono λr σ9 g9=>?_;obtain ⟨rfl,k9⟩:=g9;refine ae (aa (d:=.ref kr) rfl (aq ?_));have hok1:=jK hone x T hok;have hht1:=jt hone x;refine (fN _ T (ep.drop b) m hok1 (aZ (.m 2 (.v 0)) (.v 1) [(2,.v 2,.n 8),(1,.n 60,(.a (.v 1) (.n 1))),(2,.v 0,(.a (.v 2) (.n 8)))] rfl hht hn hht1) σ9 kr ⟨dw ep b,0,k9.get (al hrest),λa=>qg ep b a⟩).mono λr σ10 g10=>?_;obtain ⟨rfl,k10⟩:=g10;have hz:(x.place λa=>if a=b then some cc else none).place (ep.drop b)=y:=by
   (refine (mU x hone _).symm▸?_;refine (tB ep b cc hcc).symm▸?_;exact hy.symm▸rfl)
  refine hz.symm▸?_;refine sC hpy (bh (.v 0) (.n 16000000) [(1,.v 0,.n 1000000)] rfl hszy) (a5 (.m 3 (.v 0)) (.n 64) [(3,.v 1,.n 8),(3,.v 0,(.a (.v 1) (.n 8)))] rfl hht hhty) (bM (by kernel_rfl) rfl (aa (d:=y.d) rfl (sC hpy (bh (.v 0) (.n 16000000) [(1,.v 0,.n 1000000)] rfl hszy) (a5 (.m 3 (.v 0)) (.n 64) [(3,.v 1,.n 8),(3,.v 0,(.a (.v 1) (.n 8)))] rfl hht hhty) ?_)));refine yW hpy.ok hpy.ok ⟨_,rfl,?_⟩;refine (show (!(py.shown==py.shown))=false by simp).symm▸?_;exact cF (a9 (a9 ⟨⟨some (.str (nm b)),some (.ref kr),by kernel_rfl⟩,((k8.push _).trans k9).trans k10⟩))
 ·rintro ρ' σ' ⟨⟨o2,o3,rfl⟩,k6⟩;have:=hN o2 o3 σ' k6;replace this:=hy▸this;exact this
noncomputable def pM (h0 h1:List Nat)(ep:Pl)(o:Bool->Nat)(acc:List Bool):En:=λb=>match ep b with
 | some c=>if b∈acc then c.den h0 h1 (λ_=>[]) else [o b]
 | none=>[o b]
noncomputable def jY (ep:Pl)(o:Bool->Nat):List (Str×D):=([false,true].filter λb=>(ep b).isNone).map λb=>(nm b,.tup (au .one [o b]))
theorem ux (ep:Pl)(o:Bool->Nat)(b:Bool)(h:(ep b).isNone=true):(jY ep o).lookup (nm b)=some (.tup (au .one [o b])):=by
 unfold jY;induction b using Bool.casesOn with
 | false =>
  rw [filter_cons,if_pos h];rfl
 | true =>
  cases h0:(ep false).isNone with
  | true=>rw [filter_cons,if_pos h0,filter_cons,if_pos h];simp [List.lookup,show (nm true==nm false)=false by kernel_rfl]
  | false=>rw [filter_cons,if_neg (by rw [h0];decide),filter_cons,if_pos h];rfl
theorem so (ep:Pl)(o:Bool->Nat):XY (jY ep o):=by
 refine ⟨?_,λp hp=>?_⟩
 ·refine (List.map_map).symm▸?_;cases h0:(ep false).isNone <;> cases h1:(ep true).isNone <;> simp [filter_cons,h0,h1,show ¬ nm false=nm true by decide +kernel]
 ·obtain ⟨b,_,rfl⟩:=mem_map.mp hp;exact ⟨b,rfl⟩
inductive RsL (x:D)(kc hr ko:Nat)(y:D)(ks:Nat)(ρ':Loc):Prop
 | intro (o2 o3:Option D) (h:ρ'=lRi x kc hr ko (some y) o2 o3 (some (.ref ks)) none none none):RsL x kc hr ko y ks ρ'
inductive RsI (h0 h1:List Nat)(ep:Pl)(o:Bool->Nat)(x:D)(kc hr ko:Nat)(y:D)(ks:Nat)(σ:Sto)(acc:List Bool)(ρ':Loc)(σ':Sto):Prop
 | intro (l:RsL x kc hr ko y ks ρ') (k:av NoW σ σ') (S:ScE σ' ks (pM h0 h1 ep o acc) (λ_=>true)):RsI h0 h1 ep o x kc hr ko y ks σ acc ρ' σ'
theorem RsI.k {h0 h1:List Nat}{ep:Pl}{o:Bool->Nat}{x:D}{kc hr ko:Nat}{y:D}{ks:Nat}{σ:Sto}{acc:List Bool}{ρ':Loc}{σ':Sto}(h:RsI h0 h1 ep o x kc hr ko y ks σ acc ρ' σ'):av NoW σ σ':=by cases h;assumption
theorem lu {T:Ty}{x:N}(hok:x.ok T=true)(hht:x.ht<=8)(hcost:x.cost 2<=900000){ep:Pl}(hP:aw ep){h0 h1:List Nat}(H0:h0∈aK 2)(H1:h1∈aK 4){o:Bool->Nat}(ho:∀ b,o b < 2){n:Nat}(hn:60<=n){σ:Sto}{kc hr ko:Nat}{v vo:Nat}(hc:σ[kc]? = some (.dS (clD ep),v))(hH:du σ hr h0 h1)(hO:σ[ko]? = some (.dS (ouD o),vo))(o2 o3:Option D)
  {N':Loc->Sto->Prop} : Ex (aE (aL n) 61 (aO 35).scope (lRi x.d kc hr ko (some (x.place ep).d) o2 o3 none none none none) ((aO 35).body.drop 3)) σ N' (λr σ'=>r = .bool true/\av NoW σ σ'):=by
 obtain ⟨m,rfl⟩:∃ m,n=m+1:=pk 1 (le_trans (le_of_ble_eq_true rfl) hn);have hoky:=jK hP x T hok;have hhty:=jt hP x;have hcy:=pG hP x;have hsub:∀ b,[o b]∈aK 2:=λb=>gp (ho b);have hnil:([]:List Nat)∈aK 2:=by decide +kernel
 refine ab (aA (by kernel_rfl) (bM (by kernel_rfl) (by kernel_rfl) (aX (by kernel_rfl) (bV (by kernel_rfl) (aa (d:=.ref ko) (by kernel_rfl) (eG hO ?_))))));refine aW ⟨_,hO⟩ (aY rfl (aI (ae (aa (d:=.str "x") (by kernel_rfl) (ae (bw (ae (aI (ae (bz (by kernel_rfl) (aa (d:=.ref ko) (by kernel_rfl) (aa (d:=.str "x") (by kernel_rfl) (bg hO (r:=.int (o false)) (by kernel_rfl) (aq ⟨le_of_ble_eq_true rfl,aq ⟨le_of_ble_eq_true rfl,aq ⟨le_of_ble_eq_true rfl,?_⟩⟩⟩))))))))))))));have hO1:=al (q:=(PO.list [D.tup [.int (o false)]],0)) hO;refine aW ⟨_,hO1⟩ (aY rfl (aI (ae (aa (d:=.str "y") (by kernel_rfl) (ae (bw (ae (aI (ae (bz (by kernel_rfl) (aa (d:=.ref ko) (by kernel_rfl) (aa (d:=.str "y") (by kernel_rfl) (bg hO1 (r:=.int (o true)) (by kernel_rfl) (aq ⟨le_of_ble_eq_true rfl,aq ⟨le_of_ble_eq_true rfl,aq ⟨le_of_ble_eq_true rfl,?_⟩⟩⟩))))))))))))));have hO2:=al (q:=(PO.list [D.tup [.int (o true)]],0)) hO1;have hl1:(σ++[(PO.list [D.tup [.int (o false)]],0)]).length=σ.length+1:=by simp
 refine hl1.symm▸?_;refine cg ⟨⟨_,hO2⟩,le_of_ble_eq_true rfl,?_⟩;have kA:av NoW σ ((σ++[(PO.list [D.tup [.int (o false)]],0)])++[(PO.list [D.tup [.int (o true)]],0)]):=((av.refl _ _).push _).push _;have gx:((σ++[(PO.list [D.tup [.int (o false)]],0)])++[(PO.list [D.tup [.int (o true)]],0)])[σ.length]? = some (.list (au .one [o false]),0):=al (ag _ _);have gy:((σ++[(PO.list [D.tup [.int (o false)]],0)])++[(PO.list [D.tup [.int (o true)]],0)])[σ.length+1]? = some (.list (au .one [o true]),0):=by refine hl1▸?_;exact ag _ _
 generalize ((σ++[(PO.list [D.tup [.int (o false)]],0)])++[(PO.list [D.tup [.int (o true)]],0)])=σ1 at kA gx gy;refine dQ (o:=.dS [("x",.ref σ.length),("y",.ref (σ.length+1))]) (ag _ _) (le_of_ble_eq_true rfl) (by kernel_rfl) ?_;have gs:=ag (σ1++[(PO.list ([D.tup [.str "x",.ref σ.length]]++([D.tup [.str "y",.ref (σ.length+1)]]++[])),0)]) (PO.dS [("x",.ref σ.length),("y",.ref (σ.length+1))],0);have kB:=(kA.push (PO.list ([D.tup [.str "x",.ref σ.length]]++([D.tup [.str "y",.ref (σ.length+1)]]++[])),0)).push (PO.dS [("x",.ref σ.length),("y",.ref (σ.length+1))],0);have gx2:=al (q:=(PO.dS [("x",.ref σ.length),("y",.ref (σ.length+1))],0)) (al (q:=(PO.list ([D.tup [.str "x",.ref σ.length]]++([D.tup [.str "y",.ref (σ.length+1)]]++[])),0)) gx);have gy2:=al (q:=(PO.dS [("x",.ref σ.length),("y",.ref (σ.length+1))],0)) (al (q:=(PO.list ([D.tup [.str "x",.ref σ.length]]++([D.tup [.str "y",.ref (σ.length+1)]]++[])),0)) gy);have hksl:σ.length<=(σ1++[(PO.list ([D.tup [.str "x",.ref σ.length]]++([D.tup [.str "y",.ref (σ.length+1)]]++[])),0)]).length:=by refine (length_append).symm▸?_;have:=kA.1;exact aZ (.v 0) (.a (.v 1) (.v 2)) [(1,.v 0,.v 1)] rfl this
 generalize (σ1++[(PO.list ([D.tup [.str "x",.ref σ.length]]++([D.tup [.str "y",.ref (σ.length+1)]]++[])),0)]).length=ks at gs hksl;generalize ((σ1++[(PO.list ([D.tup [.str "x",.ref σ.length]]++([D.tup [.str "y",.ref (σ.length+1)]]++[])),0)])++[(PO.dS [("x",.ref σ.length),("y",.ref (σ.length+1))],0)])=σ2 at gs kB gx2 gy2;have hS0:ScE σ2 ks (pM h0 h1 ep o []) (λ_=>true):=by
  have hacc:∀ b,pM h0 h1 ep o [] b=[o b]:=λb=>by unfold pM;cases ep b <;> simp
  refine ⟨λb=>by rw [hacc];exact hsub b,_,_,gs,⟨show List.Nodup ([nm false,nm true]:List Str) by decide +kernel,λp hp=>?_⟩,λb _=>?_⟩
  ·simp at hp;rcases hp with rfl | rfl
   ·exact ⟨false,rfl⟩
   ·exact ⟨true,rfl⟩
  ·refine oT.of ?_;rw [hacc];induction b using Bool.casesOn with
   | false=>exact ⟨σ.length,0,by kernel_rfl,gx2⟩
   | true=>exact ⟨σ.length+1,0,by kernel_rfl,gy2⟩
 refine ab (fi (bV (by kernel_rfl) (aa (d:=.ref kc) (by kernel_rfl) (eG (kB.get hc) ?_))));refine (jG _).symm▸?_;refine cY (src:=.at kc v ((clN ep).map λb=>D.str (nm b))) (λb=>D.str (nm b)) (RsI h0 h1 ep o x.d kc hr ko (x.place ep).d ks σ) (λacc ρ' σ' h=>⟨_,h.k.get hc⟩) (clN ep) ?_ ?_ (clN ep) [] _ _ rfl ⟨⟨o2,o3,by kernel_rfl⟩,kB,hS0⟩
 ·rintro b acc r ρ' σ' hsp ⟨⟨o2,o3,rfl⟩,k6,hS⟩;have hb:b∈clN ep:=by refine hsp▸?_;simp
  obtain ⟨cc,hcc⟩:=isSome_iff_exists.mp ((n7 ep b).mp hb);refine cE (ρ':=lRi x.d kc hr ko (some (x.place ep).d) (some (.str (nm b))) o3 (some (.ref ks)) none none none) (by kernel_rfl) ?_;refine ab (uy (am (by kernel_rfl) (by kernel_rfl) (ae (bz (by kernel_rfl) (aa (d:=.ref kc) (by kernel_rfl) (aa (d:=.str (nm b)) (by kernel_rfl) (bg (k6.get hc) (r:=cc.d) (by (refine (dF _ _).symm▸?_;exact hcc.symm▸rfl)) ?_)))))));refine ae (aa (d:=.ref hr) (by kernel_rfl) (ae (z7 (m:=alloc (.dS [])) (by kernel_rfl) (Ok.alloc (aq ?_)))));have hokc:=hP.ok b cc hcc;have hhtc:=hP.ht b cc hcc;have hw:=uL H0 H1 cc .set hokc (by simp) (m+1) (a5 (.a (.m 2 (.v 0)) (.n 6)) (.a (.v 1) (.n 1)) [(1,.n 60,(.a (.v 1) (.n 1))),(2,.v 0,.n 8)] rfl hn hhtc) (λ_=>false) (λq hq=>by replace hq:=(hP.fv b cc hcc q)▸hq;cases hq);refine (hw (σ'++[(PO.dS [],0)]) hr σ'.length (λ_=>[]) ((hH.kp k6).kp ((av.refl _ _).push _)) ⟨λ_=>hnil,[],0,ag _ _,⟨nodup_nil,λp hp=>by cases hp⟩,λq hq=>by cases hq⟩).mono λr σ7 g7=>?_;obtain ⟨⟨kw,vw,rfl,hkw⟩,k7⟩:=g7;have k67:av NoW σ' σ7:=((av.refl _ _).push _).trans k7;obtain ⟨hE1,l,vl,hl,hxy,hlk⟩:=hS.kp k67;refine aa (d:=.ref ks) (by kernel_rfl) (aa (d:=.str (nm b)) (by kernel_rfl) ?_);refine Ok.bind (Ok.getO hl (Ok.bind (Ok.must (by have:=hxy.len;show decide (l.length<=aQ)=true;rw [decide_eq_true_eq];exact le_trans this (by decide)) (Ok.bind (Ok.ofOpt (a:=PO.dS (put (nm b) (.ref kw) l)) rfl (Ok.setO ?_))))));generalize ver σ7 ks+1=v8;have hcden:cc.den h0 h1 (λ_=>[])∈aK 2:=(fO H0 H1 cc .set hokc _ λ_=>hnil).resolve_right (by simp);have hkwn:ks≠kw:=λq=>by (replace hkw:=q.symm▸hkw;replace hkw:=hl▸hkw);cases hkw
  refine a9 ⟨⟨_,_,rfl⟩,(k6.trans k67).set hksl _,λq=>?_,put (nm b) (.ref kw) l,v8,bN hl,hxy.put _ _,λq _=>?_⟩
  ·unfold pM;cases hq:ep q with
   | none=>exact hsub q
   | some d =>
    dsimp only;split
    ·exact (fO H0 H1 d .set (hP.ok q d hq) _ λ_=>hnil).resolve_right (by simp)
    ·exact hsub q
  ·refine oT.of ?_;refine (fQ _ _ _ _).symm▸?_;by_cases hqb:q=b
   ·subst hqb;refine ⟨kw,vw,(if_pos rfl).symm▸rfl,?_⟩;have:pM h0 h1 ep o (acc++[q]) q=cc.den h0 h1 λ_=>[]:=by unfold pM;refine hcc.symm▸?_;simp
    refine this.symm▸?_;exact aF hkwn hkw
   ·obtain ⟨k,vk,y1,y2⟩:=hlk q rfl;refine ⟨k,vk,by refine (if_neg (λh=>hqb (lr.mp h))).symm▸?_;exact y1,?_⟩;have:pM h0 h1 ep o (acc++[b]) q=pM h0 h1 ep o acc q:=by
     unfold pM;cases ep q with
     | none=>rfl
     | some d=>simp [hqb]
    refine this.symm▸?_;exact aF (λh=>by (replace y2:=h.symm▸y2;replace y2:=hl▸y2);cases y2) y2
 rintro ρ' σ' ⟨⟨o2,o3,rfl⟩,k6,hS⟩;have hfin:pM h0 h1 ep o (clN ep)=lD h0 h1 ep (λb=>[o b]):=by
  funext b;unfold pM lD;cases hb:ep b with
  | none=>rfl
  | some c=>exact if_pos ((n7 ep b).mpr (hb▸rfl))
 replace hS:=hfin▸hS;obtain ⟨ha,hb,vh,va,vb,hh1,hh2,hh3⟩:=hH.kp k6;refine ab (aA rfl (am rfl (by kernel_rfl) (ae (aa (d:=.int 2) rfl (ae (aX rfl (bV rfl (aa (d:=.ref hr) rfl (aN hh1 ?_)))))))));have h4:aQ=4096:=rfl;have hs0:=ba H0;have hs1:=ba H1;refine aW ⟨_,hh1⟩ (aY rfl (bM (by kernel_rfl) (by kernel_rfl) (aa (d:=.ref ha) rfl (b4 hh2 (by refine (length_map _).symm▸?_;exact a5 (.v 0) (.v 1) [(1,.n 4096,.v 1),(1,.v 0,.n 2)] rfl (le_of_eq h4.symm) hs0.2) ?_))));refine aW ⟨_,hh1⟩ (aY rfl (bM (by kernel_rfl) (by kernel_rfl) (aa (d:=.ref hb) rfl (b4 hh3 (by refine (length_map _).symm▸?_;exact a5 (.v 0) (.v 1) [(1,.n 4096,.v 1),(1,.v 0,.n 4)] rfl (le_of_eq h4.symm) hs1.2) ?_))));refine cg ⟨⟨_,hh1⟩,le_of_ble_eq_true rfl,aq ?_⟩;have k7:av NoW σ' (σ'++[(PO.list ([D.tup (au .one h0)]++([D.tup (au .two h1)]++[])),0)]):=(av.refl _ _).push _;refine (uJ m (σ:=σ'++[(PO.list ([D.tup (au .one h0)]++([D.tup (au .two h1)]++[])),0)]) (ag _ _)).mono λr σ8 g8=>?_;obtain ⟨rfl,S8,k8⟩:=g8;have k68:av NoW σ σ8:=(k6.trans k7).trans k8;have hdl:σ.length<=(σ'++[(PO.list ([D.tup (au .one h0)]++([D.tup (au .two h1)]++[])),0)]).length:=by refine (length_append).symm▸?_;have:=k6.1;exact aZ (.v 0) (.a (.v 1) (.v 2)) [(1,.v 0,.v 1)] rfl this
 generalize (σ'++[(PO.list ([D.tup (au .one h0)]++([D.tup (au .two h1)]++[])),0)]).length=jd at S8 hdl;have hS8:=(hS.kp k7).kp k8;refine ab (aA rfl (bM (by kernel_rfl) rfl (aX rfl (bV rfl (aa (d:=.ref ko) rfl (eG (k68.get hO) ?_))))));have hitems:((ouD o).map λp=>D.str p.1)=[false,true].map λb=>D.str (nm b):=rfl;refine hitems.symm▸?_;refine aG (σ0:=σ8) (src:=.at ko vo ([false,true].map λb=>D.str (nm b))) (λb=>D.str (nm b)) (λb=>if (ep b).isNone then [D.tup [.str (nm b),.tup (au .one [o b])]] else []) ⟨_,k68.get hO⟩ (av.refl _ _) (λb _ σ9 k9=>?_) λσ9 k9=>?_
 ·refine ff rfl (cU (gf rfl (bZ (aa (d:=.str (nm b)) rfl (aa (d:=.ref kc) rfl ?_)))));refine Ok.bind (Ok.bind (Ok.getO ((k68.trans k9).get hc) (Ok.ret (Ok.ret ⟨_,rfl,λhb=>?_,λhb=>?_⟩))))
  ·replace hb:=(dF _ _)▸hb;refine aI (ae (aa (d:=.str (nm b)) rfl (ae (aI (ae (aI (ae (bz rfl (aa (d:=.ref ko) rfl (aa (d:=.str (nm b)) rfl (bg ((k68.trans k9).get hO) (r:=.int (o b)) (by induction b using Bool.casesOn <;> kernel_rfl) (aq ⟨le_of_ble_eq_true rfl,aq ⟨le_of_ble_eq_true rfl,aq ⟨le_of_ble_eq_true rfl,?_,k9⟩⟩⟩))))))))))));rw [if_pos (by cases h:ep b with | none=>rfl | some d=>replace hb:=h▸hb;cases hb)];rfl
  ·replace hb:=(dF _ _)▸hb;exact ⟨by rw [if_neg (by cases h:ep b with | none=>replace hb:=h▸hb;cases hb | some d=>simp)],k9⟩
 refine (cp (λb:Bool=>(ep b).isNone) (λb=>D.tup [.str (nm b),.tup (au .one [o b])]) _).symm▸?_;have e2:([false,true].filter λb=>(ep b).isNone).map (λb=>D.tup [.str (nm b),.tup (au .one [o b])])=a7 (jY ep o):=by
  unfold a7 jY;rw [List.map_map];rfl
 refine e2.symm▸?_;have hel:(a7 (jY ep o)).length<=aQ:=by
  refine (length_map _).symm▸?_;exact le_trans (so ep o).len (by decide)
 have hpo:b8 (a7 (jY ep o)) (.dS [])=some (.dS (jY ep o)):=fK (jY ep o) [] (so ep o).1;refine ⟨⟨_,k9.get (k68.get hO)⟩,hel,dQ (ag _ _) hel hpo ?_⟩;have he:=ag (σ9++[(PO.list (a7 (jY ep o)),0)]) (PO.dS (jY ep o),0);have k89:av NoW σ8 ((σ9++[(PO.list (a7 (jY ep o)),0)])++[(PO.dS (jY ep o),0)]):=(k9.push _).push _;have hke:σ8.length<=(σ9++[(PO.list (a7 (jY ep o)),0)]).length:=by refine (length_append).symm▸?_;have:=k9.1;exact aZ (.v 0) (.a (.v 1) (.v 2)) [(1,.v 0,.v 1)] rfl this
 generalize (σ9++[(PO.list (a7 (jY ep o)),0)]).length=ke at he hke;generalize ((σ9++[(PO.list (a7 (jY ep o)),0)])++[(PO.dS (jY ep o),0)])=σ10 at he k89;refine ab (aA rfl (am (by kernel_rfl) (by kernel_rfl) (ah (ds:=[x.d,.ref hr,.ref ks]) rfl ?_)));have hH10:du σ10 hr h0 h1:=(hH.kp k68).kp k89;have hS10:=hS8.kp k89;have hjlt:jd < σ8.length:=S8.dict.elim λ_ q=>aH q;have EE:fM (· = jd) σ10 ke (λb=>[o b]) (λb=>(ep b).isNone):=⟨λ(q:ke=jd)=>not_succ_le_zero 0 (lin [_,_,_] 0 (.n 1) (.n 0) [(1,.v 0,.v 1),(1,(.a (.v 2) (.n 1)),.v 0),(1,.v 1,.v 2)] rfl hke hjlt (le_of_eq q)),hsub,jY ep o,0,he,so ep o,λb hb=>ux ep o b hb⟩;have hdp:=qE (h0:=h0) (h1:=h1) x hP (λb=>[o b]);have hfvy:∀ b,(x.place ep).fv b=true->(ep b).isNone=true:=λb hb=>by
  (replace hb:=(nO hP x b)▸hb;replace hb:=(and_eq_true _ _)▸hb);exact hb.2
 have kall:av NoW σ σ10:=k68.trans k89;have last:∀ {σ11 σ12:Sto},av NoW σ10 σ11->av (· = jd) σ11 σ12->av NoW σ σ12:=λ{σ11 σ12} a b=>⟨le_trans (kall.trans a).1 b.1,λk p _ e=>b.2 k p (λ(q:k=jd)=>by have:=aH e;exact not_succ_le_zero 0 (lin [_,_,_] 0 (.n 1) (.n 0) [(1,.v 0,.v 1),(1,.v 1,.v 2),(1,(.a (.v 2) (.n 1)),.v 0)] rfl hdl (le_of_eq q.symm) this)) ((kall.trans a).get e)⟩;by_cases hT:T = .form
 ·subst hT;have hw:=yT H0 H1 x hok (m+1) (a5 (.a (.m 2 (.v 0)) (.n 6)) (.a (.v 1) (.n 1)) [(2,.v 0,.n 8),(1,.n 60,(.a (.v 1) (.n 1)))] rfl hht hn) (λ_=>true) (λ_ _=>rfl);refine (hw σ10 hr ks _ hH10 hS10).mono λr σ11 g11=>?_;obtain ⟨rfl,k11⟩:=g11;refine ab (aB (bu (gf (by kernel_rfl) (og (by kernel_rfl) (by kernel_rfl) (aa (d:=.bool (x.tru h0 h1 (lD h0 h1 ep λb=>[o b]))) rfl (.inl ⟨_,rfl,true,rfl,cC ?_⟩))))));have S11:=(S8.kp (w':=0) (W:=NoW) k89 (λq=>q) (λq=>q) (S8.dict.imp λv q=>k89.get q)).kp (w':=0) (W:=NoW) k11 (λq=>q) (λq=>q) (S8.dict.imp λv q=>k11.get (k89.get q));refine bZ (aS S11 rfl rfl (λ_ _=>by kernel_rfl) (ah (ds:=[(x.place ep).d,.ref ke]) rfl ⟨⟨0,S11⟩,?_⟩));have ht:=yV (j:=jd+1) (d:=jd) (i:=σ'.length) H0 H1 (x.place ep) hoky (m+1) (aZ (.a (.m 2 (.v 0)) (.n 6)) (.a (.v 1) (.n 1)) [(2,.v 2,.n 8),(1,.n 60,(.a (.v 1) (.n 1))),(2,.v 0,(.a (.v 2) (.n 8)))] rfl hht hn hhty) (λb=>(ep b).isNone) hfvy;refine (ht σ11 ke _ 0 S11 (EE.kp k11.weak) (a5 (.a (.n 0) (.v 0)) (.n 1000000) [(1,.v 1,.n 900000),(1,.v 0,.v 1)] rfl hcost hcy)).mono λr σ12 g12=>?_;obtain ⟨rfl,k12,_⟩:=g12;refine aa (d:=.bool (x.tru h0 h1 (lD h0 h1 ep λb=>[o b]))) rfl ?_;refine (hdp.2).symm▸?_;have hc:∀ b:Bool,pK .Is (.bool b) (.bool b)=pure (.bool (b==b)):=λb=>by kernel_rfl
  rw [hc];exact Ok.ret ⟨by simp,last k11 k12⟩
 ·have hw:=uL H0 H1 x T hok hT (m+1) (a5 (.a (.m 2 (.v 0)) (.n 6)) (.a (.v 1) (.n 1)) [(2,.v 0,.n 8),(1,.n 60,(.a (.v 1) (.n 1)))] rfl hht hn) (λ_=>true) (λ_ _=>rfl);refine (hw σ10 hr ks _ hH10 hS10).mono λr σ11 g11=>?_;obtain ⟨⟨kd,vd,rfl,hkd⟩,k11⟩:=g11;refine ab (aB (bu (gf (by kernel_rfl) (og (by kernel_rfl) (by kernel_rfl) (aa (d:=.ref kd) rfl (.inr ⟨kd,_,_,rfl,hkd,false,rfl,cv ?_⟩))))));have S11:=(S8.kp (w':=0) (W:=NoW) k89 (λq=>q) (λq=>q) (S8.dict.imp λv q=>k89.get q)).kp (w':=0) (W:=NoW) k11 (λq=>q) (λq=>q) (S8.dict.imp λv q=>k11.get (k89.get q));refine bZ (bM rfl rfl (aS S11 rfl rfl (λ_ _=>by kernel_rfl) (ah (ds:=[(x.place ep).d,.ref ke]) rfl ⟨⟨0,S11⟩,?_⟩)));have ht:=yN (j:=jd+1) (d:=jd) (i:=σ'.length) H0 H1 (x.place ep) T hoky hT (m+1) (aZ (.a (.m 2 (.v 0)) (.n 6)) (.a (.v 1) (.n 1)) [(2,.v 2,.n 8),(1,.n 60,(.a (.v 1) (.n 1))),(2,.v 0,(.a (.v 2) (.n 8)))] rfl hht hn hhty) (λb=>(ep b).isNone) hfvy;refine (ht σ11 ke _ 0 S11 (EE.kp k11.weak) (a5 (.a (.n 0) (.v 0)) (.n 1000000) [(1,.v 1,.n 900000),(1,.v 0,.v 1)] rfl hcost hcy)).mono λr σ12 g12=>?_;obtain ⟨rfl,k12,_⟩:=g12;have hdb:=(fO H0 H1 (x.place ep) T hoky (λb=>[o b]) hsub).resolve_right hT;have hll:=(ba hdb).2;have hbn:bn T.un<=4:=by induction T using Ty.casesOn <;> decide
  have hlc:b9 "list" (.tup (au T.un ((x.place ep).den h0 h1 λb=>[o b])))=(do mkList (<- oD (.tup (au T.un ((x.place ep).den h0 h1 λb=>[o b]))))):=by kernel_rfl
  refine (?_:Ok _ _ _);refine hlc.symm▸?_;refine Ok.bind (Ok.ret (Ok.mkList (by refine (length_map _).symm▸?_;exact aZ (.v 0) (.v 1) [(1,.n 4096,.v 1),(1,.v 0,.v 2),(1,.v 2,.n 4)] rfl (le_of_eq h4.symm) hll hbn) ?_));refine aa (d:=.ref kd) rfl ?_;have hkjd:kd≠jd:=λq=>by
   obtain ⟨w,e⟩:=S11.dict;(replace hkd:=q▸hkd;replace hkd:=e▸hkd);cases hkd
  have hkd12:σ12[kd]? = some (.list (au T.un (x.den h0 h1 (lD h0 h1 ep λb=>[o b]))),vd):=k12.2 _ _ hkjd hkd;refine (hdp.1).symm▸?_;refine Ok.bind (x7 (by induction T using Ty.casesOn <;> rfl) (ag _ _) (al hkd12) (Ok.ret ⟨by simp,(last k11 k12).push _⟩))
theorem tJ {T:Ty}{k:Nat}{x:N}(hG:G T k x)(hk:k<=3){ep:Pl}(hP:aw ep){h0 h1:List Nat}(H0:h0∈aK 2)(H1:h1∈aK 4){o:Bool->Nat}(ho:∀ b,o b < 2){n:Nat}(hn:60<=n){σ:Sto}{kc hr ko:Nat}{v vo:Nat}(hc:σ[kc]? = some (.dS (clD ep),v))(hH:du σ hr h0 h1)(hO:σ[ko]? = some (.dS (ouD o),vo)) :
  Ok (aL (n+1) "_law_is_right" [x.d,.ref kc,.ref hr,.ref ko]) σ λr σ'=>r = .bool true/\av NoW σ σ':=by
 have B:=(hG hk).le (j:=7) (le_trans (show lv T k<=2 * k+1 by induction T using Ty.casesOn <;> first | exact le_succ _ | exact le_refl _) (succ_le_succ (mul_le_mul_left 2 hk)));refine ao rfl ou (ax (ρ:=lRi x.d kc hr ko none none none none none none none) rfl ?_);refine mY B.ok B.ht (le_trans B.sz (le_of_ble_eq_true (by kernel_rfl))) hP hn hc λo2 o3 σ1 k1=>?_;exact Ex.mono (lu B.ok B.ht (le_trans B.cost (le_of_ble_eq_true (by kernel_rfl))) hP H0 H1 ho hn (k1.get hc) (hH.kp k1) (k1.get hO) o2 o3 (N':=λ_ _=>False)) (λ_ _ h=>h.elim) λd σ' h=>⟨h.1,k1.trans h.2⟩
theorem sY:aM "law"=some (aO 36):=rfl
noncomputable def zZ:N:=.bin .join (.var true) (.rel true)
noncomputable def A1:N:=.q .comp (.cons true (.rel false) .nil) (.or (.bin .isin (.var true) zZ) (.un .no zZ))
noncomputable def cS:Nat->N
 | 0 => .rel false
 | 1 => .none
 | 2 => .bin .join (.rel false) (.rel true)
 | _=>A1
noncomputable def fE:List D:=[(cS 0).d,(cS 1).d,(cS 2).d,(cS 3).d]
theorem xD {k:Nat}(hk:k < 4):fE[k]? = some (cS k).d:=lt4 (P:=λk=>fE[k]? = some (cS k).d) hk rfl rfl rfl rfl
theorem vX (k:Nat)(hk:k < 4):(∀ x,(cS k).fv x=false)/\(cS k).ok .set=true/\(cS k).ht<=8/\(cS k).cost 0<=2/\(cS k).sz 20<=1000:=by
 refine lt4 (P:=λk=>(∀ x,(cS k).fv x=false)/\(cS k).ok .set=true/\(cS k).ht<=8/\(cS k).cost 0<=2/\(cS k).sz 20<=1000) hk ⟨λx=>rfl,rfl,le_of_ble_eq_true rfl,le_of_ble_eq_true rfl,le_of_ble_eq_true rfl⟩ ⟨λx=>rfl,rfl,le_of_ble_eq_true rfl,le_of_ble_eq_true rfl,le_of_ble_eq_true rfl⟩ ⟨λx=>rfl,rfl,le_of_ble_eq_true rfl,le_of_ble_eq_true rfl,le_of_ble_eq_true rfl⟩ ⟨λx=>by induction x using Bool.casesOn <;> rfl,by kernel_rfl,le_of_ble_eq_true (by kernel_rfl),le_of_ble_eq_true (by kernel_rfl),le_of_ble_eq_true (by kernel_rfl)⟩
noncomputable def Pl.add (ep:Pl)(b:Bool)(c:N):Pl:=λa=>if a=b then some c else ep a
theorem aw.add {ep:Pl}(h:aw ep)(b:Bool){k:Nat}(hk:k < 4):aw (ep.add b (cS k)):=by
 obtain ⟨m1,m2,m3,m4,m5⟩:=vX k hk;have key:∀ a d,ep.add b (cS k) a=some d->d=cS k\/ep a=some d:=λa d hd=>by
  unfold Pl.add at hd;split at hd
  ·(have:=Option.some.inj hd;subst this);exact .inl rfl
  ·exact .inr hd
 refine ⟨λa d hd=>?_,λa d hd=>?_,λa d hd=>?_,λa d hd=>?_,λa d hd=>?_⟩
 ·rcases key a d hd with rfl | h'
  ·exact m1
  ·exact h.fv a d h'
 ·rcases key a d hd with rfl | h'
  ·exact m2
  ·exact h.ok a d h'
 ·rcases key a d hd with rfl | h'
  ·exact m3
  ·exact h.ht a d h'
 ·rcases key a d hd with rfl | h'
  ·exact m4
  ·exact h.cost a d h'
 ·rcases key a d hd with rfl | h'
  ·exact m5
  ·exact h.sz a d h'
theorem zv (ep:Pl)(b:Bool)(c:N)(ht:ep true=none)(hf:b=false->ep false=none):put (nm b) c.d (clD ep)=clD (ep.add b c):=by
 unfold clD Pl.add;induction b using Bool.casesOn with
 | false=>rw [ht,hf rfl];kernel_rfl
 | true =>
  refine ht.symm▸?_;cases ep false with
  | none=>kernel_rfl
  | some d=>kernel_rfl
theorem md:aw λ_=>none:=⟨(λ_ _ h=>nomatch h),(λ_ _ h=>nomatch h),(λ_ _ h=>nomatch h),(λ_ _ h=>nomatch h),(λ_ _ h=>nomatch h)⟩
set_option genInjectivity false in
structure LC where
 is:List Int
 f:Nat
 c:Nat
 cells:List Int
 b:Int
 hr:Nat
 ha:Nat
 hb:Nat
 ko:Nat
 km:Nat
 kc:Nat
 h0:List Nat
 h1:List Nat
 o:Bool->Nat
 cr:Nat
 mr:Nat
structure dD (σ:Sto)(L:LC)(t:Nat)(ep:Pl):Prop where
 scr:σ[0]? = some (.list (L.is.map .int),0)
 feed:cy σ L.f L.c L.cells t L.b
 here:∃ v,σ[L.hr]? = some (.list [.ref L.ha,.ref L.hb],v)
 rel0:∃ v,σ[L.ha]? = some (.list (au .one L.h0),v)
 rel1:∃ v,σ[L.hb]? = some (.list (au .two L.h1),v)
 outer:∃ v,σ[L.ko]? = some (.dS (ouD L.o),v)
 menu:∃ v,σ[L.km]? = some (.list fE,v)
 closed:∃ v,σ[L.kc]? = some (.dS (clD ep),v)
 ne1:L.ko≠L.f
 ne2:L.kc≠L.f
 ne3:L.kc≠L.ko
section
variable {σ σ':Sto}{L:LC}{t t':Nat}{ep:Pl}
theorem dm {k j v w:Nat}{l:List D}{d:List (Str×D)}(e:σ[k]? = some (.list l,v))(e2:σ[j]? = some (.dS d,w)):¬ k=j:=λq=>by (replace e:=q▸e;replace e:=e2▸e);cases e
theorem dD.kp (S:dD σ L t ep)(k:av (· = L.f) σ σ')(hf:cy σ' L.f L.c L.cells t' L.b):dD σ' L t' ep:=by
 obtain ⟨vf,ef⟩:=S.feed.feed;have M:∀ {i:Nat} {l:List D},(∃ v,σ[i]? = some (.list l,v))->∃ v,σ'[i]? = some (.list l,v):=λ⟨v,e⟩=>⟨v,k.2 _ _ (dm e ef) e⟩;exact ⟨k.2 _ _ (dm S.scr ef) S.scr,hf,M S.here,M S.rel0,M S.rel1,S.outer.imp λv e=>k.2 _ _ S.ne1 e,M S.menu,S.closed.imp λv e=>k.2 _ _ S.ne2 e,S.ne1,S.ne2,S.ne3⟩
theorem dD.same (S:dD σ L t ep)(k:av NoW σ σ'):dD σ' L t ep:=S.kp k.weak (S.feed.kp k)
theorem dD.put (S:dD σ L t ep){ep':Pl}{w:Nat} : dD (σ.set L.kc (.dS (clD ep'),w)) L t ep':=by
 obtain ⟨vc,ec⟩:=S.closed;have M:∀ {i:Nat} {l:List D},(∃ v,σ[i]? = some (.list l,v))->∃ v,(σ.set L.kc (.dS (clD ep'),w))[i]? = some (.list l,v):=λ⟨v,e⟩=>⟨v,aF (λq=>dm e ec q.symm) e⟩;refine ⟨aF (λq=>dm S.scr ec q.symm) S.scr,⟨?_,M S.feed.cells⟩,M S.here,M S.rel0,M S.rel1,?_,M S.menu,⟨w,bN ec⟩,S.ne1,S.ne2,S.ne3⟩
 ·obtain ⟨v,e⟩:=S.feed.feed;exact ⟨v,aF S.ne2 e⟩
 ·obtain ⟨v,e⟩:=S.outer;exact ⟨v,aF S.ne3 e⟩
theorem dD.hereSt (S:dD σ L t ep):du σ L.hr L.h0 L.h1:=by
 obtain ⟨v,e⟩:=S.here;obtain ⟨va,ea⟩:=S.rel0;obtain ⟨vb,eb⟩:=S.rel1;exact ⟨L.ha,L.hb,v,va,vb,e,ea,eb⟩
end
noncomputable def vC (L:LC)(o1 o2:Option D)(o3 o4 o5:Option D):Loc:=[("script",some (.ref 0)),("cells",some (.ref L.cr)),("feed",some (.ref L.f)),("masks",some (.ref L.mr)),("k",o1),("here",some (.ref L.hr)),("outer",some (.ref L.ko)),("led",some zZ.d),("own",some A1.d),("menu",some (.ref L.km)),("closed",some (.ref L.kc)),("sign",o2),("lap",o3),("deep",o4),("node",o5)]
inductive LwL (L:LC)(ρ':Loc):Prop
 | intro (o1 o2:Option D) (h:ρ'=vC L o1 o2 none none none):LwL L ρ'
inductive LwI (L:LC)(acc:List Bool)(ρ':Loc)(σ':Sto):Prop
 | intro (l:LwL L ρ') (ep:Pl) (t':Nat) (S:dD σ' L t' ep) (cl:aw ep) (le:t'<=1000+acc.length) (no:∀ a,a ∉ acc->ep a=none):LwI L acc ρ' σ'
inductive Bh (L:LC)(ρ':Loc):Prop
 | intro (o1 o2 o3 o4 o5:Option D) (h:ρ'=vC L o1 o2 o3 o4 o5):Bh L ρ'
inductive Bn (L:LC)(ep:Pl)(acc:List Nat)(ρ':Loc)(σ':Sto):Prop
 | intro (l:Bh L ρ') (t':Nat) (S:dD σ' L t' ep) (le:t'<=1100+400 * acc.length):Bn L ep acc ρ' σ'
inductive RtA (L:LC)(t:Nat)(ep:Pl)(r:D)(σ4:Sto):Prop
 | intro (bb:Bool) (e:r = .bool bb) (h:bb=true) (S:dD σ4 L t ep):RtA L t ep r σ4
theorem oZ {σ:Sto}{L:LC}{t:Nat}(S:dD σ L t λ_=>none)(ht:t<=1000)(H0:L.h0∈aK 2)(H1:L.h1∈aK 4)(ho:∀ b,L.o b < 2)(o1:Option D){n:Nat}(hn:70<=n){N':Loc->Sto->Prop} :
  Ex (aE (aL n) 56 (aO 36).scope (vC L o1 none none none none) ((aO 36).body.drop 8)) σ N' (λr σ'=>r = .bool true/\σ'[0]? = some (.list (L.is.map .int),0)):=by
 obtain ⟨m,rfl⟩:∃ m,n=m+1:=pk 1 (le_trans (le_of_ble_eq_true rfl) hn);refine ab (fi (bm (s:=.tup ([false,true].map λb=>D.str (nm b))) (by kernel_rfl) ?_));refine cY (src:=.tup ([false,true].map λb=>D.str (nm b))) (λb=>D.str (nm b)) (LwI L) (λ_ _ _ _=>trivial) [false,true] ?_ ?_ [false,true] [] _ _ rfl ⟨⟨o1,none,rfl⟩,_,t,S,md,by simpa using ht,λ_ _=>rfl⟩
 ·rintro bb acc r ρ' σ' hsp ⟨⟨o1,o2,rfl⟩,ep,t',S',hP,ht',hnone⟩;have hacc:acc.length<=2:=by
   have:=congrArg List.length hsp;replace this:=(length_append)▸this;simp at this;exact a5 (.v 0) (.n 2) [(1,(.a (.v 0) (.a (.v 1) (.n 1))),.n 2)] rfl (le_of_eq this)
  have hbt:ep true=none/\(bb=false->ep false=none):=by
   induction acc using List.casesOn with
   | nil=>exact ⟨hnone true (by simp),λ_=>hnone false (by simp)⟩
   | cons a r' =>
    replace hsp:=(cons_append)▸hsp;have ha:a=false:=(List.cons.inj hsp).1;replace hsp:=(List.cons.inj hsp).2;subst ha;induction r' using List.casesOn with
    | nil =>
     replace hsp:=(nil_append _)▸hsp;have hb:bb=true:=(List.cons.inj hsp).1;exact ⟨hnone true (by simp),λh=>by replace h:=hb▸h;cases h⟩
    | cons a2 r2 =>
     replace hsp:=(cons_append)▸hsp;have:=(List.cons.inj hsp).2;simp at this
  refine cE (ρ':=vC L o1 (some (.str (nm bb))) none none none) rfl ?_;refine ab (aA rfl (am rfl (by kernel_rfl) (ah (ds:=[.ref L.f,.int (6:Nat)]) rfl ?_)));refine (bX 6 (by decide) (by decide) m S'.feed (by exact a5 (.v 0) (.n 2000000) [(1,.v 0,(.a (.n 1000) (.v 1))),(1,.v 1,.n 2)] rfl ht' hacc)).mono λr σ1 g1=>?_;obtain ⟨k,hk,rfl,k1,t1,a1,a2,F1⟩:=g1;have S1:=S'.kp k1 F1;refine ab (fJ (gf rfl (bZ (aa (d:=.int k) rfl (aa (d:=.int 4) rfl ?_)))));refine Ok.bind (Ok.ret (Ok.bind (Ok.ret (Ok.ret ⟨_,rfl,?_⟩))));by_cases hk4:k < 4
  ·rw [(decide_eq_true (Int.ofNat_lt.mpr hk4):decide ((k:Int) < 4)=true)];obtain ⟨vm,em⟩:=S1.menu;obtain ⟨vc,ec⟩:=S1.closed;refine bv (ab (uy (bz rfl (aa (d:=.ref L.km) rfl (aa (d:=.int k) rfl (az em (r:=(cS k).d) ?_ ?_))))))
   ·exact xD hk4
   refine aa (d:=.ref L.kc) rfl (aa (d:=.str (nm bb)) rfl ?_);refine Ok.bind (Ok.getO ec (Ok.bind (Ok.must (by have:=(AU ep).len;show decide ((clD ep).length<=aQ)=true;rw [decide_eq_true_eq];exact le_trans this (by decide)) (Ok.bind (Ok.ofOpt (a:=PO.dS (put (nm bb) (cS k).d (clD ep))) rfl (Ok.setO ?_))))));refine (zv ep bb (cS k) hbt.1 hbt.2).symm▸?_;refine a9 (a9 ⟨⟨some (.int k),some (.str (nm bb)),by kernel_rfl⟩,_,t1,S1.put,hP.add bb hk4,by refine (length_append).symm▸?_;simp;exact aZ (.v 0) (.a (.n 1000) (.a (.v 1) (.n 1))) [(1,.v 2,(.a (.n 1000) (.v 1))),(1,.v 0,(.a (.v 2) (.n 1)))] rfl ht' a2,λa ha=>?_⟩);rw [mem_append,not_or,mem_singleton] at ha;unfold Pl.add;rw [if_neg ha.2];exact hnone a ha.1
  ·rw [(decide_eq_false (λq=>hk4 (Int.ofNat_lt.mp q)):decide ((k:Int) < 4)=false)];refine cF (a9 (a9 ⟨⟨some (.int k),some (.str (nm bb)),by kernel_rfl⟩,ep,t1,S1,hP,by refine (length_append).symm▸?_;simp;exact aZ (.v 0) (.a (.n 1000) (.a (.v 1) (.n 1))) [(1,.v 2,(.a (.n 1000) (.v 1))),(1,.v 0,(.a (.v 2) (.n 1)))] rfl ht' a2,λa ha=>hnone a λh=>ha (List.mem_append_left _ h)⟩))
 rintro ρ' σ' ⟨⟨o1,o2,rfl⟩,ep,t',S',hP,ht',-⟩;have hBB3:BB 3<=400:=by decide
 have hBB2:BB 2<=400:=by decide
 have hq:=sx (f:=L.f) (c:=L.c) (cells:=L.cells) (b:=L.b) 3 (by decide) (m+1) (by exact bh (.a (.m 2 (.n 3)) (.n 4)) (.a (.v 0) (.n 1)) [(1,.n 70,(.a (.v 0) (.n 1)))] rfl hn);have gs3:=hq.1;have gp3:=hq.2.1;have gf3:=hq.2.2;have hq:=sx (f:=L.f) (c:=L.c) (cells:=L.cells) (b:=L.b) 2 (by decide) (m+1) (by exact bh (.a (.m 2 (.n 2)) (.n 4)) (.a (.v 0) (.n 1)) [(1,.n 70,(.a (.v 0) (.n 1)))] rfl hn);have gs2:=hq.1;have gp2:=hq.2.1;have gf2:=hq.2.2;refine ab (fi (bm (s:=.tup ([0,1,2].map λ(i:Nat)=>D.tup [.int i,.int (if i=1 then 2 else 3:Nat)])) rfl ?_));refine cY (src:=.tup ([0,1,2].map λ(i:Nat)=>D.tup [.int i,.int (if i=1 then 2 else 3:Nat)])) (λ(i:Nat)=>D.tup [.int i,.int (if i=1 then 2 else 3:Nat)]) (Bn L ep) (λ_ _ _ _=>trivial) [0,1,2] ?_ ?_ [0,1,2] [] _ _ rfl ⟨⟨o1,o2,none,none,none,rfl⟩,t',S',by simp at ht';simp;exact bh (.v 0) (.n 1100) [(1,.v 0,.n 1002)] rfl ht'⟩
 ·rintro i acc r ρ' σ2 hsp ⟨⟨o1,o2,o3,o4,o5,rfl⟩,t2,S2,ht2⟩;have hacc:acc.length<=3:=by
   have:=congrArg List.length hsp;replace this:=(length_append)▸this;simp at this;exact a5 (.v 0) (.n 3) [(1,(.a (.v 0) (.a (.v 1) (.n 1))),.n 3)] rfl (le_of_eq this)
  have hi:i=0\/i=1\/i=2:=by
   have:i∈([0,1,2]:List Nat):=by refine hsp▸?_;simp
   simpa using this
  have body:∀ (T:Ty) (k:Nat) (x:N) σ3 t3,k<=3->G T k x->dD σ3 L t3 ep->Ok (aL (m+1) "_law_is_right" [x.d,.ref L.kc,.ref L.hr,.ref L.ko]) σ3 (RtA L t3 ep):=λT k x σ3 t3 hk gx S3=>by
   obtain ⟨vc,ec⟩:=S3.closed;obtain ⟨vo,eo⟩:=S3.outer;exact (tJ gx hk hP H0 H1 ho (by exact bh (.n 60) (.v 0) [(1,.n 70,(.a (.v 0) (.n 1)))] rfl hn) ec S3.hereSt eo).mono λr σ4 h=>⟨true,h.1,rfl,S3.same h.2⟩
  have hlen:∀ t3,t3<=t2+400->t3<=1100+400 * (acc++[i]).length:=λt3 h=>by
   refine (length_append).symm▸?_;simp;exact aZ (.v 0) (.a (.n 1100) (.m 400 (.a (.v 1) (.n 1)))) [(1,.v 2,(.a (.n 1100) (.m 400 (.v 1)))),(1,.v 0,(.a (.v 2) (.n 400)))] rfl ht2 h
  rcases hi with rfl | rfl | rfl
  ·refine cE (ρ':=vC L o1 o2 (some (.int (0:Nat))) (some (.int (3:Nat))) o5) rfl ?_;refine ab (aA (by kernel_rfl) (bu (aU (b:=true) rfl (cC (am rfl (by kernel_rfl) (ah (ds:=[.ref L.f,.int (3:Nat)]) rfl ?_))))));refine (gf3 σ2 t2 S2.feed (by exact aZ (.a (.v 0) (.v 1)) (.n 1000000) [(1,.v 1,.n 400),(1,.v 0,(.a (.n 1100) (.m 400 (.v 2)))),(400,.v 2,.n 3)] rfl hBB3 ht2 hacc)).mono λr σ3 g3=>?_;obtain ⟨x,rfl,gx,k3,t3,a1,a2,F3⟩:=g3;refine ab (fJ (xQ (gf (by kernel_rfl) (am (by kernel_rfl) (by kernel_rfl) (ah (ds:=[x.d,.ref L.kc,.ref L.hr,.ref L.ko]) rfl ?_)))));refine (body .form 3 x σ3 t3 (by decide) gx (S2.kp k3 F3)).mono λr σ4 g4=>?_;obtain ⟨bb,rfl,rfl,S4⟩:=g4;exact ⟨true,rfl,cF (a9 (a9 ⟨⟨o1,o2,some (.int (0:Nat)),some (.int (3:Nat)),some x.d,by kernel_rfl⟩,t3,S4,hlen t3 (by exact aZ (.v 0) (.a (.v 1) (.n 400)) [(1,.v 2,.n 400),(1,.v 0,(.a (.v 1) (.v 2)))] rfl hBB3 a2)⟩))⟩
  ·refine cE (ρ':=vC L o1 o2 (some (.int (1:Nat))) (some (.int (2:Nat))) o5) rfl ?_;refine ab (aA (by kernel_rfl) (bu (aU (b:=false) rfl (cv (bu (aU (b:=true) rfl (cC (am rfl (by kernel_rfl) (ah (ds:=[.ref L.f,.int (2:Nat)]) rfl ?_)))))))));refine (gs2 σ2 t2 S2.feed (by exact aZ (.a (.v 0) (.v 1)) (.n 1000000) [(1,.v 1,.n 400),(1,.v 0,(.a (.n 1100) (.m 400 (.v 2)))),(400,.v 2,.n 3)] rfl hBB2 ht2 hacc)).mono λr σ3 g3=>?_;obtain ⟨x,rfl,gx,k3,t3,a1,a2,F3⟩:=g3;refine ab (fJ (xQ (gf (by kernel_rfl) (am (by kernel_rfl) (by kernel_rfl) (ah (ds:=[x.d,.ref L.kc,.ref L.hr,.ref L.ko]) rfl ?_)))));refine (body .set 2 x σ3 t3 (by decide) gx (S2.kp k3 F3)).mono λr σ4 g4=>?_;obtain ⟨bb,rfl,rfl,S4⟩:=g4;exact ⟨true,rfl,cF (a9 (a9 ⟨⟨o1,o2,some (.int (1:Nat)),some (.int (2:Nat)),some x.d,by kernel_rfl⟩,t3,S4,hlen t3 (by exact aZ (.v 0) (.a (.v 1) (.n 400)) [(1,.v 2,.n 400),(1,.v 0,(.a (.v 1) (.v 2)))] rfl hBB2 a2)⟩))⟩
  ·refine cE (ρ':=vC L o1 o2 (some (.int (2:Nat))) (some (.int (3:Nat))) o5) rfl ?_;refine ab (aA (by kernel_rfl) (bu (aU (b:=false) rfl (cv (bu (aU (b:=false) rfl (cv (am rfl (by kernel_rfl) (ah (ds:=[.ref L.f,.int (3:Nat)]) rfl ?_)))))))));refine (gp3 σ2 t2 S2.feed (by exact aZ (.a (.v 0) (.v 1)) (.n 1000000) [(1,.v 1,.n 400),(1,.v 0,(.a (.n 1100) (.m 400 (.v 2)))),(400,.v 2,.n 3)] rfl hBB3 ht2 hacc)).mono λr σ3 g3=>?_;obtain ⟨x,rfl,gx,k3,t3,a1,a2,F3⟩:=g3;refine ab (fJ (xQ (gf (by kernel_rfl) (am (by kernel_rfl) (by kernel_rfl) (ah (ds:=[x.d,.ref L.kc,.ref L.hr,.ref L.ko]) rfl ?_)))));refine (body .pair 3 x σ3 t3 (by decide) gx (S2.kp k3 F3)).mono λr σ4 g4=>?_;obtain ⟨bb,rfl,rfl,S4⟩:=g4;exact ⟨true,rfl,cF (a9 (a9 ⟨⟨o1,o2,some (.int (2:Nat)),some (.int (3:Nat)),some x.d,by kernel_rfl⟩,t3,S4,hlen t3 (by exact aZ (.v 0) (.a (.v 1) (.n 400)) [(1,.v 2,.n 400),(1,.v 0,(.a (.v 1) (.v 2)))] rfl hBB3 a2)⟩))⟩
 ·rintro ρ' σ3 ⟨⟨o1,o2,o3,o4,o5,rfl⟩,t3,S3,-⟩;exact ab (aB (aa (d:=.bool true) rfl ⟨rfl,S3.scr⟩))
theorem Ex.loc {cf:Str->List D->PM D}{t:Nat}{sc:B0}{ρ ρ':Loc}{b:List B7}{σ:Sto}{N:Loc->Sto->Prop}{R:D->Sto->Prop}(e:ρ=ρ')(h:Ex (aE cf t sc ρ' b) σ N R):Ex (aE cf t sc ρ b) σ N R:=e▸h
section
variable {σ:Sto}{P:D->Sto->Prop}
theorem yM {i:Int}(h:P (.int i) σ):Ok (b9 "int" (.int i)) σ P:=Ok.eq (m':=pure (.int i)) rfl (Ok.ret h)
theorem yD {k v:Nat}{l:List Int}(e:σ[k]? = some (.list (l.map .int),v))(hl:l.length<=64)(hb:∀ i∈l,0<=i/\i<=1000)(h:P (.int (l.foldl (· + ·) 0)) σ):Ok (b9 "sum" (.ref k)) σ P:=by
 have hs:b9 "sum" (.ref k)=(do
   let l <- sy (<- listAt k)
   must (decide (l.length<=64) && l.all λi=>decide (0<=i) && decide (i<=1000))
   pure (.int (l.foldl (· + ·) 0))):=by kernel_rfl
 refine hs.symm▸?_;refine Ok.bind (Ok.listAt e (Ok.bind (Ok.ofOpt (de l) (Ok.bind (Ok.must ?_ (Ok.ret h))))));rw [and_eq_true,decide_eq_true_eq,all_eq_true];refine ⟨hl,λi hi=>?_⟩;rw [and_eq_true,decide_eq_true_eq,decide_eq_true_eq];exact hb i hi
theorem kG {x:Int}{a:Nat}(ha:a < 4)(h:P (.int (x.fdiv (2 ^ a))) σ):Ok (pD .RShift (.int x) (.int a)) σ P :=
 Ok.bind (Ok.ret (Ok.bind (Ok.ret (Ok.bind (Ok.must (by rw [and_eq_true,decide_eq_true_eq,decide_eq_true_eq];exact ⟨Int.natCast_nonneg a,Int.le_trans (Int.ofNat_le.mpr (le_of_lt ha)) (by decide)⟩) (Ok.ret (by rw [Int.toNat_natCast];exact h)))))))
theorem and_int {x y:Int}(h:P (.int (Builtin.bitAnd x y)) σ):Ok (pD .BitAnd (.int x) (.int y)) σ P:=Ok.bind (Ok.ret (Ok.bind (Ok.ret (Ok.ret h))))
theorem nH {m a:Nat}(hm:m < 16)(ha:a < 4)(h:P (.bool (m.testBit a)) σ):Ok (pK .Eq (.int (Builtin.bitAnd ((m:Int).fdiv (2 ^ a)) 1)) (.int 1)) σ P:=by
 have e:(Builtin.bitAnd ((m:Int).fdiv (2 ^ a)) 1==1)=m.testBit a:=(show ∀ m,m < 16->∀ a,a < 4->(Builtin.bitAnd (((m:Nat):Int).fdiv (2 ^ a)) 1==1)=m.testBit a by decide +kernel) m hm a ha;rw [<- e] at h;generalize Builtin.bitAnd ((m:Int).fdiv (2 ^ a)) 1=z at h ⊢;have hs:∀ z:Int,SeqAt.shaped (.int z)=true:=λz=>by unfold SeqAt.shaped;simp [PyData.canLay0,PyData.depth]
 refine Ok.bind (Ok.bind (Ok.run (a:=PyData.int z) (σ':=σ) rfl (Ok.bind (Ok.run (a:=PyData.int 1) (σ':=σ) rfl (Ok.bind (Ok.must (by rw [hs,hs];rfl) (Ok.ret ?_)))))));have:PyData.eqv (.int z) (.int 1)=(z==1):=by simp [PyData.eqv]
 rw [this];exact Ok.ret h
end
noncomputable def bx (is:List Int):List Int:=(is.take 60).map λi=>i.fmod 1000003
noncomputable def r5 (is:List Int):Int:=((bx is).map λi=>i.fmod 991).foldl (· + ·) 0
theorem sD (is:List Int):(bx is).length<=60:=by
 (refine (length_map _).symm▸?_;refine (List.length_take).symm▸?_);exact Nat.min_le_left _ _
theorem zk (is:List Int)(hlen:is.length<=63):Ok (aL 80 "law" [.ref 0]) [(.list (is.map .int),0)] λr σ'=>r = .bool true/\σ'[0]? = some (.list (is.map .int),0):=by
 have h0:([(PO.list (is.map .int),0)]:Sto)[0]? = some (PO.list (is.map .int),0):=rfl;generalize ([(PO.list (is.map .int),0)]:Sto)=σ at h0 ⊢;have h4:aQ=4096:=rfl;have hcl:=sD is;refine ao (n:=79) rfl sY (ax (ρ:=[("script",some (.ref 0)),("cells",none),("feed",none),("masks",none),("k",none),("here",none),("outer",none),("led",none),("own",none),("menu",none),("closed",none),("sign",none),("lap",none),("deep",none),("node",none)]) (by kernel_rfl) ?_);refine ab (aA (by kernel_rfl) (aX (by kernel_rfl) (bV (by kernel_rfl) (v9 (aa (d:=.ref 0) (by kernel_rfl) (rW (rp (aa (d:=.int 60) (by kernel_rfl) ⟨60,rfl,?_⟩))))))));refine Ok.bind (Ok.must (by decide) (Ok.bind (Ok.listAt h0 (Ok.mkList (by (refine (List.length_take).symm▸?_;refine (length_map _).symm▸?_);exact le_trans (Nat.min_le_left _ _) (by decide)) (aN (ag _ _) ?_)))));have e1:(is.map D.int).take (60:Int).toNat=(is.take 60).map D.int:=(List.map_take).symm▸rfl;refine e1.symm▸?_;have k1:av NoW σ (σ++[(PO.list ((is.take 60).map .int),0)]):=(av.refl _ _).push _;have g1:=ag σ (PO.list ((is.take 60).map D.int),0);generalize (σ++[(PO.list ((is.take 60).map .int),0)])=σ1 at k1 g1 ⊢;generalize σ.length=ks at g1 ⊢;refine aG (σ0:=σ1) (src:=.at ks 0 ((is.take 60).map D.int)) D.int (λi=>[D.int (i.fmod 1000003)]) ⟨_,g1⟩ (av.refl _ _) (λi _ σ2 k2=>?_) λσ2 k2=>?_
 ·exact aY rfl (bB (bM (by kernel_rfl) (by kernel_rfl) (aa (d:=.int i) (by kernel_rfl) (yM (aa (d:=.int 1000003) (by kernel_rfl) (dR (by decide) (by decide) ⟨rfl,k2⟩))))))
 refine (bF (λi:Int=>D.int (i.fmod 1000003)) _).symm▸?_;have e2:(is.take 60).map (λi=>D.int (i.fmod 1000003))=(bx is).map D.int:=by unfold bx;exact (List.map_map).symm▸rfl
 refine e2.symm▸?_;refine ⟨⟨_,k2.get g1⟩,by refine (length_map _).symm▸?_;exact a5 (.v 0) (.v 1) [(1,.n 4096,.v 1),(1,.v 0,.n 60)] rfl (le_of_eq h4.symm) hcl,?_⟩;have hc:=ag σ2 (PO.list ((bx is).map D.int),0);have k3:av NoW σ (σ2++[(PO.list ((bx is).map D.int),0)]):=(k1.trans k2).push _;generalize (σ2++[(PO.list ((bx is).map D.int),0)])=σ3 at hc k3 ⊢;generalize σ2.length=c at hc ⊢;refine ab (aA (by kernel_rfl) (nk (by kernel_rfl) (cZ (aa (d:=.str "cells") (by kernel_rfl) (aa (d:=.ref c) (by kernel_rfl) (cZ (aa (d:=.str "taken") (by kernel_rfl) (aa (d:=.int (0:Nat)) (by kernel_rfl) (cZ (aa (d:=.str "blend") (by kernel_rfl) (bM (by kernel_rfl) (by kernel_rfl) (aX (by kernel_rfl) (bV (by kernel_rfl) (aa (d:=.ref c) (by kernel_rfl) (aN hc ?_)))))))))))))));refine aG (σ0:=σ3) (src:=.at c 0 ((bx is).map D.int)) D.int (λi=>[D.int (i.fmod 991)]) ⟨_,hc⟩ (av.refl _ _) (λi _ σ4 k4=>?_) λσ4 k4=>?_
 ·exact aY rfl (bB (aa (d:=.int i) (by kernel_rfl) (aa (d:=.int 991) (by kernel_rfl) (dR (by decide) (by decide) ⟨rfl,k4⟩))))
 refine (bF (λi:Int=>D.int (i.fmod 991)) _).symm▸?_;have e3:(bx is).map (λi=>D.int (i.fmod 991))=((bx is).map λi=>i.fmod 991).map D.int:=by rw [List.map_map];rfl
 refine e3.symm▸?_;refine ⟨⟨_,k4.get hc⟩,by (refine (length_map _).symm▸?_;refine (length_map _).symm▸?_);exact a5 (.v 0) (.v 1) [(1,.n 4096,.v 1),(1,.v 0,.n 60)] rfl (le_of_eq h4.symm) hcl,?_⟩;refine yD (ag _ _) (by refine (length_map _).symm▸?_;exact bh (.v 0) (.n 64) [(1,.v 0,.n 60)] rfl hcl) (λi hi=>?_) ?_
 ·obtain ⟨j,_,rfl⟩:=mem_map.mp hi;have q1:0<=j.fmod 991:=Int.fmod_nonneg_of_pos _ (by decide);have q2:j.fmod 991 < 991:=Int.fmod_lt_of_pos _ (by decide);exact ⟨q1,Int.le_trans (Int.le_of_lt q2) (by decide)⟩
 have k5:av NoW σ (σ4++[(PO.list (((bx is).map λi=>i.fmod 991).map D.int),0)]):=(k3.trans k4).push _;have hc5:(σ4++[(PO.list (((bx is).map λi=>i.fmod 991).map D.int),0)])[c]? = some (.list ((bx is).map D.int),0):=al (k4.get hc);generalize (σ4++[(PO.list (((bx is).map λi=>i.fmod 991).map D.int),0)])=σ5 at k5 hc5 ⊢;have hb:((bx is).map λi=>i.fmod 991).foldl (· + ·) 0=r5 is:=rfl;refine hb.symm▸?_;generalize r5 is=b;refine nF ⟨fdD c 0 b,by kernel_rfl,?_⟩;have k6:av NoW σ (σ5++[(PO.dS (fdD c 0 b),0)]):=k5.push _;have F0:cy (σ5++[(PO.dS (fdD c 0 b),0)]) σ5.length c (bx is) 0 b:=⟨⟨0,ag _ _⟩,⟨0,al hc5⟩⟩;generalize (σ5++[(PO.dS (fdD c 0 b),0)])=σ6 at k6 F0 ⊢;generalize σ5.length=f at F0 ⊢;have s6:=k6.get h0;refine ab (aA (by kernel_rfl) (bw (ae (am (by kernel_rfl) (by kernel_rfl) (ah (ds:=[.ref f,.int (4:Nat)]) rfl ?_)))));refine (bX 4 (by decide) (by decide) 78 F0 (lin [] 1 (.n 0) (.n 2000000) [] rfl)).mono λr σ7 g7=>?_;obtain ⟨m0,hm0,rfl,k7,t1,a1,a2,F1⟩:=g7;refine ae (am (by kernel_rfl) (by kernel_rfl) (ah (ds:=[.ref f,.int (16:Nat)]) rfl ?_));refine (bX 16 (by decide) (by decide) 78 F1 (bh (.v 0) (.n 2000000) [(1,.v 0,(.a (.n 0) (.n 1)))] rfl a2)).mono λr σ8 g8=>?_;obtain ⟨m1,hm1,rfl,k8,t2,b1,b2,F2⟩:=g8;refine aq ⟨le_of_ble_eq_true rfl,?_⟩;have s8:σ8[0]? = some (PO.list (is.map .int),0):=by
  obtain ⟨v,e⟩:=F0.feed;exact (k7.trans k8).2 _ _ (dm s6 e) s6
 have gm:=ag σ8 (PO.list [.int m0,.int m1],0);have k9:av NoW σ8 (σ8++[(PO.list [.int m0,.int m1],0)]):=(av.refl _ _).push _;generalize (σ8++[(PO.list [D.int m0,D.int m1],0)])=σ9 at gm k9 ⊢;generalize σ8.length=mr at gm ⊢;refine ab (aA rfl (bw (ae (aX rfl (lS (by kernel_rfl) (aa (d:=.int (2:Nat)) rfl ⟨2,rfl,by decide,?_⟩))))));refine aG (σ0:=σ9) (src:=.rng 2) (l:=List.range 2) (λi:Nat=>D.int i) (λa=>if m0.testBit a then [dec .one a] else []) trivial (av.refl _ _) (λa ha σ10 k10=>?_) λσ10 k10=>?_
 ·rw [mem_range] at ha;refine ff rfl (cU (gf rfl (bZ (bB (bB (bz rfl (aa (d:=.ref mr) rfl (aa (d:=.int (0:Nat)) rfl (az (k10.get gm) (r:=.int m0) rfl (aa (d:=.int a) rfl (kG (bh (.a (.v 0) (.n 1)) (.n 4) [(1,(.a (.v 0) (.n 1)),.n 2)] rfl ha) (aa (d:=.int 1) rfl (and_int (aa (d:=.int 1) rfl (nH (bh (.a (.v 0) (.n 1)) (.n 16) [(1,(.a (.v 0) (.n 1)),.n 4)] rfl hm0) (bh (.a (.v 0) (.n 1)) (.n 4) [(1,(.a (.v 0) (.n 1)),.n 2)] rfl ha) ⟨_,rfl,λhb=>?_,λhb=>?_⟩)))))))))))))))
  ·refine aI (ae (aa (d:=.int a) rfl (aq ⟨le_of_ble_eq_true rfl,?_,k10⟩)));exact (if_pos hb).symm▸rfl
  ·exact ⟨by rw [if_neg (by refine hb.symm▸?_;decide)],k10⟩
 refine (cp (λa:Nat=>m0.testBit a) (λa=>dec .one a) _).symm▸?_;have H0:(List.range 2).filter (λa:Nat=>m0.testBit a)∈aK 2:=mem_map.mpr ⟨m0,mem_range.mpr (bh (.a (.v 0) (.n 1)) (.n 4) [(1,(.a (.v 0) (.n 1)),.n 4)] rfl hm0),rfl⟩;have hs0:=ba H0;generalize (List.range 2).filter (λa:Nat=>m0.testBit a)=h0s at H0 hs0 ⊢;refine ⟨trivial,by refine (length_map _).symm▸?_;exact a5 (.v 0) (.v 1) [(1,.n 4096,.v 1),(1,.v 0,.n 2)] rfl (le_of_eq h4.symm) hs0.2,?_⟩;have ga:=ag σ10 (PO.list (h0s.map λa=>dec .one a),0);have k11:av NoW σ8 (σ10++[(PO.list (h0s.map λa=>dec .one a),0)]):=(k9.trans k10).push _;have gm11:(σ10++[(PO.list (h0s.map λa=>dec .one a),0)])[mr]? = _:=al (k10.get gm);generalize (σ10++[(PO.list (h0s.map λa=>dec .one a),0)])=σ11 at ga k11 gm11 ⊢;generalize σ10.length=ha at ga ⊢;refine ae (aX rfl (lS (by kernel_rfl) (aa (d:=.int (4:Nat)) rfl ⟨4,rfl,by decide,?_⟩)));refine aG (σ0:=σ11) (src:=.rng 4) (l:=List.range 4) (λi:Nat=>D.int i) (λa=>if m1.testBit a then [dec .two a] else []) trivial (av.refl _ _) (λa hal σ12 k12=>?_) λσ12 k12=>?_
 ·rw [mem_range] at hal;refine ff rfl (cU (gf rfl (bZ (bB (bB (bz rfl (aa (d:=.ref mr) rfl (aa (d:=.int (1:Nat)) rfl (az (k12.get gm11) (r:=.int m1) rfl (aa (d:=.int a) rfl (kG (bh (.a (.v 0) (.n 1)) (.n 4) [(1,(.a (.v 0) (.n 1)),.n 4)] rfl hal) (aa (d:=.int 1) rfl (and_int (aa (d:=.int 1) rfl (nH (bh (.a (.v 0) (.n 1)) (.n 16) [(1,(.a (.v 0) (.n 1)),.n 16)] rfl hm1) (bh (.a (.v 0) (.n 1)) (.n 4) [(1,(.a (.v 0) (.n 1)),.n 4)] rfl hal) ⟨_,rfl,λhb=>?_,λhb=>?_⟩)))))))))))))))
  ·refine aI (ae (bB (aa (d:=.int a) rfl (aa (d:=.int 2) rfl (nv (by decide) (by decide) (ae (bB (aa (d:=.int a) rfl (aa (d:=.int 2) rfl (dR (by decide) (by decide) (aq ⟨le_of_ble_eq_true rfl,?_,k12⟩)))))))))));have q:((a:Int).fdiv 2=((a / 2:Nat):Int))/\((a:Int).fmod 2=((a % 2:Nat):Int)):=(show ∀ a:Nat,a < 4->((a:Int).fdiv 2=((a / 2:Nat):Int))/\((a:Int).fmod 2=((a % 2:Nat):Int)) by decide +kernel) a hal;(refine (if_pos hb).symm▸?_;refine (q.1).symm▸?_;exact (q.2).symm▸rfl)
  ·exact ⟨by rw [if_neg (by refine hb.symm▸?_;decide)],k12⟩
 refine (cp (λa:Nat=>m1.testBit a) (λa=>dec .two a) _).symm▸?_;have H1:(List.range 4).filter (λa:Nat=>m1.testBit a)∈aK 4:=mem_map.mpr ⟨m1,mem_range.mpr (bh (.a (.v 0) (.n 1)) (.n 16) [(1,(.a (.v 0) (.n 1)),.n 16)] rfl hm1),rfl⟩;have hs1:=ba H1;generalize (List.range 4).filter (λa:Nat=>m1.testBit a)=h1s at H1 hs1 ⊢;refine ⟨trivial,by refine (length_map _).symm▸?_;exact a5 (.v 0) (.v 1) [(1,.n 4096,.v 1),(1,.v 0,.n 4)] rfl (le_of_eq h4.symm) hs1.2,?_⟩;have gb:=ag σ12 (PO.list (h1s.map λa=>dec .two a),0);have k13:av NoW σ8 (σ12++[(PO.list (h1s.map λa=>dec .two a),0)]):=(k11.trans k12).push _;have ga13:(σ12++[(PO.list (h1s.map λa=>dec .two a),0)])[ha]? = _:=al (k12.get ga);generalize (σ12++[(PO.list (h1s.map λa=>dec .two a),0)])=σ13 at gb k13 ga13 ⊢;generalize σ12.length=hb at gb ⊢;refine aq ⟨le_of_ble_eq_true rfl,?_⟩;have gh:=ag σ13 (PO.list [.ref ha,.ref hb],0);have k14:av NoW σ8 (σ13++[(PO.list [.ref ha,.ref hb],0)]):=k13.push _;have ga14:(σ13++[(PO.list [.ref ha,.ref hb],0)])[ha]? = _:=al ga13;have gb14:(σ13++[(PO.list [.ref ha,.ref hb],0)])[hb]? = _:=al gb;generalize (σ13++[(PO.list [.ref ha,.ref hb],0)])=σ14 at gh k14 ga14 gb14 ⊢;generalize σ13.length=hr at gh ⊢;have F3:=F2.kp k14;have s14:=k14.get s8;refine ab (aA rfl (nk rfl (cZ (aa (d:=.str "x") rfl (am (by kernel_rfl) (by kernel_rfl) (ah (ds:=[.ref f,.int (2:Nat)]) rfl ?_))))));refine (bX 2 (by decide) (by decide) 78 F3 (a5 (.v 0) (.n 2000000) [(1,.v 1,(.a (.n 0) (.n 1))),(1,.v 0,(.a (.v 1) (.n 1)))] rfl a2 b2)).mono λr σ15 g15=>?_;obtain ⟨o0,ho0,rfl,k15,t3,c1,c2,F4⟩:=g15;refine cZ (aa (d:=.str "y") rfl (am (by kernel_rfl) (by kernel_rfl) (ah (ds:=[.ref f,.int (2:Nat)]) rfl ?_)));refine (bX 2 (by decide) (by decide) 78 F4 (aZ (.v 0) (.n 2000000) [(1,.v 1,(.a (.n 0) (.n 1))),(1,.v 2,(.a (.v 1) (.n 1))),(1,.v 0,(.a (.v 2) (.n 1)))] rfl a2 b2 c2)).mono λr σ16 g16=>?_;obtain ⟨o1,ho1,rfl,k16,t4,d1,d2,F5⟩:=g16;obtain ⟨vf,ef⟩:=F3.feed;have k1416:=k15.trans k16;have s16:=k1416.2 _ _ (dm s14 ef) s14;have gh16:=k1416.2 _ _ (dm gh ef) gh;have ga16:=k1416.2 _ _ (dm ga14 ef) ga14;have gb16:=k1416.2 _ _ (dm gb14 ef) gb14;have hoo:∃ o:Bool->Nat,o false=o0/\o true=o1:=⟨λb=>cond b o1 o0,rfl,rfl⟩;obtain ⟨o,rfl,rfl⟩:=hoo;refine nF ⟨ouD o,by kernel_rfl,?_⟩;have fl16:f < σ16.length:=F5.feed.elim λ_ e=>aH e;have go:=ag σ16 (PO.dS (ouD o),0);have k17:av NoW σ16 (σ16++[(PO.dS (ouD o),0)]):=(av.refl _ _).push _;have ne1:σ16.length≠f:=by exact ne_of_gt (a5 (.a (.v 0) (.n 1)) (.v 1) [(1,(.a (.v 0) (.n 1)),.v 1)] rfl fl16)
 have fl17:f < (σ16++[(PO.dS (ouD o),0)]).length:=by refine (length_append).symm▸?_;exact aZ (.a (.v 0) (.n 1)) (.a (.v 1) (.v 2)) [(1,(.a (.v 0) (.n 1)),.v 1)] rfl fl16
 generalize (σ16++[(PO.dS (ouD o),0)])=σ17 at go k17 fl17 ⊢;generalize σ16.length=ko at go ne1 ⊢;refine ab (aA rfl (aa (d:=zZ.d) rfl ?_));refine ab (aA rfl (aa (d:=A1.d) rfl ?_));refine ab (kR rfl rfl rfl (aI (ae (bw (ah (ds:=fE) rfl ⟨le_of_ble_eq_true rfl,ae (z7 (m:=alloc (.dS [])) rfl (Ok.alloc (aq ⟨le_of_ble_eq_true rfl,_,_,rfl,?_⟩)))⟩)))));have gn:=al (q:=(PO.dS [],0)) (ag σ17 (PO.list fE,0));have gc:=ag (σ17++[(PO.list fE,0)]) (PO.dS [],0);have k18:av NoW σ16 ((σ17++[(PO.list fE,0)])++[(PO.dS [],0)]):=(k17.push _).push _;have go18:=al (q:=(PO.dS [],0)) (al (q:=(PO.list fE,0)) go);have kol:=aH go;have hl18:(σ17++[(PO.list fE,0)]).length=σ17.length+1:=by simp
 have ne2:(σ17++[(PO.list fE,0)]).length≠f:=by exact ne_of_gt (aZ (.a (.v 0) (.n 1)) (.v 1) [(1,(.a (.v 0) (.n 1)),.v 2),(1,(.a (.v 2) (.n 1)),.v 1)] rfl fl17 (le_of_eq hl18.symm))
 have ne3:(σ17++[(PO.list fE,0)]).length≠ko:=by exact ne_of_gt (aZ (.a (.v 0) (.n 1)) (.v 1) [(1,(.a (.v 0) (.n 1)),.v 2),(1,(.a (.v 2) (.n 1)),.v 1)] rfl kol (le_of_eq hl18.symm))
 generalize ((σ17++[(PO.list fE,0)])++[(PO.dS [],0)])=σ18 at gn gc k18 go18 ⊢;generalize (σ17++[(PO.list fE,0)]).length=kc at gc ne2 ne3 ⊢;generalize σ17.length=km at gn ⊢;have S:dD σ18 ⟨is,f,c,bx is,b,hr,ha,hb,ko,km,kc,h0s,h1s,o,c,mr⟩ t4 λ_=>none :=
  ⟨k18.get s16,F5.kp k18,⟨0,k18.get gh16⟩,⟨0,k18.get ga16⟩,⟨0,k18.get gb16⟩,⟨0,go18⟩,⟨0,gn⟩,⟨0,gc⟩,ne1,ne2,ne3⟩
 refine Ex.loc (ρ':=vC ⟨is,f,c,bx is,b,hr,ha,hb,ko,km,kc,h0s,h1s,o,c,mr⟩ none none none none none) rfl ?_;exact oZ S (fW (.v 0) (.n 1000) [(1,.v 1,(.a (.n 0) (.n 1))),(1,.v 2,(.a (.v 1) (.n 1))),(1,.v 3,(.a (.v 2) (.n 1))),(1,.v 0,(.a (.v 3) (.n 1)))] rfl a2 b2 c2 d2) H0 H1 (λb=>by cases b <;> assumption) none (n:=79) (by decide)
theorem law_true:mO:=λis h=>by
 obtain ⟨r,σ',e,rfl,h0⟩:=zk is h;exact ⟨σ',e,by unfold ver;rw [h0]⟩
end
end Mine
theorem PySem.Challenge.cw_rr0088_01_holds : PySem.Challenge.rw_rr0088_01.Holds := by
 exact Mine.holds Mine.law_true
