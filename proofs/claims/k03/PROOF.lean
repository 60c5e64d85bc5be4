import PyProof.Rows.All
import Wide.All
import OpenK.AllK
import Wide.FinOn
import HandS.ForMost
import HandS.ForExc
import HandS.HeadHook2
import HandS.TupAny
import HandS.Walk
import HandS.Lambda
import HandS.HeadHook4
import HandS.Conv
import HandS.Wide
import HandS.Deep
import HandS.CallSlots
import HandS.Defaults
import HandS.MakeKw
import HandS.Zip
import HandS.HeadEnd
import HandS.EndBits
import PyProof.ReprRoads
import HandS.Strs
import HandS.SetKeys
import HandS.SortInts
import HandS.IsInst
import HandS.SetFor
import HandS.Star
import HandS.Style
import HandS.DictComp
import HandS.Dict
import KE.KDictZip
import KE.GoesMore
import KE.KDictList
import HandS.MapObj
import HandS.FStr
import HandS.RaiseMore
import HandS.OwnEq
import HandS.ExcValue
import HandS.ExcIs
import HandS.EndTab
import HandS.ExcInit
import HandS.ClsMeth
import KE.KExcIs
import HandS.ExcField
import HandS.HeadHook1
import HandS.Head2
import HandS.NoneIn
import HandS.Replace
import HandS.TryOnly
import HandS.ListEq
import PyProof.DictUpdate
import HandS.GenCall
import HandS.GenList
import KE.KDictCopyH
import PyProof.Rows.EqNone
import HandS.RevRange
import HandS.Small
import HandS.ReplaceDef
import PyProof.NeKinds
import PyProof.StrBlock2
import HandS.ReplaceList
import HandS.Text
import KE.IntTextLaws
import PySem.Challenge.RW_starcases_k03_whole_value_texts
set_option Elab.async false
set_option linter.all false
set_option maxRecDepth 100000
set_option maxHeartbeats 8000000
open List renaming getElem?_cons_zero → aE, length_cons → az, mem_cons_of_mem → aZ, getElem?_eq_some_iff → bL, mem_cons_self → a6, getElem?_cons_succ → bB, length_nil → aN, cons_append → aY, mem_cons → aM, length_append → bt, map_cons → aO, set_cons_succ → bC, mem_append → bf, set_cons_zero → bE, append_nil → bq, length_singleton → cA, append_assoc → cb, all_eq_true → b7, nil_append → bR, mem_singleton → cB, replicate → bW, length_map → cj, getElem?_append_left → eD, getElem?_eq_getElem → eE, not_mem_nil → cR, getElem?_append_right → fD, mem_iff_getElem? → eR, getD_eq_getElem?_getD → f6, getElem?_set_ne → eQ, getElem?_set_self → fE, mem_map → cJ, length_drop → dY, length_eq_zero_iff → gE, length_set → eF, mem_of_getElem? → f7, getElem?_take_of_lt → h8, take_succ_cons → ia, getElem?_map → gB, length_replicate → iZ, length_take → gF, replicate_succ → i4, mem_of_mem_take → aaa, getElem?_eq_none → aac, take_zero → ib, mem_append_left → aag, map_append → i3, map_map → gG, append_cancel_left → aah, drop_zero → iY, mem_append_right → aai, map_nil → h9, flatten_cons → aaj, take_sublist → aak, drop_eq_getElem_cons → aal, flatMap_cons → aan, mem_of_mem_drop → aao, prefix_refl → aap, length_pos_iff → aaq, set_set → i6, foldl_cons → aat, nodup_append → aau, lookup → i0, length_range → aav
open Bool renaming and_eq_true → ax, false_eq_true → bd, not_true → dw, not_false → dX, and_self → dO, and_eq_true_iff → gz, or_eq_false_iff → hZ, or_eq_true → gA, false_ne_true → aad, not_eq_true' → aam, not_eq_false' → aas, true_and → aaw
open Option renaming map_eq_some_iff → bz, bind_eq_some_iff → cn, bind_some → bD, map_some → bF, isSome_none → aaf, isSome_some → aar
open Nat renaming le_refl → aP, not_lt_zero → f9, zero_le → eS, mul_le_mul_right → aab, repr → dy, toDigits → gb, lt_of_lt_of_le → aae, le_trans → gH, digitChar → aax
namespace DL
open PySem PySem.Spec PyProof.Rows L2
open PySem.W renaming Frag -> Frg
def jX:List (Str × List Str):=[("Name",["name"]),("Kind",["word","name","without"]),("Is",["atom"]),("Row",["ahead","star","behind"]),("Refuse",[]),("Cases",["cases"]),("Values",["patterns"]),
 ("Reader",["signs","spot","rows"]),("LineReader",["signs","spot","rows"]),("ProgramReader",["signs","spot","rows","functions"]),("Desk",["texts","functions"])]
def sr:List (Str × List Str):=[("BadValue",[]),("BadPattern",[]),("BadTemplate",[]),("BadCases",[]),("NoSet",[]),("BadCase",["at"]),("Refused",["place"]),("NoInverse",["one","other"]),("NeverHad",["value"]),("BadText",["line"]),("BadName",["name"]),("CaseError",[])]
def cnm (c:Nat):Str:=(jX.getD c ("",[])).1
def cfs (c:Nat):List Str:=(jX.getD c ("",[])).2
def enm (c:Nat):Str:=(sr.getD c ("",[])).1
def efs (c:Nat):List Str:=(sr.getD c ("",[])).2
inductive Tr where
 | non|bl (b:Bool)|int (i:Int)|str (x:Str)
 | lst (xs:List Tr)|tup (xs:List Tr)
 | dct (ks:List Key) (ds:List Tr)
 | ins (c:Nat) (ds:List Tr)
 | exc (c:Nat) (ds:List Tr)
 | cell (k:Nat)
 | scr (ns:List Int)
 | dkf (ks:List Key) (ds:List Tr)
inductive Ce where
 | dead
 | lst (xs:List Tr)
 | dct (ks:List Key) (ds:List Tr)
 | ins (c:Nat) (ds:List Tr)
 | dkf (ks:List Key) (ds:List Tr)
abbrev En:=List (Option Tr)
abbrev Me:=List Ce
structure Gh where
 G:Hp
 C:List Addr
def ExX(cls:Value)(dd:Option Addr)(a:Addr):HO:=.ext λh=>∃(oe:Obj)(vs:Array Value),h.get? a=some oe/\Zc cls dd oe/\oe.data=.fields vs
mutual
def Rep(K:Frg)(S:Gh):Tr->V->Prop
 | .non,v=>v=.non
 | .bl b,v=>v=.bl b
 | .int i,v=>v=.int i
 | .str x,v=>v=.str x
 | .lst xs,v=>∃ a vs,v=.ref a/\S.G a=some (.lst vs)/\ah K S xs vs
 | .tup xs,v=>∃ a vs,v=.ref a/\SqT K S.G a vs/\ah K S xs vs
 | .dct ks ds,v=>∃ a kvs,v=.ref a/\S.G a=some (.dK kvs)/\kvs.map Prod.fst=ks/\ah K S ds (kvs.map Prod.snd)
 | .ins c ds,v=>∃ a dx fs,v=.ref a/\S.G a=some (.ins (He.ga K (cnm c)) dx fs)/\fs.map Prod.fst=cfs c/\ah K S ds (fs.map Prod.snd)
 | .exc c ds,v=>∃ a,v=.ref a/\((∃ dd,S.G a=some (ExX (.ref (He.ga K (enm c))) dd a)/\((dd=none/\efs c=[]/\ds=[])∨∃ d fs,dd=some d/\S.G d=some (.xd fs)/\fs.map Prod.fst=efs c/\ah K S ds (fs.map Prod.snd)/\efs c≠[])) ∨
  ∃ (c':Nat) (q:Str),c=1000+a/\ds=[.int (c':Int),.str q]/\S.G c'=some (LamX.CodeO c' q))
 | .cell k,v=>∃ a,v=.ref a/\S.C[k]?=some a
 | .scr ns,v=>∃ a,v=.ref a/\SqL K S.G a (ns.map V.int)
 | .dkf ks ds,v=>∃ a od kvs,v=.ref a/\S.G a=some (.frz od (.dK kvs))/\kvs.map Prod.fst=ks/\ah K S ds (kvs.map Prod.snd)
def ah(K:Frg)(S:Gh):List Tr->List V->Prop
 | [],vs=>vs=[]
 | d::ds,vs=>∃ v r,vs=v::r/\Rep K S d v/\ah K S ds r
end
structure Le(S S':Gh):Prop where
 g:∀ a o,S.G a=some o->S'.G a=some o
 c:S.C <+: S'.C
theorem Le.refl(S:Gh):Le S S:=⟨λ_ _ h=>h,aap _⟩
theorem Le.trans{S S1 S2:Gh}(a:Le S S1)(b:Le S1 S2):Le S S2:=⟨λc o h=>b.g c o (a.g c o h),a.c.trans b.c⟩
theorem zf{α:Type}{l r:List α}(h:l <+: r){i:Nat}{x:α}(e:l[i]?=some x):r[i]?=some x:=by obtain⟨t,rfl⟩:=h;rw[eD (bL.mp e).1];exact e
theorem Le.sqT{K:Frg}{S S':Gh}(h:Le S S'){a:Addr}{vs:List V}(e:SqT K S.G a vs):SqT K S'.G a vs:=by
 rcases e with (e|⟨o,e⟩)|e
 ·exact .inl (.inl (h.g _ _ e))
 ·exact .inl (.inr ⟨o,h.g _ _ e⟩)
 ·exact .inr e
theorem Le.sqL{K:Frg}{S S':Gh}(h:Le S S'){a:Addr}{vs:List V}(e:SqL K S.G a vs):SqL K S'.G a vs:=by
 rcases e with (e|⟨o,e⟩)|e
 ·exact .inl (.inl (h.g _ _ e))
 ·exact .inl (.inr ⟨o,h.g _ _ e⟩)
 ·exact .inr e
mutual
theorem Rep.mono{K:Frg}{S S':Gh}(h:Le S S'):∀(d:Tr)(v:V),Rep K S d v->Rep K S' d v
 | .non,v,r=>r
 | .bl b,v,r=>r
 | .int i,v,r=>r
 | .str x,v,r=>r
 | .lst xs,v,r=>by
  simp only[Rep] at r ⊢;obtain⟨a,vs,e,g,q⟩:=r;exact⟨a,vs,e,h.g _ _ g,ah.mono h xs vs q⟩
 | .tup xs,v,r=>by
  simp only[Rep] at r ⊢;obtain⟨a,vs,e,g,q⟩:=r;exact⟨a,vs,e,h.sqT g,ah.mono h xs vs q⟩
 | .dct ks ds,v,r=>by
  simp only[Rep] at r ⊢;obtain⟨a,kvs,e,g,k,q⟩:=r;exact⟨a,kvs,e,h.g _ _ g,k,ah.mono h ds _ q⟩
 | .ins c ds,v,r=>by
  simp only[Rep] at r ⊢;obtain⟨a,dx,fs,e,g,k,q⟩:=r;exact⟨a,dx,fs,e,h.g _ _ g,k,ah.mono h ds _ q⟩
 | .dkf ks ds,v,r=>by
  simp only[Rep] at r ⊢;obtain⟨a,od,kvs,e,g,k,q⟩:=r;exact⟨a,od,kvs,e,h.g _ _ g,k,ah.mono h ds _ q⟩
 | .exc c ds,v,r=>by
  simp only[Rep] at r ⊢;obtain⟨a,e,⟨dd,g,q⟩|⟨c',q,e1,e2,e3⟩⟩:=r
  ·refine⟨a,e,.inl ⟨dd,h.g _ _ g,?_⟩⟩;rcases q with q|⟨d,fs,q1,q2,q3,q4⟩
   ·exact .inl q
   ·exact .inr ⟨d,fs,q1,h.g _ _ q2,q3,ah.mono h ds _ q4.1,q4.2⟩
  ·exact⟨a,e,.inr ⟨c',q,e1,e2,h.g _ _ e3⟩⟩
 | .cell k,v,r=>by
  simp only[Rep] at r ⊢;obtain⟨a,e,q⟩:=r;exact⟨a,e,zf h.c q⟩
 | .scr ns,v,r=>by
  simp only[Rep] at r ⊢;obtain⟨a,e,q⟩:=r;exact⟨a,e,h.sqL q⟩
theorem ah.mono{K:Frg}{S S':Gh}(h:Le S S'):∀(ds:List Tr)(vs:List V),ah K S ds vs->ah K S' ds vs
 | [],vs,r=>r
 | d::ds,vs,r=>by
  simp only[ah] at r ⊢;obtain⟨v,t,e,q1,q2⟩:=r;exact⟨v,t,e,Rep.mono h d v q1,ah.mono h ds t q2⟩
end
section
variable {K:Frg}{S:Gh}
theorem ah.cons{d:Tr}{ds:List Tr}{v:V}{vs:List V}(a:Rep K S d v)(b:ah K S ds vs):ah K S (d::ds) (v::vs):=by simp only[ah];exact⟨v,vs,rfl,a,b⟩
theorem ah.length:∀{ds:List Tr}{vs:List V},ah K S ds vs->ds.length=vs.length
 | [],vs,r=>by simp only[ah] at r;subst r;rfl
 | d::ds,vs,r=>by
  simp only[ah] at r;obtain⟨v,t,rfl,_,q⟩:=r;simp [ah.length q]
theorem ah.get:∀{ds:List Tr}{vs:List V}{i:Nat}{d:Tr},ah K S ds vs->ds[i]?=some d->∃ v,vs[i]?=some v/\Rep K S d v
 | [],vs,i,d,r,e=>by simp at e
 | x::ds,vs,0,d,r,e=>by
  simp only[ah] at r;obtain⟨v,t,rfl,q,_⟩:=r;simp at e;subst e;exact⟨v,rfl,q⟩
 | x::ds,vs,i+1,d,r,e=>by
  simp only[ah] at r;obtain⟨v,t,rfl,_,q⟩:=r;obtain⟨w,e1,e2⟩:=ah.get (i:=i) q (by simpa using e);exact⟨w,by simpa using e1,e2⟩
theorem ah.get'{ds:List Tr}{vs:List V}{i:Nat}{v:V}(r:ah K S ds vs)(e:vs[i]?=some v):∃ d,ds[i]?=some d/\Rep K S d v:=by have hi:=(bL.mp e).1;have hl:=r.length;obtain⟨w,e1,e2⟩:=r.get (i:=i) (d:=ds[i]'(by omega)) (by simp);rw[e] at e1;cases e1;exact⟨_,by simp,e2⟩
theorem ah.append:∀{ds es:List Tr}{vs ws:List V},ah K S ds vs->ah K S es ws->ah K S (ds++es) (vs++ws)
 | [],es,vs,ws,r,q=>by simp only[ah] at r;subst r;exact q
 | d::ds,es,vs,ws,r,q=>by
  simp only[ah] at r;obtain⟨v,t,rfl,h,h2⟩:=r;exact ah.cons h (ah.append h2 q)
theorem ah.take:∀{ds:List Tr}{vs:List V}(n:Nat),ah K S ds vs->ah K S (ds.take n) (vs.take n)
 | _,_,0,_=>by simp [ah]
 | [],vs,n+1,r=>by simp only[ah] at r;subst r;simp [ah]
 | d::ds,vs,n+1,r=>by
  simp only[ah] at r;obtain⟨v,t,rfl,h,h2⟩:=r;exact ah.cons h (ah.take n h2)
theorem ah.drop:∀{ds:List Tr}{vs:List V}(n:Nat),ah K S ds vs->ah K S (ds.drop n) (vs.drop n)
 | _,_,0,r=>r
 | [],vs,n+1,r=>by simp only[ah] at r;subst r;simp [ah]
 | d::ds,vs,n+1,r=>by
  simp only[ah] at r;obtain⟨v,t,rfl,h,h2⟩:=r;exact ah.drop n h2
theorem ah.set:∀{ds:List Tr}{vs:List V}{d:Tr}{v:V}(n:Nat),ah K S ds vs->Rep K S d v->ah K S (ds.set n d) (vs.set n v)
 | [],vs,d,v,n,r,q=>by simp only[ah] at r;subst r;simp [ah]
 | x::ds,vs,d,v,0,r,q=>by
  simp only[ah] at r;obtain⟨w,t,rfl,h,h2⟩:=r;exact ah.cons q h2
 | x::ds,vs,d,v,n+1,r,q=>by
  simp only[ah] at r;obtain⟨w,t,rfl,h,h2⟩:=r;exact ah.cons h (ah.set n h2 q)
theorem ah.replicate{ds:List Tr}{vs:List V}(r:ah K S ds vs):∀ n:Nat,ah K S (bW n ds).flatten (bW n vs).flatten
 | 0=>by simp [ah]
 | n+1=>by
  simp only[i4,aaj];exact r.append (r.replicate n)
end
def HOx:HO->Prop
 | .tbl _=>False
 | .ext _=>False
 | _=>True
def dz(K:Frg)(S:Gh)(H:Hp)(a:Addr):Ce->Prop
 | .dead=>∃ o,H a=some o/\HOx o
 | .lst ds=>S.G a=none/\∃ vs,H a=some (.lst vs)/\ah K S ds vs
 | .dct ks ds=>S.G a=none/\∃ kvs,H a=some (.dK kvs)/\kvs.map Prod.fst=ks/\ah K S ds (kvs.map Prod.snd)
 | .ins c ds=>S.G a=none/\∃ dx fs,H a=some (.ins (He.ga K (cnm c)) dx fs)/\fs.map Prod.fst=(cfs c).take ds.length/\ah K S ds (fs.map Prod.snd)
 | .dkf ks ds=>∃ od kvs,S.G a=some (.frz od (.dK kvs))/\H a=some (.frz od (.dK kvs))/\kvs.map Prod.fst=ks/\ah K S ds (kvs.map Prod.snd)
def LN:List Str:=["law","_law_right","_law_small_right","_law_row_right","_law_joined","_law_lines_right","_law_kept_right","_law_is_right","_law_due","_law_inverses_right","_law_own_right","_law_parted_right"]
def jm(K:Frg)(x:Str):Bool:=match PySem.W.nsIn K mainGlobals x with
 | some (some (.ref _))=>true
 | _=>false
def TBs (K:Frg):List (Addr × Str):=(LN.filter (jm K)).map λx=>((He.cT K (x,none)).2,x++".<locals>.<lambda>")
abbrev TX(K:Frg)(H:Hp):Prop:=LamX.Tabs (TBs K) H
structure C3(K:Frg)(S:Gh)(H:Hp):Prop where
 tabs:TX K H
 nt:∀ a ps,S.G a≠some (.tbl ps)
theorem B9{K:Frg}{H:Hp}{a:Addr}{o o0:HO}(t:TX K H)(e:H a=some o0)(x:HOx o0):TX K (upd H a o):=λp hp=>by
 obtain⟨ps,h1,h2,h3⟩:=t p hp;have n1:p.1≠a:=λz=>by rw[z,e] at h1;cases h1;exact x
 refine⟨ps,by rw[upd_ne n1];exact h1,h2,λpos cv hc=>?_⟩;obtain⟨c,e1,e2⟩:=h3 pos cv hc;have n2:c≠a:=λz=>by rw[z,e] at e2;cases e2;exact x
 exact⟨c,e1,by rw[upd_ne n2];exact e2⟩
theorem uR{K:Frg}{H:Hp}{a:Addr}{o:HO}(t:TX K H)(n:H a=none):TX K (upd H a o):=t.ext λb u e=>by rw[upd_ne (ne_of_none e n)];exact e
theorem HOx.ntb{o:HO}(x:HOx o):∀ ps,o≠.tbl ps:=λps z=>by rw[z] at x;exact x
structure OkH(K:Frg)(S:Gh)(M:Me)(H:Hp):Prop where
 sub:∀ a o,S.G a=some o->H a=some o
 len:S.C.length=M.length
 nd:S.C.Nodup
 cell:∀(k:Nat) a c,S.C[k]?=some a->M[k]?=some c->dz K S H a c
 tb:C3 K S H
structure be(K:Frg)(S:Gh)(ρ:En)(σ:L2.St):Prop where
 len:ρ.length=σ.length
 at_:∀(i:Nat) d,ρ[i]?=some (some d)->∃ v,σ[i]?=some (some v)/\Rep K S d v
def Exc(K:Frg)(S:Gh):Tr->Value->Option Addr->Prop
 | .exc c ds,cls,dd=>cls=.ref (He.ga K (enm c))/\((dd=none/\efs c=[]/\ds=[])∨∃ a fs,dd=some a/\S.G a=some (.xd fs)/\fs.map Prod.fst=efs c/\ah K S ds (fs.map Prod.snd)/\efs c≠[])
 | _,_,_=>False
section
variable {K:Frg}{S S':Gh}{M:Me}{H H':Hp}{ρ:En}{σ:L2.St}
theorem be.mono(h:be K S ρ σ)(l:Le S S'):be K S' ρ σ:=⟨h.len,λi d e=>let ⟨v,a,b⟩:=h.at_ i d e;⟨v,a,Rep.mono l _ _ b⟩⟩
theorem be.set{i:Nat}{d:Tr}{v:V}(h:be K S ρ σ)(r:Rep K S d v):be K S (ρ.set i (some d)) (σ.set i (some v)):=by
 refine⟨by simp [h.len],λj e q=>?_⟩
 by_cases hj:j=i
 ·subst hj;have hi:j < ρ.length:=by
   have:=(bL.mp q).1;simpa using this
  rw[fE hi] at q;cases q;exact⟨v,by rw[fE (by rw[<- h.len];exact hi)],r⟩
 ·rw[eQ (Ne.symm hj)] at q;obtain⟨w,e1,e2⟩:=h.at_ j e q;exact⟨w,by rw[eQ (Ne.symm hj)];exact e1,e2⟩
theorem dz.mono{a:Addr}{c:Ce}(q:dz K S H a c)(l:Le S S')(hg:S'.G a=S.G a)(hs:∀ o,H a=some o->H' a=some o):dz K S' H' a c:=by
 cases c with
 | dead=>obtain⟨o,e,x⟩:=q;exact⟨o,hs _ e,x⟩
 | lst ds=>obtain⟨g,vs,e,r⟩:=q;exact⟨hg.trans g,vs,hs _ e,ah.mono l _ _ r⟩
 | dct ks ds=>obtain⟨g,kvs,e,k,r⟩:=q;exact⟨hg.trans g,kvs,hs _ e,k,ah.mono l _ _ r⟩
 | ins c ds=>obtain⟨g,dx,fs,e,k,r⟩:=q;exact⟨hg.trans g,dx,fs,hs _ e,k,ah.mono l _ _ r⟩
 | dkf ks ds=>obtain⟨od,kvs,g,e,k,r⟩:=q;exact⟨od,kvs,hg.trans g,hs _ e,k,ah.mono l _ _ r⟩
theorem fy{p:Addr}{o:HO}(n:H p=none):Same H (upd H p o):=λb u e=>by rw[upd_ne (ne_of_none e n)];exact e
theorem n9{G:Hp}{p:Addr}{o:HO}(h:∀ a ps,G a≠some (.tbl ps))(ho:∀ ps,o≠.tbl ps):∀ a ps,upd G p o a≠some (.tbl ps):=λa ps e=>by
 by_cases z:a=p
 ·rw[z,upd_same] at e;exact ho ps (Option.some.inj e)
 ·rw[upd_ne z] at e;exact h a ps e
end
def NX(H:Hp)(a:Addr):Prop:=∀ u,H a=some u->¬ HOx u
theorem NX.of{H:Hp}{a:Addr}(e:H a=none):NX H a:=λu z=>by rw[e] at z;cases z
theorem NX.no{H:Hp}{a:Addr}{o:HO}(n:NX H a)(e:H a=some o)(x:HOx o):False:=n o e x
def NT(H:Hp)(a:Addr):Prop:=∀ u,H a=some u->∃ ps,u=.tbl ps
theorem NT.of{H:Hp}{a:Addr}(e:H a=none):NT H a:=λu z=>by rw[e] at z;cases z
theorem NT.nx{H:Hp}{a:Addr}(n:NT H a):NX H a:=λu e x=>by obtain⟨ps,rfl⟩:=n u e;exact x
theorem NT.no{H:Hp}{a:Addr}{o:HO}(n:NT H a)(e:H a=some o)(h:∀ ps,o≠.tbl ps:=by nofun):False:=by obtain⟨ps,z⟩:=n o e;exact h ps z
structure Gr(S:Gh)(H:Hp)(S':Gh)(H':Hp):Prop where
 le:Le S S'
 new:∀ a,a∈S'.C->a∉S.C->NT H a
 keep:∀ a o,H a=some o->(∀ ps,o≠.tbl ps)->a∉S.C->H' a=some o
 fz:∀ a,S.G a=none->S'.G a≠none->NX H a∨a∈S.C
theorem Gr.nx{S S':Gh}{H H':Hp}(g:Gr S H S' H'){a:Addr}(n:a∉S.C)(h:NX H' a):NX H a:=λu e x=>h u (g.keep a u e x.ntb n) x
theorem Gr.refl(S:Gh)(H:Hp):Gr S H S H:=⟨Le.refl S,λ_ a b=>absurd a b,λ_ o e _ _=>e,λ_ a b=>absurd a b⟩
theorem Gr.trans{S S1 S2:Gh}{H H1 H2:Hp}(a:Gr S H S1 H1)(b:Gr S1 H1 S2 H2):Gr S H S2 H2:=by
 refine⟨a.le.trans b.le,λx h1 h2=>?_,λx o h1 hn h2=>?_,λx h1 h2=>?_⟩
 ·by_cases h3:x∈S1.C
  ·exact a.new x h3 h2
  ·intro u e;exact Classical.byContradiction λhu=>(b.new x h1 h3).no (a.keep x u e (λps z=>hu ⟨ps,z⟩) h2) (λps z=>hu ⟨ps,z⟩)
 ·by_cases h3:x∈S1.C
  ·exact((a.new x h3 h2).no h1 hn).elim
  ·exact b.keep x o (a.keep x o h1 hn h2) hn h3
 ·by_cases hc:x∈S.C
  ·exact .inr hc
  ·by_cases h3:S1.G x=none
   ·left
    rcases b.fz x h3 h2 with h|h
    ·exact a.nx hc h
    ·exact(a.new x h hc).nx
   ·exact a.fz x h1 h3
theorem OkH.other{K:Frg}{S:Gh}{M:Me}{H:Hp}{p:Addr}{o:HO}(h:OkH K S M H)(g:S.G p=none)(c:p∉S.C)(hp:H p=none∨∃ o0,H p=some o0/\HOx o0):OkH K S M (upd H p o):=by
 refine⟨λa u e=>?_,h.len,h.nd,λk a ce e1 e2=>?_,⟨hp.elim (λe=>uR h.tb.tabs e) (λ⟨o0,e1,e2⟩=>B9 h.tb.tabs e1 e2),h.tb.nt⟩⟩
 ·have ha:a≠p:=λz=>by rw[z,g] at e;cases e
  rw[upd_ne ha];exact h.sub a u e
 ·have ha:a≠p:=λz=>c (z ▸ eR.mpr ⟨k,e1⟩);exact(h.cell k a ce e1 e2).mono (Le.refl S) rfl λu e=>by rw[upd_ne ha];exact e
theorem OkH.drop{K:Frg}{S:Gh}{M:Me}{H:Hp}(h:OkH K S M H)(n:Nat):(∀(k:Nat) a c,k < n->S.C[k]?=some a->M[k]?=some c->dz K ⟨S.G,S.C.take n⟩ H a c)->OkH K ⟨S.G,S.C.take n⟩ (M.take n) H:=λhc =>
 ⟨h.sub,by simp [h.len],h.nd.sublist (aak _ _),λk a c e1 e2=>by
  have hk:k < n:=by have:=(bL.mp e1).1;have:k < (S.C.take n).length:=this;rw[gF] at this;omega
  rw[show (⟨S.G,S.C.take n⟩:Gh).C[k]?=(S.C.take n)[k]? from rfl,h8 hk] at e1;rw[h8 hk] at e2;exact hc k a c hk e1 e2,⟨h.tb.tabs,h.tb.nt⟩⟩
abbrev TK:=Tr->Me->Prop
structure Rd(α:Type) where
 f:En->Me->(α->Me->Prop)->TK->Prop
 mono:∀{ρ:En}{M:Me} {Q Q':α->Me->Prop} {E E':TK},(∀ a M,Q a M->Q' a M)->(∀ d M,E d M->E' d M)->f ρ M Q E->f ρ M Q' E'
structure Fin where
 nx:En->Me->Prop
 rt:TK
 bk:En->Me->Prop:=λ_ _=>False
 ct:En->Me->Prop:=λ_ _=>False
 er:En->Tr->Me->Prop
structure Fin.Le(D D':Fin):Prop where
 nx:∀ ρ M,D.nx ρ M->D'.nx ρ M
 rt:∀ d M,D.rt d M->D'.rt d M
 bk:∀ ρ M,D.bk ρ M->D'.bk ρ M
 ct:∀ ρ M,D.ct ρ M->D'.ct ρ M
 er:∀ ρ d M,D.er ρ d M->D'.er ρ d M
theorem Fin.Le.refl(D:Fin):Fin.Le D D:=⟨λ_ _ h=>h,λ_ _ h=>h,λ_ _ h=>h,λ_ _ h=>h,λ_ _ _ h=>h⟩
structure Sr where
 f:Fin->En->Me->Prop
 mono:∀ {D D':Fin} {ρ:En} {M:Me},Fin.Le D D'->f D ρ M->f D' ρ M
section
variable (K:Frg)(W:WX)
def fj(S:Gh)(H:Hp)(σ:L2.St)(E:TK):Prop:=∀ d M S' H' cls dd,Gr S H S' H'->OkH K S' M H'->Exc K S' d cls dd->E d M->W cls dd σ H'
def bO(t:Rd Tr):TE:=λσ H Q=>∃ ρ M S E,OkH K S M H/\be K S ρ σ/\fj K W S H σ E/\t.f ρ M (λd M'=>∀ v H' S',Gr S H S' H'->OkH K S' M' H'->Rep K S' d v->Q v H') E
structure gc(S:Gh)(H:Hp)(D:Ends)(F:Fin):Prop where
 nx:∀ ρ M S' σ H',Gr S H S' H'->OkH K S' M H'->be K S' ρ σ->F.nx ρ M->D.nx σ H'
 rt:∀ d M S' v H',Gr S H S' H'->OkH K S' M H'->Rep K S' d v->F.rt d M->D.rt v H'
 bk:∀ ρ M S' σ H',Gr S H S' H'->OkH K S' M H'->be K S' ρ σ->F.bk ρ M->D.bk σ H'
 ct:∀ ρ M S' σ H',Gr S H S' H'->OkH K S' M H'->be K S' ρ σ->F.ct ρ M->D.ct σ H'
 er:∀ ρ d M S' σ H' cls dd,Gr S H S' H'->OkH K S' M H'->be K S' ρ σ->Exc K S' d cls dd->F.er ρ d M->W cls dd σ H'
end
theorem fj.mono{K:Frg}{W:WX}{S S':Gh}{H H':Hp}{σ:L2.St}{E:TK}(h:fj K W S H σ E)(l:Gr S H S' H'):fj K W S' H' σ E:=λd M S2 H2 cls dd l2 o x e=>h d M S2 H2 cls dd (l.trans l2) o x e
theorem gc.mono{K:Frg}{W:WX}{S S':Gh}{H H':Hp}{D:Ends}{F:Fin}(h:gc K W S H D F)(l:Gr S H S' H'):gc K W S' H' D F :=
 ⟨λρ M S2 σ H l2=>h.nx ρ M S2 σ H (l.trans l2),λd M S2 v H l2=>h.rt d M S2 v H (l.trans l2),λρ M S2 σ H l2=>h.bk ρ M S2 σ H (l.trans l2),λρ M S2 σ H l2=>h.ct ρ M S2 σ H (l.trans l2),
  λρ d M S2 σ H cls dd l2=>h.er ρ d M S2 σ H cls dd (l.trans l2)⟩
abbrev PD(X:Cx)(W:WX)(e:Expr)(t:Rd Tr):Prop:=PE X e (bO X.K W t)
section
variable {X:Cx}{e:Expr}{es:List Expr}{st:Stmt}{sts:List Stmt}
theorem bA{t t':TE}(p:PE X e t)(h:∀ σ H Q,t' σ H Q->t σ H Q):PE X e t':=⟨λpins s σ H Q I q=>p.run pins s σ H Q I (h σ H Q q)⟩
end
def au{α:Type}(o:Option α)(k:α->Prop):Prop:=match o with
 | some z=>k z
 | none=>False
theorem cm{α:Type}{o:Option α}{k k':α->Prop}(h:∀ z,k z->k' z)(q:au o k):au o k':=by
 cases o with
 | none=>exact q
 | some z=>exact h z q
def aa(i:Nat):Rd Tr:=⟨λρ M Q _=>match ρ[i]? with
 | some (some d)=>Q d M
 | _=>False,λ{ρ M Q Q' E E'} h _ q=>by
  split at q
  ·exact h _ _ q
  ·exact q.elim⟩
section
variable {X:Cx}{W:WX}{pos:Pos}
theorem IU{i:Nat}{x:Str}(p:PE X (.Name x pos) (tVar i)):PD X W (.Name x pos) (aa i):=by
 refine bA p λσ H Q h=>?_;obtain⟨ρ,M,S,E,o,s,_,q⟩:=h;have q':(match ρ[i]? with
  | some (some d)=>(λd M'=>∀ v H' S',Gr S H S' H'->OkH X.K S' M' H'->Rep X.K S' d v->Q v H') d M
  | _=>False):=q
 split at q'
 ·rename_i d e;obtain⟨v,e1,r⟩:=s.at_ i d e;exact⟨v,e1,q' v H S (Gr.refl S H) o r⟩
 ·exact q'.elim
end
abbrev F2:=Me->Tr->Tr->Option Tr
section
variable {X:Cx}{W:WX}{pos:Pos}{a b c:Expr}{ta tb tc:Rd Tr}{f g:F2}
def am(t:Rd Tr):Rd Bool:=⟨λρ M Q E=>t.f ρ M (λd M1=>match d with
 | .bl b=>Q b M1
 | _=>False) E,λ{ρ M Q Q' E E'} h h' q=>t.mono (λd M1 z=>by
  split at z
  ·exact h _ _ z
  ·exact z.elim) h' q⟩
variable {tA tB:Rd Bool}{rest:List Expr}
def ac(t:Rd Tr)(u:Rd (List Tr)):Rd (List Tr):=⟨λρ M Q E=>t.f ρ M (λd M1=>u.f ρ M1 (λds M2=>Q (d::ds) M2) E) E,λh h' q=>t.mono (λd M1 z=>u.mono (λds M2 z2=>h _ _ z2) h' z) h' q⟩
variable {e:Expr}{es:List Expr}{t:Rd Tr}{u:Rd (List Tr)}
def big:Nat:=16777216
def aI(u:Rd (List Tr)):Rd Tr:=⟨λρ M Q E=>u.f ρ M (λds M1=>ds.length<=big/\Q (.lst ds) M1) E,λh h' q=>u.mono (λds M1 z=>⟨z.1,h _ _ z.2⟩) h' q⟩
def fH(u:Rd (List Tr)):Rd Tr:=⟨λρ M Q E=>u.f ρ M (λds M1=>ds.length<=big/\Q (.tup ds) M1) E,λh h' q=>u.mono (λds M1 z=>⟨z.1,h _ _ z.2⟩) h' q⟩
end
section
variable {K:Frg}{S:Gh}{M:Me}{H:Hp}{d:Tr}{v:V}{xs:List Tr}
theorem OkH.sqT(o:OkH K S M H){a:Addr}{vs:List V}(e:SqT K S.G a vs):SqT K H a vs:=by
 rcases e with (e|⟨u,e⟩)|e
 ·exact .inl (.inl (o.sub _ _ e))
 ·exact .inl (.inr ⟨u,o.sub _ _ e⟩)
 ·exact .inr e
theorem OkH.sqL(o:OkH K S M H){a:Addr}{vs:List V}(e:SqL K S.G a vs):SqL K H a vs:=by
 rcases e with (e|⟨u,e⟩)|e
 ·exact .inl (.inl (o.sub _ _ e))
 ·exact .inl (.inr ⟨u,o.sub _ _ e⟩)
 ·exact .inr e
end
mutual
def pyd:Tr->Option PyData
 | .non=>some .none
 | .bl b=>some (.bool b)
 | .int i=>some (.int i)
 | .str x=>some (.str x)
 | .lst xs=>(dJ xs).map .list
 | .tup xs=>(dJ xs).map .tuple
 | _=>none
def dJ:List Tr->Option (List PyData)
 | []=>some []
 | d::ds=>match pyd d,dJ ds with
  | some p,some ps=>some (p::ps)
  | _,_=>none
end
section
variable {X:Cx}{W:WX}{pos:Pos}
variable {a b c e:Expr}{es:List Expr}{ta tb tc t:Rd Tr}{u:Rd (List Tr)}
abbrev FA:=Me->List Tr->Option (Tr × Me)
def aB(f:FA)(u:Rd (List Tr)):Rd Tr:=⟨λρ M Q E=>u.f ρ M (λds M1=>au (f M1 ds) λz=>Q z.1 z.2) E,λh h' q=>u.mono (λds M1=>cm λz=>h z.1 z.2) h' q⟩
variable {x:Str}{p:Pos}{id:String}{f:FA}
end
def cX(t:Rd Tr):Sr:=⟨λF ρ M=>t.f ρ M (λ_ M1=>F.nx ρ M1) (F.er ρ),λh q=>t.mono (λ_ M z=>h.nx _ M z) (λd M z=>h.er _ d M z) q⟩
section
variable {X:Cx}{W:WX}{pos:Pos}{e:Expr}{st:Stmt}{rest a b:List Stmt}{t:Rd Tr}{c:Rd Bool}{u v:Sr}{K:Frg}
structure ig(K:Frg)(J:It)(xs:List Tr)(S:Gh)(H0:Hp):Prop where
 go:∀(i:Nat) S2 M2 H,Le S S2->OkH K S2 M2 H->i < xs.length->J.go i H
 yld:∀(i:Nat) S2 M2 H x H2,Le S S2->OkH K S2 M2 H->i < xs.length->J.yld i H x H2->∃ S3 d,xs[i]?=some d/\Gr S2 H S3 H2/\OkH K S3 M2 H2/\Rep K S3 d x
 stop:∀ S2 M2 H,Le S S2->OkH K S2 M2 H->J.stop xs.length H
end
structure Sf where
 f:List Tr->Me->TK->TK->Prop
 mono:∀{ds:List Tr}{M:Me} {Q Q' E E':TK},(∀ d M,Q d M->Q' d M)->(∀ d M,E d M->E' d M)->f ds M Q E->f ds M Q' E'
def liftF(K:Frg)(sp:Sf)(n:Nat):Sp:=λvs H Q E=>vs.length=n/\∃ ds M S,OkH K S M H/\ah K S ds vs /\
 sp.f ds M (λr M'=>∀ v H' S',Gr S H S' H'->OkH K S' M' H'->Rep K S' r v->Q v H') (λe M'=>∀ cls dd H' S',Gr S H S' H'->OkH K S' M' H'->Exc K S' e cls dd->E cls dd H')
section
variable {P:Program}{w:World}{K:Frg}{mg:Str->Option Value}{base:Heap}
variable {x qual:Str}{params:Arguments}{body:List Stmt}{scope:Scope}{dvs:List V}{kws:List (Str × V)}{f:Addr}{fd:FuncData}
def Gd(base:Heap)(A:Around):Prop:=A.guards=some []/\∃ o,base.get? sysModules=some o
structure cc(g:Bool)(P:Program)(w:World)(K:Frg)(mg:Str->Option Value)(base:Heap)(CX:CXT)(k:Nat)(f:Addr)(fd:FuncData)(ps:List Str)(sp:Sp):Prop where
 len:∀ vs H Q E,sp vs H Q E->vs.length=ps.length
 run:∀(A:Around)(outer:List Env)(s:Shared)(H:Hp)(args:Args)(us:List Value)(vs:List V)(Q:VK)(E:XK),Room k A->(g=true->Gd base A)->Env0 P w K mg base A outer s H->BindsTo s fd args (ps.zip us)->Vals vs us->sp vs H Q E ->
  codeAny (model P w) A (.call (.ref f) args) (CR CX outer P w H s Q E) s
theorem cc.ok{CX:CXT}{k:Nat}{ps:List Str}{sp:Sp}(F:cc false P w K mg base CX k f fd ps sp):FnOk P w K mg base CX k f fd ps sp :=
 ⟨F.len,λA outer s H args us vs Q E hr=>F.run A outer s H args us vs Q E hr (λz=>nomatch z)⟩
theorem cc.mono{g g':Bool}{CX:CXT}{j k:Nat}{ps:List Str}{sp:Sp}(F:cc g P w K mg base CX j f fd ps sp)(h:j<=k)(hg:g=true->g'=true):cc g' P w K mg base CX k f fd ps sp :=
 ⟨F.len,λA outer s H args us vs Q E hr hd=>F.run A outer s H args us vs Q E (hr.mono h) λz=>hd (hg z)⟩
end
structure Fn(g:Bool)(P:Program)(w:World)(K:Frg)(mg:Str->Option Value)(base:Heap)(x:Str)(k n:Nat)(dds:List Tr)(sp:Sf):Prop where
 ex:∃(f:Addr)(fd:FuncData)(ps:List Str)(ds:List Value)(dvs:List V),cc g P w K mg base (L2.CX P w) k f fd ps (liftF K sp n)/\mg x=some (.ref f)/\PySem.W.keepIn K (.ref f)=true/\Binds K fd ps ds/\Vals dvs ds/\∀ S,ah K S dds dvs
section
variable {X:Cx}{W:WX}{x:Str}{k n:Nat}{dds:List Tr}{sp:Sf}{p pos:Pos}{e:Expr}{es:List Expr}{u:Rd (List Tr)}
structure Mkr(P:Program)(w:World)(K:Frg)(mg:Str->Option Value)(base:Heap)(x:Str)(c k n:Nat)(dds:List Tr)(sp:Sf):Prop where
 nm:x=cnm c
 ex:∃(f:Addr)(fd:FuncData)(ps:List Str)(ds:List Value)(dvs:List V),Mk K (He.ga K x) f/\FnOk P w K mg base (L2.CX P w) k f fd ps (liftF K sp (n+1))/\mg x=some (.ref (He.ga K x))/\Binds K fd ps ds/\Vals dvs ds/\∀ S,ah K S dds dvs
end
def gn:Tr->Option Key
 | .int i=>some (.inl i)
 | .str x=>some (.inr x)
 | _=>none
def fL:List Key->List Tr->Key->Option Tr
 | a::ks,d::ds,k=>if a=k then some d else fL ks ds k
 | _,_,_=>none
section
variable {K:Frg}{S:Gh}
def jd(M:Me):Tr->Option (List Key × List Tr)
 | .dct ks ds=>some (ks,ds)
 | .dkf ks ds=>some (ks,ds)
 | .cell k=>(match M[k]? with
  | some (.dct ks ds)=>some (ks,ds)
  | some (.dkf ks ds)=>some (ks,ds)
  | _=>none)
 | _=>none
def dj:F2:=λM d e=>(jd M d).bind λp=>(gn e).bind λk=>fL p.1 p.2 k
section
variable {X:Cx}{W:WX}{pos pos' cpos apos:Pos}{o i e f value:Expr}{t u x:Rd Tr}
variable {keys:List (Option Expr)}{values:List Expr}{ps:List (Rd Tr × Rd Tr)}
def Ed:Rd Tr:=⟨λ_ M Q _=>Q (.dct [] []) M,λh _ q=>h _ _ q⟩
end
end
def jp:Key->PyData
 | .inl i=>.int i
 | .inr x=>.str x
mutual
def rpd:Tr->Option PyData
 | .non=>some .none
 | .bl b=>some (.bool b)
 | .int i=>some (.int i)
 | .str x=>some (.str x)
 | .lst xs=>(g7 xs).map .list
 | .tup xs=>(g7 xs).map .tuple
 | .dct ks ds=>(g7 ds).map λps=>.dict ((ks.map jp).zip ps)
 | _=>none
def g7:List Tr->Option (List PyData)
 | []=>some []
 | d::ds=>match rpd d,g7 ds with
  | some p,some ps=>some (p::ps)
  | _,_=>none
end
inductive TyG where
 | b (n:String)
 | own (c:Nat)
 deriving DecidableEq
def TyG.val(K:Frg):TyG->Value
 | .b n=>.type n
 | .own c=>.ref (He.ga K (cnm c))
def TyG.vv(K:Frg):TyG->V
 | .b n=>.ty n
 | .own c=>.ref (He.ga K (cnm c))
theorem TyG.cls{K:Frg}:∀ g:TyG,ClsV (g.vv K) (g.val K)
 | .b n=>.ty n
 | .own c=>.own _
def isa (g c:TyG):Bool:=decide (g=c)||(decide (g=.b "bool")&&decide (c=.b "int"))
def cP (cl:List Nat):List TyG:=[.b "NoneType",.b "bool",.b "int",.b "str",.b "list",.b "tuple",.b "dict"]++cl.map .own
structure vp(K:Frg)(C:Addr):Prop where
 cl:Cls K C
 ha:PySem.W.findIn K (.ref C) "__class__"=some (some (.builtin "object.__class__"))
 hn:PySem.W.specialIn K (.builtin "object.__class__") "__get__"=some (some (.builtin "getset_descriptor.__get__"))
 ht:PySem.W.takesIn K (.builtin "object.__class__")=some true
 hm:PySem.W.mroIn K C (.type "object")=some true
structure dD(K:Frg)(cl:List Nat):Prop where
 ins:∀ c∈cl,vp K (He.ga K (cnm c))
 kit:∀ g∈cP cl,∀ c∈cP cl,PySem.W.kitOne K (g.val K) (c.val K)=some (isa g c)
section
open RZ
open PySem.Sem (wp)
structure ri(lim:Addr)(xs ys:Array Value)(Ts:List Addr)(h:Heap):Prop where
 up:Ts.Pairwise (·< ·)
 lo:∀ T∈Ts,lim<=T
 hi:∀ T∈Ts,T < h.objs.size
 at_:∀(j:Nat) T,Ts[j]?=some T->∃ x y,xs[j]?=some x/\ys[j]?=some y/\IsPair h T x y
theorem ri.keep{lim:Addr}{xs ys:Array Value}{Ts:List Addr}{h h':Heap}(o:ri lim xs ys Ts h)(k:∀ b u,lim<=b->h.get? b=some u->h'.get? b=some u):ri lim xs ys Ts h':=by
 refine⟨o.up,o.lo,λT hT=>?_,λj T e=>?_⟩
 ·obtain⟨j,hj⟩:=eR.mp hT;obtain⟨x,y,_,_,p⟩:=o.at_ j T hj;exact Heap.lt_size (k T _ (o.lo T hT) p)
 ·obtain⟨x,y,e1,e2,p⟩:=o.at_ j T e;exact⟨x,y,e1,e2,k T _ (o.lo T (f7 e)) p⟩
end
section
open RZ
open PySem.Sem (wp)
theorem OkH.view{K:Frg}{S:Gh}{M:Me}{H:Hp}{a:Addr}{o:HO}(h:OkH K S M H)(e:H a=some o)(g:S.G a=none)(c:a∉S.C)(ho:∀ ps,o≠.tbl ps:=by nofun):OkH K ⟨upd S.G a o,S.C⟩ M H/\Le S ⟨upd S.G a o,S.C⟩:=by
 have l:Le S ⟨upd S.G a o,S.C⟩:=⟨fy g,aap _⟩
 refine⟨⟨λb u f=>?_,h.len,h.nd,λj b c'' f1 f2=>?_,⟨h.tb.tabs,n9 h.tb.nt ho⟩⟩,l⟩
 ·by_cases hb:b=a
  ·subst hb;rw[show (⟨upd S.G b o,S.C⟩:Gh).G b=some o from upd_same] at f;cases f;exact e
  ·rw[show (⟨upd S.G a o,S.C⟩:Gh).G b=S.G b from upd_ne hb] at f;exact h.sub b u f
 ·have hb:b≠a:=λz=>c (z ▸ eR.mpr ⟨j,f1⟩);exact(h.cell j b c'' f1 f2).mono l (upd_ne hb) λ_ z=>z
end
section
variable {X:Cx}{W:WX}{pos:Pos}{K:Frg}
def bI:Tr->Bool
 | .non=>true
 | .bl _=>true
 | .int _=>true
 | .str _=>true
 | _=>false
end
def kN(j:Nat)(d:Tr):Tr->Tr
 | .cell i=>if i=j then d else .cell i
 | e=>e
def Kt(j:Nat)(d:Tr):Ce->Ce
 | .dead=>.dead
 | .lst xs=>.lst (xs.map (kN j d))
 | .dct ks xs=>.dct ks (xs.map (kN j d))
 | .ins c xs=>.ins c (xs.map (kN j d))
 | .dkf ks xs=>.dkf ks (xs.map (kN j d))
section
variable {K:Frg}{S:Gh}{M:Me}{H:Hp}{j:Nat}{d:Tr}
theorem JA(h:∀ v,Rep K S (.cell j) v->Rep K S d v){e:Tr}{v:V}(r:Rep K S e v):Rep K S (kN j d e) v:=by
 cases e with
 | cell i =>
  show Rep K S (if i=j then d else .cell i) v
  by_cases hi:i=j
  ·subst hi;rw[if_pos rfl];exact h v r
  ·rw[if_neg hi];exact r
 | _=>exact r
theorem lK(h:∀ v,Rep K S (.cell j) v->Rep K S d v):∀{ds:List Tr}{vs:List V},ah K S ds vs->ah K S (ds.map (kN j d)) vs
 | [],vs,r=>r
 | e::ds,vs,r=>by
  simp only[ah] at r;obtain⟨v,t,rfl,h1,h2⟩:=r;exact ah.cons (JA h h1) (lK h h2)
theorem OkH.subst(o:OkH K S M H)(h:∀ v,Rep K S (.cell j) v->Rep K S d v):OkH K S (M.map (Kt j d)) H:=by
 refine⟨o.sub,by rw[cj];exact o.len,o.nd,λk a c h1 h2=>?_,o.tb⟩;rw[gB] at h2;obtain⟨c0,e0,rfl⟩:=bz.mp h2;have q:=o.cell k a c0 h1 e0;cases c0 with
 | dead=>exact q
 | lst xs =>
  obtain⟨g,vs,e,r⟩:=q;exact⟨g,vs,e,lK h r⟩
 | dct ks xs =>
  obtain⟨g,kvs,e,ek,r⟩:=q;exact⟨g,kvs,e,ek,lK h r⟩
 | dkf ks xs =>
  obtain⟨od,kvs,g,e,ek,r⟩:=q;exact⟨od,kvs,g,e,ek,lK h r⟩
 | ins c xs =>
  obtain⟨g,dx,fs,e,ek,r⟩:=q;exact⟨g,dx,fs,e,by rw[cj];exact ek,lK h r⟩
end
def vn:Option HO->Prop
 | some (.dK _)=>True
 | some (.frz _ (.dK _))=>True
 | _=>False
structure jQ(d:Addr)(G G':Hp):Prop where
 ne:∀ a,a≠d->G' a=G a
 at_:vn (G d)
section
variable {K:Frg}{C:List Addr}{G G':Hp}{d:Addr}
theorem jQ.get{a:Addr}{o:HO}(w:jQ d G G')(h:G a=some o)(n:¬ vn (some o)):G' a=some o:=by
 by_cases e:a=d
 ·subst e;have:=w.at_;rw[h] at this;exact(n this).elim
 ·rw[w.ne a e];exact h
theorem jQ.sqT{a:Addr}{vs:List V}(w:jQ d G G')(h:SqT K G a vs):SqT K G' a vs:=by
 rcases h with (h|⟨o,h⟩)|h
 ·exact .inl (.inl (w.get h (λz=>z)))
 ·exact .inl (.inr ⟨o,w.get h (λz=>z)⟩)
 ·exact .inr h
theorem jQ.sqL{a:Addr}{vs:List V}(w:jQ d G G')(h:SqL K G a vs):SqL K G' a vs:=by
 rcases h with (h|⟨o,h⟩)|h
 ·exact .inl (.inl (w.get h (λz=>z)))
 ·exact .inl (.inr ⟨o,w.get h (λz=>z)⟩)
 ·exact .inr h
end
def G3(c:Nat)(xs:List Tr):Bool:=decide (xs.length=(cfs c).length)&&(decide (c≠2)||xs.all λd=>match d with
 | .non=>true
 | .int _=>true
 | .str w=>PyData.strOk w
 | _=>false)
mutual
def plT(cl:List Nat):Tr->Bool
 | .non=>true
 | .bl _=>true
 | .int _=>true
 | .str _=>true
 | .lst xs=>ly cl xs
 | .tup xs=>ly cl xs
 | .dct _ xs=>ly cl xs
 | .ins c xs=>(decide (c∈cl)&&G3 c xs)&&ly cl xs
 | _=>false
def ly(cl:List Nat):List Tr->Bool
 | []=>true
 | d::ds=>plT cl d&&ly cl ds
end
def vE:List (Option Bool)->Option Bool
 | []=>some true
 | none::_=>none
 | some b::r=>(vE r).map (b&&·)
def vF:List (Option Bool)->Option Bool
 | []=>some true
 | none::_=>none
 | some false::_=>some false
 | some true::r=>vF r
def tyP:Tr->Option TyG
 | .non=>some (.b "NoneType")
 | .bl _=>some (.b "bool")
 | .int _=>some (.b "int")
 | .str _=>some (.b "str")
 | .lst _=>some (.b "list")
 | .tup _=>some (.b "tuple")
 | .dct _ _=>some (.b "dict")
 | .ins c _=>some (.own c)
 | _=>none
def eqF:Nat->Tr->Tr->Option Bool
 | 0,_,_=>none
 | n+1,d,e=>match pyd d,pyd e with
  | some p,some q=>if SeqAt.shaped p&&SeqAt.shaped q then some (PyData.eqv p q) else none
  | _,_=>match d,e with
   | .tup xs,.tup ys=>(vE (List.zipWith (eqF n) xs ys)).map (·&&decide (xs.length=ys.length))
   | .ins c xs,.ins c' ys=>if c=c' then (if xs.length=ys.length then vF (List.zipWith (eqF n) xs ys) else none) else some false
   | .ins _ _,e=>if (tyP e).isSome then some false else none
   | _,_=>none
abbrev lv(m:Nat):Nat:=2 * m+12
def Ka(oc:List Nat)(m c:Nat):Sf:=⟨λds M Q _=>∃ xs e b,ds=[.ins c xs,e]/\plT oc (.ins c xs)=true/\plT oc e=true/\eqF (m+1) (.ins c xs) e=some b/\Q (.bl b) M,
 λh _ ⟨xs,e,b,a1,a2,a3,a4,q⟩=>⟨xs,e,b,a1,a2,a3,a4,h _ _ q⟩⟩
structure EqC(P:Program)(w:World)(K:Frg)(mg:Str->Option Value)(base:Heap)(k c:Nat)(sp:Sf):Prop where
 ex:∃ f fd ps,FnOk P w K mg base (L2.CX P w) k f fd ps (liftF K sp 2)/\PySem.W.findIn K (.ref (He.ga K (cnm c))) "__eq__"=some (some (.ref f))/\PySem.W.isFn K (.ref f)=true/\L2.Binds K fd ps []
structure EqK(K:Frg)(oc:List Nat):Prop where
 dist:∀ c∈oc,∀ c'∈oc,He.ga K (cnm c)=He.ga K (cnm c')->c=c'
 nf:∀ c∈oc,∀ g∈cP oc,PySem.W.notFirst K (He.ga K (cnm c)) (g.val K)=true
 ne:∀ c∈oc,PySem.W.findIn K (.ref (He.ga K (cnm c))) "__ne__"=some (some (.builtin "object.__ne__"))
structure qj(P:Program)(w:World)(K:Frg)(mg:Str->Option Value)(base:Heap)(oc:List Nat)(n:Nat):Prop where
 isa:dD K oc
 k:EqK K oc
 cls:∀ m,m < n->∀ c∈oc,EqC P w K mg base (lv m+1) c (Ka oc m c)
theorem qj.mono{P:Program}{w:World}{K:Frg}{mg:Str->Option Value}{base:Heap}{oc:List Nat}{n m:Nat}(F:qj P w K mg base oc n)(h:m<=n):qj P w K mg base oc m:=⟨F.isa,F.k,λj hj=>F.cls j (by omega)⟩
structure Ex(K:Frg)(H H':Hp):Prop where
 g:LamX.ExtN H H'
 t:TX K H->TX K H'
theorem Ex.trans{K:Frg}{H H1 H2:Hp}(a:Ex K H H1)(b:Ex K H1 H2):Ex K H H2:=⟨a.g.trans b.g,λt=>b.t (a.t t)⟩
theorem Ex.keep{K:Frg}{H H':Hp}(x:Ex K H H'){a:Addr}{o:HO}(e:H a=some o)(n:∀ ps,o≠.tbl ps:=by nofun):H' a=some o:=x.g a o e n
structure Fz(K:Frg)(G H:Hp):Prop where
 sub:∀ a o,G a=some o->H a=some o
 nt:∀ a ps,G a≠some (.tbl ps)
 tb:TX K H
theorem Fz.ex{K:Frg}{G H H':Hp}(f:Fz K G H)(x:Ex K H H'):Fz K G H':=⟨λa o e=>x.keep (f.sub a o e) (λps z=>f.nt a ps (by rw[e,z])),f.nt,x.t f.tb⟩
theorem OkH.fz{K:Frg}{S:Gh}{M:Me}{H:Hp}(o:OkH K S M H):Fz K S.G H:=⟨o.sub,o.tb.nt,o.tb.tabs⟩
theorem Fz.ok{K:Frg}{G H:Hp}(f:Fz K G H):OkH K ⟨G,[]⟩ [] H:=⟨f.sub,rfl,List.nodup_nil,λk a c e=>by simp at e,⟨f.tb,f.nt⟩⟩
theorem OkH.ex{K:Frg}{S:Gh}{M:Me}{H H':Hp}(o:OkH K S M H)(x:Ex K H H'):OkH K S M H':=by
 refine⟨(o.fz.ex x).sub,o.len,o.nd,λk a c e1 e2=>?_,⟨x.t o.tb.tabs,o.tb.nt⟩⟩;have z:=o.cell k a c e1 e2;cases c with
 | dead=>obtain⟨u,e,w⟩:=z;exact⟨u,x.keep e w.ntb,w⟩
 | lst xs=>obtain⟨g,vs,e,r⟩:=z;exact⟨g,vs,x.keep e,r⟩
 | dct ks xs=>obtain⟨g,vs,e,k,r⟩:=z;exact⟨g,vs,x.keep e,k,r⟩
 | ins c xs=>obtain⟨g,dx,vs,e,k,r⟩:=z;exact⟨g,dx,vs,x.keep e,k,r⟩
 | dkf ks xs=>obtain⟨od,vs,g,e,k,r⟩:=z;exact⟨od,vs,g,x.keep e,k,r⟩
def eW(c ce:Nat):Bool:=decide (c=ce)||decide (ce=11)
def sw (K:Frg) (D:Addr):Bool:=decide (PySem.W.findIn K (.ref D) "__getattribute__"=some (some (.builtin "BaseException.__getattribute__")))&&(decide (PySem.W.findIn K (.ref D) "__getattr__"=some none)&&(decide (PySem.W.subIn K (.ref D) (.type "BaseException")=some true) &&
 (PySem.W.hasDictIn K D&&(decide (PySem.W.findIn K (.ref D) "__class__"=some (some (.builtin "object.__class__")))&&(decide (PySem.W.specialIn K (.builtin "object.__class__") "__get__"=some (some (.builtin "getset_descriptor.__get__"))) &&
 (decide (PySem.W.takesIn K (.builtin "object.__class__")=some true)&&decide (PySem.W.mroIn K D (.type "object")=some true)))))))
def xsB(ec:List Nat)(K:Frg):Bool:=(ec.all λc=>ec.all λce=>decide (PySem.W.exmOne K (.ref (He.ga K (enm c))) (.ref (He.ga K (enm ce)))=some (eW c ce))&&decide (PySem.W.kitOne K (.ref (He.ga K (enm c))) (.ref (He.ga K (enm ce)))=some (eW c ce)))&&ec.all λc=>sw K (He.ga K (enm c))&&decide (c < 1000)
def xcB (c:Nat) (K:Frg):Bool:=decide (efs c=[])&&(PySem.W.excIn K (He.ga K (enm c)) [.type "ValueError",.type "Exception",.type "BaseException",.type "object"] "ValueError.__new__"&&(PySem.W.keepIn K (.ref (He.ga K (enm c))) &&
 (decide (PySem.W.subIn K (.ref (He.ga K (enm c))) (.type "BaseException")=some true)&&decide (PySem.W.typeIn K (.ref (He.ga K (enm c)))=some (.type "type")))))
section
open LamX
section
variable {P:Program}{w:World}{K:Frg}{mg mb:Str->Option Value}{CX:CXT}{k:Nat}{fa a:Addr}{cs:List (Addr × Addr)}{fd:FuncData}{x:Str}{sp:Sp}{s₁:Shared}{vs:List Value}{ns:List Int}
abbrev p6:Obj:={ cls:=.none,data:=.fields #[] }
end
end
def gS:Nat:=1000000
def tj(g:Bool)(K:Frg)(H:Hp)(v:V):Prop :=
 v=.non∨(∃ i:Int,v=.int i/\i.natAbs.log2 < 1920/\(toString i:Str).length<=gS)∨(∃ y:Str,v=.str y/\y.length<=gS) ∨
 (g=true/\∃ S M xs p,OkH K S M H/\Rep K S (.lst xs) v/\rpd (.lst xs)=some p/\p.showable=true/\p.depth<=100/\p.shown.length<=gS)
abbrev cw(K:Frg)(c:Nat):Addr:=He.ga K (enm c)
def spX(K:Frg)(c:Nat)(ok:Hp->List V->Prop):Sp:=λvs H Q _=>∃ a ws,vs=.ref a::ws/\ws.length=(efs c).length/\ok H ws/\H a=some (exo a (cw K c) none) /\
 ∀ dx,H dx=none->dx≠a->Q .non (upd (upd H dx (exd dx ((efs c).zip ws))) a (exo a (cw K c) (some dx)))
structure XoK(K:Frg)(c:Nat):Prop where
 ox:OexC K (cw K c)
 no:∀ f∈efs c,PySem.W.findIn K (.ref (cw K c)) f=some none
def Iy(g:Bool)(K:Frg)(H:Hp)(ws:List V):Prop:=∃ v,ws[0]?=some v/\tj g K H v
def vj(c:Nat):Bool:=decide (c=5)||decide (c=6)||decide (c=9)
def okH(g:Bool)(K:Frg)(c:Nat):Hp->List V->Prop:=λH ws=>vj c=true->Iy g K H ws
structure Xm(g:Bool)(P:Program)(w:World)(K:Frg)(mg:Str->Option Value)(base:Heap)(k c:Nat):Prop where
 ne:efs c≠[]
 at_:mg (enm c)=some (.ref (cw K c))
 xo:XoK K c
 ex:∃ (fI:Addr) (fd:FuncData) (ps:List Str),PySem.W.findIn K (.ref (cw K c)) "__init__"=some (some (.ref fI))/\PySem.W.typeIn K (.ref fI)=some (.type "function")/\cc g P w K mg base (L2.CX P w) k fI fd ps (spX K c (okH g K c))/\Binds K fd ps []
theorem Xm.up{g:Bool}{P:Program}{w:World}{K:Frg}{mg:Str->Option Value}{base:Heap}{j k c:Nat}(x:Xm g P w K mg base j c)(h:j<=k):Xm g P w K mg base k c :=
 ⟨x.ne,x.at_,x.xo,let ⟨fI,fd,ps,a,b,F,d⟩:=x.ex;⟨fI,fd,ps,a,b,F.mono h (λz=>z),d⟩⟩
def td(K:Frg)(C:Addr):Bool:=match K.lookup C with
 | some ⟨.type "type",_,.cls cd,sl⟩=>(match cd.mro,sl.toList with
  | .ref C'::bm,[_,_,_,_,some (.builtin n),_]=>C' == C&&n == "ValueError.__new__"&&!cd.hasDel&&cd.hasDict&&PySem.HandSPX.refsVE bm
  | _,_=>false)
 | _=>false
def xoB (c:Nat) (K:Frg):Bool:=td K (cw K c)&&(decide (PySem.W.findIn K (.ref (cw K c)) "__setattr__"=some (some (.builtin "object.__setattr__")))&&(decide (PySem.W.subIn K (.ref (cw K c)) (.type "BaseException")=some true) &&
 (decide (PySem.W.typeIn K (.ref (cw K c))=some (.type "type"))&&(PySem.W.keepIn K (.ref (cw K c))&&((efs c).all λf=>decide (PySem.W.findIn K (.ref (cw K c)) f=some none))))))
def xiB (K:Frg):Bool:=PySem.W.readsIn K (He.ga K "CaseError") (.type "type")&&(decide (PySem.W.specialIn K (.ref (He.ga K "CaseError")) "__getattribute__"=some (some (.builtin "type.__getattribute__"))) &&
 (match PySem.W.findCls K (.ref (He.ga K "CaseError")) (.type "type") "__init__" with
 | some (.val (.builtin n))=>n == "ValueError.__init__"
 | _=>false))
def xkB(c:Nat)(K:Frg):Bool:=xfB K (cw K c)
def uO(g:Addr->Option Obj):Bool:=match g sysModules with
 | some o=>(match o.data with
  | .dict _ _=>true
  | _=>false)
 | none=>false
theorem Kv{h:Heap}(e:uO h.get?=true):∃ o es ep,h.get? sysModules=some o/\o.data=.dict es ep:=by
 unfold uO at e;cases q:h.get? sysModules with
 | none=>rw[q] at e;cases e
 | some o =>
  rw[q] at e;dsimp only at e
  split at e
  ·rename_i es ep hd;exact⟨o,es,ep,rfl,hd⟩
  ·cases e
def ttB(ll:List Str)(K:Frg):Bool:=(LN.all λx=>!jm K x||decide (x∈ll))&&decide (((TBs K).map Prod.fst).Nodup)
abbrev lls(ll:List Str):List He.Defn:=ll.map λx=>(x,none)
def Jw(g:Addr->Option Obj)(a:Addr):List Addr:=match g a with
 | some o=>He.refsD o
 | none=>[]
def rp{R:Type}(k:Nat->List Addr->R):List Addr->Nat->List Addr->R
 | [],m,l=>k m l
 | a::r,m,l=>HandSHeadRun.frNat a λa'=>match Nat.beq ((m >>> a') % 2) 1 with
  | true=>rp k r m l
  | false=>HandSHeadRun.frNat (m ||| 1 <<< a') λm'=>rp k r m' (a'::l)
def AY{R:Type}(g:Addr->Option Obj)(k:Nat->List Addr->R):List Addr->Nat->List Addr->R
 | [],m,l=>k m l
 | a::r,m,l=>rp (λm' l'=>AY g k r m' l') (Jw g a) m l
def v6(g:Addr->Option Obj):Nat->Nat->List Addr->List Addr->List Addr
 | 0,_,_,all=>all
 | n+1,m,fr,all=>AY g (λm' new=>v6 g n m' new (new++all)) fr m []
def asM(g:Addr->Option Obj)(n:Nat):List Addr:=v6 g n (1 <<< mainGlobals) [mainGlobals] [mainGlobals]
def asN (g:Addr->Option Obj) (n:Nat):List Addr:=if n < 100 then cStatics::asM g n else He.dflAt ("Kind",some "__init__") 0 (He.frT g (asM g (n - 100)))::cStatics::asM g (n - 100)
abbrev AlT:Type:=He.AlD × (Bool × Bool)
def gp(n:Nat)(fa:List He.Fa)(fn:List He.DefD)(ll:List Str)(ex:Frg->Bool)(g:Addr->Option Obj):AlT :=
 (He.obsD fa fn (He.frT g (asN g n)),(ex (He.frT g (asN g n))&&(ttB ll (He.frT g (asN g n))&&He.tabsB g (lls ll) (He.frT g (asN g n)))),uO g)
structure fF(fa:List He.Fa)(fn:List He.DefD)(ll:List Str)(ex:Frg->Bool)(h:Heap)(K:Frg):Prop where
 d:He.SaysD fa fn K
 ex:ex K=true
 tt:ttB ll K=true
 hd:∀ p∈lls ll,PySem.W.codeHdIn K (He.cT K p).1 (He.cT K p).2=true
 out:∀ p∈lls ll,K.lookup (He.cT K p).2=none
 empty:∀ p∈lls ll,h.get? (He.cT K p).2=some p6
theorem JR{n:Nat}{fa:List He.Fa}{fn:List He.DefD}{ll:List Str}{ex:Frg->Bool}{h:Heap}(e:gp n fa fn ll ex h.get?=(He.valD fn,true,true)):fF fa fn ll ex h (He.frT h.get? (asN h.get? n)):=by
 have e1:He.obsD fa fn (He.frT h.get? (asN h.get? n))=He.valD fn:=congrArg (λz:AlT=>z.1) e;have e2:(ex (He.frT h.get? (asN h.get? n))&&(ttB ll (He.frT h.get? (asN h.get? n))&&He.tabsB h.get? (lls ll) (He.frT h.get? (asN h.get? n))))=true:=congrArg (λz:AlT=>z.2.1) e;simp only[ax] at e2;obtain⟨h1,h2,h3⟩:=e2;have key:∀ p∈lls ll,PySem.W.codeHdIn (He.frT h.get? (asN h.get? n)) (He.cT (He.frT h.get? (asN h.get? n)) p).1 (He.cT (He.frT h.get? (asN h.get? n)) p).2=true/\∃ o,h.get? (He.cT (He.frT h.get? (asN h.get? n)) p).2=some o/\He.emptyTab o=true:=λp hp=>by
  have h4:=b7.mp h3 p hp;simp only[ax] at h4;refine⟨h4.1,?_⟩;have h5:=h4.2
  split at h5
  ·rename_i o q;exact⟨o,q,h5⟩
  ·cases h5
 exact⟨e1,h1,h2,λp hp=>(key p hp).1,λp hp=>by
  obtain⟨_,o,q,z⟩:=key p hp;exact He.frT_none q z,λp hp=>by
  obtain⟨_,o,q,z⟩:=key p hp;rw[q,He.emptyTab_eq z]⟩
def li(n:Nat)(fa:List He.Fa)(fn:List He.DefD)(ll:List Str)(ex:Frg->Bool):PySem.W.Hook where
 α:=AlT
 obs:=λs=>gp n fa fn ll ex s.heap.get?
 val:=λ_=>(He.valD fn,true,true)
 says:=λ_ h=>(∃ K:Frg,K.In h/\fF fa fn ll ex h K)/\∃ o es ep,h.get? sysModules=some o/\o.data=.dict es ep
 of:=λ_ s e=>⟨⟨_,He.frT_in,JR e⟩,Kv (congrArg (λz:AlT=>z.2.2) e)⟩
 keeps:=λ_ _ _ ⟨⟨K,hK,c⟩,o,es,ep,h1,h2⟩ k=>⟨⟨K,Frg.In.keeps hK k,⟨c.d,c.ex,c.tt,c.hd,c.out,λp hp=>k _ _ (c.empty p hp)⟩⟩,o,es,ep,k _ _ h1,h2⟩
theorem Im{n:Nat}{fa:List He.Fa}{fn:List He.DefD}{ll:List Str}{ex:Frg->Bool}{g:Addr->Option Obj}{s:Shared}(h:∀ a,g a=s.heap.get? a):gp n fa fn ll ex g=(li n fa fn ll ex).obs s:=by have e:g=s.heap.get?:=funext h;rw[e] <;> rfl
def xP (K:Frg) (x:Str):Bool:=(He.Fa.cls x).ok K&&(decide (PySem.W.findIn K (.ref (He.ga K x)) "__class__"=some (some (.builtin "object.__class__")))&&(decide (PySem.W.specialIn K (.builtin "object.__class__") "__get__"=some (some (.builtin "getset_descriptor.__get__"))) &&
 (decide (PySem.W.takesIn K (.builtin "object.__class__")=some true)&&decide (PySem.W.mroIn K (He.ga K x) (.type "object")=some true))))
def xX(cl:List Nat)(K:Frg):Bool:=(cl.all λc=>xP K (cnm c))&&(cP cl).all λg=>(cP cl).all λc=>decide (PySem.W.kitOne K (g.val K) (c.val K)=some (isa g c))
def obP(n:Nat)(fa:List He.Fa)(fn:List He.DefD)(p:Frg->Bool)(g:Addr->Option Obj):He.AlD:=(((fa.all λf=>f.ok (He.frT g (asN g n)))&&fn.all λd=>d.ok (He.frT g (asN g n)))&&p (He.frT g (asN g n)),fn.map λd=>He.fnW (He.frT g (asN g n)) d.at_)
def ic(r:PySem.W.OpenRow)(M n:Nat)(fa:List He.Fa)(fn:List He.DefD)(p:Frg->Bool)(w:World):Prop :=
 ∀ os:OsState,(HandSHeadRun.endF (HandSHeadRun.stepQ (HandSHeadRun.denQ HandSHeadRun.tabQ) r.prog w) M r.prog w os).map (λs=>obP n fa fn p (HandSHeadRun.getT s))=some (He.valD fn)
def dfn(x:Str)(s:Stmt):He.DefD:=⟨(x,none),x,x,defArgs s,defBody s,defScope s,[],[]⟩
section
variable {n:Nat}{fa fa2:List He.Fa}{fn fn2:List He.DefD}{p p2:Frg->Bool}{g:Addr->Option Obj}{r:PySem.W.OpenRow}{M:Nat}{w:World}
theorem Il(h:obP n fa fn p g=He.valD fn)(h2:obP n fa2 fn2 p2 g=He.valD fn2):obP n (fa++fa2) (fn++fn2) (λK=>p K&&p2 K) g=He.valD (fn++fn2):=by simp only[obP,He.valD,Prod.mk.injEq,ax,List.all_append,i3] at h h2 ⊢;obtain⟨⟨⟨a,b⟩,c⟩,d⟩:=h;obtain⟨⟨⟨a2,b2⟩,c2⟩,d2⟩:=h2;exact⟨⟨⟨⟨a,a2⟩,b,b2⟩,c,c2⟩,by rw[d,d2]⟩
theorem ic.join(h:ic r M n fa fn p w)(h2:ic r M n fa2 fn2 p2 w):ic r M n (fa++fa2) (fn++fn2) (λK=>p K&&p2 K) w:=λos=>by
 have a:=h os;have b:=h2 os
 revert a b
 generalize HandSHeadRun.endF _ M r.prog w os=z;intro a b;cases z with
 | none=>simp at a
 | some s=>exact congrArg some (Il (Option.some.inj a) (Option.some.inj b))
theorem Ik{ll:List Str}{ex:Frg->Bool}(h:gp n [] [] ll (λ_=>true) g=(He.valD [],true,true))(h2:obP n fa fn ex g=He.valD fn):gp n fa fn ll ex g=(He.valD fn,true,true):=by simp only[gp,obP,He.valD,He.obsD,Prod.mk.injEq,ax] at h h2 ⊢;exact⟨⟨h2.1.1,h2.2⟩,⟨h2.1.2,h.2.1.2⟩,h.2.2⟩
theorem JM{q:Program}{ll:List Str}{ex:Frg->Bool}{loose:List Str}(h:HandSHeadRun.RunEq r q (li n [] [] ll λ_=>true) (λs=>gp n [] [] ll (λ_=>true) (HandSHeadRun.getT s)) M loose w)(h2:ic r M n fa fn ex w) :
  HandSHeadRun.RunEq r q (li n fa fn ll ex) (λs=>gp n fa fn ll ex (HandSHeadRun.getT s)) M loose w:=λos=>by
 have a:=h os;have b:=h2 os
 revert a b
 generalize HandSHeadRun.endF _ M r.prog w os=z;intro a b;cases z with
 | none=>simp at a
 | some s =>
  have a':=Option.some.inj a;have b':=Option.some.inj b;have a1:=congrArg Prod.fst a';have a2:=congrArg (λz=>z.2.1) a';have a3:=congrArg (λz=>z.2.2) a';exact congrArg some (Prod.ext (by exact a1) (Prod.ext (by exact a2) (by exact Ik a3 b')))
end
abbrev ec:List Nat:=[0,9,11]
abbrev cl:List Nat:=[7]
def top(i:Nat):Stmt:=PySem.Challenge.pw_starcases_k03_whole_value_texts.main.body.getD i (.Pass ⟨0,0,0,0⟩)
def meth(s:Stmt)(j:Nat):Stmt:=match s with
 | .ClassDef _ _ _ b _ _ _ _ _ _ _=>b.getD j (.Pass ⟨0,0,0,0⟩)
 | _=>.Pass ⟨0,0,0,0⟩
abbrev g8:Stmt:=(meth (top 3) 0)
abbrev lU:Stmt:=(top 11)
abbrev lR:Stmt:=(top 12)
abbrev lP:Stmt:=(top 13)
abbrev mr:Stmt:=(top 14)
abbrev lT:Stmt:=(top 15)
abbrev mn:Stmt:=(top 16)
abbrev lV:Stmt:=(top 17)
abbrev lS:Stmt:=(top 18)
abbrev mq:Stmt:=(top 19)
abbrev lO:Stmt:=(top 20)
abbrev mu:Stmt:=(top 21)
abbrev mv:Stmt:=(top 22)
abbrev lN:Stmt:=(top 23)
abbrev kH:Stmt:=(top 24)
abbrev iJ:Stmt:=(meth (top 25) 0)
abbrev iN:Stmt:=(meth (top 25) 1)
abbrev iO:Stmt:=(meth (top 25) 2)
abbrev iL:Stmt:=(meth (top 25) 3)
abbrev iK:Stmt:=(meth (top 25) 4)
abbrev iM:Stmt:=(meth (top 25) 5)
abbrev mo:Stmt:=(top 26)
abbrev lY:Stmt:=(top 28)
abbrev mi:Stmt:=(top 29)
abbrev l8:Stmt:=(top 30)
abbrev mm:Stmt:=(top 31)
abbrev lW:Stmt:=(top 32)
abbrev ml:Stmt:=(top 33)
abbrev mj:Stmt:=(top 34)
abbrev mf:Stmt:=(top 35)
abbrev lX:Stmt:=(top 36)
abbrev l7:Stmt:=(top 37)
abbrev l9:Stmt:=(top 38)
abbrev mh:Stmt:=(top 39)
abbrev lZ:Stmt:=(top 40)
abbrev me:Stmt:=(top 41)
abbrev iP:Stmt:=(top 42)
end DL
section T_hLawH
set_option maxHeartbeats 0
namespace DL
open PySem PySem.Spec PyProof.Rows L2
open PySem.W renaming Frag -> Frg
def wK:He.DefD:=⟨("BadText",some "__init__"),"__init__","BadText.__init__",defArgs g8,defBody g8,defScope g8,[],[]⟩
def El:He.DefD:=dfn "is_word" lU
def Ei:He.DefD:=dfn "is_integer" lR
def Eh:He.DefD:=dfn "is_atom" lP
def EJ:He.DefD:=dfn "stands" mr
def Ek:He.DefD:=dfn "is_value" lT
def EF:He.DefD:=dfn "need_value" mn
def Em:He.DefD:=dfn "kind_here" lV
def Ej:He.DefD:=dfn "is_same" lS
def EH:He.DefD:=dfn "same" mq
def Eg:He.DefD:=dfn "atom_text" lO
def EK:He.DefD:=dfn "text_here" mu
def EL:He.DefD:=dfn "value_text" mv
def Ef:He.DefD:=dfn "atom_in" lN
def EI:He.DefD:=dfn "signs_in" kH
def wL:He.DefD:=⟨("Reader",some "__init__"),"__init__","Reader.__init__",defArgs iJ,defBody iJ,defScope iJ,[],[]⟩
def wQ:He.DefD:=⟨("Reader",some "peek"),"peek","Reader.peek",defArgs iN,defBody iN,defScope iN,[],[]⟩
def wR:He.DefD:=⟨("Reader",some "take"),"take","Reader.take",defArgs iO,defBody iO,defScope iO,[],[]⟩
def wN:He.DefD:=⟨("Reader",some "need"),"need","Reader.need",defArgs iL,defBody iL,defScope iL,[],[]⟩
def wM:He.DefD:=⟨("Reader",some "listed"),"listed","Reader.listed",defArgs iK,defBody iK,defScope iK,[],[]⟩
def wO:He.DefD:=⟨("Reader",some "part"),"part","Reader.part",defArgs iM,defBody iM,defScope iM,[],[]⟩
def EG:He.DefD:=dfn "read_value" mo
def Er:He.DefD:=dfn "_law_begun" lY
def EB:He.DefD:=dfn "_law_take" mi
def Eu:He.DefD:=dfn "_law_pick" l8
def EE:He.DefD:=dfn "_law_word" mm
def Eo:He.DefD:=dfn "_law_atom" lW
def ED:He.DefD:=dfn "_law_value" ml
def EC:He.DefD:=dfn "_law_text" mj
def Ez:He.DefD:=dfn "_law_signs" mf
def Ep:He.DefD:=dfn "_law_atom_of" lX
def Et:He.DefD:=dfn "_law_from" l7
def Ew:He.DefD:=dfn "_law_read" l9
def EA:He.DefD:=dfn "_law_spaced" mh
def Es:He.DefD:=dfn "_law_bent" lZ
def Ey:He.DefD:=dfn "_law_right" me
def dd_law:He.DefD:=dfn "law" iP
def Ft:List He.DefD:=[wK,El,Ei,Eh,EJ,Ek,EF,Em,Ej,EH,Eg,EK,EL,Ef,EI,wL,wQ,wR,wN,wM,wO,EG,Er,EB,Eu,EE,Eo,ED,EC,Ez]
def Fu:List He.DefD:=[Ep,Et,Ew,EA,Es,Ey,dd_law]
def fnL:List He.DefD:=Ft++Fu
def E7:List He.Fa:=[.glo "is_word",.glo "is_integer",.glo "is_atom",.glo "stands",.glo "is_value",.glo "need_value",.glo "kind_here",.glo "is_same",.glo "same",.glo "atom_text",.glo "text_here",.glo "value_text",.glo "atom_in",.glo "signs_in",.glo "read_value",.glo "_law_begun",.glo "_law_take",.glo "_law_pick",.glo "_law_word",.glo "_law_atom",.glo "_law_value",.glo "_law_text",.glo "_law_signs",.glo "_law_atom_of",.glo "_law_from",.glo "_law_read",.glo "_law_spaced",.glo "_law_bent",.glo "_law_right",.glo "law"]
def E8:List He.Fa:=[.glo "Reader",.glo "CaseError",.glo "BadValue",.glo "BadText",.free "len",.free "int",.free "abs",.free "sum",.free "all",.free "any",.free "max",.free "min",.free "range",.free "list",.free "tuple",.free "str",.free "sorted",.free "set",.free "dict",.free "isinstance",.free "repr",.free "enumerate",.free "zip",.free "reversed",.free "divmod",.free "bool",.free "ValueError",.cls "Reader",.noat "Reader" "signs",.noat "Reader" "spot"]
def E9:List He.Fa:=[.noat "Reader" "rows",.mkr "Reader",.meth "Reader" "listed",.meth "Reader" "need",.meth "Reader" "part",.meth "Reader" "peek",.meth "Reader" "take",.meth "BadText" "__init__",.str "LETTERS" "abcdefghijklmnopqrstuvwxyz",.str "FIGURES" "0123456789",.int "MOST_LETTERS" 8,.int "MOST_FIGURES" 40,.int "MOST_LISTS" 60,.int "MOST_OPEN" 100]
def faL:List He.Fa:=E7++E8++E9
def exB(K:Frg):Bool:=xX cl K&&xsB ec K&&xcB 0 K&&xiB K&&xoB 9 K&&xkB 9 K
def HI:List Str:=["CaseError","BadValue","BadText","LETTERS","FIGURES","MOST_LETTERS","MOST_FIGURES","MOST_LISTS","MOST_OPEN","is_word","is_integer","is_atom","stands","is_value","need_value","kind_here","is_same","same","atom_text","text_here","value_text","atom_in","signs_in","Reader","read_value","_law_begun","_law_take","_law_pick","_law_word","_law_atom"]
def HK:List Str:=["_law_value","_law_text","_law_signs","_law_atom_of","_law_from","_law_read","_law_spaced","_law_bent","_law_right"]
def looseL:List Str:=HI++HK
abbrev RR:PySem.W.OpenRow:=PySem.W.OpenLaw.row PySem.Challenge.rw_starcases_k03_whole_value_texts
abbrev llL:List Str:=["law","_law_right"]
abbrev hk:PySem.W.Hook:=li 4 faL fnL llL exB
def ob(s:PySem.W.SharedT):AlT:=gp 4 faL fnL llL exB (HandSHeadRun.getT s)
theorem ob_eq(s:PySem.W.SharedT):ob s=hk.obs s.abs:=Im (HandSHeadRun.getT_eq s)
theorem JI(w:World):HandSHeadRun.RunEq RR (PySem.W.view RR.prog [42]) (li 4 [] [] llL λ_=>true) (λs=>gp 4 [] [] llL (λ_=>true) (HandSHeadRun.getT s)) 12000 looseL w:=by
 intro os
 kernel_rfl
theorem JJ(w:World):ic RR 12000 4 ([]) (fnL) (λ_=>true) w:=by
 intro os
 kernel_rfl
theorem JK(w:World):ic RR 12000 4 (faL) ([]) (λ_=>true) w:=by
 intro os
 kernel_rfl
theorem JL(w:World):ic RR 12000 4 ([]) ([]) (exB) w:=by
 intro os
 kernel_rfl
theorem Fb:(([])++faL)++[]=faL:=by rfl
theorem Fv:((fnL)++[])++[]=fnL:=by rfl
theorem EZ:(λK=>((true)&&true)&&exB K)=exB:=by
 funext K
 simp only[aaw]
theorem run(w:World):HandSHeadRun.RunEq RR (PySem.W.view RR.prog [42]) hk ob 12000 looseL w:=by have h:=((JJ w).join (JK w)).join (JL w);rw[Fb,Fv,EZ] at h;exact JM (JI w) h
end DL
theorem DL.holds_of(call:PySem.W.WalkO (PySem.W.view DL.RR.prog [42]) DL.looseL (PySem.W.XL (PySem.W.view DL.RR.prog [42]) []) DL.hk.says DL.RR.toRowW (HandSHeadRun.topDef DL.RR.prog 42) [] λf vs=>PySem.call f vs):PySem.Challenge.rw_starcases_k03_whole_value_texts.Holds:=by
 w_on;o_law
 refine HandSHeadRun.head_any (r:=PySem.W.OpenLaw.row PySem.Challenge.rw_starcases_k03_whole_value_texts) (q:=PySem.W.view (PySem.W.OpenLaw.row PySem.Challenge.rw_starcases_k03_whole_value_texts).prog [42]) (H:=DL.hk) (ob:=DL.ob) (M:=12000) (loose:=DL.looseL) (d:=HandSHeadRun.topDef (PySem.W.OpenLaw.row PySem.Challenge.rw_starcases_k03_whole_value_texts).prog 42) (kwd:=[]) DL.ob_eq (by kernel_rfl) (λs=>by kernel_rfl) DL.run (by kernel_rfl) (by kernel_rfl) (by kernel_rfl) (by rfl) (by first|assumption|decide +kernel) (by decide +kernel) ⟨rfl,rfl,rfl,rfl,rfl,by decide +kernel⟩ ?hw call
 case hw=>w_witness2
end T_hLawH
namespace DL
open PySem PySem.Spec PyProof.Rows L2
open PySem.W renaming Frag -> Frg
section
variable {K:Frg}{S:Gh}
theorem ah.nil:ah K S [] []:=by simp only[ah]
theorem ah.eraseIdx:∀{ds:List Tr}{vs:List V}(n:Nat),ah K S ds vs->ah K S (ds.eraseIdx n) (vs.eraseIdx n)
 | [],vs,n,r=>by simp only[ah] at r;subst r;simp [ah]
 | d::ds,vs,0,r=>by
  simp only[ah] at r;obtain⟨v,t,rfl,h,h2⟩:=r;exact h2
 | d::ds,vs,n+1,r=>by
  simp only[ah] at r;obtain⟨v,t,rfl,h,h2⟩:=r;exact ah.cons h (ah.eraseIdx n h2)
theorem ah.dropLast{ds:List Tr}{vs:List V}(r:ah K S ds vs):ah K S ds.dropLast vs.dropLast:=by have h:=r.take (ds.length - 1);rw[List.dropLast_eq_take,List.dropLast_eq_take,<- r.length];exact h
theorem ah.ints:∀(ns:List Int){vs:List V},ah K S (ns.map Tr.int) vs↔vs=ns.map V.int
 | [],vs=>by simp [ah]
 | n::ns,vs=>by
  simp only[aO,ah,Rep];constructor
  ·rintro ⟨v,r,rfl,rfl,h⟩;rw[(ah.ints ns).mp h]
  ·rintro rfl;exact⟨_,_,rfl,rfl,(ah.ints ns).mpr rfl⟩
theorem ah.bls:∀(bs:List Bool){vs:List V},ah K S (bs.map Tr.bl) vs↔vs=bs.map V.bl
 | [],vs=>by simp [ah]
 | n::ns,vs=>by
  simp only[aO,ah,Rep];constructor
  ·rintro ⟨v,r,rfl,rfl,h⟩;rw[(ah.bls ns).mp h]
  ·rintro rfl;exact⟨_,_,rfl,rfl,(ah.bls ns).mpr rfl⟩
theorem ah.strs:∀(xs:List Str){vs:List V},ah K S (xs.map Tr.str) vs↔vs=xs.map V.str
 | [],vs=>by simp [ah]
 | n::ns,vs=>by
  simp only[aO,ah,Rep];constructor
  ·rintro ⟨v,r,rfl,rfl,h⟩;rw[(ah.strs ns).mp h]
  ·rintro rfl;exact⟨_,_,rfl,rfl,(ah.strs ns).mpr rfl⟩
end
section
variable {K:Frg}{S S':Gh}{M:Me}{H H':Hp}{ρ:En}{σ:L2.St}
def dW(ρ:En):List Nat->En
 | []=>ρ
 | i::r=>(dW ρ r).set i none
theorem be.unset{i:Nat}(h:be K S ρ σ):be K S (ρ.set i none) (σ.set i none):=by
 refine⟨by simp [h.len],λj e q=>?_⟩
 by_cases hj:j=i
 ·subst hj
  by_cases hi:j < ρ.length
  ·rw[fE hi] at q;cases q
  ·rw[aac (by simpa using hi)] at q;cases q
 ·rw[eQ (Ne.symm hj)] at q;obtain⟨w,e1,e2⟩:=h.at_ j e q;exact⟨w,by rw[eQ (Ne.symm hj)];exact e1,e2⟩
theorem be.wipe:∀{vs:List Nat},be K S ρ σ->be K S (dW ρ vs) (wipe σ vs)
 | [],h=>h
 | i::r,h=>(be.wipe (vs:=r) h).unset
theorem dz.obj{a:Addr}{c:Ce}(q:dz K S H a c):∃ o,H a=some o/\HOx o:=by
 cases c with
 | dead=>exact q
 | lst ds=>obtain⟨_,vs,e,_⟩:=q;exact⟨_,e,trivial⟩
 | dct ks ds=>obtain⟨_,kvs,e,_⟩:=q;exact⟨_,e,trivial⟩
 | ins c ds=>obtain⟨_,dx,fs,e,_⟩:=q;exact⟨_,e,trivial⟩
 | dkf ks ds=>obtain⟨_,kvs,_,e,_⟩:=q;exact⟨_,e,trivial⟩
theorem OkH.fresh(h:OkH K S M H){p:Addr}(n:H p=none):S.G p=none/\p∉S.C:=by
 constructor
 ·cases e:S.G p with
  | none=>rfl
  | some o=>rw[h.sub _ _ e] at n;cases n
 ·intro hp;obtain⟨k,hk⟩:=eR.mp hp;have hk2:k < M.length:=by rw[<- h.len];exact(bL.mp hk).1
  have q:=h.cell k p M[k] hk (by simp [hk2]);obtain⟨o,e,_⟩:=q.obj;rw[n] at e;cases e
theorem OkH.same(h:OkH K S M H)(s:Same H H'):OkH K S M H' :=
 ⟨λa o e=>s _ _ (h.sub a o e),h.len,h.nd,λk a c e1 e2=>(h.cell k a c e1 e2).mono (Le.refl S) rfl λo e=>s _ _ e,⟨h.tb.tabs.ext s,h.tb.nt⟩⟩
theorem OkH.tree(h:OkH K S M H){p:Addr}{o:HO}(n:H p=none)(ho:∀ ps,o≠.tbl ps:=by nofun):OkH K ⟨upd S.G p o,S.C⟩ M (upd H p o)/\Le S ⟨upd S.G p o,S.C⟩:=by
 obtain⟨n1,n2⟩:=h.fresh n;have l:Le S ⟨upd S.G p o,S.C⟩:=⟨fy n1,aap _⟩
 refine⟨⟨λa u e=>?_,h.len,h.nd,λk a c e1 e2=>?_,⟨uR h.tb.tabs n,n9 h.tb.nt ho⟩⟩,l⟩
 ·by_cases ha:a=p
  ·subst ha;rw[show (⟨upd S.G a o,S.C⟩:Gh).G a=some o from upd_same] at e;cases e;exact upd_same
  ·rw[show (⟨upd S.G p o,S.C⟩:Gh).G a=S.G a from upd_ne ha] at e;rw[upd_ne ha];exact h.sub a u e
 ·have ha:a≠p:=λz=>n2 (z ▸ eR.mpr ⟨k,e1⟩);exact(h.cell k a c e1 e2).mono l (upd_ne ha) λu e=>by rw[upd_ne ha];exact e
theorem OkH.newCell(h:OkH K S M H){p:Addr}{o:HO}{c:Ce}(n:H p=none)(q:dz K S (upd H p o) p c):OkH K ⟨S.G,S.C++[p]⟩ (M++[c]) (upd H p o)/\Le S ⟨S.G,S.C++[p]⟩:=by
 obtain⟨n1,n2⟩:=h.fresh n;have l:Le S ⟨S.G,S.C++[p]⟩:=⟨λ_ _ e=>e,List.prefix_append _ _⟩
 refine⟨⟨λa u e=>?_,by simp [h.len],?_,λk a c' e1 e2=>?_,⟨uR h.tb.tabs n,h.tb.nt⟩⟩,l⟩
 ·have ha:a≠p:=λz=>by subst z;rw[show S.G a=some u from e] at n1;cases n1
  rw[upd_ne ha];exact h.sub a u e
 ·rw[aau];refine⟨h.nd,by simp,λa ha b hb z=>?_⟩;have hb':b=p:=by simpa using hb
  rw[z,hb'] at ha;exact n2 ha
 ·by_cases hk:k < S.C.length
  ·rw[show (⟨S.G,S.C++[p]⟩:Gh).C[k]?=S.C[k]? from eD hk] at e1;rw[eD (by rw[<- h.len];exact hk)] at e2;have ha:a≠p:=λz=>n2 (z ▸ eR.mpr ⟨k,e1⟩);exact(h.cell k a c' e1 e2).mono l rfl λu e=>by rw[upd_ne ha];exact e
  ·rw[show (⟨S.G,S.C++[p]⟩:Gh).C[k]?=(S.C++[p])[k]? from rfl,fD (by omega)] at e1;rw[fD (by rw[<- h.len];omega)] at e2;obtain⟨hk0,rfl⟩:k - S.C.length=0/\a=p:=by
    cases e:k - S.C.length with
    | zero=>rw[e] at e1;simp at e1;exact⟨rfl,e1.symm⟩
    | succ m=>rw[e] at e1;simp at e1
   rw[<- h.len,hk0] at e2;simp at e2;subst e2;exact q.mono l rfl λ_ e=>e
theorem OkH.setCell(h:OkH K S M H){k:Nat}{a:Addr}{o:HO}{c c':Ce}(e1:S.C[k]?=some a)(e2:M[k]?=some c)(g:S.G a=none)(q:dz K S (upd H a o) a c')(hd:c≠.dead:=by nofun):OkH K S (M.set k c') (upd H a o):=by
 have hk:k < M.length:=(bL.mp e2).1;obtain⟨o0,hx1,hx2⟩:=(h.cell k a c e1 e2).obj;refine⟨λb u e=>?_,by simp [h.len],h.nd,λj b c'' f1 f2=>?_,⟨B9 h.tb.tabs hx1 hx2,h.tb.nt⟩⟩
 ·have hb:b≠a:=λz=>by subst z;rw[e] at g;cases g
  rw[upd_ne hb];exact h.sub b u e
 ·by_cases hj:j=k
  ·subst hj;rw[e1] at f1;cases f1;rw[fE hk] at f2;cases f2;exact q
  ·have hb:b≠a:=λz=>by
    subst z;obtain⟨g1,g2⟩:=bL.mp e1;obtain⟨g3,g4⟩:=bL.mp f1;exact hj ((List.getElem_inj h.nd).mp (g4.trans g2.symm))
   rw[eQ (Ne.symm hj)] at f2;exact(h.cell j b c'' f1 f2).mono (Le.refl S) rfl λu e=>by rw[upd_ne hb];exact e
theorem OkH.freeze(h:OkH K S M H){k:Nat}{a:Addr}{o:HO}{c:Ce}(e1:S.C[k]?=some a)(e2:M[k]?=some c)(g:S.G a=none)(e:H a=some o)(ho:∀ ps,o≠.tbl ps:=by nofun):OkH K ⟨upd S.G a o,S.C⟩ (M.set k .dead) H/\Le S ⟨upd S.G a o,S.C⟩:=by
 have hk:k < M.length:=(bL.mp e2).1;have l:Le S ⟨upd S.G a o,S.C⟩:=⟨fy g,aap _⟩
 refine⟨⟨λb u f=>?_,by simp [h.len],h.nd,λj b c'' f1 f2=>?_,⟨h.tb.tabs,n9 h.tb.nt ho⟩⟩,l⟩
 ·by_cases hb:b=a
  ·subst hb;rw[show (⟨upd S.G b o,S.C⟩:Gh).G b=some o from upd_same] at f;cases f;exact e
  ·rw[show (⟨upd S.G a o,S.C⟩:Gh).G b=S.G b from upd_ne hb] at f;exact h.sub b u f
 ·by_cases hj:j=k
  ·subst hj;rw[fE hk] at f2;cases f2;rw[show (⟨upd S.G a o,S.C⟩:Gh).C[j]?=S.C[j]? from rfl,e1] at f1;cases f1;obtain⟨o0,hx1,hx2⟩:=(h.cell j a c e1 e2).obj;exact⟨o0,hx1,hx2⟩
  ·have hb:b≠a:=λz=>by
    subst z;obtain⟨g1,g2⟩:=bL.mp e1;obtain⟨g3,g4⟩:=bL.mp f1;exact hj ((List.getElem_inj h.nd).mp (g4.trans g2.symm))
   rw[eQ (Ne.symm hj)] at f2;exact(h.cell j b c'' f1 f2).mono l (upd_ne hb) λ_ z=>z
end
theorem NT.back{H:Hp}{a D:Addr}{o:HO}(n:NT (upd H D o) a)(h:H D=none):NT H a:=by
 by_cases z:a=D
 ·rw[z];exact NT.of h
 ·intro u e;exact n u (by rw[upd_ne z];exact e)
theorem NX.back{H:Hp}{a D:Addr}{o:HO}(n:NX (upd H D o) a)(h:H D=none):NX H a:=by
 by_cases z:a=D
 ·rw[z];exact NX.of h
 ·intro u e;exact n u (by rw[upd_ne z];exact e)
theorem Gr.keepN{S S':Gh}{H H':Hp}(g:Gr S H S' H'){a:Addr}{o:HO}(e:H a=some o)(n:a∉S.C)(ho:∀ ps,o≠.tbl ps:=by nofun):H' a=some o:=g.keep a o e ho n
theorem Gr.same{S:Gh}{H H':Hp}(s:Same H H'):Gr S H S H':=⟨Le.refl S,λ_ a b=>absurd a b,λa o e _ _=>s a o e,λ_ a b=>absurd a b⟩
theorem u4{G:Hp}{p x:Addr}{o:HO}(h1:G x=none)(h2:upd G p o x≠none):x=p:=by
 by_cases h:x=p
 ·exact h
 ·rw[upd_ne h] at h2;exact absurd h1 h2
theorem nH{S:Gh}{H:Hp}{p:Addr}{o:HO}(l:Le S ⟨upd S.G p o,S.C⟩)(n:H p=none):Gr S H ⟨upd S.G p o,S.C⟩ (upd H p o) :=
 ⟨l,λ_ a b=>absurd a b,λa u e _ _=>fy n a u e,λx h1 h2=>.inl (NX.of (by rw[u4 h1 h2];exact n))⟩
theorem xL{S:Gh}{H:Hp}{p:Addr}{o:HO}(l:Le S ⟨S.G,S.C++[p]⟩)(n:H p=none):Gr S H ⟨S.G,S.C++[p]⟩ (upd H p o):=by
 refine⟨l,λa h1 h2=>?_,λa u e _ _=>fy n a u e,λ_ a b=>absurd a b⟩;rcases bf.mp h1 with h|h
 ·exact absurd h h2
 ·rw[cB.mp h];exact NT.of n
theorem j8{S:Gh}{H:Hp}{k:Nat}{a:Addr}{o:HO}(e:S.C[k]?=some a):Gr S H S (upd H a o) :=
 ⟨Le.refl S,λ_ a b=>absurd a b,λb u h _ n=>by
  have hb:b≠a:=λz=>n (z ▸ eR.mpr ⟨k,e⟩);rw[upd_ne hb];exact h,λ_ a b=>absurd a b⟩
theorem xK{S:Gh}{H:Hp}{k:Nat}{a:Addr}{o:HO}(l:Le S ⟨upd S.G a o,S.C⟩)(e:S.C[k]?=some a):Gr S H ⟨upd S.G a o,S.C⟩ H :=
 ⟨l,λ_ a b=>absurd a b,λ_ o e _ _=>e,λx h1 h2=>.inr (by rw[u4 h1 h2];exact eR.mpr ⟨k,e⟩)⟩
theorem OkH.take'{K:Frg}{S:Gh}{M:Me}{H:Hp}{p:Addr}{o:HO}(h:OkH K S M H)(g:S.G p=none)(c:p∉S.C)(e:H p=some o)(ho:∀ ps,o≠.tbl ps:=by nofun):OkH K ⟨upd S.G p o,S.C⟩ M H/\Le S ⟨upd S.G p o,S.C⟩:=by
 have l:Le S ⟨upd S.G p o,S.C⟩:=⟨fy g,aap _⟩
 refine⟨⟨λa u f=>?_,h.len,h.nd,λk a ce e1 e2=>?_,⟨h.tb.tabs,n9 h.tb.nt ho⟩⟩,l⟩
 ·by_cases ha:a=p
  ·subst ha;rw[show (⟨upd S.G a o,S.C⟩:Gh).G a=some o from upd_same] at f;cases f;exact e
  ·rw[show (⟨upd S.G p o,S.C⟩:Gh).G a=S.G a from upd_ne ha] at f;exact h.sub a u f
 ·have ha:a≠p:=λz=>c (z ▸ eR.mpr ⟨k,e1⟩);exact(h.cell k a ce e1 e2).mono l (upd_ne ha) λ_ z=>z
section
variable (K:Frg)(W:WX)
def fq(t:Rd Bool):TT:=λσ H Q=>∃ ρ M S E,OkH K S M H/\be K S ρ σ/\fj K W S H σ E/\t.f ρ M (λb M'=>∀ H' S',Gr S H S' H'->OkH K S' M' H'->Q b H') E
def gT(t:Rd (List Tr)):TA:=λσ H Q=>∃ ρ M S E,OkH K S M H/\be K S ρ σ/\fj K W S H σ E/\t.f ρ M (λds M'=>∀ vs H' S',Gr S H S' H'->OkH K S' M' H'->ah K S' ds vs->Q vs H') E
def fM(t:Sr):TS:=λD σ H=>∃ ρ M S F,OkH K S M H/\be K S ρ σ/\gc K W S H D F/\t.f F ρ M
end
theorem gc.err{K:Frg}{W:WX}{S:Gh}{H:Hp}{D:Ends}{F:Fin}{ρ:En}{σ:L2.St}(h:gc K W S H D F)(s:be K S ρ σ):fj K W S H σ (F.er ρ) :=
 λd M S' H' cls dd l o x e=>h.er ρ d M S' σ H' cls dd l o (s.mono l.le) x e
abbrev PDT(X:Cx)(W:WX)(e:Expr)(t:Rd Bool):Prop:=PT X e (fq X.K W t)
abbrev PDA(X:Cx)(W:WX)(es:List Expr)(t:Rd (List Tr)):Prop:=PA X es (gT X.K W t)
abbrev PDS(X:Cx)(W:WX)(s:Stmt)(t:Sr):Prop:=PS X s (fM X.K W t)
abbrev dE(X:Cx)(W:WX)(s:List Stmt)(t:Sr):Prop:=PSs X s (fM X.K W t)
section
variable {X:Cx}{e:Expr}{es:List Expr}{st:Stmt}{sts:List Stmt}
theorem tH{t t':TT}(p:PT X e t)(h:∀ σ H Q,t' σ H Q->t σ H Q):PT X e t':=⟨λpins s σ H Q I q=>p.run pins s σ H Q I (h σ H Q q)⟩
theorem pw_imp{t t':TT}(p:PW X e t)(h:∀ σ H Q,t' σ H Q->t σ H Q):PW X e t':=⟨λwh pins s σ H Q I q=>p.run wh pins s σ H Q I (h σ H Q q)⟩
theorem yV{t t':TA}(p:PA X es t)(h:∀ σ H Q,t' σ H Q->t σ H Q):PA X es t':=⟨λpos pins s σ H Q I q=>p.run pos pins s σ H Q I (h σ H Q q)⟩
theorem dU{t t':TS}(p:PS X st t)(h:∀ D σ H,t' D σ H->t D σ H):PS X st t':=⟨λpins s σ H D I q=>p.run pins s σ H D I (h D σ H q)⟩
theorem zg{t t':TS}(p:PSs X sts t)(h:∀ D σ H,t' D σ H->t D σ H):PSs X sts t':=⟨λpins s σ H D I q=>p.run pins s σ H D I (h D σ H q)⟩
end
theorem b8{α:Type}{o:Option α}{k:α->Prop}(q:au o k):∃ z,o=some z/\k z:=by
 cases o with
 | none=>exact q.elim
 | some z=>exact⟨z,rfl,q⟩
def dC(d:Tr):Rd Tr:=⟨λ_ M Q _=>Q d M,λh _ q=>h _ _ q⟩
section
variable {X:Cx}{W:WX}{pos:Pos}
theorem ls{e:Expr}{v:V}{d:Tr}(p:PE X e (tC v))(r:∀ S,Rep X.K S d v):PD X W e (dC d):=by refine bA p λσ H Q h=>?_;obtain⟨ρ,M,S,E,o,s,_,q⟩:=h;exact q v H S (Gr.refl S H) o (r S)
theorem ak{i j}:PD X W (.Constant (.int i) j pos) (dC (.int i)):=ls pe_int λ_=>by simp only[Rep]
theorem gW{b j}:PD X W (.Constant (.bool b) j pos) (dC (.bl b)):=ls pe_bl λ_=>by simp only[Rep]
theorem dI{j}:PD X W (.Constant .none j pos) (dC .non):=ls pe_non λ_=>by simp only[Rep]
theorem al{x j}:PD X W (.Constant (.str x) j pos) (dC (.str x)):=ls pe_str λ_=>by simp only[Rep]
end
def rD(K:Frg)(f:F2):R2:=λx y H Q=>∃ S M d e z,OkH K S M H/\Rep K S d x/\Rep K S e y/\f M d e=some z/\∀ w H' S',Gr S H S' H'->OkH K S' M H'->Rep K S' z w->Q w H'
def F3(f:F2)(a b:Rd Tr):Rd Tr:=⟨λρ M Q E=>a.f ρ M (λd M1=>b.f ρ M1 (λe M2=>au (f M2 d e) λz=>Q z M2) E) E,
 λh h' q=>a.mono (λd M1=>b.mono (λe M2=>cm λz=>h z M2) h') h' q⟩
section
variable {X:Cx}{W:WX}{pos:Pos}{a b c:Expr}{ta tb tc:Rd Tr}{f g:F2}
theorem iF{f:Value->Value->Sem Value}{r r':R2}(h:OpR X f r)(i:∀ x y H Q,r' x y H Q->r x y H Q):OpR X f r':=λpins s σ H x y v u Q I rx ry q=>h pins s σ H x y v u Q I rx ry (i x y H Q q)
theorem nU{K:Frg}{σ:L2.St}{H:Hp}{Q:VK}(h:bO K W (F3 f ta tb) σ H Q):tOp (rD K f) (bO K W ta) (bO K W tb) σ H Q:=by obtain⟨ρ,M,S,E,o,s,er,q⟩:=h;refine⟨ρ,M,S,E,o,s,er,ta.mono (λd M1 q1=>?_) (λ_ _ z=>z) q⟩;intro v H1 S1 l1 o1 r1;refine⟨ρ,M1,S1,E,o1,s.mono l1.le,er.mono l1,tb.mono (λe M2 q2=>?_) (λ_ _ z=>z) q1⟩;intro w H2 S2 l2 o2 r2;obtain⟨z,hz,q3⟩:=b8 q2;exact⟨S2,M2,d,e,z,o2,Rep.mono l2.le _ _ r1,r2,hz,λw' H3 S3 l3 o3 r3=>q3 w' H3 S3 (l1.trans (l2.trans l3)) o3 r3⟩
theorem aw{op:Operator}(ho:OpR X (binaryOp op) (rD X.K f))(ha:PD X W a ta)(hb:PD X W b tb):PD X W (.BinOp a op b pos) (F3 f ta tb):=bA (pe_op ho ha hb) λ_ _ _=>nU
theorem IJ{op:CmpOp}(ho:OpR X (compareOp op) (rD X.K f))(ha:PD X W a ta)(hb:PD X W b tb)(hm:behindInMarks op b=false):PD X W (.Compare a [op] [b] pos) (F3 f ta tb):=bA (pe_cmpR ho ha hb hm) λ_ _ _=>nU
theorem HE{K:Frg}{t:Rd Tr}{σ:L2.St}{H:Hp}{Q:Bool->Hp->Prop}(h:fq K W (am t) σ H Q):bO K W t σ H λx H'=>∃ k,x=.bl k/\Q k H':=by
 obtain⟨ρ,M,S,E,o,s,er,q⟩:=h;refine⟨ρ,M,S,E,o,s,er,t.mono (λd M1 q1=>?_) (λ_ _ z=>z) q⟩;intro v H1 S1 l1 o1 r1;dsimp only at q1
 split at q1
 ·rename_i b;simp only[Rep] at r1;exact⟨b,r1,q1 H1 S1 l1 o1⟩
 ·exact q1.elim
theorem Jk{op:CmpOp}(ho:OpR X (compareOp op) (rD X.K f))(ha:PD X W a ta)(hb:PD X W b tb)(hm:behindInMarks op b=false):PDT X W (.Compare a [op] [b] pos) (am (F3 f ta tb)) :=
 tH (pt_cmpR ho ha hb hm) λσ H Q h=>nU (HE h)
def dQ(t u:Rd Bool):Rd Bool:=⟨λρ M Q E=>t.f ρ M (λb M1=>if b=true then u.f ρ M1 Q E else Q false M1) E,λh h' q=>t.mono (λb M1 z=>by
 by_cases hb:b=true
 ·rw[if_pos hb] at z ⊢;exact u.mono h h' z
 ·rw[if_neg hb] at z ⊢;exact h _ _ z) h' q⟩
def dF(t u:Rd Bool):Rd Bool:=⟨λρ M Q E=>t.f ρ M (λb M1=>if b=true then Q true M1 else u.f ρ M1 Q E) E,λh h' q=>t.mono (λb M1 z=>by
 by_cases hb:b=true
 ·rw[if_pos hb] at z ⊢;exact h _ _ z
 ·rw[if_neg hb] at z ⊢;exact u.mono h h' z) h' q⟩
def cH(t:Rd Bool):Rd Bool:=⟨λρ M Q E=>t.f ρ M (λb M1=>Q (!b) M1) E,λh h' q=>t.mono (λb M1 z=>h _ _ z) h' q⟩
def dIf{α:Type}(t:Rd Bool)(u v:Rd α):Rd α:=⟨λρ M Q E=>t.f ρ M (λb M1=>if b=true then u.f ρ M1 Q E else v.f ρ M1 Q E) E,λh h' q=>t.mono (λb M1 z=>by
 by_cases hb:b=true
 ·rw[if_pos hb] at z ⊢;exact u.mono h h' z
 ·rw[if_neg hb] at z ⊢;exact v.mono h h' z) h' q⟩
def c6(t u:Rd Tr):Rd Tr:=⟨λρ M Q E=>t.f ρ M (λd M1=>match d with
 | .bl true=>u.f ρ M1 Q E
 | .bl false=>Q (.bl false) M1
 | _=>False) E,λh h' q=>t.mono (λd M1 z=>by
  split at z
  ·exact u.mono h h' z
  ·exact h _ _ z
  ·exact z.elim) h' q⟩
def nc(t u:Rd Tr):Rd Tr:=⟨λρ M Q E=>t.f ρ M (λd M1=>match d with
 | .bl true=>Q (.bl true) M1
 | .bl false=>u.f ρ M1 Q E
 | _=>False) E,λh h' q=>t.mono (λd M1 z=>by
  split at z
  ·exact h _ _ z
  ·exact u.mono h h' z
  ·exact z.elim) h' q⟩
def jZ(t:Rd Tr):Rd Tr:=⟨λρ M Q E=>t.f ρ M (λd M1=>match d with
 | .bl b=>Q (.bl (!b)) M1
 | _=>False) E,λh h' q=>t.mono (λd M1 z=>by
  split at z
  ·exact h _ _ z
  ·exact z.elim) h' q⟩
variable {tA tB:Rd Bool}{rest:List Expr}
theorem Hw{K:Frg}{σ:L2.St}{H:Hp}{Q:Bool->Hp->Prop}(h:fq K W (dQ tA tB) σ H Q):tAnd (fq K W tA) (fq K W tB) σ H Q:=by
 obtain⟨ρ,M,S,E,o,s,er,q⟩:=h;refine⟨ρ,M,S,E,o,s,er,tA.mono (λb M1 q1=>?_) (λ_ _ z=>z) q⟩;intro H1 S1 l1 o1;cases b with
 | true=>exact⟨ρ,M1,S1,E,o1,s.mono l1.le,er.mono l1,tB.mono (λc M2 q2 H2 S2 l2 o2=>q2 H2 S2 (l1.trans l2) o2) (λ_ _ z=>z) q1⟩
 | false=>exact q1 H1 S1 l1 o1
theorem HC{K:Frg}{σ:L2.St}{H:Hp}{Q:Bool->Hp->Prop}(h:fq K W (dF tA tB) σ H Q):tOr (fq K W tA) (fq K W tB) σ H Q:=by
 obtain⟨ρ,M,S,E,o,s,er,q⟩:=h;refine⟨ρ,M,S,E,o,s,er,tA.mono (λb M1 q1=>?_) (λ_ _ z=>z) q⟩;intro H1 S1 l1 o1;cases b with
 | false=>exact⟨ρ,M1,S1,E,o1,s.mono l1.le,er.mono l1,tB.mono (λc M2 q2 H2 S2 l2 o2=>q2 H2 S2 (l1.trans l2) o2) (λ_ _ z=>z) q1⟩
 | true=>exact q1 H1 S1 l1 o1
abbrev PDW(X:Cx)(W:WX)(e:Expr)(t:Rd Bool):Prop:=PW X e (fq X.K W t)
theorem pw_and1'(h:PDT X W a tA):PDW X W (.BoolOp .And [a] pos) tA:=pw_and1 h
theorem pw_or1'(h:PDT X W a tA):PDW X W (.BoolOp .Or [a] pos) tA:=pw_or1 h
theorem pw_and'(ha:PDT X W a tA)(hb:PDW X W (.BoolOp .And (b::rest) pos) tB):PDW X W (.BoolOp .And (a::b::rest) pos) (dQ tA tB):=pw_imp (pw_and ha hb) λ_ _ _=>Hw
theorem pw_or'(ha:PDT X W a tA)(hb:PDW X W (.BoolOp .Or (b::rest) pos) tB):PDW X W (.BoolOp .Or (a::b::rest) pos) (dF tA tB):=pw_imp (pw_or ha hb) λ_ _ _=>HC
theorem fP(ha:PDT X W a tA):PDT X W (.UnaryOp .Not a pos) (cH tA):=tH (pt_not ha) λσ H Q h=>by
 obtain⟨ρ,M,S,E,o,s,er,q⟩:=h;exact⟨ρ,M,S,E,o,s,er,tA.mono (λb M1 q1=>q1) (λ_ _ z=>z) q⟩
theorem gZ{op}{t:Rd Tr}(h:PD X W a t):PD X W (.BoolOp op [a] pos) t:=pe_one h
theorem ft(ha:PD X W a ta)(hb:PD X W (.BoolOp .And (b::rest) pos) tb):PD X W (.BoolOp .And (a::b::rest) pos) (c6 ta tb):=bA (pe_and ha hb) λσ H Q h=>by
 obtain⟨ρ,M,S,E,o,s,er,q⟩:=h;refine⟨ρ,M,S,E,o,s,er,ta.mono (λd M1 q1=>?_) (λ_ _ z=>z) q⟩;intro v H1 S1 l1 o1 r1;dsimp only at q1
 split at q1
 ·simp only[Rep] at r1;exact⟨true,r1,by rw[if_pos rfl];exact⟨ρ,M1,S1,E,o1,s.mono l1.le,er.mono l1,tb.mono (λc M2 q2 v2 H2 S2 l2 o2 r2=>q2 v2 H2 S2 (l1.trans l2) o2 r2) (λ_ _ z=>z) q1⟩⟩
 ·simp only[Rep] at r1;exact⟨false,r1,by rw[if_neg aad];exact q1 _ H1 S1 l1 o1 (by simp only[Rep])⟩
 ·exact q1.elim
theorem y6(ha:PD X W a ta)(hb:PD X W (.BoolOp .Or (b::rest) pos) tb):PD X W (.BoolOp .Or (a::b::rest) pos) (nc ta tb):=bA (pe_or ha hb) λσ H Q h=>by
 obtain⟨ρ,M,S,E,o,s,er,q⟩:=h;refine⟨ρ,M,S,E,o,s,er,ta.mono (λd M1 q1=>?_) (λ_ _ z=>z) q⟩;intro v H1 S1 l1 o1 r1;dsimp only at q1
 split at q1
 ·simp only[Rep] at r1;exact⟨true,r1,by rw[if_pos rfl];exact q1 _ H1 S1 l1 o1 (by simp only[Rep])⟩
 ·simp only[Rep] at r1;exact⟨false,r1,by rw[if_neg aad];exact⟨ρ,M1,S1,E,o1,s.mono l1.le,er.mono l1,tb.mono (λc M2 q2 v2 H2 S2 l2 o2 r2=>q2 v2 H2 S2 (l1.trans l2) o2 r2) (λ_ _ z=>z) q1⟩⟩
 ·exact q1.elim
theorem y0(ha:PD X W a ta):PD X W (.UnaryOp .Not a pos) (jZ ta):=bA (pe_not ha) λσ H Q h=>by
 obtain⟨ρ,M,S,E,o,s,er,q⟩:=h;refine⟨ρ,M,S,E,o,s,er,ta.mono (λd M1 q1=>?_) (λ_ _ z=>z) q⟩;intro v H1 S1 l1 o1 r1;dsimp only at q1
 split at q1
 ·simp only[Rep] at r1;exact⟨_,r1,q1 _ H1 S1 l1 o1 (by simp only[Rep])⟩
 ·exact q1.elim
theorem dT(hc:PDT X W c tA)(ha:PD X W a ta)(hb:PD X W b tb):PD X W (.IfExp c a b pos) (dIf tA ta tb):=bA (pe_ifExp hc ha hb) λσ H Q h=>by
 obtain⟨ρ,M,S,E,o,s,er,q⟩:=h;refine⟨ρ,M,S,E,o,s,er,tA.mono (λd M1 q1=>?_) (λ_ _ z=>z) q⟩;intro H1 S1 l1 o1;cases d with
 | true=>exact⟨ρ,M1,S1,E,o1,s.mono l1.le,er.mono l1,ta.mono (λc M2 q2 v2 H2 S2 l2 o2 r2=>q2 v2 H2 S2 (l1.trans l2) o2 r2) (λ_ _ z=>z) q1⟩
 | false=>exact⟨ρ,M1,S1,E,o1,s.mono l1.le,er.mono l1,tb.mono (λc M2 q2 v2 H2 S2 l2 o2 r2=>q2 v2 H2 S2 (l1.trans l2) o2 r2) (λ_ _ z=>z) q1⟩
def ae:Rd (List Tr):=⟨λ_ M Q _=>Q [] M,λh _ q=>h _ _ q⟩
variable {e:Expr}{es:List Expr}{t:Rd Tr}{u:Rd (List Tr)}
theorem ai:PDA X W [] ae:=yV pa_nil λσ H Q h=>by
 obtain⟨ρ,M,S,E,o,s,er,q⟩:=h;exact q [] H S (Gr.refl S H) o ah.nil
theorem Hz{K:Frg}{σ:L2.St}{H:Hp}{Q:List V->Hp->Prop}(h:gT K W (ac t u) σ H Q):tCons (bO K W t) (gT K W u) σ H Q:=by obtain⟨ρ,M,S,E,o,s,er,q⟩:=h;refine⟨ρ,M,S,E,o,s,er,t.mono (λd M1 q1=>?_) (λ_ _ z=>z) q⟩;intro v H1 S1 l1 o1 r1;refine⟨ρ,M1,S1,E,o1,s.mono l1.le,er.mono l1,u.mono (λds M2 q2=>?_) (λ_ _ z=>z) q1⟩;intro vs H2 S2 l2 o2 r2;exact q2 _ H2 S2 (l1.trans l2) o2 (ah.cons (Rep.mono l2.le _ _ r1) r2)
theorem af(h1:PD X W e t)(h:PDA X W es u)(hs:starEach (e::es) X.env=(false,eval e X.env)::starEach es X.env:=by rfl):PDA X W (e::es) (ac t u):=yV (pa_cons h1 h hs) λ_ _ _=>Hz
theorem cU:big=sizeLine:=by rw[sizeLine_eq];rfl
def lc(u:Rd (List Tr)):Rd Tr:=⟨λρ M Q E=>u.f ρ M (λds M1=>ds.length<=big/\Q (.cell M1.length) (M1++[.lst ds])) E,λh h' q=>u.mono (λds M1 z=>⟨z.1,h _ _ z.2⟩) h' q⟩
theorem lj{K:Frg}{S:Gh}{M:Me}{H:Hp}{ds:List Tr}{vs:List V}{p:Addr}(o:OkH K S M H)(r:ah K S ds vs)(n:H p=none) :
  ∃ S',Gr S H S' (upd H p (.lst vs))/\OkH K S' M (upd H p (.lst vs))/\Rep K S' (.lst ds) (.ref p):=by
 obtain⟨o',l⟩:=o.tree (o:=.lst vs) n;refine⟨_,nH l n,o',?_⟩;simp only[Rep];exact⟨p,vs,rfl,upd_same,ah.mono l _ _ r⟩
theorem nZ{K:Frg}{S:Gh}{M:Me}{H:Hp}{ds:List Tr}{vs:List V}{p:Addr}(o:OkH K S M H)(r:ah K S ds vs)(n:H p=none) :
  ∃ S',Gr S H S' (upd H p (.tup vs))/\OkH K S' M (upd H p (.tup vs))/\Rep K S' (.tup ds) (.ref p):=by
 obtain⟨o',l⟩:=o.tree (o:=.tup vs) n;refine⟨_,nH l n,o',?_⟩;simp only[Rep];exact⟨p,vs,rfl,SqT.of upd_same,ah.mono l _ _ r⟩
theorem Ib{K:Frg}{S:Gh}{M:Me}{H:Hp}{ds:List Tr}{vs:List V}{p:Addr}(o:OkH K S M H)(r:ah K S ds vs)(n:H p=none) :
  ∃ S',Gr S H S' (upd H p (.lst vs))/\OkH K S' (M++[.lst ds]) (upd H p (.lst vs))/\Rep K S' (.cell M.length) (.ref p):=by
 obtain⟨o',l⟩:=o.newCell (o:=.lst vs) (c:=.lst ds) n ⟨(o.fresh n).1,vs,upd_same,r⟩;refine⟨_,xL l n,o',?_⟩;simp only[Rep];exact⟨p,rfl,by rw[show M.length=S.C.length from o.len.symm];simp⟩
theorem bh(p:PDA X W es u):PD X W (.List es pos) (aI u):=bA (pe_lst p) λσ H Q h=>by
 obtain⟨ρ,M,S,E,o,s,er,q⟩:=h;refine⟨ρ,M,S,E,o,s,er,u.mono (λds M1 q1=>?_) (λ_ _ z=>z) q⟩;intro vs H1 S1 l1 o1 r1;refine⟨by rw[<- r1.length,<- cU];exact q1.1,λp n=>?_⟩;obtain⟨S2,l2,o2,r2⟩:=lj o1 r1 n;exact q1.2 _ _ S2 (l1.trans l2) o2 r2
theorem yZ(p:PDA X W es u):PD X W (.List es pos) (lc u):=bA (pe_lst p) λσ H Q h=>by
 obtain⟨ρ,M,S,E,o,s,er,q⟩:=h;refine⟨ρ,M,S,E,o,s,er,u.mono (λds M1 q1=>?_) (λ_ _ z=>z) q⟩;intro vs H1 S1 l1 o1 r1;refine⟨by rw[<- r1.length,<- cU];exact q1.1,λp n=>?_⟩;obtain⟨S2,l2,o2,r2⟩:=Ib o1 r1 n;exact q1.2 _ _ S2 (l1.trans l2) o2 r2
theorem ku{k:Nat}(p:PDA X W es u):PD X W (.Tuple es k pos) (fH u):=bA (pe_tup p) λσ H Q h=>by
 obtain⟨ρ,M,S,E,o,s,er,q⟩:=h;refine⟨ρ,M,S,E,o,s,er,u.mono (λds M1 q1=>?_) (λ_ _ z=>z) q⟩;intro vs H1 S1 l1 o1 r1;refine⟨by rw[<- r1.length,<- cU];exact q1.1,λp n=>?_⟩;obtain⟨S2,l2,o2,r2⟩:=nZ o1 r1 n;exact q1.2 _ _ S2 (l1.trans l2) o2 r2
end
def bj(M:Me):Tr->Option (List Tr)
 | .lst xs=>some xs
 | .cell k=>(match M[k]? with
  | some (.lst xs)=>some xs
  | _=>none)
 | _=>none
def cO(M:Me):Tr->Option (List Tr)
 | .tup xs=>some xs
 | .scr ns=>some (ns.map Tr.int)
 | d=>bj M d
section
variable {K:Frg}{S:Gh}{M:Me}{H:Hp}{d:Tr}{v:V}{xs:List Tr}
theorem cC(o:OkH K S M H){k:Nat}{c:Ce}(r:Rep K S (.cell k) v)(e:M[k]?=some c):∃ a,v=.ref a/\S.C[k]?=some a/\dz K S H a c:=by simp only[Rep] at r;obtain⟨a,rfl,q⟩:=r;exact⟨a,rfl,q,o.cell k a c q e⟩
theorem gv(o:OkH K S M H)(r:Rep K S d v)(e:bj M d=some xs):∃ a vs,v=.ref a/\H a=some (.lst vs)/\ah K S xs vs:=by
 cases d with
 | lst ys =>
  simp only[bj,Option.some.injEq] at e;subst e;simp only[Rep] at r;obtain⟨a,vs,rfl,g,q⟩:=r;exact⟨a,vs,rfl,o.sub _ _ g,q⟩
 | cell k =>
  simp only[bj] at e
  split at e
  ·rename_i ys h;cases e;obtain⟨a,rfl,_,_,vs,h1,h2⟩:=cC o r h;exact⟨a,vs,rfl,h1,h2⟩
  ·cases e
 | _=>simp [bj] at e
theorem mw(o:OkH K S M H)(r:Rep K S d v)(e:cO M d=some xs):∃ a vs,v=.ref a/\(SqL K H a vs∨SqT K H a vs)/\ah K S xs vs:=by
 cases d with
 | tup ys =>
  simp only[cO,Option.some.injEq] at e;subst e;simp only[Rep] at r;obtain⟨a,vs,rfl,g,q⟩:=r;exact⟨a,vs,rfl,.inr (o.sqT g),q⟩
 | scr ns =>
  simp only[cO,Option.some.injEq] at e;subst e;simp only[Rep] at r;obtain⟨a,rfl,g⟩:=r;exact⟨a,_,rfl,.inl (o.sqL g),(ah.ints ns).mpr rfl⟩
 | _ =>
  simp only[cO] at e;obtain⟨a,vs,rfl,h,q⟩:=gv o r e;exact⟨a,vs,rfl,.inl (SqL.of h),q⟩
end
def fi(M:Me):Tr->Tr
 | .cell k=>(match M[k]? with
  | some (.lst xs)=>.lst xs
  | _=>.cell k)
 | d=>d
section
variable {K:Frg}{S:Gh}{M:Me}{H:Hp}
mutual
theorem zj(o:OkH K S M H):∀(d:Tr)(v:V)(p:PyData),Rep K S d v->pyd d=some p->Dp K H v p
 | .non,v,p,r,e=>by simp only[Rep] at r;simp only[pyd,Option.some.injEq] at e;subst r e;exact .non
 | .bl b,v,p,r,e=>by simp only[Rep] at r;simp only[pyd,Option.some.injEq] at e;subst r e;exact .bl b
 | .int b,v,p,r,e=>by simp only[Rep] at r;simp only[pyd,Option.some.injEq] at e;subst r e;exact .int b
 | .str b,v,p,r,e=>by simp only[Rep] at r;simp only[pyd,Option.some.injEq] at e;subst r e;exact .str b
 | .lst xs,v,p,r,e=>by
  simp only[Rep] at r;simp only[pyd,bz] at e;obtain⟨a,vs,rfl,g,q⟩:=r;obtain⟨ps,e1,rfl⟩:=e;exact .lst (SqL.of (o.sub _ _ g)) (lC o xs vs ps q e1)
 | .tup xs,v,p,r,e=>by
  simp only[Rep] at r;simp only[pyd,bz] at e;obtain⟨a,vs,rfl,g,q⟩:=r;obtain⟨ps,e1,rfl⟩:=e;exact .tup (o.sqT g) (lC o xs vs ps q e1)
 | .dct _ _,v,p,r,e=>by simp [pyd] at e
 | .dkf _ _,v,p,r,e=>by simp [pyd] at e
 | .ins _ _,v,p,r,e=>by simp [pyd] at e
 | .exc _ _,v,p,r,e=>by simp [pyd] at e
 | .cell _,v,p,r,e=>by simp [pyd] at e
 | .scr _,v,p,r,e=>by simp [pyd] at e
theorem lC(o:OkH K S M H):∀(ds:List Tr)(vs:List V)(ps:List PyData),ah K S ds vs->dJ ds=some ps->DpAll K H vs ps
 | [],vs,ps,r,e=>by simp only[ah] at r;simp only[dJ,Option.some.injEq] at e;subst r e;exact .nil
 | d::ds,vs,ps,r,e=>by
  simp only[ah] at r;obtain⟨v,t,rfl,h1,h2⟩:=r;simp only[dJ] at e
  split at e
  ·rename_i p qs e1 e2;cases e;exact .cons (zj o d v p h1 e1) (lC o ds t qs h2 e2)
  ·cases e
end
theorem mF(o:OkH K S M H){d:Tr}{v:V}{p:PyData}(r:Rep K S d v)(e:pyd (fi M d)=some p):Dp K H v p:=by
 cases d with
 | cell k =>
  simp only[fi] at e
  split at e
  ·rename_i xs h;obtain⟨a,rfl,_,_,vs,h1,h2⟩:=cC o r h;simp only[pyd,bz] at e;obtain⟨ps,e1,rfl⟩:=e;exact .lst (SqL.of h1) (lC o xs vs ps h2 e1)
  ·simp [pyd] at e
 | _=>exact zj o _ v p r e
end
def eqB(M:Me)(d e:Tr):Option Bool:=match pyd (fi M d),pyd (fi M e) with
 | some a,some b=>if SeqAt.shaped a&&SeqAt.shaped b then some (PyData.eqv a b) else none
 | _,_=>none
def eqT:F2:=λM d e=>(eqB M d e).map Tr.bl
def neT:F2:=λM d e=>(eqB M d e).map λb=>Tr.bl (!b)
def aq:F2:=λM d e=>match d,e with
 | .int i,.int j=>some (.int (i+j))
 | .str a,.str b=>if a.length+b.length<=big then some (.str (a++b)) else none
 | .tup xs,.tup ys=>if xs.length+ys.length<=big then some (.tup (xs++ys)) else none
 | d,e=>match bj M d,bj M e with
  | some xs,some ys=>if xs.length+ys.length<=big then some (.lst (xs++ys)) else none
  | _,_=>none
def dN:F2:=λ_ d e=>match d,e with
 | .int i,.int j=>some (.int (i - j))
 | _,_=>none
def g9(i:Int):Bool:=decide (-(2 ^ 64) < i)&&decide (i < 2 ^ 64)
def bT:F2:=λM d e=>match d,e with
 | .int i,.int j=>if g9 i||g9 j then some (.int (i * j)) else none
 | d,.int k=>match bj M d with
  | some xs=>if decide (-(2 ^ 63)<=k)&&decide (k < 2 ^ 63)&&decide (xs.length * k.toNat<=big) then some (.lst (bW k.toNat xs).flatten) else none
  | none=>none
 | _,_=>none
def jv:F2:=λ_ d e=>match d,e with
 | .int i,.int j=>if 0 < j then some (.int (i % j)) else none
 | _,_=>none
def nr:F2:=λ_ d e=>match d,e with
 | .int i,.int j=>if 0 < j/\j < 1073741824 then some (.int (i / j)) else none
 | _,_=>none
def fv:F2:=λ_ d e=>match d,e with
 | .int i,.int j=>if 0<=j/\j<=1000000/\i.natAbs < 2 ^ 64 then some (.int (i ^ j.toNat)) else none
 | _,_=>none
def c5(p:Int->Int->Bool):F2:=λ_ d e=>match d,e with
 | .int i,.int j=>some (.bl (p i j))
 | _,_=>none
def ltT:F2:=c5 λi j=>decide (i < j)
def leT:F2:=c5 λi j=>decide (i<=j)
def gtT:F2:=c5 λi j=>decide (j < i)
def geT:F2:=c5 λi j=>decide (j<=i)
def isNone:Tr->Bool
 | .non=>true
 | _=>false
def fk:F2:=λ_ d e=>match e with
 | .non=>some (.bl (isNone d))
 | _=>none
def kn:F2:=λ_ d e=>match e with
 | .non=>some (.bl (!isNone d))
 | _=>none
def inB(M:Me)(d e:Tr):Option Bool:=match e with
 | .str z=>(match d with
  | .str x=>(match x.cps.toList with
   | [c]=>some (decide (c∈z.cps.toList))
   | _=>none)
  | _=>none)
 | e=>match pyd (fi M d),(cO M e).bind dJ with
  | some p,some ps=>if SeqAt.shaped p&&SeqAt.shaped (.list ps) then some (ps.any λz=>PyData.eqv z p) else none
  | _,_=>none
def inT:F2:=λM d e=>(inB M d e).map Tr.bl
def gU:F2:=λM d e=>(inB M d e).map λb=>Tr.bl (!b)
section
variable {X:Cx}
theorem BQ{i:Int}(h:g9 i=true):-(2 ^ 64) < i/\i < 2 ^ 64:=by unfold g9 at h;simp only[ax,decide_eq_true_eq] at h;exact h
theorem dv{K:Frg}{S:Gh}{i:Int}:Rep K S (.int i) (.int i):=by simp only[Rep]
theorem fw{K:Frg}{S:Gh}{b:Bool}:Rep K S (.bl b) (.bl b):=by simp only[Rep]
theorem fb{K:Frg}{S:Gh}{b:Str}:Rep K S (.str b) (.str b):=by simp only[Rep]
theorem jA{K:Frg}{S:Gh}:Rep K S .non .non:=by simp only[Rep]
theorem tu{g:Value->Value->Sem Value}{C:Int->Int->Prop}{f:Int->Int->V}{F:F2}(h:OpR X g (rI C f))(hF:∀ M d e z,F M d e=some z->∃ i j,d=.int i/\e=.int j/\C i j/\∀ S,Rep X.K S z (f i j)):OpR X g (rD X.K F):=by refine iF h λx y H Q q=>?_;obtain⟨S,M,d,e,z,o,r1,r2,hz,k⟩:=q;obtain⟨i,j,rfl,rfl,c,rz⟩:=hF M d e z hz;simp only[Rep] at r1 r2;exact⟨i,j,r1,r2,c,k _ H S (Gr.refl S H) o (rz S)⟩
theorem yT{g:Value->Value->Sem Value}{f:Int->Int->V}{F:F2}(h:OpR X g (rI0 f))(hF:∀ M d e z,F M d e=some z->∃ i j,d=.int i/\e=.int j/\∀ S,Rep X.K S z (f i j)):OpR X g (rD X.K F):=by refine iF h λx y H Q q=>?_;obtain⟨S,M,d,e,z,o,r1,r2,hz,k⟩:=q;obtain⟨i,j,rfl,rfl,rz⟩:=hF M d e z hz;simp only[Rep] at r1 r2;exact⟨i,j,r1,r2,k _ H S (Gr.refl S H) o (rz S)⟩
theorem jy:OpR X (binaryOp .Sub) (rD X.K dN):=yT op_sub λM d e z h=>by
 unfold dN at h
 split at h
 ·cases h;exact⟨_,_,rfl,rfl,λ_=>dv⟩
 ·cases h
theorem sY:OpR X (binaryOp .Mod) (rD X.K jv):=tu op_mod λM d e z h=>by
 unfold jv at h
 split at h
 ·split at h
  ·rename_i hc;cases h;exact⟨_,_,rfl,rfl,hc,λ_=>dv⟩
  ·cases h
 ·cases h
theorem Ih:OpR X (binaryOp .FloorDiv) (rD X.K nr):=tu op_fdiv λM d e z h=>by
 unfold nr at h
 split at h
 ·split at h
  ·rename_i hc;cases h;exact⟨_,_,rfl,rfl,hc,λ_=>dv⟩
  ·cases h
 ·cases h
theorem oj:OpR X (binaryOp .Pow) (rD X.K fv):=tu op_pow λM d e z h=>by
 unfold fv at h
 split at h
 ·split at h
  ·rename_i hc;cases h;exact⟨_,_,rfl,rfl,hc,λ_=>dv⟩
  ·cases h
 ·cases h
theorem og{g:Value->Value->Sem Value}{p:Int->Int->Bool}(h:OpR X g (rI0 λi j=>.bl (p i j))):OpR X g (rD X.K (c5 p)):=yT h λM d e z h=>by
 unfold c5 at h
 split at h
 ·cases h;exact⟨_,_,rfl,rfl,λ_=>fw⟩
 ·cases h
theorem ko:OpR X (compareOp .Lt) (rD X.K ltT):=og op_lt
theorem yI:OpR X (compareOp .LtE) (rD X.K leT):=og op_le
theorem jx:OpR X (compareOp .Gt) (rD X.K gtT):=og op_gt
theorem Ii:OpR X (compareOp .GtE) (rD X.K geT):=og op_ge
theorem aR:OpR X (binaryOp .Add) (rD X.K aq):=by
 intro pins s σ H x y v u Q I rx ry h;obtain⟨S,M,d,e,z,o,r1,r2,hz,k⟩:=h;unfold aq at hz
 split at hz
 ·cases hz;simp only[Rep] at r1 r2;exact op_add pins s σ H x y v u Q I rx ry ⟨_,_,r1,r2,k _ H S (Gr.refl S H) o dv⟩
 ·split at hz
  ·rename_i hc;cases hz;simp only[Rep] at r1 r2;exact op_add_str pins s σ H x y v u Q I rx ry ⟨_,_,r1,r2,by rw[<- cU];exact hc,k _ H S (Gr.refl S H) o fb⟩
  ·cases hz
 ·split at hz
  ·rename_i xs ys hc;cases hz;simp only[Rep] at r1 r2;obtain⟨a,vs,rfl,g1,q1⟩:=r1;obtain⟨b,ws,rfl,g2,q2⟩:=r2;refine op_catA pins s σ H _ _ v u Q I rx ry ⟨a,b,vs,ws,rfl,rfl,o.sqT g1,o.sqT g2,by rw[<- q1.length,<- q2.length,<- cU];exact hc,λe=>?_,λ_ e=>?_,λ_ _ p n=>?_⟩
   ·have:xs=[]:=by
     have:=q1.length;rw[e] at this;exact gE.mp this
    refine k _ H S (Gr.refl S H) o ?_;rw[this,bR];simp only[Rep];exact⟨b,ws,rfl,g2,q2⟩
   ·have:ys=[]:=by
     have:=q2.length;rw[e] at this;exact gE.mp this
    refine k _ H S (Gr.refl S H) o ?_;rw[this,bq];simp only[Rep];exact⟨a,vs,rfl,g1,q1⟩
   ·obtain⟨S',l,o',r⟩:=nZ o (q1.append q2) n;exact k _ _ S' l o' r
  ·cases hz
 ·split at hz
  ·rename_i xs ys e1 e2
   split at hz
   ·rename_i hc;cases hz;obtain⟨a,vs,rfl,h1,q1⟩:=gv o r1 e1;obtain⟨b,ws,rfl,h2,q2⟩:=gv o r2 e2;refine op_cat pins s σ H _ _ v u Q I rx ry ⟨a,b,vs,ws,rfl,rfl,h1,h2,by rw[<- q1.length,<- q2.length,<- cU];exact hc,λp n=>?_⟩;obtain⟨S',l,o',r⟩:=lj o (q1.append q2) n;exact k _ _ S' l o' r
   ·cases hz
  ·cases hz
theorem e8:OpR X (binaryOp .Mult) (rD X.K bT):=by
 intro pins s σ H x y v u Q I rx ry h;obtain⟨S,M,d,e,z,o,r1,r2,hz,k⟩:=h;unfold bT at hz
 split at hz
 ·split at hz
  ·rename_i i j hc;cases hz;simp only[Rep] at r1 r2;refine op_mul pins s σ H x y v u Q I rx ry ⟨_,_,r1,r2,?_,k _ H S (Gr.refl S H) o dv⟩;rcases Bool.or_eq_true_iff.mp hc with hc|hc
   ·exact .inl (BQ hc)
   ·exact .inr (BQ hc)
  ·cases hz
 ·split at hz
  ·rename_i xs e1
   split at hz
   ·rename_i hc;cases hz;simp only[ax,decide_eq_true_eq] at hc;obtain⟨⟨h1,h2⟩,h3⟩:=hc;simp only[Rep] at r2;obtain⟨a,vs,rfl,g1,q1⟩:=gv o r1 e1;refine op_rep pins s σ H _ _ v u Q I rx ry ⟨a,_,vs,rfl,r2,g1,h1,h2,by rw[<- q1.length,<- cU];exact h3,λp n=>?_⟩;obtain⟨S',l,o',r⟩:=lj o (q1.replicate _) n;exact k _ _ S' l o' r
   ·cases hz
  ·cases hz
 ·cases hz
theorem bJ(hu:X.A.units+64 < cLine):OpR X (compareOp .Eq) (rD X.K eqT):=iF (op_eqD hu) λx y H Q h=>by
 obtain⟨S,M,d,e,z,o,r1,r2,hz,k⟩:=h;simp only[eqT,eqB,bz] at hz;obtain⟨b,hz,rfl⟩:=hz
 split at hz
 ·rename_i p q e1 e2
  split at hz
  ·rename_i hc;cases hz;obtain⟨s1,s2⟩:=gz.mp hc;exact⟨p,q,mF o r1 e1,mF o r2 e2,s1,s2,k _ H S (Gr.refl S H) o fw⟩
  ·cases hz
 ·cases hz
theorem cM(hu:X.A.units+64 < cLine):OpR X (compareOp .NotEq) (rD X.K neT):=iF (op_neD hu) λx y H Q h=>by
 obtain⟨S,M,d,e,z,o,r1,r2,hz,k⟩:=h;simp only[neT,eqB,bz] at hz;obtain⟨b,hz,rfl⟩:=hz
 split at hz
 ·rename_i p q e1 e2
  split at hz
  ·rename_i hc;cases hz;obtain⟨s1,s2⟩:=gz.mp hc;exact⟨p,q,mF o r1 e1,mF o r2 e2,s1,s2,k _ H S (Gr.refl S H) o fw⟩
  ·cases hz
 ·cases hz
theorem sG{K:Frg}{S:Gh}{d:Tr}{v:V}(r:Rep K S d v):decide (v=.non)=isNone d:=by
 cases d with
 | non=>simp only[Rep] at r;subst r;rfl
 | bl _=>simp only[Rep] at r;subst r;rfl
 | int _=>simp only[Rep] at r;subst r;rfl
 | str _=>simp only[Rep] at r;subst r;rfl
 | lst _=>simp only[Rep] at r;obtain⟨a,vs,rfl,_⟩:=r;rfl
 | tup _=>simp only[Rep] at r;obtain⟨a,vs,rfl,_⟩:=r;rfl
 | dct _ _=>simp only[Rep] at r;obtain⟨a,vs,rfl,_⟩:=r;rfl
 | ins _ _=>simp only[Rep] at r;obtain⟨a,dx,fs,rfl,_⟩:=r;rfl
 | exc _ _=>simp only[Rep] at r;obtain⟨a,rfl,_⟩:=r;rfl
 | cell _=>simp only[Rep] at r;obtain⟨a,rfl,_⟩:=r;rfl
 | scr _=>simp only[Rep] at r;obtain⟨a,rfl,_⟩:=r;rfl
 | dkf _ _=>simp only[Rep] at r;obtain⟨a,od,vs,rfl,_⟩:=r;rfl
theorem lq:OpR X (compareOp .Is) (rD X.K fk):=iF op_isN λx y H Q h=>by
 obtain⟨S,M,d,e,z,o,r1,r2,hz,k⟩:=h;unfold fk at hz
 split at hz
 ·cases hz;simp only[Rep] at r2;refine⟨r2,?_⟩;rw[sG r1];exact k _ H S (Gr.refl S H) o fw
 ·cases hz
theorem Ij:OpR X (compareOp .IsNot) (rD X.K kn):=iF op_notN λx y H Q h=>by
 obtain⟨S,M,d,e,z,o,r1,r2,hz,k⟩:=h;unfold kn at hz
 split at hz
 ·cases hz;simp only[Rep] at r2;refine⟨r2,?_⟩;rw[sG r1];exact k _ H S (Gr.refl S H) o fw
 ·cases hz
end
section
variable {X:Cx}{W:WX}{pos:Pos}
theorem EO{K:Frg}{H:Hp}{a:Addr}{vs:List V}{ds:List PyData}(h:SqL K H a vs∨SqT K H a vs)(q:DpAll K H vs ds):Dp K H (.ref a) (.list ds)∨Dp K H (.ref a) (.tuple ds):=by
 rcases h with h|h
 ·exact .inl (.lst h q)
 ·exact .inr (.tup h q)
theorem JY{ds:List PyData}(h:SeqAt.shaped (.list ds)=true):PyData.canLayAll0 ds=true:=by have:=SeqAt.canLay_of_shaped h;simpa [PyData.canLay0] using this
theorem GZ{M:Me}{d:Tr}{z:Str}{b:Bool}(h:inB M d (.str z)=some b):∃ c,d=.str ⟨#[c]⟩/\b=decide (c∈z.cps.toList):=by
 cases d with
 | str x =>
  obtain⟨⟨l⟩⟩:=x
  match l,h with
  | [c],h=>exact⟨c,rfl,by simpa [inB] using h.symm⟩
  | [],h=>simp [inB] at h
  | _::_::_,h=>simp [inB] at h
 | _=>simp [inB] at h
theorem yH{neg:Bool}{op:CmpOp}
  (r1:OpR X (compareOp op) (λx y H Q=>∃(c:Nat)(z:Str),x=.str ⟨#[c]⟩/\y=.str z/\Q (.bl (if neg then !decide (c∈z.cps.toList) else decide (c∈z.cps.toList))) H))
  (r2:∀{A:Around}{E:Value->Shared->Prop}{s:Shared}{c x:Value}{xs:List PyData}{d:PyData}{as bs:List Addr}{Q:Value->Shared->Prop}(rc:Reads s.heap c (.list xs) as∨Reads s.heap c (.tuple xs) as)(rx:Reads s.heap x d bs)(hxs:PyData.canLayAll0 xs=true)(hd:d.canLay0=true)
   (hu:A.units+1+min (PyData.depthAll xs) d.depth < cLine) (h:Q (.bool (if neg then !(xs.any λy=>PyData.eqv y d) else xs.any λy=>PyData.eqv y d)) s),wpAny (model X.prog X.w) A (compareOp op x c) Q E s)
  (hu:X.A.units+65 < cLine):OpR X (compareOp op) (rD X.K λM d e=>(inB M d e).map λb=>Tr.bl (if neg then !b else b)):=by
 intro pins s σ H x y v u Q I rx ry h;obtain⟨S,M,d,e,z,o,q1,q2,hz,k⟩:=h;simp only[bz] at hz;obtain⟨b,hz,rfl⟩:=hz;have data:∀{p:PyData}{ps:List PyData}{xs:List Tr},pyd (fi M d)=some p->cO M e=some xs->dJ xs=some ps->SeqAt.shaped p=true->SeqAt.shaped (.list ps)=true->b=(ps.any λz=>PyData.eqv z p) ->
   wpAny (model X.prog X.w) X.A (compareOp op v u) (EP X pins σ Q) X.xe s:=by
  intro p ps xs e1 e2 e3 s1 s2 hb;obtain⟨a,vs,rfl,hq,rs⟩:=mw o q2 e2;have dp:=mF o q1 e1;have dq:=EO hq (lC o xs vs ps rs e3);obtain⟨as1,d1⟩:=Dp.reads I p x v dp rx;have d2:∃ as,Reads s.heap u (.list ps) as∨Reads s.heap u (.tuple ps) as:=by
   rcases dq with dq|dq
   ·obtain⟨as,t⟩:=Dp.reads I _ _ u dq ry;exact⟨as,.inl t⟩
   ·obtain⟨as,t⟩:=Dp.reads I _ _ u dq ry;exact⟨as,.inr t⟩
  obtain⟨as2,d2⟩:=d2;refine r2 d2 d1 (JY s2) (SeqAt.canLay_of_shaped s1) ?_ ⟨.bl _,H,I,rfl,by rw[<- hb];exact k _ H S (Gr.refl S H) o fw⟩;have h1:=SeqAt.depth_of_shaped s1;have h2:min (PyData.depthAll ps) p.depth<=p.depth:=Nat.min_le_right _ _;omega
 have str:∀ z',e=.str z'->wpAny (model X.prog X.w) X.A (compareOp op v u) (EP X pins σ Q) X.xe s:=by intro z' he;subst he;obtain⟨c,rfl,rfl⟩:=GZ hz;simp only[Rep] at q1 q2;exact r1 pins s σ H x y v u Q I rx ry ⟨c,z',q1,q2,k _ H S (Gr.refl S H) o fw⟩
 unfold inB at hz
 split at hz
 ·exact str _ rfl
 ·split at hz
  ·rename_i p ps e1 e2
   split at hz
   ·rename_i hc;cases hz;obtain⟨s1,s2⟩:=gz.mp hc;obtain⟨xs,f1,f2⟩:=cn.mp e2;exact data e1 f1 f2 s1 s2 rfl
   ·cases hz
  ·cases hz
theorem oh(hu:X.A.units+65 < cLine):OpR X (compareOp .In) (rD X.K inT):=by
 refine iF (yH (neg:=false) op_in_sign (λrc rx h1 h2 h3 h=>?_) hu) λx y H Q h=>?_
 ·rcases rc with rc|rc
  ·exact SeqAt.in_list_reads rc rx h1 h2 h3 h
  ·exact SeqAt.in_tuple_reads rc rx h1 h2 h3 h
 ·exact h
theorem yJ(hu:X.A.units+65 < cLine):OpR X (compareOp .NotIn) (rD X.K gU):=by
 refine iF (yH (neg:=true) op_notIn_sign (λrc rx h1 h2 h3 h=>?_) hu) λx y H Q h=>?_
 ·rcases rc with rc|rc
  ·exact SeqAt.notIn_list_reads rc rx h1 h2 h3 h
  ·exact SeqAt.notIn_tuple_reads rc rx h1 h2 h3 h
 ·exact h
def L4:F2:=λM d e=>match e with
 | .int i=>(match d with
  | .str z=>if z.length<=big then (atI z.cps.toList i).map λc=>Tr.str ⟨#[c]⟩ else none
  | d=>(cO M d).bind λxs=>atI xs i)
 | _=>none
def IxD(X:Cx)(f:F2):Prop:=IxR X (rD X.K f)
theorem Ha{r r':R2}(h:IxR X r)(i:∀ x y H Q,r' x y H Q->r x y H Q):IxR X r':=λvalue slice pins s σ H x y v u Q I rx ry q hs=>h value slice pins s σ H x y v u Q I rx ry (i x y H Q q) hs
theorem JH{K:Frg}{S:Gh}{ds:List Tr}{vs:List V}{i:Int}{d:Tr}(r:ah K S ds vs)(e:atI ds i=some d):∃ v,atI vs i=some v/\Rep K S d v:=by unfold atI at e ⊢;rw[<- r.length];obtain⟨j,e1,e2⟩:=cn.mp e;obtain⟨v,e3,e4⟩:=r.get e2;exact⟨v,by rw[e1];exact e3,e4⟩
theorem dm:IxD X L4:=by
 refine Ha (IxR.or ix_str (IxR.or ix_list ix_tup)) λx y H Q h=>?_;obtain⟨S,M,d,e,z,o,q1,q2,hz,k⟩:=h;unfold L4 at hz
 split at hz
 ·rename_i i;simp only[Rep] at q2
  split at hz
  ·rename_i z'
   split at hz
   ·rename_i hl;obtain⟨c,hc,rfl⟩:=bz.mp hz;simp only[Rep] at q1;exact .inl ⟨z',i,c,q1,q2,by rw[<- cU];exact hl,hc,k _ H S (Gr.refl S H) o fb⟩
   ·cases hz
  ·obtain⟨xs,f1,f2⟩:=cn.mp hz;obtain⟨a,vs,rfl,hq,rs⟩:=mw o q1 f1;obtain⟨w,e1,e2⟩:=JH rs f2;rcases hq with hq|hq
   ·exact .inr (.inl ⟨a,vs,i,w,rfl,q2,hq,e1,k _ H S (Gr.refl S H) o e2⟩)
   ·exact .inr (.inr ⟨a,vs,i,w,rfl,q2,hq,e1,k _ H S (Gr.refl S H) o e2⟩)
 ·cases hz
variable {a b c e:Expr}{es:List Expr}{ta tb tc t:Rd Tr}{u:Rd (List Tr)}
theorem dt{f:F2}(hr:IxD X f)(ha:PD X W a ta)(hb:PD X W b tb)(hs:PlainIx b):PD X W (.Subscript a b pos) (F3 f ta tb):=bA (pe_ix hr ha hb hs) λ_ _ _=>nU
def ay:Option (Rd Tr)->Rd (Option Int)
 | none=>⟨λ_ M Q _=>Q none M,λh _ q=>h _ _ q⟩
 | some t=>⟨λρ M Q E=>t.f ρ M (λd M1=>match d with
  | .int i=>Q (some i) M1
  | _=>False) E,λh h' q=>t.mono (λd M1 z=>by
   split at z
   ·exact h _ _ z
   ·exact z.elim) h' q⟩
def Hv(K:Frg)(W:WX)(t:Rd (Option Int)):TO:=λσ H Q=>∃ ρ M S E,OkH K S M H/\be K S ρ σ/\fj K W S H σ E/\t.f ρ M (λo M'=>∀ H' S',Gr S H S' H'->OkH K S' M' H'->Q o H') E
abbrev PDO(X:Cx)(W:WX)(e:Option Expr)(t:Rd (Option Int)):Prop:=PO X e (Hv X.K W t)
theorem ze{e:Option Expr}{t t':TO}(p:PO X e t)(h:∀ σ H Q,t' σ H Q->t σ H Q):PO X e t':=⟨λpins s σ H Q I q=>p.run pins s σ H Q I (h σ H Q q)⟩
theorem eu:PDO X W none (ay none):=ze po_none λσ H Q h=>by
 obtain⟨ρ,M,S,E,o,s,er,q⟩:=h;exact q H S (Gr.refl S H) o
theorem cx(h:PD X W e t):PDO X W (some e) (ay (some t)):=ze (po_some h) λσ H Q h=>by
 obtain⟨ρ,M,S,E,o,s,er,q⟩:=h;refine⟨ρ,M,S,E,o,s,er,t.mono (λd M1 q1=>?_) (λ_ _ z=>z) q⟩;intro v H1 S1 l1 o1 r1;dsimp only at q1
 split at q1
 ·simp only[Rep] at r1;exact⟨_,r1,q1 H1 S1 l1 o1⟩
 ·exact q1.elim
def jY(xs:List Tr)(lo hi:Option Int):List Tr:=(xs.drop (HT.sIx xs.length 0 lo)).take (HT.sIx xs.length xs.length hi - HT.sIx xs.length 0 lo)
def slF(M:Me)(d:Tr)(lo hi:Option Int):Option Tr:=match d with
 | .str z=>if z.length<=big then some (.str (cutS z lo hi)) else none
 | .tup xs=>some (.tup (jY xs lo hi))
 | d=>(bj M d).map λxs=>Tr.lst (jY xs lo hi)
def dSl(t:Rd Tr)(lo hi:Rd (Option Int)):Rd Tr:=⟨λρ M Q E=>t.f ρ M (λd M1=>lo.f ρ M1 (λl M2=>hi.f ρ M2 (λh M3=>au (slF M3 d l h) λz=>Q z M3) E) E) E,
 λh h' q=>t.mono (λd M1=>lo.mono (λl M2=>hi.mono (λg M3=>cm λz=>h z M3) h') h') h' q⟩
theorem AW{K:Frg}{S:Gh}{ds:List Tr}{vs:List V}{lo hi:Option Int}(r:ah K S ds vs):ah K S (jY ds lo hi) (cutV vs lo hi):=by unfold jY cutV;rw[r.length];exact(r.drop _).take _
theorem K8{ds:List Tr}{lo hi:Option Int}(h1:HT.sIx ds.length 0 lo=0)(h2:HT.sIx ds.length ds.length hi=ds.length):jY ds lo hi=ds:=by unfold jY;rw[h1,h2];simp
theorem SlR.imp'{r r':V->Option Int->Option Int->Hp->VK->Prop}(h:SlR X r)(i:∀ x lo hi H Q,r' x lo hi H Q->r x lo hi H Q):SlR X r':=λpins s σ H x v vl vu lo hi sl Q I rx hs pl pu q=>h pins s σ H x v vl vu lo hi sl Q I rx hs pl pu (i x lo hi H Q q)
def Js(K:Frg):V->Option Int->Option Int->Hp->VK->Prop:=λx lo hi H Q=>∃ S M d z,OkH K S M H/\Rep K S d x/\slF M d lo hi=some z/\∀ w H' S',Gr S H S' H'->OkH K S' M H'->Rep K S' z w->Q w H'
theorem J0:SlR X (Js X.K):=by
 refine SlR.imp' (SlR.or sl_str (SlR.or sl_list sl_tupA)) λx lo hi H Q h=>?_;obtain⟨S,M,d,z,o,q1,hz,k⟩:=h;unfold slF at hz
 split at hz
 ·split at hz
  ·rename_i z' hl;cases hz;simp only[Rep] at q1;exact .inl ⟨z',q1,by rw[<- cU];exact hl,k _ H S (Gr.refl S H) o fb⟩
  ·cases hz
 ·rename_i xs;cases hz;have q1':=q1;simp only[Rep] at q1;obtain⟨a,vs,rfl,g,rs⟩:=q1;refine .inr (.inr ⟨a,vs,rfl,o.sqT g,λhw=>?_,λ_ p n=>?_⟩)
  ·rw[<- rs.length] at hw;refine k _ H S (Gr.refl S H) o ?_;rw[K8 hw.1 hw.2];exact q1'
  ·obtain⟨S',l,o',r⟩:=nZ o (AW (lo:=lo) (hi:=hi) rs) n;exact k _ _ S' l o' r
 ·obtain⟨xs,f1,rfl⟩:=bz.mp hz;obtain⟨a,vs,rfl,hq,rs⟩:=gv o q1 f1;refine .inr (.inl ⟨a,vs,rfl,SqL.of hq,λp n=>?_⟩);obtain⟨S',l,o',r⟩:=lj o (AW (lo:=lo) (hi:=hi) rs) n;exact k _ _ S' l o' r
theorem de{lo hi:Option Expr}{tl th:Rd (Option Int)}{p2:Pos}(he:PD X W e t)(hl:PDO X W lo tl)(hh:PDO X W hi th):PD X W (.Subscript e (.Slice lo hi none p2) pos) (dSl t tl th) :=
 bA (pe_slice J0 he hl hh) λσ H Q h=>by
  obtain⟨ρ,M,S,E,o,s,er,q⟩:=h;refine⟨ρ,M,S,E,o,s,er,t.mono (λd M1 q1=>?_) (λ_ _ z=>z) q⟩;intro v H1 S1 l1 o1 r1;refine⟨ρ,M1,S1,E,o1,s.mono l1.le,er.mono l1,tl.mono (λx M2 q2=>?_) (λ_ _ z=>z) q1⟩;intro H2 S2 l2 o2;refine⟨ρ,M2,S2,E,o2,(s.mono l1.le).mono l2.le,(er.mono l1).mono l2,th.mono (λy M3 q3=>?_) (λ_ _ z=>z) q2⟩;intro H3 S3 l3 o3;obtain⟨z,hz,q4⟩:=b8 q3;exact⟨S3,M3,d,z,o3,Rep.mono (l2.trans l3).le _ _ r1,hz,λw H4 S4 l4 o4 r4=>q4 w H4 S4 (l1.trans (l2.trans (l3.trans l4))) o4 r4⟩
def rA(K:Frg)(f:FA):List V->Hp->VK->Prop:=λvs H Q=>∃ S M ds z M',OkH K S M H/\ah K S ds vs/\f M ds=some (z,M')/\∀ w H' S',Gr S H S' H'->OkH K S' M' H'->Rep K S' z w->Q w H'
theorem i9{f:Value}{r r':List V->Hp->VK->Prop}(h:CallR X f r)(i:∀ vs H Q,r' vs H Q->r vs H Q):CallR X f r':=λpins s σ H xs us Q I rv q=>h pins s σ H xs us Q I rv (i xs H Q q)
theorem yn{K:Frg}{f:FA}{σ:L2.St}{H:Hp}{Q:VK}(h:bO K W (aB f u) σ H Q):tCB (rA K f) (gT K W u) σ H Q:=by obtain⟨ρ,M,S,E,o,s,er,q⟩:=h;refine⟨ρ,M,S,E,o,s,er,u.mono (λds M1 q1=>?_) (λ_ _ z=>z) q⟩;intro vs H1 S1 l1 o1 r1;obtain⟨⟨z,M'⟩,hz,q2⟩:=b8 q1;exact⟨S1,M1,ds,z,M',o1,r1,hz,λw H2 S2 l2 o2 r2=>q2 w H2 S2 (l1.trans l2) o2 r2⟩
variable {x:Str}{p:Pos}{id:String}{f:FA}
theorem bQ (hc:CallR X (.builtin id) (rA X.K f)) (hg:Gl X x) (hm:X.mg x=none) (hv:bootBuiltins x=some (.builtin id)) (ha:PDA X W (e::es) u) (hn:x≠"__name__":=by decide) (hdb:(x == ("__debug__":Str))=false:=by decide)
  (he:starEach (e::es) X.env=(false,eval e X.env)::starEach es X.env:=by rfl) (hpl:(backTo pos (starEach es X.env)).any (·.1)=false:=by rfl):PD X W (.Call (.Name x p) (e::es) [] pos) (aB f u) :=
 bA (pe_callB hc hg hm hv ha hn hdb he hpl) λ_ _ _=>yn
theorem gX {T:String} (hc:CallR X (.type T) (rA X.K f)) (hg:Gl X x) (hm:X.mg x=none) (hv:bootBuiltins x=some (.type T)) (ha:PDA X W (e::es) u) (hn:x≠"__name__":=by decide) (hdb:(x == ("__debug__":Str))=false:=by decide)
  (he:starEach (e::es) X.env=(false,eval e X.env)::starEach es X.env:=by rfl) (hpl:(backTo pos (starEach es X.env)).any (·.1)=false:=by rfl):PD X W (.Call (.Name x p) (e::es) [] pos) (aB f u) :=
 bA (pe_callTy hc hg hm hv ha hn hdb he hpl) λ_ _ _=>yn
end
def iX(M:Me):Tr->Option (Nat × List Tr)
 | .ins c ds=>some (c,ds)
 | .cell k=>(match M[k]? with
  | some (.ins c ds)=>some (c,ds)
  | _=>none)
 | _=>none
def sC(M:Me)(alts:List (Nat × Nat))(d:Tr):Option Tr:=(iX M d).bind λp=>(alts.lookup p.1).bind λi=>p.2[i]?
def eI(alts:List (Nat × Nat))(t:Rd Tr):Rd Tr:=⟨λρ M Q E=>t.f ρ M (λd M1=>au (sC M1 alts d) λz=>Q z M1) E,λh h' q=>t.mono (λd M1=>cm λz=>h z M1) h' q⟩
theorem nV{f:Str}:∀{fs:List (Str × V)}{ns:List Str}{i:Nat}{v:V},fs.map Prod.fst=ns->ns.Nodup->ns[i]?=some f->(fs.map Prod.snd)[i]?=some v->fs.lookup f=some v
 | [],ns,i,v,e,_,h,_=>by simp at e;subst e;simp at h
 | (g,w)::r,ns,0,v,e,nd,h,h2=>by
  subst e;simp at h h2;subst h h2;simp [i0]
 | (g,w)::r,ns,i+1,v,e,nd,h,h2=>by
  subst e;simp only[aO,List.nodup_cons] at nd;have h':(r.map Prod.fst)[i]?=some f:=by simpa using h
  have hne:(f == g)=false:=beq_eq_false_iff_ne.mpr λz=>nd.1 (z ▸ f7 h');simp only[i0,hne];exact nV rfl nd.2 h' (by simpa using h2)
structure dB(K:Frg)(f:Str)(c i:Nat):Prop where
 cls:Cls K (He.ga K (cnm c))
 no:NoAttr K (He.ga K (cnm c)) f
 at_:(cfs c)[i]?=some f
 nd:(cfs c).Nodup
theorem nW{α:Type}{l:List (Nat × α)}{c:Nat}{i:α}(h:l.lookup c=some i):(c,i)∈l:=by
 induction l with
 | nil=>simp at h
 | cons p r ih =>
  obtain⟨a,b⟩:=p;simp only[i0] at h
  split at h
  ·rename_i e;cases h;rw[beq_iff_eq.mp e];exact a6
  ·exact aZ _ (ih h)
theorem Cz{K:Frg}{S:Gh}{M:Me}{H:Hp}{d:Tr}{v:V}{c:Nat}{ds:List Tr}(o:OkH K S M H)(r:Rep K S d v)(e:iX M d=some (c,ds)) :
  ∃ a dx fs,v=.ref a/\H a=some (.ins (He.ga K (cnm c)) dx fs)/\fs.map Prod.fst=(cfs c).take ds.length/\ah K S ds (fs.map Prod.snd):=by
 cases d with
 | ins c' ds' =>
  simp only[iX,Option.some.injEq,Prod.mk.injEq] at e;obtain⟨rfl,rfl⟩:=e;simp only[Rep] at r;obtain⟨a,dx,fs,rfl,g,h1,h2⟩:=r;refine⟨a,dx,fs,rfl,o.sub _ _ g,?_,h2⟩;have:=h2.length;have h3:ds'.length=(cfs c').length:=by rw[this,<- h1];simp
  rw[h3,List.take_length,h1]
 | cell k =>
  simp only[iX] at e
  split at e
  ·rename_i c' ds' h;cases e;obtain⟨a,rfl,_,_,dx,fs,h1,h2,h3⟩:=cC o r h;exact⟨a,dx,fs,rfl,h1,h2,h3⟩
  ·cases e
 | _=>simp [iX] at e
section
variable {X:Cx}{W:WX}{pos:Pos}{a b c e:Expr}{es:List Expr}{ta tb tc t:Rd Tr}{u:Rd (List Tr)}
theorem IL{alts:List (Nat × Nat)}{f:Str}(hf:∀ c i,(c,i)∈alts->dB X.K f c i)(he:PD X W e t)(hb:attributeBase e f X.env (eval e X.env)=eval e X.env):PD X W (.Attribute e f pos) (eI alts t) :=
 bA (pe_fld he hb) λσ H Q h=>by
  obtain⟨ρ,M,S,E,o,s,er,q⟩:=h;refine⟨ρ,M,S,E,o,s,er,t.mono (λd M1 q1=>?_) (λ_ _ z=>z) q⟩;intro v H1 S1 l1 o1 r1;obtain⟨z,hz,q2⟩:=b8 q1;unfold sC at hz;obtain⟨⟨c,ds⟩,e1,e2⟩:=cn.mp hz;obtain⟨i,e3,e4⟩:=cn.mp e2;obtain⟨a,dx,fs,rfl,h1,h2,h3⟩:=Cz o1 r1 e1;have ok:=hf c i (nW e3);obtain⟨w,hw,rw'⟩:=h3.get e4;have hi:i < ds.length:=(bL.mp e4).1;refine⟨a,_,dx,fs,w,rfl,h1,ok.cls,ok.no,nV h2 (ok.nd.sublist (aak _ _)) ?_ hw,q2 w H1 S1 l1 o1 rw'⟩;rw[h8 hi];exact ok.at_
def j9:List Tr->Option (List Int)
 | []=>some []
 | .int i::r=>(j9 r).map (i::·)
 | _::_=>none
def gj:List Tr->Option (List Bool)
 | []=>some []
 | .bl i::r=>(gj r).map (i::·)
 | _::_=>none
def iV:List Tr->Option (List Str)
 | []=>some []
 | .str i::r=>(iV r).map (i::·)
 | _::_=>none
theorem xS:∀{xs:List Tr}{ns:List Int},j9 xs=some ns->xs=ns.map Tr.int
 | [],ns,h=>by simp [j9] at h;subst h;rfl
 | x::r,ns,h=>by
  cases x with
  | int i =>
   simp only[j9,bz] at h;obtain⟨ms,h,rfl⟩:=h;rw[xS h];rfl
  | _=>simp [j9] at h
theorem vP:∀{xs:List Tr}{ns:List Bool},gj xs=some ns->xs=ns.map Tr.bl
 | [],ns,h=>by simp [gj] at h;subst h;rfl
 | x::r,ns,h=>by
  cases x with
  | bl i =>
   simp only[gj,bz] at h;obtain⟨ms,h,rfl⟩:=h;rw[vP h];rfl
  | _=>simp [gj] at h
theorem B2:∀{xs:List Tr}{ns:List Str},iV xs=some ns->xs=ns.map Tr.str
 | [],ns,h=>by simp [iV] at h;subst h;rfl
 | x::r,ns,h=>by
  cases x with
  | str i =>
   simp only[iV,bz] at h;obtain⟨ms,h,rfl⟩:=h;rw[B2 h];rfl
  | _=>simp [iV] at h
theorem rG(ns:List Bool):gj (ns.map Tr.bl)=some ns:=by
 induction ns with
 | nil=>rfl
 | cons n r ih=>simp [gj,ih]
theorem uN(ns:List Str):iV (ns.map Tr.str)=some ns:=by
 induction ns with
 | nil=>rfl
 | cons n r ih=>simp [iV,ih]
def yw:List Int->Int
 | []=>0
 | n::r=>r.foldl max n
theorem FU(r:List Int):∀ n:Int,(r.foldl max n=n∨r.foldl max n∈r)/\n<=r.foldl max n/\∀ y∈r,y<=r.foldl max n:=by
 induction r with
 | nil=>intro n;exact⟨.inl rfl,Int.le_refl _,λ_ h=>absurd h (by simp)⟩
 | cons m r ih =>
  intro n;obtain⟨h1,h2,h3⟩:=ih (max n m);simp only[aat];refine⟨?_,by omega,λy hy=>?_⟩
  ·rcases h1 with h1|h1
   ·rw[h1]
    by_cases hc:n<=m
    ·right;rw[Int.max_eq_right hc];exact a6
    ·left;rw[Int.max_eq_left (by omega)]
   ·exact .inr (aZ _ h1)
  ·rcases aM.mp hy with rfl|hy
   ·omega
   ·exact h3 y hy
theorem HR{ns:List Int}{m:Int}(h1:m∈ns)(h2:∀ y∈ns,y<=m):m=yw ns:=by
 cases ns with
 | nil=>simp at h1
 | cons n r =>
  obtain⟨a,b,c⟩:=FU r n;show m=r.foldl max n;have h3:r.foldl max n<=m:=by
   rcases a with a|a
   ·rw[a];exact h2 n a6
   ·exact h2 _ (aZ _ a)
  have h4:m<=r.foldl max n:=by
   rcases aM.mp h1 with rfl|h
   ·exact b
   ·exact c m h
  omega
def bx:FA:=λM ds=>match ds with
 | [.str z]=>if z.length<=big then some (.int z.length,M) else none
 | [d]=>(cO M d).map λxs=>(.int xs.length,M)
 | _=>none
def d8:FA:=λM ds=>match ds with
 | [d]=>((bj M d).bind gj).map λns=>(.bl (ns.all id),M)
 | _=>none
def nX:FA:=λM ds=>match ds with
 | [.int i,.int j]=>some (.int (if j > i then j else i),M)
 | [d]=>((bj M d).bind j9).bind λns=>if 0 < ns.length then some (.int (yw ns),M) else none
 | _=>none
def nY:FA:=λM ds=>match ds with
 | [.int i,.int j]=>some (.int (if j < i then j else i),M)
 | _=>none
def jR:FA:=λM ds=>match ds with
 | [.int i]=>some (.int (if i < 0 then -i else i),M)
 | _=>none
def dk:FA:=λM ds=>match ds with
 | [.int i]=>some (.int i,M)
 | [.bl b]=>some (.int (if b then 1 else 0),M)
 | [.str z]=>if z.length<=640 then (PySem.intText? z).map λn=>(.int n,M) else none
 | _=>none
theorem ew{K:Frg}{S:Gh}{d:Tr}{vs:List V}(r:ah K S [d] vs):∃ v,vs=[v]/\Rep K S d v:=by simp only[ah] at r;obtain⟨v,t,rfl,h,rfl⟩:=r;exact⟨v,rfl,h⟩
theorem lI{K:Frg}{S:Gh}{d d':Tr}{vs:List V}(r:ah K S [d,d'] vs):∃ v w,vs=[v,w]/\Rep K S d v/\Rep K S d' w:=by simp only[ah] at r;obtain⟨v,t,rfl,h,w,t',rfl,h',rfl⟩:=r;exact⟨v,w,rfl,h,h'⟩
theorem JG{K:Frg}{S:Gh}{vs:List V}(r:ah K S [] vs):vs=[]:=by simpa only [ah] using r
theorem el:CallR X (.builtin "len") (rA X.K bx):=i9 (.or call_len_str call_len_seq) λvs H Q h=>by
 obtain⟨S,M,ds,z,M',o,r,hz,k⟩:=h;unfold bx at hz
 split at hz
 ·split at hz
  ·rename_i hl;cases hz;obtain⟨v,rfl,r1⟩:=ew r;simp only[Rep] at r1;exact .inl ⟨_,by rw[r1],by rw[<- cU];exact hl,k _ H S (Gr.refl S H) o dv⟩
  ·cases hz
 ·obtain⟨xs,e,e'⟩:=bz.mp hz;cases e';obtain⟨v,rfl,r1⟩:=ew r;obtain⟨a,ws,rfl,hq,rs⟩:=mw o r1 e;exact .inr ⟨a,ws,rfl,hq,by rw[<- rs.length];exact k _ H S (Gr.refl S H) o dv⟩
 ·cases hz
theorem mW (hc:X.calm=true):CallR X (.builtin "all") (rA X.K d8):=i9 (cr_all hc) λvs H Q h=>by
 obtain⟨S,M,ds,z,M',o,r,hz,k⟩:=h;unfold d8 at hz
 split at hz
 ·obtain⟨ns,e,e'⟩:=bz.mp hz;cases e';obtain⟨xs,e1,e2⟩:=cn.mp e;obtain⟨v,rfl,r1⟩:=ew r;obtain⟨a,ws,rfl,hq,rs⟩:=gv o r1 e1;rw[vP e2,ah.bls] at rs;exact⟨a,ns,rfl,by rw[<- rs];exact SqL.of hq,k _ H S (Gr.refl S H) o fw⟩
 ·cases hz
theorem DW (hc:X.calm=true):CallR X (.builtin "max") (rA X.K nX):=i9 (.or (call_max2 hc) (cr_max hc)) λvs H Q h=>by
 obtain⟨S,M,ds,z,M',o,r,hz,k⟩:=h;unfold nX at hz
 split at hz
 ·cases hz;obtain⟨v,w,rfl,r1,r2⟩:=lI r;simp only[Rep] at r1 r2;exact .inl ⟨_,_,by rw[r1,r2],k _ H S (Gr.refl S H) o dv⟩
 ·obtain⟨ns,e,e'⟩:=cn.mp hz
  split at e'
  ·rename_i hl;cases e';obtain⟨xs,e1,e2⟩:=cn.mp e;obtain⟨v,rfl,r1⟩:=ew r;obtain⟨a,ws,rfl,hq,rs⟩:=gv o r1 e1;rw[xS e2,ah.ints] at rs;exact .inr ⟨a,ns,rfl,by rw[<- rs];exact SqL.of hq,hl,λm h1 h2=>by rw[HR h1 h2];exact k _ H S (Gr.refl S H) o dv⟩
  ·cases e'
 ·cases hz
theorem DX (hc:X.calm=true):CallR X (.builtin "min") (rA X.K nY):=i9 (call_min2 hc) λvs H Q h=>by
 obtain⟨S,M,ds,z,M',o,r,hz,k⟩:=h;unfold nY at hz
 split at hz
 ·cases hz;obtain⟨v,w,rfl,r1,r2⟩:=lI r;simp only[Rep] at r1 r2;exact⟨_,_,by rw[r1,r2],k _ H S (Gr.refl S H) o dv⟩
 ·cases hz
theorem vR:CallR X (.builtin "abs") (rA X.K jR):=i9 call_abs λvs H Q h=>by
 obtain⟨S,M,ds,z,M',o,r,hz,k⟩:=h;unfold jR at hz
 split at hz
 ·cases hz;obtain⟨v,rfl,r1⟩:=ew r;simp only[Rep] at r1;exact⟨_,by rw[r1],k _ H S (Gr.refl S H) o dv⟩
 ·cases hz
theorem i8:CallR X (.type "int") (rA X.K dk):=i9 (.or call_int1 call_int_str) λvs H Q h=>by
 obtain⟨S,M,ds,z,M',o,r,hz,k⟩:=h;unfold dk at hz
 split at hz
 ·cases hz;obtain⟨v,rfl,r1⟩:=ew r;simp only[Rep] at r1;exact .inl (.inl ⟨_,by rw[r1],k _ H S (Gr.refl S H) o dv⟩)
 ·cases hz;obtain⟨v,rfl,r1⟩:=ew r;simp only[Rep] at r1;exact .inl (.inr ⟨_,by rw[r1],k _ H S (Gr.refl S H) o dv⟩)
 ·split at hz
  ·rename_i hl;obtain⟨n,e1,e2⟩:=bz.mp hz;cases e2;obtain⟨v,rfl,r1⟩:=ew r;simp only[Rep] at r1;exact .inr ⟨_,n,by rw[r1],e1,hl,k _ H S (Gr.refl S H) o dv⟩
  ·cases hz
 ·cases hz
abbrev FM:=Me->Tr->List Tr->Option (Tr × Me)
def rM(K:Frg)(f:FM):V->List V->Hp->VK->Prop:=λx vs H Q=>∃ S M d ds z M',OkH K S M H/\Rep K S d x/\ah K S ds vs/\f M d ds=some (z,M')/\∀ w H' S',Gr S H S' H'->OkH K S' M' H'->Rep K S' z w->Q w H'
def gl(f:FM)(t:Rd Tr)(u:Rd (List Tr)):Rd Tr:=⟨λρ M Q E=>t.f ρ M (λd M1=>(bj M1 d).isSome=true/\u.f ρ M1 (λds M2=>au (f M2 d ds) λz=>Q z.1 z.2) E) E,
 λh h' q=>t.mono (λd M1 z=>⟨z.1,u.mono (λds M2=>cm λz=>h z.1 z.2) h' z.2⟩) h' q⟩
theorem yz{id:String}{r r':V->List V->Hp->VK->Prop}(h:MtR X id r)(i:∀ x vs H Q,r' x vs H Q->r x vs H Q):MtR X id r':=λpins s σ H x xs v us Q I rx rv q=>h pins s σ H x xs v us Q I rx rv (i x xs H Q q)
theorem KP {K:Frg} {S:Gh} {M:Me} {H:Hp} {d:Tr} {v:V} (o:OkH K S M H) (r:Rep K S d v) (h:(bj M d).isSome=true):tyV K "list" v H:=by obtain⟨xs,e⟩:=Option.isSome_iff_exists.mp h;obtain⟨a,vs,rfl,h1,_⟩:=gv o r e;exact .inl ⟨rfl,vs,SqL.of h1⟩
theorem HB {K:Frg} {f:FM} {σ:L2.St} {H:Hp} {Q:VK} (h:bO K W (gl f t u) σ H Q):tBM K "list" (rM K f) (bO K W t) (gT K W u) σ H Q:=by obtain⟨ρ,M,S,E,o,s,er,q⟩:=h;refine⟨ρ,M,S,E,o,s,er,t.mono (λd M1 q1=>?_) (λ_ _ z=>z) q⟩;intro v H1 S1 l1 o1 r1;refine⟨KP o1 r1 q1.1,ρ,M1,S1,E,o1,s.mono l1.le,er.mono l1,u.mono (λds M2 q2=>?_) (λ_ _ z=>z) q1.2⟩;intro vs H2 S2 l2 o2 r2;obtain⟨⟨z,M'⟩,hz,q3⟩:=b8 q2;exact⟨S2,M2,d,ds,z,M',o2,Rep.mono l2.le _ _ r1,r2,hz,λw H3 S3 l3 o3 r3=>q3 w H3 S3 (l1.trans (l2.trans l3)) o3 r3⟩
def ij:FM:=λM d ds=>match d,ds with
 | .cell k,[y]=>(match M[k]? with
  | some (.lst xs)=>if xs.length < big then some (.non,M.set k (.lst (xs++[y]))) else none
  | _=>none)
 | _,_=>none
def lA:FM:=λM d ds=>match d,ds with
 | .cell k,[]=>(match M[k]? with
  | some (.lst xs)=>(xs[xs.length - 1]?).map λy=>(y,M.set k (.lst xs.dropLast))
  | _=>none)
 | .cell k,[.int i]=>(match M[k]? with
  | some (.lst xs)=>if 0<=i/\i < 2 ^ 63 then (xs[i.toNat]?).map λy=>(y,M.set k (.lst (xs.eraseIdx i.toNat))) else none
  | _=>none)
 | _,_=>none
theorem sS:MtR X "list.append" (rM X.K ij):=yz mt_append λx vs H Q h=>by
 obtain⟨S,M,d,ds,z,M',o,r1,r2,hz,k⟩:=h;unfold ij at hz
 split at hz
 ·split at hz
  ·rename_i k' y xs e
   split at hz
   ·rename_i hl;cases hz;obtain⟨a,rfl,hc,hg,ws,h1,rs⟩:=cC o r1 e;obtain⟨w,rfl,rw'⟩:=ew r2;refine⟨a,ws,w,rfl,rfl,h1,by rw[<- rs.length,<- cU];exact hl,?_⟩;exact k _ _ S (j8 hc) (o.setCell hc e hg ⟨hg,_,upd_same,rs.append (ah.cons rw' ah.nil)⟩) jA
   ·cases hz
  ·cases hz
 ·cases hz
theorem JS{i:Int}{n:Nat}(h0:0<=i)(h1:i.toNat < n):seqIndex? i n=some i.toNat:=PySem.StrLaws.seqIndex_nonneg h0 (by omega)
theorem HP:MtR X "list.pop" (rM X.K lA):=yz (MtR.or mt_pop mt_popAt) λx vs H Q h=>by
 obtain⟨S,M,d,ds,z,M',o,r1,r2,hz,k⟩:=h;unfold lA at hz
 split at hz
 ·split at hz
  ·rename_i k' xs e;obtain⟨y,e1,e2⟩:=bz.mp hz;cases e2;obtain⟨a,rfl,hc,hg,ws,h1,rs⟩:=cC o r1 e;obtain⟨w,hw,rw'⟩:=rs.get e1;rw[JG r2];exact .inl ⟨a,ws,w,rfl,rfl,h1,by rw[<- rs.length];exact hw,k _ _ S (j8 hc) (o.setCell hc e hg ⟨hg,_,upd_same,rs.dropLast⟩) rw'⟩
  ·cases hz
 ·split at hz
  ·rename_i k' i _ xs e
   split at hz
   ·rename_i hi;obtain⟨y,e1,e2⟩:=bz.mp hz;cases e2;obtain⟨a,rfl,hc,hg,ws,h1,rs⟩:=cC o r1 e;obtain⟨w,hw,rw'⟩:=rs.get e1;obtain⟨v,rfl,rv⟩:=ew r2;simp only[Rep] at rv;have hlt:=(bL.mp hw).1;exact .inr ⟨a,ws,i,i.toNat,w,rfl,by rw[rv],h1,by omega,hi.2,JS hi.1 hlt,hw,k _ _ S (j8 hc) (o.setCell hc e hg ⟨hg,_,upd_same,rs.eraseIdx _⟩) rw'⟩
   ·cases hz
  ·cases hz
 ·cases hz
variable {o:Expr}{apos cpos:Pos}
theorem oy {f:FM} {name:Str} {id:String} (slot:Slot "list" name id) (hty:typeOf (.builtin id)=pure (.type "method_descriptor")) (hm:MtR X id (rM X.K f)) (ho:PD X W o t) (ha:PDA X W (e::es) u)
  (hbase:attributeBase o name X.env (eval o X.env)=eval o X.env:=by rfl)
  (hfew:((backTo cpos (starEach (e::es) X.env)).all (λx=>!x.1)&&(backToKw cpos (keywordEach [] X.env)).all (λx=>x.1.isSome)
   && decide ((e::es).length+([]:List Keyword).length+(if ([]:List Keyword).isEmpty then 0 else 1) < 30))=true:=by rfl)
  (hline:(apos.endLine == cpos.line)=true:=by rfl) (hs:starEach (e::es) X.env=(false,eval e X.env)::starEach es X.env:=by rfl) (hplain:(backTo cpos (starEach es X.env)).any (·.1)=false:=by rfl) :
  PD X W (.Call (.Attribute o name apos) (e::es) [] cpos) (gl f t u):=bA (pe_bm PySem.F.plainAttrs_list slot hty hm ho ha hbase hfew hline hs hplain) λ_ _ _=>HB
end
inductive Tg where
 | nm (i:Nat)
 | tp (ts:List Tg)
mutual
def Tg.ids:Tg->List Nat
 | .nm i=>[i]
 | .tp ts=>Tg.idss ts
def Tg.idss:List Tg->List Nat
 | []=>[]
 | t::ts=>t.ids++Tg.idss ts
end
mutual
def br:Tg->Tr->En->Option En
 | .nm i,d,ρ=>some (ρ.set i (some d))
 | .tp ts,.tup xs,ρ=>fT ts xs ρ
 | .tp _,_,_=>none
def fT:List Tg->List Tr->En->Option En
 | [],[],ρ=>some ρ
 | t::ts,x::xs,ρ=>(br t x ρ).bind λρ'=>fT ts xs ρ'
 | _,_,_=>none
end
mutual
def gTg(K:Frg):Tg->TG
 | .nm i=>gName i
 | .tp ts=>gTup K ts.length (iz K ts)
def iz(K:Frg):List Tg->TGs
 | []=>gNil
 | t::ts=>gCons (gTg K t) (iz K ts)
end
theorem La{σ:L2.St}{i:Nat}{x:Option V}:∀{vs:List Nat},i∈vs->wipe (σ.set i x) vs=wipe σ vs:=by
 have out:∀{vs:List Nat},wipe (σ.set i x) vs=(wipe σ vs).set i x∨wipe (σ.set i x) vs=wipe σ vs:=by
  intro vs
  induction vs with
  | nil=>exact .inl rfl
  | cons j r ih =>
   unfold wipe
   by_cases h:j=i
   ·subst h;rcases ih with ih|ih
    ·right;rw[ih,i6]
    ·right;rw[ih]
   ·rcases ih with ih|ih
    ·left;rw[ih,List.set_comm _ _ (Ne.symm h)]
    ·right;rw[ih]
 intro vs hi
 induction vs with
 | nil=>simp at hi
 | cons j r ih =>
  unfold wipe
  by_cases h:j=i
  ·subst h;rcases out (vs:=r) with e|e
   ·rw[e,i6]
   ·rw[e]
  ·rw[ih (by rcases aM.mp hi with e|e;exact absurd e.symm h;exact e)]
theorem BK:∀{ts:List Tg}{ds:List Tr} {ρ ρ':En},fT ts ds ρ=some ρ'->ds.length=ts.length
 | [],[],_,_,_=>rfl
 | t::ts,d::ds,ρ,ρ',e=>by
  simp only[fT] at e;obtain⟨ρ1,_,e2⟩:=cn.mp e;simp [BK e2]
 | [],_::_,_,_,e=>by simp [fT] at e
 | _::_,[],_,_,e=>by simp [fT] at e
section
variable {K:Frg}{S:Gh}{M:Me}{H:Hp}
mutual
theorem pP(o:OkH K S M H):∀(t:Tg)(d:Tr)(v:V) (ρ ρ':En) (σ:L2.St) (Q:L2.St->Hp->Prop),be K S ρ σ->Rep K S d v->br t d ρ=some ρ' ->
  (∀ σ',be K S ρ' σ'->(∀ vs:List Nat,(∀ i∈t.ids,i∈vs)->wipe σ' vs=wipe σ vs)->Q σ' H)->gTg K t v σ H Q
 | .nm i,d,v,ρ,ρ',σ,Q,s,r,e,k=>by
  simp only[br,Option.some.injEq] at e;subst e;simp only[gTg];exact k _ (s.set r) λvs h=>La (h i (by simp [Tg.ids]))
 | .tp ts,.tup xs,v,ρ,ρ',σ,Q,s,r,e,k=>by
  simp only[br] at e;simp only[Rep] at r;obtain⟨a,vs,rfl,g,rs⟩:=r;simp only[gTg];exact⟨a,vs,rfl,o.sqT g,by rw[<- rs.length,BK e],BL o ts xs vs ρ ρ' σ Q s rs e (by simpa only [Tg.ids] using k)⟩
 | .tp ts,.non,v,ρ,ρ',σ,Q,s,r,e,k=>by simp [br] at e
 | .tp ts,.bl _,v,ρ,ρ',σ,Q,s,r,e,k=>by simp [br] at e
 | .tp ts,.int _,v,ρ,ρ',σ,Q,s,r,e,k=>by simp [br] at e
 | .tp ts,.str _,v,ρ,ρ',σ,Q,s,r,e,k=>by simp [br] at e
 | .tp ts,.lst _,v,ρ,ρ',σ,Q,s,r,e,k=>by simp [br] at e
 | .tp ts,.dct _ _,v,ρ,ρ',σ,Q,s,r,e,k=>by simp [br] at e
 | .tp ts,.dkf _ _,v,ρ,ρ',σ,Q,s,r,e,k=>by simp [br] at e
 | .tp ts,.ins _ _,v,ρ,ρ',σ,Q,s,r,e,k=>by simp [br] at e
 | .tp ts,.exc _ _,v,ρ,ρ',σ,Q,s,r,e,k=>by simp [br] at e
 | .tp ts,.cell _,v,ρ,ρ',σ,Q,s,r,e,k=>by simp [br] at e
 | .tp ts,.scr _,v,ρ,ρ',σ,Q,s,r,e,k=>by simp [br] at e
theorem BL(o:OkH K S M H):∀(ts:List Tg)(ds:List Tr)(vs:List V) (ρ ρ':En) (σ:L2.St) (Q:L2.St->Hp->Prop),be K S ρ σ->ah K S ds vs->fT ts ds ρ=some ρ' ->
  (∀ σ',be K S ρ' σ'->(∀ ws:List Nat,(∀ i∈Tg.idss ts,i∈ws)->wipe σ' ws=wipe σ ws)->Q σ' H)->iz K ts vs σ H Q
 | [],[],vs,ρ,ρ',σ,Q,s,r,e,k=>by
  simp only[fT,Option.some.injEq] at e;subst e;simp only[ah] at r;subst r;simp only[iz];exact⟨rfl,k σ s λ_ _=>rfl⟩
 | t::ts,d::ds,vs,ρ,ρ',σ,Q,s,r,e,k=>by
  simp only[fT] at e;obtain⟨ρ1,e1,e2⟩:=cn.mp e;simp only[ah] at r;obtain⟨v,vr,rfl,h1,h2⟩:=r;simp only[iz];refine⟨v,vr,rfl,pP o t d v ρ ρ1 σ _ s h1 e1 λσ1 s1 w1=>?_⟩;refine BL o ts ds vr ρ1 ρ' σ1 Q s1 h2 e2 λσ2 s2 w2=>k σ2 s2 λws h=>?_;rw[w2 ws λi hi=>h i (by simp only[Tg.idss];exact aai _ hi),w1 ws λi hi=>h i (by simp only[Tg.idss];exact aag _ hi)]
 | [],_::_,vs,ρ,ρ',σ,Q,s,r,e,k=>by simp [fT] at e
 | _::_,[],vs,ρ,ρ',σ,Q,s,r,e,k=>by simp [fT] at e
end
end
abbrev PDG(X:Cx)(tg:Expr)(t:Tg):Prop:=PG X tg (gTg X.K t)
abbrev jO(X:Cx)(tgs:List Expr)(ts:List Tg):Prop:=PGs X tgs (iz X.K ts)
section
variable {X:Cx}{pos:Pos}
theorem IW{i:Nat}{x:Str}(hN:X.N.Nodup)(hi:X.N[i]?=some x)(hx:Loc X.env.scope x)(hf:X.fn x=true∨X.env.scope.names.lookup x=some .local:=by first|exact .inl rfl|exact .inr rfl|assumption):PDG X (.Name x pos) (.nm i):=by unfold PDG;simp only[gTg];exact pg_name hN hi hx hf
theorem y8:jO X [] []:=by unfold jO;simp only[iz];exact pgs_nil
theorem oz{e:Expr}{es:List Expr}{t:Tg}{ts:List Tg}(h1:PDG X e t)(h2:jO X es ts)(hs:(assignEach (e::es) X.env).map (·.2)=assign e X.env::(assignEach es X.env).map (·.2):=by rfl):jO X (e::es) (t::ts):=by unfold jO;simp only[iz];exact pgs_cons h1 h2 hs
theorem y7{es:List Expr}{k:Nat}{ts:List Tg}(hc:X.calm=true)(h:jO X es ts)(hn:(assignEach es X.env).length=ts.length:=by rfl)(hst:(assignEach es X.env).findIdx? (·.1)=none:=by rfl):PDG X (.Tuple es k pos) (.tp ts):=by unfold PDG;simp only[gTg];exact pg_tup hc h hn hst
end
def aL:Sr:=⟨λF ρ M=>F.nx ρ M,λh q=>h.nx _ _ q⟩
def Fin.Le.upd{D D':Fin}(h:Fin.Le D D'){n n':En->Me->Prop}(hn:∀ ρ M,n ρ M->n' ρ M):Fin.Le { D with nx:=n } { D' with nx:=n' }:=⟨hn,h.rt,h.bk,h.ct,h.er⟩
def aj(t u:Sr):Sr:=⟨λF ρ M=>t.f { F with nx:=u.f F } ρ M,λh q=>t.mono (h.upd λ_ _ z=>u.mono h z) q⟩
def ao(t:Rd Tr):Sr:=⟨λF ρ M=>t.f ρ M F.rt (F.er ρ),λh q=>t.mono (λd M z=>h.rt d M z) (λd M z=>h.er _ d M z) q⟩
def GT(c:Rd Bool)(t u:Sr):Sr:=⟨λF ρ M=>c.f ρ M (λb M1=>if b=true then t.f F ρ M1 else u.f F ρ M1) (F.er ρ),λh q=>c.mono (λb M z=>by
 by_cases hb:b=true
 ·rw[if_pos hb] at z ⊢;exact t.mono h z
 ·rw[if_neg hb] at z ⊢;exact u.mono h z) (λd M z=>h.er _ d M z) q⟩
def aC(g:Tg)(t:Rd Tr):Sr:=⟨λF ρ M=>t.f ρ M (λd M1=>au (br g d ρ) λρ'=>F.nx ρ' M1) (F.er ρ),λh q=>t.mono (λd M=>cm λρ'=>h.nx ρ' M) (λd M z=>h.er _ d M z) q⟩
section
variable {X:Cx}{W:WX}{pos:Pos}{e:Expr}{st:Stmt}{rest a b:List Stmt}{t:Rd Tr}{c:Rd Bool}{u v:Sr}{K:Frg}
theorem gc.nxt{S:Gh}{H:Hp}{D:Ends}{F:Fin}(h:gc K W S H D F){u:Sr}:gc K W S H { D with nx:=fM K W u D } { F with nx:=u.f F } :=
 ⟨λρ M S' σ H' l o s q=>⟨ρ,M,S',F,o,s,h.mono l,q⟩,h.rt,h.bk,h.ct,h.er⟩
theorem bc:dE X W [] aL:=zg pss_nil λD σ H h=>by
 obtain⟨ρ,M,S,F,o,s,en,q⟩:=h;exact en.nx ρ M S σ H (Gr.refl S H) o s q
theorem ar(h1:PDS X W st u)(h2:dE X W rest v):dE X W (st::rest) (aj u v):=zg (pss_cons h1 h2) λD σ H h=>by
 obtain⟨ρ,M,S,F,o,s,en,q⟩:=h;exact⟨ρ,M,S,{ F with nx:=v.f F },o,s,en.nxt,q⟩
theorem av(h1:PDS X W st u):dE X W [st] u:=pss_one h1
theorem g5(he:PD X W e t)(hs:swapsWith e none pos.line X.env=pure false:=by rfl):PDS X W (.Expr e pos) (cX t):=dU (ps_expr he hs) λD σ H h=>by
 obtain⟨ρ,M,S,F,o,s,en,q⟩:=h;exact⟨ρ,M,S,F.er ρ,o,s,en.err s,t.mono (λd M1 q1 v H1 S1 l1 o1 r1=>en.nx ρ M1 S1 σ H1 l1 o1 (s.mono l1.le) q1) (λ_ _ z=>z) q⟩
theorem aH(he:PD X W e t):PDS X W (.Return (some e) pos) (ao t):=dU (ps_ret he) λD σ H h=>by
 obtain⟨ρ,M,S,F,o,s,en,q⟩:=h;exact⟨ρ,M,S,F.er ρ,o,s,en.err s,t.mono (λd M1 q1 v H1 S1 l1 o1 r1=>en.rt d M1 S1 v H1 l1 o1 r1 q1) (λ_ _ z=>z) q⟩
theorem a5{c':Expr}(hc:PDT X W c' c)(ha:dE X W a u)(hb:dE X W b v):PDS X W (.If c' a b pos) (GT c u v):=dU (ps_if hc ha hb) λD σ H h=>by
 obtain⟨ρ,M,S,F,o,s,en,q⟩:=h;refine⟨ρ,M,S,F.er ρ,o,s,en.err s,c.mono (λd M1 q1 H1 S1 l1 o1=>?_) (λ_ _ z=>z) q⟩;cases d with
 | true=>exact⟨ρ,M1,S1,F,o1,s.mono l1.le,en.mono l1,q1⟩
 | false=>exact⟨ρ,M1,S1,F,o1,s.mono l1.le,en.mono l1,q1⟩
theorem sQ{g:Tg}{D:Ends}{σ:L2.St}{H:Hp}(h:fM K W (aC g t) D σ H):tAsg (bO K W t) (gTg K g) D σ H:=by obtain⟨ρ,M,S,F,o,s,en,q⟩:=h;refine⟨ρ,M,S,F.er ρ,o,s,en.err s,t.mono (λd M1 q1 v H1 S1 l1 o1 r1=>?_) (λ_ _ z=>z) q⟩;obtain⟨ρ',hz,q2⟩:=b8 q1;exact pP o1 g d v ρ ρ' σ D.nx (s.mono l1.le) r1 hz λσ' s' _=>en.nx ρ' M1 S1 σ' H1 l1 o1 s' q2
theorem y9{tg:Expr}{g:Tg}(he:PD X W e t)(hg:PDG X tg g)(hs:swapsWithSole [tg] e pos.line X.env=pure false:=by rfl)(hw:swappedStores [tg] e X.env=pure none:=by rfl)
  (h1:(assignEach [tg] X.env).map (·.2)=[assign tg X.env]:=by rfl):PDS X W (.Assign [tg] e pos) (aC g t):=dU (ps_asg he hg hs hw h1) λ_ _ _=>sQ
theorem I3{i:Nat}{x:Str}{pos':Pos}(hN:X.N.Nodup)(hi:X.N[i]?=some x)(hx:Loc X.env.scope x)(he:PD X W e t)(hs:swapsWith e (some (.Name x pos')) pos.line X.env=pure false:=by rfl)(hf:X.fn x=true∨X.env.scope.names.lookup x=some .local:=by first|exact .inl rfl|exact .inr rfl|assumption) :
  PDS X W (.Assign [.Name x pos'] e pos) (aC (.nm i) t):=dU (ps_set hN hi hx he hs hf) λD σ H h=>by
 have:=sQ (K:=X.K) h;simp only[gTg] at this;exact this
def ym(K:Frg)(W:WX)(t:Rd (List Tr)):TI:=λσ H R=>∃ ρ M S E,OkH K S M H/\be K S ρ σ/\fj K W S H σ E/\t.f ρ M (λxs M'=>∀ J H' S',Gr S H S' H'->OkH K S' M' H'->ig K J xs S' H'->R J H') E
abbrev PDI(X:Cx)(W:WX)(tg iter:Expr)(t:Rd (List Tr)):Prop:=PI X tg iter (ym X.K W t)
theorem oD{tg iter:Expr}{w w':TI}(p:PI X tg iter w)(h:∀ σ H R,w' σ H R->w σ H R):PI X tg iter w':=⟨λpins s σ H R I q=>p.run pins s σ H R I (h σ H R q)⟩
def iw:Tr->Option (List Tr)
 | .lst xs=>some xs
 | .tup xs=>some xs
 | .scr ns=>some (ns.map Tr.int)
 | _=>none
def c7(t:Rd Tr):Rd (List Tr):=⟨λρ M Q E=>t.f ρ M (λd M1=>au (iw d) λxs=>Q xs M1) E,λh h' q=>t.mono (λd M1=>cm λz=>h z M1) h' q⟩
theorem CD{a:Addr}{vs:List V}{xs:List Tr}{S:Gh}{H0:Hp}(g:SqL K S.G a vs)(r:ah K S xs vs):ig K (Itl K a) xs S H0 where
 go:=λi S2 M2 H l o hi=>by
  have:=r.length;exact⟨vs,vs[i]'(by omega),o.sqL (l.sqL g),by simp [show i < vs.length by omega]⟩
 yld:=λi S2 M2 H x H2 l o hi y=>by
  obtain⟨rfl,y⟩:=y;obtain⟨d,e1,e2⟩:=r.get' (y vs (o.sqL (l.sqL g)));exact⟨S2,d,e1,Gr.refl _ _,o,Rep.mono l _ _ e2⟩
 stop:=λS2 M2 H l o=>⟨vs,o.sqL (l.sqL g),by rw[r.length];exact aP _⟩
theorem K6{a:Addr}{vs:List V}{xs:List Tr}{S:Gh}{H0:Hp}(g:SqT K S.G a vs)(r:ah K S xs vs):ig K (Itt K a) xs S H0 where
 go:=λi S2 M2 H l o hi=>by
  have:=r.length;exact⟨vs,vs[i]'(by omega),o.sqT (l.sqT g),by simp [show i < vs.length by omega]⟩
 yld:=λi S2 M2 H x H2 l o hi y=>by
  obtain⟨rfl,y⟩:=y;obtain⟨d,e1,e2⟩:=r.get' (y vs (o.sqT (l.sqT g)));exact⟨S2,d,e1,Gr.refl _ _,o,Rep.mono l _ _ e2⟩
 stop:=λS2 M2 H l o=>⟨vs,o.sqT (l.sqT g),by rw[r.length];exact aP _⟩
end
section
variable {X:Cx}{W:WX}{pos:Pos}{tg l a b:Expr}{t:Rd Tr}{u:Rd (List Tr)}{K:Frg}
theorem iG(hl:PD X W l t):PDI X W tg l (c7 t):=by
 refine⟨λpins s σ H R I h=>?_⟩;obtain⟨ρ,M,S,E,o,sl,er,q⟩:=h;have h1:bO X.K W t σ H λx H1=>∃ a,x=.ref a/\((∃ xs,SqL X.K H1 a xs/\R (Itl X.K a) H1)∨∃ xs,SqT X.K H1 a xs/\R (Itt X.K a) H1):=by
  refine⟨ρ,M,S,E,o,sl,er,t.mono (λd M1 q1 v H1 S1 l1 o1 r1=>?_) (λ_ _ z=>z) q⟩;obtain⟨xs,e,q2⟩:=b8 q1;cases d with
  | lst ys =>
   cases e;simp only[Rep] at r1;obtain⟨a,vs,rfl,g,rs⟩:=r1;exact⟨a,rfl,.inl ⟨vs,SqL.of (o1.sub _ _ g),q2 _ H1 S1 l1 o1 (CD (SqL.of g) rs)⟩⟩
  | tup ys =>
   cases e;simp only[Rep] at r1;obtain⟨a,vs,rfl,g,rs⟩:=r1;exact⟨a,rfl,.inr ⟨vs,o1.sqT g,q2 _ H1 S1 l1 o1 (K6 g rs)⟩⟩
  | scr ns =>
   cases e;simp only[Rep] at r1;obtain⟨a,rfl,g⟩:=r1;exact⟨a,rfl,.inl ⟨_,o1.sqL g,q2 _ H1 S1 l1 o1 (CD g ((ah.ints ns).mpr rfl))⟩⟩
  | _=>cases e
 refine thn (hl.run pins s σ H _ I h1) λv s1 ⟨x,H1,I1,r1,q1⟩=>?_;obtain⟨a,rfl,q1⟩:=q1;cases r1;rcases q1 with ⟨xs,hq,q1⟩|⟨xs,hq,q1⟩
 ·obtain⟨its,rv,p,hz⟩:=I1.list hq;refine wpAny_pyIter_list p.isList ?_;refine⟨s1.heap.objs.size,[s1.heap.objs.size],_,_,H1,rfl,I1.kept (t':=s1.toks) λb o e=>Heap.get?_push_of_some _ e,turn_list a _,⟨_,Heap.get?_push_size _ rfl,rfl,rfl⟩,λb hb=>?_,q1⟩;have e:b=s1.heap.objs.size:=by simpa using hb
  subst e;exact I1.fpOk (aP _) (I1.hok.fresh (aP _))
 ·obtain⟨its,rv,p,hz⟩:=I1.tuple hq;refine wpAny_pyIter_tuple (show s1.heap.IsTuple a its.toArray from p) ?_;refine⟨s1.heap.objs.size,[s1.heap.objs.size],_,_,H1,rfl,I1.kept (t':=s1.toks) λb o e=>Heap.get?_push_of_some _ e,turn_tuple a _,⟨_,Heap.get?_push_size _ rfl,rfl,rfl⟩,λb hb=>?_,q1⟩;have e:b=s1.heap.objs.size:=by simpa using hb
  subst e;exact I1.fpOk (aP _) (I1.hok.fresh (aP _))
def fA(z:Str):List Tr:=z.cps.toList.map λc=>Tr.str ⟨#[c]⟩
def dG(t:Rd Tr):Rd (List Tr):=⟨λρ M Q E=>t.f ρ M (λd M1=>match d with
 | .str z=>Q (fA z) M1
 | _=>False) E,λh h' q=>t.mono (λd M1 z=>by
  split at z
  ·exact h _ _ z
  ·exact z.elim) h' q⟩
theorem K5{z:Str}{S:Gh}{H0:Hp}:ig K (Its z) (fA z) S H0 where
 go:=λi S2 M2 H l o hi=>by
  show i < z.cps.size;unfold fA at hi;rw[cj,Array.length_toList] at hi;exact hi
 yld:=λi S2 M2 H x H2 l o hi y=>by
  obtain⟨rfl,c,e,rfl⟩:=y;refine⟨S2,.str ⟨#[c]⟩,?_,Gr.refl _ _,o,fb⟩;unfold fA;rw[gB,Array.getElem?_toList,e];rfl
 stop:=λS2 M2 H l o=>by
  show z.cps.size<=_;unfold fA;simp
theorem kz(hl:PD X W l t):PDI X W tg l (dG t):=oD (pi_str hl) λσ H R h=>by
 obtain⟨ρ,M,S,E,o,sl,er,q⟩:=h;refine⟨ρ,M,S,E,o,sl,er,t.mono (λd M1 q1 v H1 S1 l1 o1 r1=>?_) (λ_ _ z=>z) q⟩;dsimp only at q1
 split at q1
 ·simp only[Rep] at r1;exact⟨_,r1,q1 _ H1 S1 l1 o1 K5⟩
 ·exact q1.elim
def du(lo:Int)(n:Nat):List Tr:=(List.range n).map fun(k:Nat)=>Tr.int (lo+(k:Int))
def gQ(u:Rd (List Tr)):Rd (List Tr):=⟨λρ M Q E=>u.f ρ M (λds M1=>match ds with
 | [.int j]=>(-(2 ^ 62)<=j/\j < 2 ^ 62)/\Q (du 0 j.toNat) M1
 | _=>False) E,λh h' q=>u.mono (λds M1 z=>by
  split at z
  ·exact⟨z.1,h _ _ z.2⟩
  ·exact z.elim) h' q⟩
def rY(u:Rd (List Tr)):Rd (List Tr):=⟨λρ M Q E=>u.f ρ M (λds M1=>match ds with
 | [.int i,.int j]=>(-(2 ^ 62)<=i/\i < 2 ^ 62/\-(2 ^ 62)<=j/\j < 2 ^ 62)/\Q (du i (j - i).toNat) M1
 | _=>False) E,λh h' q=>u.mono (λds M1 z=>by
  split at z
  ·exact⟨z.1,h _ _ z.2⟩
  ·exact z.elim) h' q⟩
theorem CF{lo:Int}{n:Nat}{S:Gh}{H0:Hp}:ig K (Itr lo n) (du lo n) S H0 where
 go:=λi S2 M2 H l o hi=>by
  unfold du at hi;show i < n;simpa using hi
 yld:=λi S2 M2 H x H2 l o hi y=>by
  obtain⟨rfl,rfl⟩:=y;refine⟨S2,.int (lo+i),?_,Gr.refl _ _,o,dv⟩;unfold du at hi ⊢;simp only[cj,aav] at hi;simp [hi]
 stop:=λS2 M2 H l o=>by
  show n<=_;unfold du;simp
theorem oA {p:Pos} (hg:Gl X "range") (hm:X.mg "range"=none) (ha:PDA X W [a] u) (hs:starEach [a] X.env=[(false,eval a X.env)]:=by rfl):PDI X W tg (.Call (.Name "range" p) [a] [] pos) (gQ u):=oD (pi_range1 hg hm ha hs) λσ H R h=>by
 obtain⟨ρ,M,S,E,o,sl,er,q⟩:=h;refine⟨ρ,M,S,E,o,sl,er,u.mono (λds M1 q1 vs H1 S1 l1 o1 r1=>?_) (λ_ _ z=>z) q⟩;dsimp only at q1
 split at q1
 ·obtain⟨v,rfl,rv⟩:=ew r1;simp only[Rep] at rv;exact⟨_,by rw[rv],q1.1.1,q1.1.2,q1.2 _ H1 S1 l1 o1 CF⟩
 ·exact q1.elim
theorem IX {p:Pos} (hg:Gl X "range") (hm:X.mg "range"=none) (ha:PDA X W [a,b] u) (hs:starEach [a,b] X.env=[(false,eval a X.env),(false,eval b X.env)]:=by rfl) (hs2:starEach [b] X.env=[(false,eval b X.env)]:=by rfl) :
  PDI X W tg (.Call (.Name "range" p) [a,b] [] pos) (rY u):=oD (pi_range2 hg hm ha hs hs2) λσ H R h=>by
 obtain⟨ρ,M,S,E,o,sl,er,q⟩:=h;refine⟨ρ,M,S,E,o,sl,er,u.mono (λds M1 q1 vs H1 S1 l1 o1 r1=>?_) (λ_ _ z=>z) q⟩;dsimp only at q1
 split at q1
 ·obtain⟨v,w,rfl,rv,rw'⟩:=lI r1;simp only[Rep] at rv rw';exact⟨_,_,by rw[rv,rw'],q1.1,q1.2 _ H1 S1 l1 o1 CF⟩
 ·exact q1.elim
def eC:List Tr->List Tr->List Tr
 | x::r,y::s=>.tup [x,y]::eC r s
 | _,_=>[]
theorem CI:∀(xs ys:List Tr)(i:Nat)(x y:Tr),xs[i]?=some x->ys[i]?=some y->(eC xs ys)[i]?=some (.tup [x,y])
 | a::r,b::s,0,x,y,h1,h2=>by simp at h1 h2;subst h1 h2;rfl
 | a::r,b::s,i+1,x,y,h1,h2=>by
  simp only[eC,bB] at h1 h2 ⊢;exact CI r s i x y h1 h2
 | [],_,_,_,_,h1,_=>by simp at h1
 | _::_,[],_,_,_,_,h2=>by simp at h2
theorem qi:∀(xs ys:List Tr),(eC xs ys).length=min xs.length ys.length
 | [],ys=>by simp [eC]
 | x::r,[]=>by simp [eC]
 | x::r,y::s=>by simp [eC,qi r s]
def ck(g:Tg)(tb:Sr):List Tr->Fin->En->Me->Prop
 | [],F,ρ,M=>F.nx ρ M
 | x::r,F,ρ,M=>au (br g x ρ) λρ'=>tb.f { F with nx:=ck g tb r F,ct:=ck g tb r F,bk:=F.nx } ρ' M
theorem sF{g:Tg}{tb:Sr}{F F':Fin}(h:Fin.Le F F'):∀(xs:List Tr)(ρ:En)(M:Me),ck g tb xs F ρ M->ck g tb xs F' ρ M
 | [],ρ,M,q=>h.nx _ _ q
 | x::r,ρ,M,q=>cm (λρ'=>tb.mono (D:={ F with nx:=ck g tb r F,ct:=ck g tb r F,bk:=F.nx }) (D':={ F' with nx:=ck g tb r F',ct:=ck g tb r F',bk:=F'.nx }) ⟨λρ M=>sF h r ρ M,h.rt,h.nx,λρ M=>sF h r ρ M,h.er⟩) q
def ez(it:Rd (List Tr))(g:Tg)(tb:Sr):Sr:=⟨λF ρ M=>it.f ρ M (λxs M1=>ck g tb xs F ρ M1) (F.er ρ),λh q=>it.mono (λxs M z=>sF h xs _ M z) (λd M z=>h.er _ d M z) q⟩
theorem jz{iter:Expr}{body:List Stmt}{it:Rd (List Tr)}{g:Tg}{tb:Sr}(hp:PassesOwn (model X.prog X.w) X.A X.env X.xe)(hc:X.calm=true)(hi:PDI X W tg iter it)(hg:PDG X tg g)(hb:dE X W body tb)(hf:∀ x:Value,foldedSetIterable iter X.env x=pure x:=by intro _;rfl) :
  PDS X W (.For tg iter body [] pos) (ez it g tb):=dU (ps_for hp hc hi hg hb hf) λD σ H h=>by
 obtain⟨ρ,M,S,F,o,sl,en,q⟩:=h;refine⟨ρ,M,S,F.er ρ,o,sl,en.err sl,it.mono (λxs M1 q1 J H1 S1 l1 o1 w=>?_) (λ_ _ z=>z) q⟩;refine⟨λi m σ' H'=>m=xs.length - i/\i<=xs.length/\∃ ρ' M' S',Gr S1 H1 S' H'/\OkH X.K S' M' H'/\be X.K S' ρ' σ'/\ck g tb (xs.drop i) F ρ' M',⟨xs.length,by simp,eS _,ρ,M1,S1,Gr.refl _ _,o1,sl.mono l1.le,q1⟩,?_⟩;rintro i m σ' H' ⟨rfl,hi,ρ',M',S',l',o',s',q'⟩
 by_cases hlt:i < xs.length
 ·right
  rw[aal hlt] at q';obtain⟨ρ2,e2,q2⟩:=b8 q';refine⟨w.go i S' M' H' l'.le o' hlt,λσ H=>∃ ρ' M' S',Gr S1 H1 S' H/\OkH X.K S' M' H/\be X.K S' ρ' σ/\ck g tb (xs.drop (i+1)) F ρ' M',λσ4 H4 n4=>⟨xs.length - (i+1),by omega,rfl,hlt,n4⟩,λx H2 y=>?_⟩;obtain⟨S3,d,e3,l3,o3,r3⟩:=w.yld i S' M' H' x H2 l'.le o' hlt y;have ed:d=xs[i]:=by rw[eE hlt] at e3;exact(Option.some.inj e3).symm
  subst ed;refine pP o3 g _ x ρ' ρ2 σ' _ (s'.mono l3.le) r3 e2 λσ5 s5 _=>?_;have L3:Gr S1 H1 S3 H2:=l'.trans l3;have nx:∀ ρ6 M6 S6 σ6 H6,Gr S3 H2 S6 H6->OkH X.K S6 M6 H6->be X.K S6 ρ6 σ6->ck g tb (xs.drop (i+1)) F ρ6 M6->∃ ρ' M' S',Gr S1 H1 S' H6/\OkH X.K S' M' H6/\be X.K S' ρ' σ6/\ck g tb (xs.drop (i+1)) F ρ' M' :=
   λρ6 M6 S6 σ6 H6 l6 o6 s6 q6=>⟨ρ6,M6,S6,L3.trans l6,o6,s6,q6⟩
  have en3:=(en.mono l1).mono L3;exact⟨ρ2,M',S3,{ F with nx:=ck g tb (xs.drop (i+1)) F,ct:=ck g tb (xs.drop (i+1)) F,bk:=F.nx },o3,s5,⟨nx,en3.rt,en3.nx,nx,en3.er⟩,q2⟩
 ·left
  have ei:i=xs.length:=by omega
  subst ei;rw[List.drop_length] at q';exact⟨w.stop S' M' H' l'.le o',en.nx ρ' M' S' σ' H' (l1.trans l') o' s' q'⟩
def cI(c:Rd Bool)(tb:Sr):Nat->Fin->En->Me->Prop
 | 0,_,_,_=>False
 | n+1,F,ρ,M=>c.f ρ M (λb M1=>if b=true then tb.f { F with nx:=cI c tb n F,ct:=cI c tb n F,bk:=F.nx } ρ M1 else F.nx ρ M1) (F.er ρ)
theorem vf{c:Rd Bool}{tb:Sr}{F F':Fin}(h:Fin.Le F F'):∀(n:Nat)(ρ:En)(M:Me),cI c tb n F ρ M->cI c tb n F' ρ M
 | 0,_,_,q=>q.elim
 | n+1,ρ,M,q=>c.mono (λb M1 z=>by
  by_cases hb:b=true
  ·rw[if_pos hb] at z ⊢;exact tb.mono (D:={ F with nx:=cI c tb n F,ct:=cI c tb n F,bk:=F.nx }) (D':={ F' with nx:=cI c tb n F',ct:=cI c tb n F',bk:=F'.nx }) ⟨λρ M=>vf h n ρ M,h.rt,h.nx,λρ M=>vf h n ρ M,h.er⟩ z
  ·rw[if_neg hb] at z ⊢;exact h.nx _ _ z) (λd M z=>h.er _ d M z) q
def lM(c:Rd Bool)(tb:Sr):Sr:=⟨λF ρ M=>∃ n,cI c tb n F ρ M,λh ⟨n,q⟩=>⟨n,vf h n _ _ q⟩⟩
theorem za{ce:Expr}{body:List Stmt}{c:Rd Bool}{tb:Sr}(hp:PassesOwn (model X.prog X.w) X.A X.env X.xe)(hc:PDT X W ce c)(hb:dE X W body tb):PDS X W (.While ce body [] pos) (lM c tb):=dU (ps_while hp hc hb) λD σ H h=>by
 obtain⟨ρ,M,S,F,o,sl,en,n,q⟩:=h;refine⟨λm σ' H'=>∃ ρ' M' S',Gr S H S' H'/\OkH X.K S' M' H'/\be X.K S' ρ' σ'/\cI c tb m F ρ' M',⟨n,ρ,M,S,Gr.refl _ _,o,sl,q⟩,?_⟩;rintro m σ' H' ⟨ρ',M',S',l',o',s',q'⟩;cases m with
 | zero=>exact q'.elim
 | succ m =>
  have en':=en.mono l';refine⟨ρ',M',S',F.er ρ',o',s',en'.err s',c.mono (λb M1 q1 H1 S1 l1 o1=>?_) (λ_ _ z=>z) q'⟩;cases b with
  | true =>
   rw[if_pos rfl] at q1 ⊢;refine⟨λσ H2=>∃ ρ' M' S',Gr S H S' H2/\OkH X.K S' M' H2/\be X.K S' ρ' σ/\cI c tb m F ρ' M',λσ4 H4 n4=>⟨m,Nat.lt_succ_self m,n4⟩,?_⟩;have L1:Gr S H S1 H1:=l'.trans l1;have nx:∀ ρ6 M6 S6 σ6 H6,Gr S1 H1 S6 H6->OkH X.K S6 M6 H6->be X.K S6 ρ6 σ6->cI c tb m F ρ6 M6->∃ ρ' M' S',Gr S H S' H6/\OkH X.K S' M' H6/\be X.K S' ρ' σ6/\cI c tb m F ρ' M' :=
    λρ6 M6 S6 σ6 H6 l6 o6 s6 q6=>⟨ρ6,M6,S6,L1.trans l6,o6,s6,q6⟩
   have en3:=en.mono L1;exact⟨ρ',M1,S1,{ F with nx:=cI c tb m F,ct:=cI c tb m F,bk:=F.nx },o1,s'.mono l1.le,⟨nx,en3.rt,en3.nx,nx,en3.er⟩,q1⟩
  | false =>
   rw[if_neg aad] at q1 ⊢;exact en'.nx ρ' M1 S1 σ' H1 l1 o1 (s'.mono l1.le) q1
abbrev W0:WX:=λ_ _ _ _=>False
def cG(g:Tg)(tt:Rd Bool)(te:Rd Tr)(ρ:En):List Tr->List Tr->Me->(List Tr->Me->Prop)->Prop
 | [],acc,M,Q=>Q acc M
 | x::r,acc,M,Q=>au (br g x ρ) λρ'=>tt.f ρ' M (λb M1=>if b=true then te.f ρ' M1 (λy M2=>acc.length < big/\cG g tt te ρ r (acc++[y]) M2 Q) (λ_ _=>False) else cG g tt te ρ r acc M1 Q) λ_ _=>False
theorem rQ{g:Tg}{tt:Rd Bool}{te:Rd Tr}{ρ:En}{Q Q':List Tr->Me->Prop}(h:∀ ds M,Q ds M->Q' ds M):∀(xs acc:List Tr)(M:Me),cG g tt te ρ xs acc M Q->cG g tt te ρ xs acc M Q'
 | [],acc,M,q=>h _ _ q
 | x::r,acc,M,q=>cm (λρ'=>tt.mono (λb M1 z=>by
  by_cases hb:b=true
  ·rw[if_pos hb] at z ⊢;exact te.mono (λy M2 z2=>⟨z2.1,rQ h r _ M2 z2.2⟩) (λ_ _ z=>z) z
  ·rw[if_neg hb] at z ⊢;exact rQ h r _ M1 z) λ_ _ z=>z) q
def cL:Rd Bool:=⟨λ_ M Q _=>Q true M,λh _ q=>h _ _ q⟩
abbrev mO(X:Cx)(W:WX)(ifs:List Expr)(t:Rd Bool):Prop:=PTs X ifs (fq X.K W t)
theorem Jl{ifs:List Expr}{t t':TT}(p:PTs X ifs t)(h:∀ σ H Q,t' σ H Q->t σ H Q):PTs X ifs t':=⟨λpins s σ H Q I q=>p.run pins s σ H Q I (h σ H Q q)⟩
theorem g6:mO X W [] cL:=Jl pts_nil λσ H Q h=>by
 obtain⟨ρ,M,S,E,o,sl,er,q⟩:=h;exact q H S (Gr.refl S H) o
theorem oC{c:Expr}{t:Rd Bool}(h:PDT X W c t):mO X W [c] t:=pts_one h
theorem xj{S:Gh}{H:Hp}{σ:L2.St}:fj K W0 S H σ λ_ _=>False:=λ_ _ _ _ _ _ _ _ _ z=>z.elim
end
mutual
def bo(n:Nat):Tr->Prop
 | .cell k=>k < n
 | .lst xs=>bS n xs
 | .tup xs=>bS n xs
 | .dct _ xs=>bS n xs
 | .dkf _ xs=>bS n xs
 | .ins _ xs=>bS n xs
 | .exc _ xs=>bS n xs
 | _=>True
def bS(n:Nat):List Tr->Prop
 | []=>True
 | d::ds=>bo n d/\bS n ds
end
def ee(n:Nat):Ce->Prop
 | .dead=>True
 | .lst xs=>bS n xs
 | .dct _ xs=>bS n xs
 | .ins _ xs=>bS n xs
 | .dkf _ xs=>bS n xs
section
variable {K:Frg}{S:Gh}
mutual
theorem Jx:∀(d:Tr)(v:V),Rep K S d v->bo S.C.length d
 | .cell k,v,r=>by
  simp only[Rep] at r;obtain⟨a,_,e⟩:=r;simp only[bo];exact(bL.mp e).1
 | .lst xs,v,r=>by
  simp only[Rep] at r;obtain⟨a,vs,_,_,q⟩:=r;simp only[bo];exact fc xs vs q
 | .tup xs,v,r=>by
  simp only[Rep] at r;obtain⟨a,vs,_,_,q⟩:=r;simp only[bo];exact fc xs vs q
 | .dct ks xs,v,r=>by
  simp only[Rep] at r;obtain⟨a,vs,_,_,_,q⟩:=r;simp only[bo];exact fc xs _ q
 | .dkf ks xs,v,r=>by
  simp only[Rep] at r;obtain⟨a,od,vs,_,_,_,q⟩:=r;simp only[bo];exact fc xs _ q
 | .ins c xs,v,r=>by
  simp only[Rep] at r;obtain⟨a,dx,fs,_,_,_,q⟩:=r;simp only[bo];exact fc xs _ q
 | .exc c xs,v,r=>by
  simp only[Rep] at r;obtain⟨_,_,⟨_,_,q⟩|⟨_,_,_,rfl,_⟩⟩:=r
  ·simp only[bo];rcases q with ⟨_,_,rfl⟩|⟨_,fs,_,_,_,q,_⟩
   ·simp only[bS]
   ·exact fc xs _ q
  ·simp only[bo,bS,and_self]
 | .non,v,r=>by simp only[bo]
 | .bl _,v,r=>by simp only[bo]
 | .int _,v,r=>by simp only[bo]
 | .str _,v,r=>by simp only[bo]
 | .scr _,v,r=>by simp only[bo]
theorem fc:∀(ds:List Tr)(vs:List V),ah K S ds vs->bS S.C.length ds
 | [],vs,r=>by simp only[bS]
 | d::ds,vs,r=>by
  simp only[ah] at r;obtain⟨v,t,rfl,h1,h2⟩:=r;simp only[bS];exact⟨Jx d v h1,fc ds t h2⟩
end
mutual
theorem pM{n:Nat}:∀(d:Tr)(v:V),Rep K S d v->bo n d->Rep K ⟨S.G,S.C.take n⟩ d v
 | .cell k,v,r,b=>by
  simp only[Rep] at r ⊢;simp only[bo] at b;obtain⟨a,e1,e⟩:=r;exact⟨a,e1,by rw[h8 b];exact e⟩
 | .lst xs,v,r,b=>by
  simp only[Rep] at r ⊢;simp only[bo] at b;obtain⟨a,vs,e,g,q⟩:=r;exact⟨a,vs,e,g,fx xs vs q b⟩
 | .tup xs,v,r,b=>by
  simp only[Rep] at r ⊢;simp only[bo] at b;obtain⟨a,vs,e,g,q⟩:=r;exact⟨a,vs,e,g,fx xs vs q b⟩
 | .dct ks xs,v,r,b=>by
  simp only[Rep] at r ⊢;simp only[bo] at b;obtain⟨a,vs,e,g,k,q⟩:=r;exact⟨a,vs,e,g,k,fx xs _ q b⟩
 | .dkf ks xs,v,r,b=>by
  simp only[Rep] at r ⊢;simp only[bo] at b;obtain⟨a,od,vs,e,g,k,q⟩:=r;exact⟨a,od,vs,e,g,k,fx xs _ q b⟩
 | .ins c xs,v,r,b=>by
  simp only[Rep] at r ⊢;simp only[bo] at b;obtain⟨a,dx,fs,e,g,k,q⟩:=r;exact⟨a,dx,fs,e,g,k,fx xs _ q b⟩
 | .exc c xs,v,r,b=>by
  simp only[Rep] at r ⊢;simp only[bo] at b;obtain⟨a,e,⟨dd,g,q⟩|q⟩:=r
  ·refine⟨a,e,.inl ⟨dd,g,?_⟩⟩;rcases q with q|⟨d,fs,q1,q2,q3,q4⟩
   ·exact .inl q
   ·exact .inr ⟨d,fs,q1,q2,q3,fx xs _ q4.1 b,q4.2⟩
  ·exact⟨a,e,.inr q⟩
 | .non,v,r,b=>by simp only[Rep] at r ⊢;exact r
 | .bl _,v,r,b=>by simp only[Rep] at r ⊢;exact r
 | .int _,v,r,b=>by simp only[Rep] at r ⊢;exact r
 | .str _,v,r,b=>by simp only[Rep] at r ⊢;exact r
 | .scr _,v,r,b=>by simp only[Rep] at r ⊢;exact r
theorem fx{n:Nat}:∀(ds:List Tr)(vs:List V),ah K S ds vs->bS n ds->ah K ⟨S.G,S.C.take n⟩ ds vs
 | [],vs,r,b=>by simp only[ah] at r ⊢;exact r
 | d::ds,vs,r,b=>by
  simp only[ah] at r ⊢;simp only[bS] at b;obtain⟨v,t,rfl,h1,h2⟩:=r;exact⟨v,t,rfl,pM d v h1 b.1,fx ds t h2 b.2⟩
end
theorem D1{H:Hp}{n:Nat}{a:Addr}{c:Ce}(h:dz K S H a c)(b:ee n c):dz K ⟨S.G,S.C.take n⟩ H a c:=by
 cases c with
 | dead=>exact h
 | lst ds=>obtain⟨g,vs,e,r⟩:=h;exact⟨g,vs,e,fx _ _ r b⟩
 | dct ks ds=>obtain⟨g,vs,e,k,r⟩:=h;exact⟨g,vs,e,k,fx _ _ r b⟩
 | ins c ds=>obtain⟨g,dx,vs,e,k,r⟩:=h;exact⟨g,dx,vs,e,k,fx _ _ r b⟩
 | dkf ks ds=>obtain⟨od,vs,g,e,k,r⟩:=h;exact⟨od,vs,g,e,k,fx _ _ r b⟩
theorem D0{H:Hp}{a:Addr}{c:Ce}(h:dz K S H a c):ee S.C.length c:=by
 cases c with
 | dead=>trivial
 | lst ds=>obtain⟨g,vs,e,r⟩:=h;exact fc _ _ r
 | dct ks ds=>obtain⟨g,vs,e,k,r⟩:=h;exact fc _ _ r
 | ins c ds=>obtain⟨g,dx,vs,e,k,r⟩:=h;exact fc _ _ r
 | dkf ks ds=>obtain⟨od,vs,g,e,k,r⟩:=h;exact fc _ _ r
theorem yL{M:Me}{H:Hp}(o:OkH K S M H):∀ c∈M,ee M.length c:=by
 intro c hc;obtain⟨k,hk⟩:=eR.mp hc;have hk2:k < S.C.length:=by rw[o.len];exact(bL.mp hk).1
 have:=D0 (o.cell k S.C[k] c (by simp [hk2]) hk);rw[o.len] at this;exact this
end
def yK(n:Nat)(r:Tr)(M:Me):Prop:=bo n r/\∀ k c,k < n->M[k]?=some c->ee n c
def lf(n0:Nat)(r:Tr)(M:Me)(Q:Me->Prop):Prop:=Q M∨∃ n,n0<=n/\yK n r M/\Q (M.take n)
def ap(n0:Nat)(Q E:TK):Fin where
 nx:=λ_ M=>lf n0 .non M λM=>Q .non M
 rt:=λr M=>lf n0 r M λM=>Q r M
 er:=λ_ e M=>lf n0 e M λM=>E e M
def df(N:List Str)(ds:List Tr):En:=ds.map some++bW (N.length - ds.length) none
section
variable {P:Program}{w:World}{K:Frg}{mg:Str->Option Value}{base:Heap}
theorem uy{S:Gh}{N:List Str}{ds:List Tr}{vs:List V}(r:ah K S ds vs):be K S (df N ds) (L2.start N vs):=by
 have hl:=r.length;refine⟨by simp [df,L2.start,hl],λi d e=>?_⟩;unfold df at e
 by_cases hi:i < ds.length
 ·rw[eD (by simpa using hi),gB] at e;cases q:ds[i]? with
  | none=>rw[q] at e;cases e
  | some d' =>
   rw[q] at e;cases e;obtain⟨v,h1,h2⟩:=r.get q;refine⟨v,?_,h2⟩;unfold L2.start;rw[eD (by simpa [<- hl] using hi),gB,h1];rfl
 ·rw[fD (by simpa using hi),List.getElem?_replicate] at e
  split at e <;> cases e
theorem gR{S0 S:Gh}{H0 H:Hp}{n0 n:Nat}{M:Me}{r:Tr}(hn:n0<=n)(h0:S0.C.length=n0)(l:Gr S0 H0 S H)(o:OkH K S M H)(d:yK n r M):Gr S0 H0 ⟨S.G,S.C.take n⟩ H/\OkH K ⟨S.G,S.C.take n⟩ (M.take n) H:=by refine⟨⟨⟨l.le.g,?_⟩,λa h1 h2=>l.new a (aaa h1) h2,l.keep,l.fz⟩,o.drop n λk a c hk e1 e2=>D1 (o.cell k a c e1 e2) (d.2 k c hk e2)⟩;obtain⟨t,ht⟩:=l.le.c;show S0.C <+: S.C.take n;rw[<- ht,List.take_append,List.take_of_length_le (by omega)];exact List.prefix_append _ _
theorem sx{S:Gh}{n:Nat}{d:Tr}{cls:Value}{dd:Option Addr}(x:Exc K S d cls dd)(b:bo n d):Exc K ⟨S.G,S.C.take n⟩ d cls dd:=by
 cases d with
 | exc c ds =>
  obtain⟨h,h2⟩:=x;simp only[bo] at b;rcases h2 with h2|⟨a,fs,h1,h2,h3,h4⟩
  ·exact⟨h,.inl h2⟩
  ·exact⟨h,.inr ⟨a,fs,h1,h2,h3,fx _ _ h4.1 b,h4.2⟩⟩
 | _=>exact x.elim
variable {x qual:Str}{params:Arguments}{body:List Stmt}{scope:Scope}{dvs:List V}{kws:List (Str × V)}{f:Addr}{fd:FuncData}
abbrev BX(P:Program)(w:World)(K:Frg)(mg:Str->Option Value)(base:Heap)(N:List Str)(qual:Str)(scope:Scope)(f:Addr)(cdv:Value)(A:Around)(outer:List Env)(s:Shared)(H:Hp)(E:XK):Cx:=cxOf (L2.CX P w) P w K mg base N qual scope f cdv A outer s H E
abbrev WB(E:XK):WX:=λcls d _ H=>E cls d H
theorem cg{N:List Str}{cdv:Value}{A:Around}{outer:List Env}{s:Shared}{H:Hp}{E:XK}:Takes (BX P w K mg base N qual scope f cdv A outer s H E) (WB E):=takes_of rfl rfl rfl rfl
theorem xB{g:Bool}{CX:CXT}{N ps:List Str}{k:Nat}{sp:Sp}(F:FunD K x qual params body scope dvs kws f fd)(Sc:FnScope N ps scope)(len:∀ vs H Q E,sp vs H Q E->vs.length=ps.length)
  (hbody:∀(cdv:Value)(A:Around)(outer:List Env)(s:Shared)(H:Hp)(vs:List V)(Q:VK)(E:XK),Room k (A.deeper (envOfC qual scope s.heap.objs.size f cdv))->(g=true->Gd base A)->sp vs H Q E ->
   ∃ t,PSs (cxOf CX P w K mg base N qual scope f cdv A outer s H E) body t/\t { nx:=λ_ H'=>Q .non H',rt:=Q } (L2.start N vs) H):cc g P w K mg base CX (k+1) f fd ps sp:=by
 obtain⟨oc,od,dV,kV,doc,pm,an,cdv,ct,osl,rfl,lk,hcd,_,_⟩:=F.ex;refine⟨len,λA outer s H args us vs Q E hr hgd e0 hb r hsp=>?_⟩;have inn:∀ b o,base.get? b=some o->s.heap.get? b=some o:=λb o e=>(e0.bs b o e).1;have KX:K.In s.heap:=e0.mod.kin.keeps inn;have hl:=len _ _ _ _ hsp;refine codeAny_call_function hr.depth (KX _ _ lk) rfl Sc.co Sc.gen rfl (PySem.W.codeRec_of KX hcd) (hb _ _ _ _ ?_);refine wpAny_newFunctionEnv_cells Sc.kind (λy hy=>?_) λenv he s1 xx=>?_
 ·obtain⟨n,v⟩:=y;exact(Sc.par n (List.of_mem_zip hy).1).elim .inl λq=>.inr ⟨q,PySem.W.cellsFrom_some _ _ _ (.inl q)⟩
 ·subst he;refine⟨(e0.mod.nolimit.keeps inn).keeps xx.toInCall.keep,codeAny_func ?_⟩;obtain⟨t,ht,hq⟩:=hbody cdv A outer s H vs Q E (hr.deeper _) hgd hsp;refine wpAny_mono (ht.run [] s1 (L2.start N vs) H _ (inv_start Sc hr.hd e0 hl r xx) hq) (λfl s' hs=>?_) λe s' hs=>hs;cases fl with
  | ret u=>obtain⟨v,σ',H',J,rv,q⟩:=hs;exact⟨v,H',J.os,J.bare,J.base,J.hok,rv,q⟩
  | next=>obtain⟨σ',H',J,q⟩:=hs;exact⟨.non,H',J.os,J.bare,J.base,J.hok,rfl,q⟩
  | brk=>obtain⟨_,_,_,q⟩:=hs;exact q.elim
  | cont=>obtain⟨_,_,_,q⟩:=hs;exact q.elim
theorem iy{g:Bool}{N ps:List Str}{k:Nat}{sp:Sf}{t:Sr}(F:FunD K x qual params body scope dvs kws f fd)(Sc:FnScope N ps scope)
  (hb:∀(cdv:Value)(A:Around)(outer:List Env)(s:Shared)(H:Hp)(E:XK),Room k (A.deeper (envOfC qual scope s.heap.objs.size f cdv))->(g=true->Gd base A)->dE (BX P w K mg base N qual scope f cdv A outer s H E) (WB E) body t)
  (h:∀(ds:List Tr)(M:Me)(Q E:TK),ds.length=ps.length->bS M.length ds->(∀ c∈M,ee M.length c)->sp.f ds M Q E->t.f (ap M.length Q E) (df N ds) M) :
  cc g P w K mg base (L2.CX P w) (k+1) f fd ps (liftF K sp ps.length):=by
 refine xB F Sc (λvs H Q E q=>q.1) (λcdv A outer s H vs Q E hr hgd q=>?_);obtain⟨hl,ds,M,S,o,r,q⟩:=q;refine⟨_,hb cdv A outer s H E hr hgd,?_⟩;have hb1:=fc _ _ r;rw[o.len] at hb1;have q2:=h ds M _ _ (by rw[r.length,hl]) hb1 (yL o) q;refine⟨df N ds,M,S,_,o,uy r,⟨?_,?_,?_,?_,?_⟩,q2⟩
 ·intro ρ M' S' σ H' l o' s' q3;rcases q3 with q3|⟨n,hn,hd,q3⟩
  ·exact q3 .non H' S' l o' jA
  ·obtain⟨l2,o2⟩:=gR hn o.len l o' hd;exact q3 .non H' _ l2 o2 jA
 ·intro d M' S' v H' l o' r' q3;rcases q3 with q3|⟨n,hn,hd,q3⟩
  ·exact q3 v H' S' l o' r'
  ·obtain⟨l2,o2⟩:=gR hn o.len l o' hd;exact q3 v H' _ l2 o2 (pM _ _ r' hd.1)
 ·exact λ_ _ _ _ _ _ _ _ z=>z.elim
 ·exact λ_ _ _ _ _ _ _ _ z=>z.elim
 ·intro ρ d M' S' σ H' cls dd l o' s' x q3;rcases q3 with q3|⟨n,hn,hd,q3⟩
  ·exact q3 cls dd H' S' l o' x
  ·obtain⟨l2,o2⟩:=gR hn o.len l o' hd;exact q3 cls dd H' _ l2 o2 (sx x hd.1)
end
def GE(sp:Sf)(dds:List Tr)(n:Nat)(u:Rd (List Tr)):Rd Tr:=⟨λρ M Q E=>u.f ρ M (λds M1=>(ds++dds).length=n/\sp.f (ds++dds) M1 Q E) E,λh h' q=>u.mono (λds M1 z=>⟨z.1,sp.mono h h' z.2⟩) h' q⟩
section
variable {X:Cx}{W:WX}{x:Str}{k n:Nat}{dds:List Tr}{sp:Sf}{p pos:Pos}{e:Expr}{es:List Expr}{u:Rd (List Tr)}
theorem HA{K:Frg}{dvs:List V}(hd:∀ S,ah K S dds dvs){σ:L2.St}{H:Hp}{Q:VK}(h:bO K W (GE sp dds n u) σ H Q):tCallSD (liftF K sp n) dvs (WE W) (gT K W u) σ H Q:=by obtain⟨ρ,M,S,E,o,s,er,q⟩:=h;refine⟨ρ,M,S,E,o,s,er,u.mono (λds M1 q1 vs H1 S1 l1 o1 r1=>?_) (λ_ _ z=>z) q⟩;have r2:=r1.append (hd S1);refine⟨by rw[<- r2.length];exact q1.1,ds++dds,M1,S1,o1,r2,sp.mono (λr M2 q2 v H2 S2 l2 o2 r2=>q2 v H2 S2 (l1.trans l2) o2 r2) (λe M2 q2 cls dd H2 S2 l2 o2 x=>er e M2 S2 H2 cls dd (l1.trans l2) o2 x q2) q1.2⟩
theorem pO{CX:CXT}{g:Bool}{f:Addr}{fd:FuncData}{ps:List Str}{ds:List Value}{dvs vs:List V}{us:List Value}{sp:Sp}{E:L2.St->XK}{pins:List (Addr × Obj)}{σ:L2.St}{H:Hp}{s:Shared}{Q:VK}(F:cc g X.prog X.w X.K X.mg X.base CX k f fd ps sp)(hr:Room k X.A)
  (hgd:g=true->Gd X.base X.A) (hb:Binds X.K fd ps ds) (hd:Vals dvs ds) (hx:PassesAt CX X σ (E σ)) (I:Inv X pins σ H s) (r:Vals vs us) (h:sp (vs++dvs) H Q (E σ)):wpAny (model X.prog X.w) X.A (call (.ref f) us) (EP X pins σ Q) X.xe s:=by
 have r2:=r.append hd;have hl:=F.len _ _ _ _ h;rw[r2.length] at hl;refine wpAny_call (codeAny_mono (F.run X.A X.stack s H ⟨us,[]⟩ _ _ Q (E σ) hr hgd I.env0 (hb s us I.kIn hl) r2 h) λq s' hq=>?_)
 match q,hq with
 | .error e,hq=>exact hx pins H s e s' I hq
 | .ok (.ret u),hq=>exact I.after hq
theorem zb{CX:CXT}{g:Bool}{f:Addr}{fd:FuncData}{ps:List Str}{ds:List Value}{dvs:List V}{sp:Sp}{E:L2.St->XK}{t:TA}(F:cc g X.prog X.w X.K X.mg X.base CX k f fd ps sp)(hr:Room k X.A)(hgd:g=true->Gd X.base X.A)(hg:Gl X x)(hm:X.mg x=some (.ref f))
  (hk:PySem.W.keepIn X.K (.ref f)=true) (hb:Binds X.K fd ps ds) (hd:Vals dvs ds) (hx:∀ σ,PassesAt CX X σ (E σ)) (ha:PA X (e::es) t) (hdb:(x == ("__debug__":Str))=false:=by decide)
  (he:starEach (e::es) X.env=(false,eval e X.env)::starEach es X.env:=by rfl) (hpl:(backTo pos (starEach es X.env)).any (·.1)=false:=by rfl):PE X (.Call (.Name x p) (e::es) [] pos) (tCallSD sp dvs E t) :=
 ⟨λpins s σ H Q I h=>wpAny_Call_Name_kw (ld_glob I hg hm (PySem.W.callWith_K (h₀:=X.base) I.ok.mod.kin hk (thn (ha.run pos pins s σ H _ I h) λus s1 ⟨vs,H1,I1,r,q⟩=>⟨I1.kIn,pO F hr hgd hb hd (hx σ) I1 r q⟩) he hpl) hdb)⟩
theorem fO {g:Bool} (tk:Takes X W) (F:Fn g X.prog X.w X.K X.mg X.base x k n dds sp) (hr:Room k X.A) (hgd:g=true->Gd X.base X.A) (hg:Gl X x) (ha:PDA X W (e::es) u) (hdb:(x == ("__debug__":Str))=false:=by decide)
  (he:starEach (e::es) X.env=(false,eval e X.env)::starEach es X.env:=by rfl) (hpl:(backTo pos (starEach es X.env)).any (·.1)=false:=by rfl):PD X W (.Call (.Name x p) (e::es) [] pos) (GE sp dds n u):=by
 obtain⟨f,fd,ps,ds,dvs,F1,hm,hk,hb,hd,hdd⟩:=F.ex;exact bA (zb F1 hr hgd hg hm hk hb hd (λσ=>passAt tk σ) ha hdb he hpl) λ_ _ _=>HA hdd
def rX(c:Nat)(sp:Sf)(dds:List Tr)(n:Nat)(u:Rd (List Tr)):Rd Tr:=⟨λρ M Q E=>u.f ρ M (λds M1=>(ds++dds).length=n/\sp.f (.cell M1.length::(ds++dds)) (M1++[.ins c []]) (λr M2=>isNone r=true/\Q (.cell M1.length) M2) E) E,
 λh h' q=>u.mono (λds M1 z=>⟨z.1,sp.mono (λr M2 ⟨a,b⟩=>⟨a,h _ _ b⟩) h' z.2⟩) h' q⟩
theorem Ia{K:Frg}{S:Gh}{M:Me}{H:Hp}{c:Nat}{x dx:Addr}(o:OkH K S M H)(nx:H x=none)(nd:H dx=none)(ne:dx≠x) :
  ∃ S',Gr S H S' (upd (upd H dx (.own x)) x (.ins (He.ga K (cnm c)) dx []))/\OkH K S' (M++[.ins c []]) (upd (upd H dx (.own x)) x (.ins (He.ga K (cnm c)) dx []))/\Rep K S' (.cell M.length) (.ref x)/\S'=⟨S.G,S.C++[x]⟩:=by
 have o1:OkH K S M (upd H dx (.own x)):=o.same (fy nd);have nx1:upd H dx (.own x) x=none:=by rw[upd_ne ne.symm];exact nx
 obtain⟨o2,l⟩:=o1.newCell (o:=.ins (He.ga K (cnm c)) dx []) (c:=.ins c []) nx1 ⟨(o1.fresh nx1).1,dx,[],upd_same,by simp,ah.nil⟩;refine⟨_,(Gr.same (fy nd)).trans (xL l nx1),o2,?_,rfl⟩;simp only[Rep];exact⟨x,rfl,by rw[show M.length=S.C.length from o.len.symm];simp⟩
end
def eA:List Key->List Tr->Key->Tr->List Key × List Tr
 | a::ks,d::ds,k,x=>if a=k then (a::ks,x::ds) else (a::(eA ks ds k x).1,d::(eA ks ds k x).2)
 | _,_,k,x=>([k],[x])
def ju:List Key->List Tr->List (Key × Tr)->List Key × List Tr
 | ks,ds,[]=>(ks,ds)
 | ks,ds,(k,x)::r=>ju (eA ks ds k x).1 (eA ks ds k x).2 r
section
variable {K:Frg}{S:Gh}
theorem sK{d:Tr}{v:V}{k:Key}(r:Rep K S d v)(e:gn d=some k):v=kV k:=by
 cases d with
 | int i=>simp only[gn,Option.some.injEq] at e;subst e;simp only[Rep] at r;exact r
 | str i=>simp only[gn,Option.some.injEq] at e;subst e;simp only[Rep] at r;exact r
 | _=>simp [gn] at e
theorem xI:∀{kvs:List (Key × V)}{ds:List Tr}{k:Key},ah K S ds (kvs.map Prod.snd) ->
  (∀ d,fL (kvs.map Prod.fst) ds k=some d->∃ v,valV kvs k=some v/\Rep K S d v)/\(fL (kvs.map Prod.fst) ds k=none->valV kvs k=none)
 | [],ds,k,r=>by
  simp only[h9,ah] at r;have:ds=[]:=gE.mp (by have:=r.length;simpa using this);subst this;exact⟨λd e=>by simp [fL] at e,λ_=>rfl⟩
 | (a,w)::kvs,[],k,r=>by simp [ah] at r
 | (a,w)::kvs,d::ds,k,r=>by
  simp only[aO,ah] at r;obtain⟨v,t,e,h1,h2⟩:=r;obtain⟨rfl,rfl⟩:=List.cons.inj e;obtain⟨i1,i2⟩:=xI (kvs:=kvs) (ds:=ds) (k:=k) h2;simp only[aO,fL]
  by_cases hk:a=k
  ·rw[if_pos hk,valV_pos hk];exact⟨λd' e=>⟨w,rfl,by cases e;exact h1⟩,λe=>by cases e⟩
  ·rw[if_neg hk,valV_neg hk];exact⟨i1,i2⟩
theorem Jm{κ:Type}[DecidableEq κ]{a:κ}{w v:V}{kvs:List (κ × V)}(nd:a∉kvs.map Prod.fst):putK ((a,w)::kvs) a v=(a,v)::kvs:=by
 unfold putK;rw[if_pos (by simp)];simp only[aO,if_true,List.cons.injEq,true_and];have:∀ l:List (κ × V),a∉l.map Prod.fst->l.map (λkv=>if kv.1=a then (kv.1,v) else kv)=l:=by
  intro l
  induction l with
  | nil=>intro _;rfl
  | cons p r ih =>
   intro h;simp only[aO,aM,not_or] at h;rw[aO,ih h.2,if_neg (λe=>h.1 e.symm)]
 exact this kvs nd
theorem Jn{κ:Type}[DecidableEq κ]{a k:κ}{w v:V}{kvs:List (κ × V)}(h:a≠k):putK ((a,w)::kvs) k v=(a,w)::putK kvs k v:=by
 unfold putK;have e:(((a,w)::kvs).any λkv=>decide (kv.1=k))=kvs.any λkv=>decide (kv.1=k):=by simp [h]
 rw[e]
 by_cases hc:(kvs.any λkv=>decide (kv.1=k))=true
 ·rw[if_pos hc,if_pos hc,aO,if_neg h]
 ·rw[if_neg hc,if_neg hc];rfl
theorem uv:∀{kvs:List (Key × V)}{ds:List Tr}{k:Key}{d:Tr}{v:V},(kvs.map Prod.fst).Nodup->ah K S ds (kvs.map Prod.snd)->Rep K S d v ->
  (putK kvs k v).map Prod.fst=(eA (kvs.map Prod.fst) ds k d).1/\ah K S (eA (kvs.map Prod.fst) ds k d).2 ((putK kvs k v).map Prod.snd)
 | [],ds,k,d,v,nd,r,q=>by
  have:ds=[]:=gE.mp (by have:=r.length;simpa using this);subst this;exact⟨rfl,ah.cons q ah.nil⟩
 | (a,w)::kvs,[],k,d,v,nd,r,q=>by simp [ah] at r
 | (a,w)::kvs,x::ds,k,d,v,nd,r,q=>by
  simp only[aO,ah] at r;obtain⟨v',t,e,h1,h2⟩:=r;obtain⟨rfl,rfl⟩:=List.cons.inj e;simp only[aO,List.nodup_cons] at nd;simp only[aO,eA]
  by_cases hk:a=k
  ·subst hk;rw[Jm nd.1,if_pos rfl];exact⟨rfl,ah.cons q h2⟩
  ·rw[Jn hk,if_neg hk];obtain⟨i1,i2⟩:=uv (kvs:=kvs) (ds:=ds) (k:=k) nd.2 h2 q;exact⟨by simp [i1],ah.cons h1 i2⟩
theorem EM{M:Me}{H:Hp}{d:Tr}{v:V}{ks:List Key}{ds:List Tr}(o:OkH K S M H)(r:Rep K S d v)(e:jd M d=some (ks,ds)) :
  ∃ a kvs,v=.ref a/\L2.Rd H a (.dK kvs)/\kvs.map Prod.fst=ks/\ah K S ds (kvs.map Prod.snd):=by
 cases d with
 | dkf ks' ds' =>
  simp only[jd,Option.some.injEq,Prod.mk.injEq] at e;obtain⟨rfl,rfl⟩:=e;simp only[Rep] at r;obtain⟨a,od,kvs,rfl,g,h1,h2⟩:=r;exact⟨a,kvs,rfl,.inr ⟨od,o.sub _ _ g⟩,h1,h2⟩
 | dct ks' ds' =>
  simp only[jd,Option.some.injEq,Prod.mk.injEq] at e;obtain⟨rfl,rfl⟩:=e;simp only[Rep] at r;obtain⟨a,kvs,rfl,g,h1,h2⟩:=r;exact⟨a,kvs,rfl,.inl (o.sub _ _ g),h1,h2⟩
 | cell k =>
  simp only[jd] at e
  split at e
  ·rename_i ks' ds' h;cases e;obtain⟨a,rfl,_,_,kvs,h1,h2,h3⟩:=cC o r h;exact⟨a,kvs,rfl,.inl h1,h2,h3⟩
  ·rename_i ks' ds' h;cases e;obtain⟨a,rfl,_,od,kvs,_,h1,h2,h3⟩:=cC o r h;exact⟨a,kvs,rfl,.inr ⟨od,h1⟩,h2,h3⟩
  ·cases e
 | _=>simp [jd] at e
section
variable {X:Cx}{W:WX}{pos pos' cpos apos:Pos}{o i e f value:Expr}{t u x:Rd Tr}
theorem gq(hu:X.A.units+1 < cLine)(ho:PD X W o t)(hi:PD X W i u)(hs:NoSl i):PD X W (.Subscript o i pos) (F3 dj t u):=bA (pe_dget hu ho hi hs) λσ H Q h=>by
 obtain⟨ρ,M,S,E,ok,s,er,q⟩:=h;refine⟨ρ,M,S,E,ok,s,er,t.mono (λd M1 q1 v H1 S1 l1 o1 r1=>?_) (λ_ _ z=>z) q⟩;refine⟨ρ,M1,S1,E,o1,s.mono l1.le,er.mono l1,u.mono (λe M2 q2 v2 H2 S2 l2 o2 r2=>?_) (λ_ _ z=>z) q1⟩;obtain⟨z,hz,q3⟩:=b8 q2;unfold dj at hz;obtain⟨⟨ks,ds⟩,e1,e2⟩:=cn.mp hz;obtain⟨k,e3,e4⟩:=cn.mp e2;obtain⟨a,kvs,rfl,h1,rfl,h3⟩:=EM o2 (Rep.mono l2.le _ _ r1) e1;obtain⟨w,hw,rw'⟩:=(xI h3).1 z e4;refine⟨a,w,rfl,?_,q3 w H2 S2 (l1.trans l2) o2 rw'⟩;rw[sK r2 e3,<- hw];exact .inl ⟨kvs,k,h1,rfl,rfl⟩
def kC(M:Me)(d e x:Tr):Option Me:=match d with
 | .cell k=>(match M[k]?,gn e with
  | some (.dct ks ds),some ky=>if ks.Nodup/\ks.length < big then some (M.set k (.dct (eA ks ds ky x).1 (eA ks ds ky x).2)) else none
  | _,_=>none)
 | _=>none
def iH(t u x:Rd Tr):Sr:=⟨λF ρ M=>x.f ρ M (λv M1=>t.f ρ M1 (λd M2=>u.f ρ M2 (λe M3=>au (kC M3 d e v) λM4=>F.nx ρ M4) (F.er ρ)) (F.er ρ)) (F.er ρ),
 λh q=>x.mono (λv M1=>t.mono (λd M2=>u.mono (λe M3=>cm λM4=>h.nx _ M4) λd M=>h.er _ d M) λd M=>h.er _ d M) (λd M=>h.er _ d M) q⟩
theorem oB(hu:X.A.units+1 < cLine)(ho:PD X W o t)(hi:PD X W i u)(hv:PD X W value x)(hs:swapsWith value (some (.Subscript o i pos')) pos.line X.env=pure false:=by rfl):PDS X W (.Assign [.Subscript o i pos'] value pos) (iH t u x) :=
 dU (ps_dput hu ho hi hv hs) λD σ H h=>by
  obtain⟨ρ,M,S,F,ok,s,en,q⟩:=h;refine⟨ρ,M,S,F.er ρ,ok,s,en.err s,x.mono (λv M1 q1 v' H1 S1 l1 o1 r1=>?_) (λ_ _ z=>z) q⟩;refine⟨ρ,M1,S1,F.er ρ,o1,s.mono l1.le,(en.err s).mono l1,t.mono (λd M2 q2 v2 H2 S2 l2 o2 r2=>?_) (λ_ _ z=>z) q1⟩;refine⟨ρ,M2,S2,F.er ρ,o2,(s.mono l1.le).mono l2.le,((en.err s).mono l1).mono l2,u.mono (λe M3 q3 v3 H3 S3 l3 o3 r3=>?_) (λ_ _ z=>z) q2⟩;obtain⟨M4,hz,q4⟩:=b8 q3;unfold kC at hz
  split at hz
  ·split at hz
   ·rename_i k _ _ ks ds ky e1 e2
    split at hz
    ·rename_i hc;cases hz;obtain⟨a,rfl,hC,hg,kvs,h1,h2,h3⟩:=cC o3 (Rep.mono l3.le _ _ r2) e1;subst h2;have L:=l1.trans (l2.trans l3);obtain⟨p1,p2⟩:=uv (k:=ky) hc.1 h3 (Rep.mono (l2.trans l3).le _ _ r1);refine⟨a,_,rfl,by rw[sK r3 e2];exact DPut.k h1 (by rw[<- cU];simpa using hc.2),?_⟩;exact en.nx ρ _ S3 σ _ (L.trans (j8 hC)) (o3.setCell (c':=.dct (eA (kvs.map Prod.fst) ds ky v).1 (eA (kvs.map Prod.fst) ds ky v).2) hC e1 hg ⟨hg,_,upd_same,p1,p2⟩) (s.mono L.le) q4
    ·cases hz
   ·cases hz
  ·cases hz
def j0:List (Rd Tr × Rd Tr)->Rd (List (Tr × Tr))
 | []=>⟨λ_ M Q _=>Q [] M,λh _ q=>h _ _ q⟩
 | p::r=>⟨λρ M Q E=>p.1.f ρ M (λa M1=>p.2.f ρ M1 (λb M2=>(j0 r).f ρ M2 (λps M3=>Q ((a,b)::ps) M3) E) E) E,
  λh h' q=>p.1.mono (λa M1=>p.2.mono (λb M2=>(j0 r).mono (λps M3=>h _ M3) h') h') h' q⟩
def kd:List (Tr × Tr)->Option (List (Key × Tr))
 | []=>some []
 | p::r=>(gn p.1).bind λk=>(kd r).map λl=>(k,p.2)::l
def kW(K:Frg)(S:Gh):List (Tr × Tr)->List (V × V)->Prop
 | [],vs=>vs=[]
 | p::r,vs=>∃ a b t,vs=(a,b)::t/\Rep K S p.1 a/\Rep K S p.2 b/\kW K S r t
theorem kW.keys{K:Frg}{S:Gh}:∀{ps:List (Tr × Tr)}{vs:List (V × V)}{l:List (Key × Tr)},kW K S ps vs->kd ps=some l->∃ kvs:List (Key × V),vs=kvs.map (λkv=>(kV kv.1,kv.2))/\kvs.map Prod.fst=l.map Prod.fst/\ah K S (l.map Prod.snd) (kvs.map Prod.snd)
 | [],vs,l,r,e=>by
  simp only[kd,Option.some.injEq] at e;subst e;exact⟨[],r,rfl,ah.nil⟩
 | p::ps,vs,l,r,e=>by
  simp only[kd] at e;obtain⟨k,e1,e2⟩:=cn.mp e;obtain⟨l',e3,rfl⟩:=bz.mp e2;obtain⟨a,b,t,rfl,h1,h2,h3⟩:=r;obtain⟨kvs,rfl,h5,h6⟩:=kW.keys h3 e3;exact⟨(k,b)::kvs,by rw[sK h1 e1];rfl,by simp [h5],ah.cons h2 h6⟩
theorem yx{K:Frg}{S:Gh}:∀{more:List (Key × V)}{l:List (Key × Tr)}{kvs:List (Key × V)}{ds:List Tr},more.map Prod.fst=l.map Prod.fst->ah K S (l.map Prod.snd) (more.map Prod.snd)->(kvs.map Prod.fst++l.map Prod.fst).Nodup->ah K S ds (kvs.map Prod.snd) ->
  (mergeK kvs more).map Prod.fst=(ju (kvs.map Prod.fst) ds l).1/\ah K S (ju (kvs.map Prod.fst) ds l).2 ((mergeK kvs more).map Prod.snd)
 | [],[],kvs,ds,e,r,nd,q=>⟨rfl,q⟩
 | [],_::_,kvs,ds,e,r,nd,q=>by simp at e
 | _::_,[],kvs,ds,e,r,nd,q=>by simp at e
 | (k,v)::more,(k',x)::l,kvs,ds,e,r,nd,q=>by
  simp only[aO,List.cons.injEq] at e;obtain⟨rfl,e⟩:=e;simp only[aO,ah] at r;obtain⟨w,t,e2,h1,h2⟩:=r;obtain⟨rfl,rfl⟩:=List.cons.inj e2;have nd1:(kvs.map Prod.fst).Nodup:=(aau.mp nd).1;obtain⟨p1,p2⟩:=uv (k:=k) nd1 q h1;have hk:k∉kvs.map Prod.fst:=λz=>(aau.mp nd).2.2 k z k (by simp) rfl;have pe:putK kvs k v=kvs++[(k,v)]:=by unfold putK;rw[if_neg];intro z;obtain⟨p,hp,hd⟩:=List.any_eq_true.mp z;exact hk (cJ.mpr ⟨p,hp,of_decide_eq_true hd⟩)
  have nd2:((putK kvs k v).map Prod.fst++l.map Prod.fst).Nodup:=by rw[pe];simpa [cb] using nd
  have:=yx (kvs:=putK kvs k v) (ds:=(eA (kvs.map Prod.fst) ds k x).2) e h2 nd2 p2;rw[p1] at this;exact this
def rS(ps:List (Rd Tr × Rd Tr)):Rd Tr:=⟨λρ M Q E=>(j0 ps).f ρ M (λl M1=>au (kd l) λks=>((ks.map Prod.fst).Nodup/\ks.length<=15)/\Q (.cell M1.length) (M1++[.dct (ju [] [] ks).1 (ju [] [] ks).2])) E,
 λh h' q=>(j0 ps).mono (λl M1=>cm λks z=>⟨z.1,h _ _ z.2⟩) h' q⟩
theorem yr{K:Frg}:∀(ps:List (Rd Tr × Rd Tr)){ρ:En}{M:Me}{S:Gh}{E:TK}{σ:L2.St}{H:Hp}{Qd:List (Tr × Tr)->Me->Prop}{Q:List (V × V)->Hp->Prop},OkH K S M H->be K S ρ σ->fj K W S H σ E->(j0 ps).f ρ M Qd E ->
  (∀ l M1 vs H1 S1,Gr S H S1 H1->OkH K S1 M1 H1->kW K S1 l vs->Qd l M1->Q vs H1)->tPairs (ps.map λp=>(bO K W p.1,bO K W p.2)) σ H Q
 | [],ρ,M,S,E,σ,H,Qd,Q,o,s,er,q,k=>k [] M [] H S (Gr.refl S H) o rfl q
 | p::r,ρ,M,S,E,σ,H,Qd,Q,o,s,er,q,k=>by
  refine⟨ρ,M,S,E,o,s,er,p.1.mono (λa M1 q1 v1 H1 S1 l1 o1 r1=>?_) (λ_ _ z=>z) q⟩;refine⟨ρ,M1,S1,E,o1,s.mono l1.le,er.mono l1,p.2.mono (λb M2 q2 v2 H2 S2 l2 o2 r2=>?_) (λ_ _ z=>z) q1⟩;exact yr r o2 ((s.mono l1.le).mono l2.le) ((er.mono l1).mono l2) q2 λl M3 vs H3 S3 l3 o3 r3 q3 =>
   k ((a,b)::l) M3 ((v1,v2)::vs) H3 S3 (l1.trans (l2.trans l3)) o3 ⟨v1,v2,vs,rfl,Rep.mono (l2.trans l3).le _ _ r1,Rep.mono l3.le _ _ r2,r3⟩ q3
theorem Gr.held{S S':Gh}{H H':Hp}{D:Addr}{o:HO}(l:Gr S H S' H')(hD:H D=some o)(g:S.G D=none)(c:D∉S.C)(ho:∀ ps,o≠.tbl ps:=by nofun)(hx:HOx o:=by trivial):H' D=some o/\S'.G D=none/\D∉S'.C:=by
 refine⟨l.keepN hD c ho,?_,λz=>?_⟩
 ·cases e:S'.G D with
  | none=>rfl
  | some u =>
   rcases l.fz D g (by rw[e];exact λz=>by cases z) with h|h
   ·exact(h.no hD hx).elim
   ·exact absurd h c
 ·exact(l.new D z c).no hD ho
theorem Gr.ahead{S S':Gh}{H H':Hp}{D:Addr}{o:HO}(n:H D=none)(l:Gr S (upd H D o) S' H'):Gr S H S' H':=by
 refine⟨l.le,λa h1 h2=>(l.new a h1 h2).back n,λa u e hn n'=>?_,λa h1 h2=>?_⟩
 ·have ha:a≠D:=λz=>by rw[z,n] at e;cases e
  exact l.keep a u (by rw[upd_ne ha];exact e) hn n'
 ·rcases l.fz a h1 h2 with h|h
  ·exact .inl (h.back n)
  ·exact .inr h
theorem Gr.write{S S':Gh}{H H':Hp}{D:Addr}{o:HO}(n:H D=none)(l:Gr S H S' H'):Gr S H S' (upd H' D o):=by
 refine⟨l.le,l.new,λa u e hn n'=>?_,l.fz⟩;have ha:a≠D:=λz=>by rw[z,n] at e;cases e
 rw[upd_ne ha];exact l.keep a u e hn n'
theorem OkH.cellAt{K:Frg}{S:Gh}{M:Me}{H:Hp}{p:Addr}{c:Ce}(h:OkH K S M H)(g:S.G p=none)(hc:p∉S.C)(q:dz K S H p c):OkH K ⟨S.G,S.C++[p]⟩ (M++[c]) H/\Le S ⟨S.G,S.C++[p]⟩:=by
 have l:Le S ⟨S.G,S.C++[p]⟩:=⟨λ_ _ e=>e,List.prefix_append _ _⟩
 refine⟨⟨h.sub,by simp [h.len],?_,λk a c' e1 e2=>?_,⟨h.tb.tabs,h.tb.nt⟩⟩,l⟩
 ·rw[aau];refine⟨h.nd,by simp,λa ha b hb z=>?_⟩;have hb':b=p:=by simpa using hb
  rw[z,hb'] at ha;exact hc ha
 ·by_cases hk:k < S.C.length
  ·rw[show (⟨S.G,S.C++[p]⟩:Gh).C[k]?=S.C[k]? from eD hk] at e1;rw[eD (by rw[<- h.len];exact hk)] at e2;exact(h.cell k a c' e1 e2).mono l rfl λu e=>e
  ·rw[show (⟨S.G,S.C++[p]⟩:Gh).C[k]?=(S.C++[p])[k]? from rfl,fD (by omega)] at e1;rw[fD (by rw[<- h.len];omega)] at e2;obtain⟨hk0,rfl⟩:k - S.C.length=0/\a=p:=by
    cases e:k - S.C.length with
    | zero=>rw[e] at e1;simp at e1;exact⟨rfl,e1.symm⟩
    | succ m=>rw[e] at e1;simp at e1
   rw[<- h.len,hk0] at e2;simp at e2;subst e2;exact q.mono l rfl λ_ e=>e
variable {keys:List (Option Expr)}{values:List Expr}{ps:List (Rd Tr × Rd Tr)}
theorem IK(h:PPs X pos keys values (ps.map λp=>(bO X.K W p.1,bO X.K W p.2)))(hall:keys.all (·.isSome)=true)(hl:keys.length=values.length)(h0:keys≠[])(h15:keys.length<=15):PD X W (.Dict keys values pos) (rS ps) :=
 bA (pe_disp h hall hl h0 h15) λσ H Q hq=>by
  obtain⟨ρ,M,S,E,ok,s,er,q⟩:=hq;intro p n;have n1:=ok.fresh n;have sm:Same H (upd H p (.dK [])):=fy n;have g0:Gr S H S (upd H p (.dK [])):=Gr.same sm;refine yr ps (ok.same sm) s (er.mono g0) q λl M1 vs H1 S1 l1 o1 r1 q1=>?_;obtain⟨ks,e1,⟨⟨nd,hz⟩,q2⟩⟩:=b8 q1;obtain⟨hD,gD,cD⟩:=l1.held upd_same n1.1 n1.2;obtain⟨kvs,rfl,h2,h3⟩:=r1.keys e1;refine⟨hD,kvs,rfl,by have:=congrArg List.length h2;simp at this;omega,?_⟩;obtain⟨m1,m2⟩:=yx (kvs:=[]) (ds:=[]) h2 h3 (by simpa using nd) ah.nil;have o2:=o1.other (o:=.dK (mergeK [] kvs)) gD cD (.inr ⟨_,hD,trivial⟩);obtain⟨o3,l3⟩:=o2.cellAt (c:=.dct (ju [] [] ks).1 (ju [] [] ks).2) gD cD ⟨gD,_,upd_same,m1,m2⟩;have G1:Gr S H S1 (upd H1 p (.dK (mergeK [] kvs))):=(Gr.ahead n l1).write n;refine q2 (.ref p) _ ⟨S1.G,S1.C++[p]⟩ ⟨G1.le.trans l3,λa ha hn=>?_,G1.keep,G1.fz⟩ o3 ?_
  ·rcases bf.mp ha with ha|ha
   ·exact G1.new a ha hn
   ·rw[cB.mp ha];exact NT.of n
  ·simp only[Rep];exact⟨p,rfl,by rw[show M1.length=S1.C.length from o1.len.symm];simp⟩
end
end
structure Bn(mg:Str->Option Value):Prop where
 len:mg "len"=none
 int:mg "int"=none
 abs:mg "abs"=none
 sum:mg "sum"=none
 all:mg "all"=none
 any:mg "any"=none
 max:mg "max"=none
 min:mg "min"=none
 range:mg "range"=none
 list:mg "list"=none
 tuple:mg "tuple"=none
 str:mg "str"=none
 sorted:mg "sorted"=none
 set:mg "set"=none
 dict:mg "dict"=none
 isinstance:mg "isinstance"=none
 repr:mg "repr"=none
 enumerate:mg "enumerate"=none
 zip:mg "zip"=none
 reversed:mg "reversed"=none
 divmod:mg "divmod"=none
 bool:mg "bool"=none
 ValueError:mg "ValueError"=none
section
variable {X:Cx}{W:WX}{pos cpos apos:Pos}{a b c e o:Expr}{es:List Expr}{ta tb tc t:Rd Tr}{u:Rd (List Tr)}
def m8(f g:F2)(ta tb tc:Rd Tr):Rd Tr:=⟨λρ M Q E=>ta.f ρ M (λx M1=>tb.f ρ M1 (λy M2=>au (f M2 x y) λz=>match z with
 | .bl true=>tc.f ρ M2 (λw M3=>au (g M3 y w) λz'=>Q z' M3) E
 | .bl false=>Q (.bl false) M2
 | _=>False) E) E,λh h' q=>ta.mono (λx M1=>tb.mono (λy M2=>cm λz zq=>by
  split at zq
  ·exact tc.mono (λw M3=>cm λz'=>h _ M3) h' zq
  ·exact h _ _ zq
  ·exact zq.elim) h') h' q⟩
theorem Hy{f g:F2}{K:Frg}{σ:L2.St}{H:Hp}{Q:VK}(h:bO K W (m8 f g ta tb tc) σ H Q):tChain (rD K f) (rD K g) (bO K W ta) (bO K W tb) (bO K W tc) σ H Q:=by
 obtain⟨ρ,M,S,E,ok,s,er,q⟩:=h;refine⟨ρ,M,S,E,ok,s,er,ta.mono (λd M1 q1 v H1 S1 l1 o1 r1=>?_) (λ_ _ z=>z) q⟩;refine⟨ρ,M1,S1,E,o1,s.mono l1.le,er.mono l1,tb.mono (λe M2 q2 v2 H2 S2 l2 o2 r2=>?_) (λ_ _ z=>z) q1⟩;obtain⟨z,hz,q3⟩:=b8 q2;refine⟨S2,M2,d,e,z,o2,Rep.mono l2.le _ _ r1,r2,hz,λw H3 S3 l3 o3 r3=>?_⟩
 split at q3
 ·simp only[Rep] at r3;refine⟨true,r3,?_⟩;rw[if_pos rfl];refine⟨ρ,M2,S3,E,o3,((s.mono l1.le).mono l2.le).mono l3.le,((er.mono l1).mono l2).mono l3,tc.mono (λw M4 q4 v4 H4 S4 l4 o4 r4=>?_) (λ_ _ z=>z) q3⟩;obtain⟨z',hz',q5⟩:=b8 q4;exact⟨S4,M4,e,w,z',o4,Rep.mono (l3.trans l4).le _ _ r2,r4,hz',λw H5 S5 l5 o5 r5=>q5 w H5 S5 (l1.trans (l2.trans (l3.trans (l4.trans l5)))) o5 r5⟩
 ·simp only[Rep] at r3;refine⟨false,r3,?_⟩;rw[if_neg aad];exact q3 _ H3 S3 (l1.trans (l2.trans l3)) o3 fw
 ·exact q3.elim
theorem II{op op':CmpOp}{f g:F2}(ho:OpR X (compareOp op) (rD X.K f))(ho':OpR X (compareOp op') (rD X.K g))(ha:PD X W a ta)(hb:PD X W b tb)(hc:PD X W c tc)(hm:lastMarks [op,op'] [b,c]=false:=by with_unfolding_all rfl) :
  PD X W (.Compare a [op,op'] [b,c] pos) (m8 f g ta tb tc):=bA (pe_chain ho ho' ha hb hc hm) λ_ _ _=>Hy
def eV(t:Rd Tr):Rd Tr:=⟨λρ M Q E=>t.f ρ M (λd M1=>match d with
 | .int i=>Q (.int (-i)) M1
 | _=>False) E,λh h' q=>t.mono (λd M1 z=>by
  split at z
  ·exact h _ _ z
  ·exact z.elim) h' q⟩
theorem kr(ha:PD X W a ta):PD X W (.UnaryOp .USub a pos) (eV ta):=bA (pe_un un_neg ha) λσ H Q h=>by
 obtain⟨ρ,M,S,E,ok,s,er,q⟩:=h;refine⟨ρ,M,S,E,ok,s,er,ta.mono (λd M1 q1 v H1 S1 l1 o1 r1=>?_) (λ_ _ z=>z) q⟩;dsimp only at q1
 split at q1
 ·simp only[Rep] at r1;exact⟨_,r1,q1 _ H1 S1 l1 o1 dv⟩
 ·exact q1.elim
def jn(M:Me)(d e:Tr):Option Tr:=match d with
 | .str a=>((bj M e).bind iV).bind λys=>if (ys.map (·.length)).sum+ys.length * a.length<=big then some (.str (Txt.join a ys)) else none
 | _=>none
def jc(t u:Rd Tr):Rd Tr:=⟨λρ M Q E=>t.f ρ M (λd M1=>match d with
 | .str a=>u.f ρ M1 (λe M2=>au (jn M2 (.str a) e) λz=>Q z M2) E
 | _=>False) E,λh h' q=>t.mono (λd M1 z=>by
  split at z
  ·exact u.mono (λe M2=>cm λz=>h z M2) h' z
  ·exact z.elim) h' q⟩
theorem tz (ho:PD X W o ta) (he:PD X W e tb) (hs:starEach [e] X.env=[(false,eval e X.env)]:=by rfl) (hbase:attributeBase o "join" X.env (eval o X.env)=eval o X.env:=by rfl) (hline:(apos.endLine == pos.line)=true:=by rfl) :
  PD X W (.Call (.Attribute o "join" apos) [e] [] pos) (jc ta tb):=bA (pe_join ho he hs hbase hline) λσ H Q h=>by
 obtain⟨ρ,M,S,E,ok,s,er,q⟩:=h;refine⟨ρ,M,S,E,ok,s,er,ta.mono (λd M1 q1 v H1 S1 l1 o1 r1=>?_) (λ_ _ z=>z) q⟩;dsimp only at q1
 split at q1
 ·rename_i z;simp only[Rep] at r1;refine⟨⟨_,r1⟩,ρ,M1,S1,E,o1,s.mono l1.le,er.mono l1,tb.mono (λe M2 q2 v2 H2 S2 l2 o2 r2=>?_) (λ_ _ z=>z) q1⟩;obtain⟨y,hy,q3⟩:=b8 q2;unfold jn at hy;obtain⟨ys,e1,e2⟩:=cn.mp hy;obtain⟨xs,e3,e4⟩:=cn.mp e1
  split at e2
  ·rename_i hc;cases e2;obtain⟨a,vs,rfl,g,rs⟩:=gv o2 r2 e3;rw[B2 e4,ah.strs] at rs;exact⟨z,a,ys,r1,rfl,.inl (by rw[<- rs];exact SqL.of g),hc,q3 _ H2 S2 (l1.trans l2) o2 fb⟩
  ·cases e2
 ·exact q1.elim
theorem yW {x:Str} {v:V} {w:Value} {d:Tr} (hg:Gl X x) (hm:X.mg x=some w) (r:RelV v w) (rd:∀ S,Rep X.K S d v) (hd:(x == ("__debug__":Str))=false:=by decide):PD X W (.Name x pos) (dC d):=ls (pe_glob hg hm r hd) rd
end
def qc(M:Me):Tr->Tr
 | .cell k=>(match M[k]? with
  | some (.lst xs)=>.lst xs
  | some (.dct ks ds)=>.dct ks ds
  | _=>.cell k)
 | d=>d
def ca:FA:=λM ds=>match ds with
 | [d]=>(rpd (qc M d)).bind λp=>if p.showable&&decide (p.depth<=100)&&decide (p.shown.length<=big) then some (.str p.shown,M) else none
 | _=>none
section
variable {X:Cx}{pins:List (Addr × Obj)}{σ:L2.St}{H:Hp}{s:Shared}{S:Gh}{M:Me}
theorem sX(hs:∃ o,X.base.get? sysModules=some o)(I:Inv X pins σ H s){a:Addr}{o:HO}(e:H a=some o):a≠sysModules:=by intro z;subst z;obtain⟨ob,q⟩:=hs;rw[(I.bs _ _ q).2] at e;cases e
theorem Jv(h:Heap){k:Key}{v:Value}(e:keyIs k v=true):Reads h v (jp k) []:=by
 rcases keyIs_shape e with ⟨j,t,rfl,rfl⟩|⟨y,t,rfl,rfl⟩
 ·exact .int _ _
 ·exact .str _ _
theorem AQ{w:World}{P:Program}(h:Heap):∀{es:List DictEntry}{us:List (Key × Value)}{ps:List PyData}{as:List Addr},Pairs (mixKind P w) es us->ReadsAll h (us.map (·.2)) ps as ->
  ReadsAll h (es.map (·.key)) (((us.map λu=>jp u.1).zip ps).map (·.1)) []/\ReadsAll h (es.map (·.val)) (((us.map λu=>jp u.1).zip ps).map (·.2)) as
 | [],[],_,_,.nil,.nil=>⟨.nil,.nil⟩
 | e::es,u::us,_,_,.cons h1 h2 t,.cons r1 r2=>by
  obtain⟨q1,q2⟩:=AQ h t r2;refine⟨.cons (as:=[]) (Jv h h1) q1,?_⟩;simp only[aO,List.zip_cons_cons];rw[h2];exact .cons r1 q2
theorem yc:∀{kvs:List (Key × V)}{us:List (Key × Value)},KV kvs us->us.map (·.1)=kvs.map (·.1)/\Vals (kvs.map (·.2)) (us.map (·.2))
 | [],[],.nil=>⟨rfl,.nil⟩
 | _::_,_::_,.cons h t=>by
  obtain⟨h1,h2⟩:=yc t;exact⟨by simp only[aO,h1,h.1],.cons h.2 h2⟩
theorem A1(hy:∃ o,X.base.get? sysModules=some o)(I:Inv X pins σ H s){a:Addr}{kvs:List (Key × V)}{ks:List Key}{ps:List PyData}(ha:H a=some (.dK kvs))(hk:kvs.map Prod.fst=ks)
  (h:∀ us,Vals (kvs.map Prod.snd) us->∃ as,ReadsAll s.heap us ps as/\sysModules∉as):∃ as,Reads s.heap (.ref a) (.dict ((ks.map jp).zip ps)) as/\sysModules∉as:=by
 obtain⟨_,hs,vs,kv,ob,es,ep,ho,hx,hd,_,hp,_⟩:=I.hok a _ ha;obtain⟨h1,h2⟩:=yc kv;obtain⟨as,q1,q2⟩:=h _ h2;obtain⟨r1,r2⟩:=AQ s.heap hp q1;have e:(ks.map jp)=vs.map λu=>jp u.1:=by rw[<- hk,show (kvs.map Prod.fst)=vs.map (·.1) from h1.symm,gG];rfl
 rw[e];refine⟨_,.dict ho hx.1 hd r1 r2,λz=>?_⟩;rcases bf.mp z with z|z
 ·rcases aM.mp z with z|z
  ·exact sX hy I ha z.symm
  ·simp at z
 ·exact q2 z
mutual
theorem uk(hy:∃ o,X.base.get? sysModules=some o)(I:Inv X pins σ H s)(o:OkH X.K S M H):∀(d:Tr)(v:V)(u:Value)(p:PyData),Rep X.K S d v->RelV v u->rpd d=some p->∃ as,Reads s.heap u p as/\sysModules∉as
 | .non,v,u,p,r,q,e=>by simp only[Rep] at r;simp only[rpd,Option.some.injEq] at e;subst r e;cases q;exact⟨_,.none,by simp⟩
 | .bl b,v,u,p,r,q,e=>by simp only[Rep] at r;simp only[rpd,Option.some.injEq] at e;subst r e;cases q;exact⟨_,.bool b,by simp⟩
 | .int b,v,u,p,r,q,e=>by simp only[Rep] at r;simp only[rpd,Option.some.injEq] at e;subst r e;obtain⟨t,rfl⟩:=q;exact⟨_,.int b t,by simp⟩
 | .str b,v,u,p,r,q,e=>by simp only[Rep] at r;simp only[rpd,Option.some.injEq] at e;subst r e;obtain⟨t,rfl⟩:=q;exact⟨_,.str b t,by simp⟩
 | .lst xs,v,u,p,r,q,e=>by
  simp only[Rep] at r;simp only[rpd,bz] at e;obtain⟨a,vs,rfl,g,rs⟩:=r;obtain⟨ps,e1,rfl⟩:=e;cases q;have ha:=o.sub _ _ g;obtain⟨its,rv,⟨ob,n,ho,hc,_,hd⟩,_⟩:=I.list (SqL.of ha);obtain⟨as,q1,q2⟩:=kG hy I o xs vs its ps rs rv e1;refine⟨_,.list ho hc hd q1,λz=>?_⟩;rcases aM.mp z with z|z
  ·exact sX hy I ha z.symm
  ·exact q2 z
 | .tup xs,v,u,p,r,q,e=>by
  simp only[Rep] at r;simp only[rpd,bz] at e;obtain⟨a,vs,rfl,g,rs⟩:=r;obtain⟨ps,e1,rfl⟩:=e;cases q;obtain⟨its,rv,⟨ob,ho,hc,n,hd⟩,_⟩:=I.tuple (o.sqT g);obtain⟨as,q1,q2⟩:=kG hy I o xs vs its ps rs rv e1;exact⟨_,.tuple ho hc hd q1,q2⟩
 | .dct ks xs,v,u,p,r,q,e=>by
  simp only[Rep] at r;simp only[rpd,bz] at e;obtain⟨a,kvs,rfl,g,hk,rs⟩:=r;obtain⟨ps,e1,rfl⟩:=e;cases q;exact A1 hy I (o.sub _ _ g) hk λus rv=>kG hy I o xs _ us ps rs rv e1
 | .ins _ _,v,u,p,r,q,e=>by simp [rpd] at e
 | .exc _ _,v,u,p,r,q,e=>by simp [rpd] at e
 | .cell _,v,u,p,r,q,e=>by simp [rpd] at e
 | .scr _,v,u,p,r,q,e=>by simp [rpd] at e
 | .dkf _ _,v,u,p,r,q,e=>by simp [rpd] at e
theorem kG(hy:∃ o,X.base.get? sysModules=some o)(I:Inv X pins σ H s)(o:OkH X.K S M H):∀(ds:List Tr)(vs:List V)(us:List Value)(ps:List PyData),ah X.K S ds vs->Vals vs us->g7 ds=some ps->∃ as,ReadsAll s.heap us ps as/\sysModules∉as
 | [],vs,us,ps,r,q,e=>by
  simp only[ah] at r;simp only[g7,Option.some.injEq] at e;subst r e;cases q;exact⟨_,.nil,by simp⟩
 | d::ds,vs,us,ps,r,q,e=>by
  simp only[ah] at r;obtain⟨v,t,rfl,h1,h2⟩:=r;simp only[g7] at e
  split at e
  ·rename_i p qs e1 e2;cases e;cases q with
   | cons q1 q2 =>
    obtain⟨as,f1,f2⟩:=uk hy I o d v _ p h1 q1 e1;obtain⟨bs,g1,g2⟩:=kG hy I o ds t _ qs h2 q2 e2;exact⟨_,.cons f1 g1,λz=>(bf.mp z).elim f2 g2⟩
  ·cases e
end
theorem JC{v:Value}{p:PyData}{as:List Addr}{A:Around}{E:Value->Shared->Prop}{Q:Value->Shared->Prop}{prog:Program}{w:World}(r:Reads s.heap v p as)(hs:p.showable=true)(hsm:sysModules∉as)(hz:p.shown.length<=sizeLine)(hg:A.guards=some [])(hu:A.units+(p.depth+1) < cLine)
  (hQ:∀ h' u tk,(∀ b o,s.heap.get? b=some o->h'.get? b=some o)->Q (.str p.shown u) { s with heap:=h',toks:=tk }):wpAny (model prog w) A (call (.builtin "repr") [v]) Q E s:=by
 cases r with
 | none=>exact PySem.P.repr_of_none (by simp only[PyData.shown] at hQ;exact hQ s.heap _ _ λ_ _ e=>e)
 | bool b=>exact PySem.P.repr_of_bool (by simp only[PyData.shown] at hQ;exact hQ s.heap _ _ λ_ _ e=>e)
 | int i t=>exact PySem.P.repr_of_int (by simpa [PyData.showable] using hs) (by simp only[PyData.shown] at hQ;exact hQ s.heap _ _ λ_ _ e=>e)
 | str x t=>exact PySem.P.repr_of_str (by simp only[PyData.shown] at hQ;exact hQ s.heap _ _ λ_ _ e=>e) (by simpa only [PyData.shown] using hz)
 | list h1 h2 h3 h4=>exact repr_of_reads' (.list h1 h2 h3 h4) hs (λ_=>hsm) hg hu (λ_ _ e=>e) hQ hz
 | tuple h1 h2 h3 h4=>exact repr_of_reads' (.tuple h1 h2 h3 h4) hs (λ_=>hsm) hg hu (λ_ _ e=>e) hQ hz
 | dict h1 h2 h3 h4 h5=>exact repr_of_reads' (.dict h1 h2 h3 h4 h5) hs (λ_=>hsm) hg hu (λ_ _ e=>e) hQ hz
theorem ir {k:Nat} (hr:Room k X.A) (hgd:Gd X.base X.A):CallR X (.builtin "repr") (rA X.K ca):=by
 intro pins s σ H vs us Q I r h;obtain⟨hg,hy⟩:=hgd;obtain⟨S,M,ds,z,M',o,rs,hz,k⟩:=h;unfold ca at hz
 split at hz
 ·rename_i d;obtain⟨p,e1,e2⟩:=cn.mp hz
  split at e2
  ·rename_i hc;cases e2;simp only[ax,decide_eq_true_eq] at hc;obtain⟨⟨c1,c2⟩,c3⟩:=hc;obtain⟨v,rfl,rv⟩:=ew rs;obtain⟨u,rfl,ru⟩:=vals1 r;have hrd:∃ as,Reads s.heap u p as/\sysModules∉as:=by
    cases d with
    | cell j =>
     simp only[qc] at e1
     split at e1
     ·rename_i xs em;obtain⟨a,rfl,hc,_,vs,h1,h2⟩:=cC o rv em;simp only[rpd,bz] at e1;obtain⟨ps,e1,rfl⟩:=e1;cases ru;obtain⟨its,rv,⟨ob,n,ho,hc,_,hd⟩,_⟩:=I.list (SqL.of h1);obtain⟨as,q1,q2⟩:=kG hy I o xs vs its ps h2 rv e1;refine⟨_,.list ho hc hd q1,λz=>?_⟩;rcases aM.mp z with z|z
      ·exact sX hy I h1 z.symm
      ·exact q2 z
     ·rename_i ks xs em;obtain⟨a,rfl,hc,_,kvs,h1,h3,h2⟩:=cC o rv em;simp only[rpd,bz] at e1;obtain⟨ps,e1,rfl⟩:=e1;cases ru;exact A1 hy I h1 h3 λus rv=>kG hy I o xs _ us ps h2 rv e1
     ·simp [rpd] at e1
    | _=>exact uk hy I o _ v u p rv ru e1
   obtain⟨as,q1,q2⟩:=hrd;refine JC q1 c1 q2 (by rw[<- cU];exact c3) hg (by have:=hr.un;omega) λh' u' tk k'=>?_;exact⟨.str p.shown,H,I.kept (t':=tk) k',⟨_,rfl⟩,k _ H S (Gr.refl S H) o fb⟩
  ·cases e2
 ·cases hz
end
def tyG(M:Me):Tr->Option TyG
 | .non=>some (.b "NoneType")
 | .bl _=>some (.b "bool")
 | .int _=>some (.b "int")
 | .str _=>some (.b "str")
 | .lst _=>some (.b "list")
 | .tup _=>some (.b "tuple")
 | .dct _ _=>some (.b "dict")
 | .ins c _=>some (.own c)
 | .exc _ _=>none
 | .dkf _ _=>none
 | .scr _=>some (.b "list")
 | .cell k=>(match M[k]? with
  | some (.lst _)=>some (.b "list")
  | some (.dct _ _)=>some (.b "dict")
  | some (.ins c _)=>some (.own c)
  | _=>none)
theorem Ca{cl:List Nat}{c:Nat}(h:TyG.own c∈cP cl):c∈cl:=by simp only[cP,aY,bR,aM,reduceCtorEq,false_or,cJ,TyG.own.injEq,exists_eq_right] at h;exact h
section
variable {K:Frg}{S:Gh}{M:Me}{H:Hp}{cl:List Nat}
theorem KS {a:Addr} {vs:List V} (h:SqT K H a vs):TyX K H (.ref a) (.type "tuple"):=by
 rcases h with (h|⟨o,h⟩)|⟨o,its,n,hk,hc,_⟩
 ·exact .base (.tup h)
 ·exact .fTuple h
 ·exact .kTuple hk hc
theorem KR {a:Addr} {vs:List V} (h:SqL K H a vs):TyX K H (.ref a) (.type "list"):=by
 rcases h with (h|⟨o,h⟩)|⟨o,its,n,hk,hc,_⟩
 ·exact .base (.lst h)
 ·exact .base (.frz h)
 ·exact .kList hk hc
theorem Cs{a dx:Addr}{fs:List (Str × V)}{c:Nat}(i:vp K (He.ga K (cnm c)))(h:H a=some (.ins (He.ga K (cnm c)) dx fs)):TyX K H (.ref a) ((TyG.own c).val K):=.base (.ins h i.cl i.ha i.hn i.ht i.hm)
theorem KQ(I:dD K cl)(o:OkH K S M H){d:Tr}{v:V}{g:TyG}(r:Rep K S d v)(e:tyG M d=some g)(hg:g∈cP cl):TyX K H v (g.val K):=by
 cases d with
 | non=>simp only[Rep] at r;simp only[tyG,Option.some.injEq] at e;subst r e;exact .base .non
 | bl b=>simp only[Rep] at r;simp only[tyG,Option.some.injEq] at e;subst r e;exact .base (.bl b)
 | int b=>simp only[Rep] at r;simp only[tyG,Option.some.injEq] at e;subst r e;exact .base (.int b)
 | str b=>simp only[Rep] at r;simp only[tyG,Option.some.injEq] at e;subst r e;exact .base (.str b)
 | lst xs =>
  simp only[Rep] at r;simp only[tyG,Option.some.injEq] at e;subst e;obtain⟨a,vs,rfl,h,_⟩:=r;exact .base (.lst (o.sub _ _ h))
 | tup xs =>
  simp only[Rep] at r;simp only[tyG,Option.some.injEq] at e;subst e;obtain⟨a,vs,rfl,h,_⟩:=r;exact KS (o.sqT h)
 | dct ks xs =>
  simp only[Rep] at r;simp only[tyG,Option.some.injEq] at e;subst e;obtain⟨a,vs,rfl,h,_⟩:=r;exact .base (.dK (o.sub _ _ h))
 | scr ns =>
  simp only[Rep] at r;simp only[tyG,Option.some.injEq] at e;subst e;obtain⟨a,rfl,h⟩:=r;exact KR (o.sqL h)
 | ins c xs =>
  simp only[Rep] at r;simp only[tyG,Option.some.injEq] at e;subst e;obtain⟨a,dx,fs,rfl,h,_⟩:=r;exact Cs (I.ins c (Ca hg)) (o.sub _ _ h)
 | exc c xs=>simp [tyG] at e
 | dkf ks xs=>simp [tyG] at e
 | cell k =>
  simp only[tyG] at e
  split at e
  ·rename_i xs em;cases e;obtain⟨a,rfl,_,_,vs,h,_⟩:=cC o r em;exact .base (.lst h)
  ·rename_i ks xs em;cases e;obtain⟨a,rfl,_,_,vs,h,_⟩:=cC o r em;exact .base (.dK h)
  ·rename_i c xs em;cases e;obtain⟨a,rfl,_,_,dx,fs,h,_⟩:=cC o r em;exact Cs (I.ins c (Ca hg)) h
  ·cases e
end
def bY(cl:List Nat)(cs:List TyG)(t:Rd Tr):Rd Tr:=⟨λρ M Q E=>t.f ρ M (λd M1=>au (tyG M1 d) λg=>g∈cP cl/\Q (.bl (cs.any (isa g))) M1) E,
 λh h' q=>t.mono (λd M1=>cm λg z=>⟨z.1,h _ M1 z.2⟩) h' q⟩
section
variable {X:Cx}{W:WX}{pos p:Pos}{a b c e o:Expr}{es:List Expr}{t ta tb:Rd Tr}{u:Rd (List Tr)}{cl:List Nat}{g:TyG}{gs:List TyG}
theorem IE {x:Str} {n:String} (hg:Gl X x) (hm:X.mg x=none) (hv:bootBuiltins x=some (.type n)) (hn:x≠"__name__":=by decide) (hd:(x == ("__debug__":Str))=false:=by decide):PE X (.Name x p) (tC ((TyG.b n).vv X.K)):=pe_bltn hg hm hv rfl hn hd
theorem IP (I:dD X.K cl) (hg:Gl X "isinstance") (hm:X.mg "isinstance"=none) (hb:bootBuiltins "isinstance"=some (.builtin "isinstance")) (he:PD X W e t) (hc:PE X c (tC (g.vv X.K))) (hcl:g∈cP cl)
  (hs:starEach [e,c] X.env=(false,eval e X.env)::starEach [c] X.env:=by rfl) (hs2:starEach [c] X.env=(false,eval c X.env)::starEach [] X.env:=by rfl) (hpl:(backTo pos (starEach [c] X.env)).any (·.1)=false:=by rfl) :
  PD X W (.Call (.Name "isinstance" p) [e,c] [] pos) (bY cl [g] t):=bA (pe_callB call_isi hg hm hb (pa_cons he (pa_cons hc pa_nil hs2) hs) (by decide) (by decide) hs hpl) λσ H Q h=>by
 obtain⟨ρ,M,S,E,ok,s,er,q⟩:=h;refine⟨ρ,M,S,E,ok,s,er,t.mono (λd M1 q1 v H1 S1 l1 o1 r1=>?_) (λ_ _ z=>z) q⟩;obtain⟨g',e1,h1,q2⟩:=b8 q1;refine⟨v,_,_,_,_,rfl,g.cls,KQ I o1 r1 e1 h1,I.kit g' h1 g hcl,?_⟩;have:=q2;simp only[List.any_cons,List.any_nil,Bool.or_false] at this;exact this _ H1 S1 l1 o1 fw
end
theorem zh{f:Str}{y:V}:∀{fs:List (Str × V)},f∉fs.map Prod.fst->putF f y fs=fs++[(f,y)]
 | [],_=>rfl
 | (g,x)::r,h=>by
  simp only[aO,aM,not_or] at h;unfold putF;rw[if_neg (λe=>h.1 e.symm),zh h.2];rfl
theorem tJ{f:Str}{y:V}:∀{fs:List (Str × V)}{i:Nat},(fs.map Prod.fst).Nodup->(fs.map Prod.fst)[i]?=some f->(putF f y fs).map Prod.fst=fs.map Prod.fst/\(putF f y fs).map Prod.snd=(fs.map Prod.snd).set i y
 | [],i,_,e=>by simp at e
 | (g,x)::r,0,nd,e=>by
  simp only[aO,aE,Option.some.injEq] at e;subst e;unfold putF;rw[if_pos rfl];exact⟨rfl,rfl⟩
 | (g,x)::r,i+1,nd,e=>by
  simp only[aO,bB,List.nodup_cons] at e nd;have hne:g≠f:=λz=>nd.1 (z ▸ f7 e);obtain⟨h1,h2⟩:=tJ (y:=y) nd.2 e;unfold putF;rw[if_neg hne];exact⟨by simp only[aO,h1],by simp only[aO,h2,bC]⟩
def lB(alts:List (Nat × Nat))(M:Me)(x d:Tr):Option Me:=match x with
 | .cell k=>(match M[k]? with
  | some (.ins c ds)=>(alts.lookup c).bind λi=>if i < ds.length then some (M.set k (.ins c (ds.set i d))) else if i=ds.length then some (M.set k (.ins c (ds++[d]))) else none
  | _=>none)
 | _=>none
def lL(alts:List (Nat × Nat))(t u:Rd Tr):Sr:=⟨λF ρ M=>u.f ρ M (λd M1=>t.f ρ M1 (λx M2=>au (lB alts M2 x d) λM3=>F.nx ρ M3) (F.er ρ)) (F.er ρ),
 λh q=>u.mono (λd M z=>t.mono (λx M2=>cm λM3=>h.nx _ M3) (λd M z=>h.er _ d M z) z) (λd M z=>h.er _ d M z) q⟩
section
variable {X:Cx}{W:WX}{pos pos' p:Pos}{a b c e o value:Expr}{es:List Expr}{t ta tb:Rd Tr}{u v:Rd (List Tr)}{K:Frg}
theorem tE{alts:List (Nat × Nat)}{f:Str}(hf:∀ c i,(c,i)∈alts->dB X.K f c i)(ha:PD X W o ta)(hv:PD X W value tb)(hs:swapsWith value (some (.Attribute o f pos')) pos.line X.env=pure false:=by rfl):PDS X W (.Assign [.Attribute o f pos'] value pos) (lL alts ta tb) :=
 dU (ps_fld ha hv hs) λD σ H h=>by
  obtain⟨ρ,M,S,F,ok,s,en,q⟩:=h;refine⟨ρ,M,S,F.er ρ,ok,s,en.err s,tb.mono (λd M1 q1 y H1 S1 l1 o1 r1=>?_) (λ_ _ z=>z) q⟩;refine⟨ρ,M1,S1,F.er ρ,o1,s.mono l1.le,(en.mono l1).err (s.mono l1.le),ta.mono (λx M2 q2 v2 H2 S2 l2 o2 r2=>?_) (λ_ _ z=>z) q1⟩;obtain⟨M3,hz,q3⟩:=b8 q2;unfold lB at hz
  split at hz
  ·rename_i k
   split at hz
   ·rename_i c ds em;obtain⟨i,ei,hz⟩:=cn.mp hz;obtain⟨A,rfl,hc,hg,dx,fs,hA,hn,hr⟩:=cC o2 r2 em;have fo:=hf c i (nW ei);have hlen:fs.length=ds.length:=by have:=hr.length;simpa using this.symm
    have hle:ds.length<=(cfs c).length:=by have h1:=congrArg List.length hn;rw[cj,hlen,gF] at h1;omega
    have h16:(cfs c).length<=16:=by
     unfold cfs;have:∀ p∈jX,p.2.length<=16:=by decide
     by_cases hc:c < jX.length
     ·rw[f6,eE hc];exact this _ (List.getElem_mem hc)
     ·rw[f6,aac (by omega)]
      decide
    have rd:=Rep.mono l2.le _ _ r1;refine⟨A,He.ga X.K (cnm c),dx,fs,rfl,hA,fo.cls,fo.no,by omega,?_⟩;have nd:(fs.map Prod.fst).Nodup:=by rw[hn];exact fo.nd.sublist (aak _ _)
    have fin:∀ ds',M3=M2.set k (.ins c ds')->(putF f y fs).map Prod.fst=(cfs c).take ds'.length->ah X.K S2 ds' ((putF f y fs).map Prod.snd)->D.nx σ (upd H2 A (.ins (He.ga X.K (cnm c)) dx (putF f y fs))):=λds' e h1 h2=>by
     subst e;refine en.nx ρ _ S2 σ _ ((l1.trans l2).trans (j8 hc)) (o2.setCell (c':=.ins c ds') hc em hg ⟨hg,dx,putF f y fs,upd_same,h1,h2⟩) ((s.mono l1.le).mono l2.le) q3
    split at hz
    ·rename_i hi;cases hz;have hat:(fs.map Prod.fst)[i]?=some f:=by rw[hn,h8 hi];exact fo.at_
     obtain⟨h1,h2⟩:=tJ (y:=y) nd hat;refine fin _ rfl (by rw[h1,hn,eF]) ?_;rw[h2];exact hr.set i rd
    ·split at hz
     ·rename_i hi hi2;cases hz;have hno:f∉fs.map Prod.fst:=by
       rw[hn];intro z;obtain⟨j,hj⟩:=eR.mp z;have hj2:j < ds.length:=by have:=(bL.mp hj).1;rw[gF] at this;omega
       rw[h8 hj2] at hj;have hi3:i < (cfs c).length:=(bL.mp fo.at_).1;have e1:=(bL.mp hj).2;have e2:=(bL.mp fo.at_).2;have:=(List.getElem_inj fo.nd).mp (e1.trans e2.symm);omega
      rw[zh hno] at fin ⊢;refine fin _ rfl ?_ ?_
      ·rw[i3,hn,bt,cA,List.take_add_one,<- hi2,fo.at_];rfl
      ·rw[i3];exact hr.append (ah.cons rd ah.nil)
     ·cases hz
   ·cases hz
  ·cases hz
def fS:List Nat->List Tr->En->Option En
 | [],[],ρ=>some ρ
 | i::is,d::ds,ρ=>fS is ds (ρ.set i (some d))
 | _,_,_=>none
def eN(is:List Nat)(u:Rd (List Tr)):Sr:=⟨λF ρ M=>u.f ρ M (λds M1=>au (fS is ds ρ) λρ'=>F.nx ρ' M1) (F.er ρ),λh q=>u.mono (λd M=>cm λρ'=>h.nx ρ' M) (λd M z=>h.er _ d M z) q⟩
theorem lu{i j:Nat}{x y:Str}{px py pt:Pos}{kt k2 pt2}(hc:X.calm=true)(hN:X.N.Nodup)(hi:X.N[i]?=some x)(hj:X.N[j]?=some y)(hij:i≠j)
  (hx:X.env.scope.names.lookup x=some .local) (hy:X.env.scope.names.lookup y=some .local) (ha:PDA X W [a,b] u)
  (hw:swappedStores [.Tuple [.Name x px,.Name y py] kt pt] (.Tuple [a,b] k2 pt2) X.env=pure (some [x,y]))
  (hs:swapsWithSole [.Tuple [.Name x px,.Name y py] kt pt] (.Tuple [a,b] k2 pt2) pos.line X.env=pure false:=by rfl) :
  PDS X W (.Assign [.Tuple [.Name x px,.Name y py] kt pt] (.Tuple [a,b] k2 pt2) pos) (eN [i,j] u):=dU (ps_par hc hN hi hj hij hx hy ha hw hs) λD σ H h=>by
 obtain⟨ρ,M,S,F,ok,s,en,q⟩:=h;refine⟨ρ,M,S,F.er ρ,ok,s,en.err s,u.mono (λds M1 q1 vs H1 S1 l1 o1 r1=>?_) (λ_ _ z=>z) q⟩;obtain⟨ρ',e,q2⟩:=b8 q1
 match ds,e,r1 with
 | [d,d'],e,r1 =>
  obtain⟨w,w',rfl,h1,h2⟩:=lI r1;simp only[fS,Option.some.injEq] at e;subst e;exact⟨w,w',rfl,en.nx _ M1 S1 _ H1 l1 o1 (((s.mono l1.le).set h1).set h2) q2⟩
 | [],e,_=>simp [fS] at e
 | [_],e,_=>simp [fS] at e
 | _::_::_::_,e,_=>simp [fS] at e
theorem IZ{i j l:Nat}{x y z:Str}{px py pz pt:Pos}{kt k2 pt2}(hc:X.calm=true)(hN:X.N.Nodup)(hi:X.N[i]?=some x)(hj:X.N[j]?=some y)(hl:X.N[l]?=some z)(hij:i≠j)(hil:i≠l)(hjl:j≠l)
  (hx:X.env.scope.names.lookup x=some .local) (hy:X.env.scope.names.lookup y=some .local) (hz:X.env.scope.names.lookup z=some .local) (ha:PDA X W [a,b,c] u)
  (hw:swappedStores [.Tuple [.Name x px,.Name y py,.Name z pz] kt pt] (.Tuple [a,b,c] k2 pt2) X.env=pure (some [x,y,z]))
  (hs:swapsWithSole [.Tuple [.Name x px,.Name y py,.Name z pz] kt pt] (.Tuple [a,b,c] k2 pt2) pos.line X.env=pure false:=by rfl) :
  PDS X W (.Assign [.Tuple [.Name x px,.Name y py,.Name z pz] kt pt] (.Tuple [a,b,c] k2 pt2) pos) (eN [i,j,l] u):=dU (ps_par3 hc hN hi hj hl hij hil hjl hx hy hz ha hw hs) λD σ H h=>by
 obtain⟨ρ,M,S,F,ok,s,en,q⟩:=h;refine⟨ρ,M,S,F.er ρ,ok,s,en.err s,u.mono (λds M1 q1 vs H1 S1 l1 o1 r1=>?_) (λ_ _ z=>z) q⟩;obtain⟨ρ',e,q2⟩:=b8 q1
 match ds,e,r1 with
 | [d,d',d''],e,r1 =>
  simp only[ah] at r1;obtain⟨w,t1,rfl,h1,w',t2,rfl,h2,w'',t3,rfl,h3,rfl⟩:=r1;simp only[fS,Option.some.injEq] at e;subst e;exact⟨w,w',w'',rfl,en.nx _ M1 S1 _ H1 l1 o1 ((((s.mono l1.le).set h1).set h2).set h3) q2⟩
 | [],e,_=>simp [fS] at e
 | [_],e,_=>simp [fS] at e
 | [_,_],e,_=>simp [fS] at e
 | _::_::_::_::_,e,_=>simp [fS] at e
def rZ(t:Rd Tr)(u:Rd (List Tr)):Rd (List Tr):=⟨λρ M Q E=>t.f ρ M (λd M1=>au (cO M1 d) λxs=>u.f ρ M1 (λds M2=>Q (xs++ds) M2) E) E,λh h' q=>t.mono (λd M1=>cm λxs=>u.mono (λds M2 z=>h _ M2 z) h') h' q⟩
theorem IG {g:Bool} {x:Str} {k n:Nat} {dds:List Tr} {sp:Sf} {p2:Pos} (tk:Takes X W) (F:Fn g X.prog X.w X.K X.mg X.base x k n dds sp) (hr:Room k X.A) (hgd:g=true->Gd X.base X.A) (hg:Gl X x) (he:PD X W e t) (hdb:(x == ("__debug__":Str))=false:=by decide)
  (hst:starEach [.Starred e p2] X.env=[(true,eval e X.env)]:=by rfl):PD X W (.Call (.Name x p) [.Starred e p2] [] pos) (GE sp dds n (rZ t ae)):=by
 obtain⟨f,fd,ps,ds,dvs,F1,hm,hk,hb,hd,hdd⟩:=F.ex;refine⟨λpins s σ H Q I h=>?_⟩;obtain⟨ρ,M,S,E,ok,sl,er,q⟩:=h;have h1:bO X.K W t σ H λy H1=>∃ a xs,y=V.ref a/\(SqT X.K H1 a xs∨SqL X.K H1 a xs)/\liftF X.K sp n (xs++dvs) H1 Q (WE W σ):=by refine⟨ρ,M,S,E,ok,sl,er,t.mono (λd M1 q1 y H1 S1 l1 o1 r1=>?_) (λ_ _ z=>z) q⟩;obtain⟨xs,e,q2⟩:=b8 q1;obtain⟨A,vs,rfl,hq,rs⟩:=mw o1 r1 e;have q3:((xs++[])++dds).length=n/\sp.f ((xs++[])++dds) M1 _ E:=q2;rw[bq] at q3;have r2:=rs.append (hdd S1);exact⟨A,vs,rfl,hq.symm,by rw[<- r2.length];exact q3.1,xs++dds,M1,S1,o1,r2,sp.mono (λr M2 q2 v H2 S2 l2 o2 r2=>q2 v H2 S2 (l1.trans l2) o2 r2) (λe M2 q2 cls dd H2 S2 l2 o2 x=>er e M2 S2 H2 cls dd (l1.trans l2) o2 x q2) q3.2⟩
 refine wpAny_Call_Name_kw (ld_glob I hg hm ?_ hdb);refine PySem.W.callWith_S (h₀:=X.base) I.ok.mod.kin hk (thn (he.run pins s σ H _ I h1) λv s1 ⟨y,H1,I1,ry,a,xs,ey,hxs,q⟩=>?_) hst;subst ey;obtain rfl:v=Value.ref a:=ry;exact StX.star_any I1 hxs λus s2 I2 rv=>⟨I2.kIn,pO (E:=WE W) F1 hr hgd hb hd (passAt tk σ) I2 rv q⟩
end
def cQ(M:Me):Tr->Option Bool
 | .non=>some false
 | .bl b=>some b
 | .int i=>some (i != 0)
 | .str y=>if y.length<=big then some ((y.length:Int) != 0) else none
 | .dct ks _=>some (!ks.isEmpty)
 | d=>(cO M d).map λxs=>!xs.isEmpty
def bp(t:Rd Tr):Rd Bool:=⟨λρ M Q E=>t.f ρ M (λd M1=>au (cQ M1 d) λb=>Q b M1) E,λh h' q=>t.mono (λd M1=>cm λb=>h b M1) h' q⟩
section
variable {X:Cx}{W:WX}{pos:Pos}{a b c e:Expr}{t ta tb:Rd Tr}{K:Frg}
theorem xU{α β:Type}{l:List α}{r:List β}(h:l.length=r.length):l.isEmpty=r.isEmpty:=by cases l <;> cases r <;> simp_all
theorem cN(h:PD X W a t)(he:∀ whole,isTrue a X.env whole=(do let v <- whole;standAt a.pos;holding [v] (truthy v)):=by intro _;rfl):PDT X W a (bp t):=tH (pt_truth h he) λσ H Q h=>by
 obtain⟨ρ,M,S,E,o,s,er,q⟩:=h;refine⟨ρ,M,S,E,o,s,er,t.mono (λd M1 q1 v H1 S1 l1 o1 r1=>?_) (λ_ _ z=>z) q⟩;obtain⟨k,e,q2⟩:=b8 q1;refine⟨k,?_,q2 H1 S1 l1 o1⟩;have sq:∀ d,Rep X.K S1 d v->(cO M1 d).map (λxs=>!xs.isEmpty)=some k->TruV X.K v H1 k:=λd r1 e=>by
  obtain⟨xs,e1,e2⟩:=bz.mp e;obtain⟨a,vs,rfl,hq,rs⟩:=mw o1 r1 e1;rw[xU rs.length] at e2;rcases hq with hq|hq
  ·exact .inl ⟨vs,hq,e2.symm⟩
  ·exact .inr (.inl ⟨vs,hq,e2.symm⟩)
 cases d with
 | non=>simp only[Rep] at r1;simp only[cQ,Option.some.injEq] at e;subst r1 e;rfl
 | bl b=>simp only[Rep] at r1;simp only[cQ,Option.some.injEq] at e;subst r1 e;rfl
 | int i=>simp only[Rep] at r1;simp only[cQ,Option.some.injEq] at e;subst r1 e;rfl
 | str y =>
  simp only[Rep] at r1;simp only[cQ] at e;subst r1
  split at e
  ·rename_i hl;cases e;exact⟨by rw[<- cU];exact hl,rfl⟩
  ·cases e
 | dct ks ds =>
  simp only[Rep] at r1;simp only[cQ,Option.some.injEq] at e;obtain⟨a,kvs,rfl,g,hk,_⟩:=r1;subst e hk;exact .inr (.inr ⟨kvs,o1.sub _ _ g,by rw[xU (l:=kvs) (r:=kvs.map Prod.fst) (by simp)]⟩)
 | ins c ds=>simp [cQ,cO,bj] at e
 | exc c ds=>simp [cQ,cO,bj] at e
 | dkf c ds=>simp [cQ,cO,bj] at e
 | lst xs=>exact sq _ r1 e
 | tup xs=>exact sq _ r1 e
 | scr xs=>exact sq _ r1 e
 | cell k=>exact sq _ r1 e
def nv(M:Me):Tr->Option (Tr × Me)
 | .cell k=>(match M[k]? with
  | some (.lst xs)=>some (.lst xs,M.set k .dead)
  | some (.dct ks ds)=>some (.dct ks ds,M.set k .dead)
  | _=>none)
 | d=>some (d,M)
def rV(t:Rd Tr):Rd Tr:=⟨λρ M Q E=>t.f ρ M (λd M1=>au (nv M1 d) λz=>Q z.1 z.2) E,λh h' q=>t.mono (λd M1=>cm λz=>h z.1 z.2) h' q⟩
theorem IN(h:PD X W e t):PD X W e (rV t):=bA h λσ H Q h=>by
 obtain⟨ρ,M,S,E,o,s,er,q⟩:=h;refine⟨ρ,M,S,E,o,s,er,t.mono (λd M1 q1 v H1 S1 l1 o1 r1=>?_) (λ_ _ z=>z) q⟩;obtain⟨⟨z,M2⟩,e,q2⟩:=b8 q1;have triv:nv M1 d=some (d,M1)->Q v H1:=λe'=>by
  rw[e'] at e;cases e;exact q2 v H1 S1 l1 o1 r1
 cases d with
 | cell k =>
  simp only[nv] at e
  split at e
  ·rename_i xs em;cases e;obtain⟨a,rfl,hc,hg,vs,h1,rs⟩:=cC o1 r1 em;obtain⟨o2,l2⟩:=o1.freeze hc em hg h1;refine q2 (.ref a) H1 _ (l1.trans (xK l2 hc)) o2 ?_;simp only[Rep];exact⟨a,vs,rfl,upd_same,ah.mono l2 _ _ rs⟩
  ·rename_i ks xs em;cases e;obtain⟨a,rfl,hc,hg,kvs,h1,hk,rs⟩:=cC o1 r1 em;obtain⟨o2,l2⟩:=o1.freeze hc em hg h1;refine q2 (.ref a) H1 _ (l1.trans (xK l2 hc)) o2 ?_;simp only[Rep];exact⟨a,kvs,rfl,upd_same,hk,ah.mono l2 _ _ rs⟩
  ·cases e
 | _=>exact triv rfl
end
section
variable {X:Cx}{W:WX}{pos:Pos}{K:Frg}
def dS(c:Bool)(ds:List Tr)(M:Me)(Q:Tr->Me->Prop):Prop:=if c=true then Q (.cell M.length) (M++[.lst ds]) else Q (.lst ds) M
theorem IC{c:Bool}{ds:List Tr}{M:Me}{Q Q':Tr->Me->Prop}(h:∀ d M,Q d M->Q' d M)(q:dS c ds M Q):dS c ds M Q':=by
 unfold dS at q ⊢
 split at q
 ·rename_i e;rw[if_pos e];exact h _ _ q
 ·rename_i e;rw[if_neg e];exact h _ _ q
structure Mk1(K:Frg)(S1:Gh)(H1:Hp)(D:Addr)(acc:List Tr)(M':Me)(S':Gh)(H':Hp):Prop where
 ex:∃ accV,Gr S1 H1 S' H'/\OkH K S' M' H'/\H' D=some (.lst accV)/\S'.G D=none/\D∉S'.C/\ah K S' acc accV
theorem Mk1.grow{S1 S' S4:Gh}{H1 H' H4:Hp}{D:Addr}{acc:List Tr}{M' M4:Me}(m:Mk1 K S1 H1 D acc M' S' H')(l:Gr S' H' S4 H4)(o:OkH K S4 M4 H4):Mk1 K S1 H1 D acc M4 S4 H4:=by obtain⟨accV,l',o',hD,gD,cD,ra⟩:=m.ex;obtain⟨d1,d2,d3⟩:=l.held hD gD cD;exact⟨accV,l'.trans l,o,d1,d2,d3,ah.mono l.le _ _ ra⟩
theorem Mk1.app{S1 S':Gh}{H1 H':Hp}{D:Addr}{acc:List Tr}{M':Me}{y:Tr}{v:V}(nD:H1 D=none)(m:Mk1 K S1 H1 D acc M' S' H')(r:Rep K S' y v)(hl:acc.length < big) :
  ∃ accV,H' D=some (.lst accV)/\accV.length < sizeLine/\Mk1 K S1 H1 D (acc++[y]) M' S' (upd H' D (.lst (accV++[v]))):=by
 obtain⟨accV,L,o',hD,gD,cD,ra⟩:=m.ex;exact⟨accV,hD,by rw[<- ra.length,<- cU];exact hl,accV++[v],L.write nD,o'.other gD cD (.inr ⟨_,hD,trivial⟩),upd_same,gD,cD,ra.append (ah.cons r ah.nil)⟩
theorem Mk1.fin{S S1 S':Gh}{H H1 H':Hp}{D:Addr}{acc:List Tr}{M':Me}{c:Bool}{Q:VK}(l1:Gr S H S1 H1)(nD:H1 D=none)(m:Mk1 K S1 H1 D acc M' S' H')
  (q:dS c acc M' λd M'=>∀ v H' S',Gr S H S' H'->OkH K S' M' H'->Rep K S' d v->Q v H'):Q (.ref D) H':=by
 obtain⟨accV,l',o',hD,gD,cD,ra⟩:=m.ex;have L:=l1.trans l';have hn:D∉S.C->NT H D:=λhc u e=>Classical.byContradiction λhu=>by
  have:=l1.keep D u e (λps z=>hu ⟨ps,z⟩) hc;rw[nD] at this;cases this
 unfold dS at q
 split at q
 ·obtain⟨o6,l6⟩:=o'.cellAt (c:=.lst acc) gD cD ⟨gD,accV,hD,ra⟩;refine q (.ref D) H' ⟨S'.G,S'.C++[D]⟩ ⟨L.le.trans l6,λa h1 h2=>?_,L.keep,L.fz⟩ o6 ?_
  ·rcases bf.mp h1 with h|h
   ·exact L.new a h h2
   ·rw[cB.mp h] at h2 ⊢;exact hn h2
  ·simp only[Rep];exact⟨D,rfl,by rw[show M'.length=S'.C.length from o'.len.symm];simp⟩
 ·obtain⟨o6,l6⟩:=o'.take' gD cD hD;have G6:Gr S H ⟨upd S'.G D (.lst accV),S'.C⟩ H':=by
   refine⟨L.le.trans l6,L.new,L.keep,λa h1 h2=>?_⟩
   by_cases ha:a=D
   ·subst ha
    by_cases hc:a∈S.C
    ·exact .inr hc
    ·exact .inl (hn hc).nx
   ·rw[show (⟨upd S'.G D (.lst accV),S'.C⟩:Gh).G a=S'.G a from upd_ne ha] at h2;exact L.fz a h1 h2
  refine q (.ref D) H' _ G6 o6 ?_;simp only[Rep];exact⟨D,accV,rfl,upd_same,ah.mono l6 _ _ ra⟩
theorem K9{σ:L2.St}{vs:List Nat}:wipe (wipe σ vs) vs=wipe σ vs:=by
 have h1:∀(us:List Nat)(j:Nat),j∈us->(wipe σ us).set j none=wipe σ us:=by
  intro us j hu
  induction us with
  | nil=>simp at hu
  | cons b r ih2 =>
   show ((wipe σ r).set b none).set j none=(wipe σ r).set b none
   by_cases hb:b=j
   ·subst hb;rw[i6]
   ·rw[List.set_comm _ _ hb,ih2 (by rcases aM.mp hu with e|e;exact absurd e.symm hb;exact e)]
 have h2:∀ ws:List Nat,(∀ i∈ws,i∈vs)->wipe (wipe σ vs) ws=wipe σ vs:=by
  intro ws
  induction ws with
  | nil=>intro _;rfl
  | cons j r ih =>
   intro hj;show (wipe (wipe σ vs) r).set j none=wipe σ vs;rw[ih λi hi=>hj i (aZ _ hi)];exact h1 vs j (hj j a6)
 exact h2 vs λ_ h=>h
def bv(c:Bool)(vs:List Nat)(it:Rd (List Tr))(g:Tg)(tt:Rd Bool)(te:Rd Tr):Rd Tr:=⟨λρ M Q E=>it.f ρ M (λxs M1=>cG g tt te (dW ρ vs) xs [] M1 λds M2=>dS c ds M2 Q) E,
 λh h' q=>it.mono (λxs M z=>rQ (λds M2=>IC h) xs _ M z) h' q⟩
theorem Eb{g:Tg}{tt:Rd Bool}{te:Rd Tr}{D:Addr}{ρ:En}{σw:L2.St}{vs:List Nat}{xs:List Tr}{J:It}{Q2:List Tr->Me->Prop}{Fin1:Hp->Prop}{acc0:List Tr}{M1:Me}{S1 SJ SD SQ:Gh}{H1 HJ HD:Hp}
  (w:ig K J xs SJ HJ) (lJ:Le SJ S1) (nD:HD D=none) (m0:Mk1 K SD HD D acc0 M1 S1 H1) (sl:be K SQ ρ σw) (lQ:Le SQ S1) (hg:∀ i∈g.ids,i∈vs)
  (q:cG g tt te ρ xs acc0 M1 Q2) (hfin:∀ acc M' S' H',Le S1 S'->Mk1 K SD HD D acc M' S' H'->Q2 acc M'->Fin1 H') :
  ∃ W:Nat->Nat->Hp->Prop,(∃ m,W 0 m H1)/\∀ i m H,W i m H->(J.stop i H/\Fin1 H)∨(J.go i H/\∃ Nx:Hp->Prop,(∀ H',Nx H'->∃ m',m' < m/\W (i+1) m' H')/\∀ x H',J.yld i H x H'->gTg K g x σw H' λσ2 H2=>wipe σ2 vs=wipe σw vs/\fq K W0 tt σ2 H2 λb H3 =>
   if b=true then bO K W0 te σ2 H3 λy H4=>∃ acc,H4 D=some (.lst acc)/\acc.length < sizeLine/\Nx (upd H4 D (.lst (acc++[y]))) else Nx H3):=by
 refine⟨λi m H'=>m=xs.length - i/\i<=xs.length/\∃ acc M' S',Le S1 S'/\Mk1 K SD HD D acc M' S' H'/\cG g tt te ρ (xs.drop i) acc M' Q2,⟨xs.length,by simp,eS _,acc0,M1,S1,Le.refl _,m0,q⟩,?_⟩;rintro i m H' ⟨rfl,hi,acc,M',S',l',mk,q'⟩;obtain⟨accV,_,o',hD,gD',cD',ra⟩:=mk.ex
 by_cases hlt:i < xs.length
 ·right
  rw[aal hlt] at q';obtain⟨ρ2,e2,q2⟩:=b8 q';refine⟨w.go i S' M' H' (lJ.trans l') o' hlt,λH'=>∃ acc M' S',Le S1 S'/\Mk1 K SD HD D acc M' S' H'/\cG g tt te ρ (xs.drop (i+1)) acc M' Q2,λH4 n4=>⟨xs.length - (i+1),by omega,rfl,hlt,n4⟩,λx H2 y=>?_⟩;obtain⟨S3,d,e3,l3,o3,r3⟩:=w.yld i S' M' H' x H2 (lJ.trans l') o' hlt y;have ed:d=xs[i]:=by rw[eE hlt] at e3;exact(Option.some.inj e3).symm
  subst ed;refine pP o3 g _ x ρ ρ2 σw _ (sl.mono ((lQ.trans l').trans l3.le)) r3 e2 λσ5 s5 w5=>⟨w5 vs hg,?_⟩
  refine⟨ρ2,M',S3,λ_ _=>False,o3,s5,xj,tt.mono (λb M4 q4 H4 S4 l4 o4=>?_) (λ_ _ z=>z) q2⟩;cases b with
  | true =>
   rw[if_pos rfl] at q4 ⊢;refine⟨ρ2,M4,S4,λ_ _=>False,o4,s5.mono l4.le,xj,te.mono (λyy M5 q5 v5 H5 S5 l5 o5 r5=>?_) (λ_ _ z=>z) q4⟩;have L5:Gr S' H' S5 H5:=l3.trans (l4.trans l5);obtain⟨aV,h1,h2,h3⟩:=(mk.grow L5 o5).app nD r5 q5.1;exact⟨aV,h1,h2,acc++[yy],M5,S5,l'.trans L5.le,h3,q5.2⟩
  | false =>
   rw[if_neg aad] at q4 ⊢;exact⟨acc,M4,S4,l'.trans (l3.trans l4).le,mk.grow (l3.trans l4) o4,q4⟩
 ·left
  have ei:i=xs.length:=by omega
  subst ei;rw[List.drop_length] at q';exact⟨w.stop S' M' H' (lJ.trans l') o',hfin acc M' S' H' l' mk q'⟩
theorem HS{S1:Gh}{H1:Hp}{D:Addr}{M1:Me}(o1:OkH K S1 M1 H1)(nD:H1 D=none):Mk1 K S1 H1 D [] M1 S1 (upd H1 D (.lst [])) :=
 ⟨[],Gr.same (fy nD),o1.same (fy nD),upd_same,(o1.fresh nD).1,(o1.fresh nD).2,ah.nil⟩
theorem yp{c:Bool}{vs:List Nat}{it:Rd (List Tr)}{g:Tg}{tt:Rd Bool}{te:Rd Tr}(hg:∀ i∈g.ids,i∈vs){σ:L2.St}{H:Hp}{Q:VK}(h:bO K W (bv c vs it g tt te) σ H Q) :
  tLc (ym K W it) (gTg K g) (fq K W0 tt) (bO K W0 te) vs σ H Q:=by
 obtain⟨ρ,M,S,E,o,sl,er,q⟩:=h;refine⟨ρ,M,S,E,o,sl,er,it.mono (λxs M1 q1 J H1 S1 l1 o1 w D nD=>?_) (λ_ _ z=>z) q⟩;have:=Eb (Fin1:=Q (.ref D)) (vs:=vs) w (Le.refl _) nD (HS o1 nD) (sl.mono l1.le).wipe (Le.refl _) hg q1 λacc M' S' H' l mk q2=>mk.fin l1 nD q2;rw[K9] at this;exact this
section
variable {elt tg iter tg1 iter1:Expr}{ifs ifs1:List Expr}{scope:Scope}{own:List (Str × Nat)}{vs1:List Nat}{it it1:Rd (List Tr)}{g g1:Tg}{tt tt1:Rd Bool}{te:Rd Tr}
theorem fu(c:Bool)(hc:X.calm=true)(hN:X.N.Nodup)(hi:PDI X W tg iter it)(ok:BlkOk X.N X.env.scope scope own)(hgv:∀ i∈g.ids,i∈own.map (·.2))
  (hg:∀(s:Shared)(H:Hp)(C:Addr)(cl:List (Str × Addr))(fp:List Addr),PDG (X.blk s H scope (compEnvC scope cl C X.env) fp) tg g)
  (ht:∀(s:Shared)(H:Hp)(C:Addr)(cl:List (Str × Addr))(fp:List Addr),mO (X.blk s H scope (compEnvC scope cl C X.env) fp) W0 ifs tt)
  (he:∀(s:Shared)(H:Hp)(C:Addr)(cl:List (Str × Addr))(fp:List Addr),PD (X.blk s H scope (compEnvC scope cl C X.env) fp) W0 elt te) (hf:∀ x:Value,foldedSetIterable iter X.env x=pure x:=by intro _;rfl) :
  PD X W (.ListComp elt [⟨tg,iter,ifs,0⟩] scope pos) (bv c (own.map (·.2)) it g tt te):=bA (pe_lc hc hN hi ok hg ht he hf) λ_ _ _=>yp hgv
theorem I4{i:Nat}{y:Str}{py spos:Pos}(c:Bool)(hc:X.calm=true)(hN:X.N.Nodup)(hy:X.N[i]?=some y)(hyl:X.env.scope.names.lookup y=some .local)
  (hsw:swapsWith (.ListComp elt [⟨tg,iter,ifs,0⟩] scope pos) (some (.Name y py)) spos.line X.env=pure true) (hi:PDI X W tg iter it) (ok:BlkOk X.N X.env.scope scope own) (hgv:∀ i∈g.ids,i∈own.map (·.2))
  (hg:∀(s:Shared)(H:Hp)(C:Addr)(cl:List (Str × Addr))(fp:List Addr),PDG (X.blk s H scope (compEnvC scope cl C X.env) fp) tg g)
  (ht:∀(s:Shared)(H:Hp)(C:Addr)(cl:List (Str × Addr))(fp:List Addr),mO (X.blk s H scope (compEnvC scope cl C X.env) fp) W0 ifs tt)
  (he:∀(s:Shared)(H:Hp)(C:Addr)(cl:List (Str × Addr))(fp:List Addr),PD (X.blk s H scope (compEnvC scope cl C X.env) fp) W0 elt te) (hf:∀ x:Value,foldedSetIterable iter X.env x=pure x:=by intro _;rfl) :
  PDS X W (.Assign [.Name y py] (.ListComp elt [⟨tg,iter,ifs,0⟩] scope pos) spos) (aC (.nm i) (bv c (own.map (·.2)) it g tt te)) :=
 dU (ps_setLc hc hN hy hyl hsw hi ok hg ht he hf) λD σ H h=>by
  have h1:bO X.K W (bv c (own.map (·.2)) it g tt te) σ H λx H1=>gName i x σ H1 D.nx:=by have:=sQ (K:=X.K) h;simp only[gTg] at this;exact this
  exact yp hgv h1
end
end
theorem u64{k:Nat}{A:Around}(hr:Room k A):A.units+64 < cLine:=hr.units
theorem u65{k:Nat}{A:Around}(hr:Room k A):A.units+65 < cLine:=by have:=hr.un;omega
theorem u1{k:Nat}{A:Around}(hr:Room k A):A.units+1 < cLine:=by have:=hr.un;omega
theorem eh:bootBuiltins "len"=some (.builtin "len"):=by decide +kernel
theorem mV:bootBuiltins "all"=some (.builtin "all"):=by decide +kernel
theorem DU:bootBuiltins "max"=some (.builtin "max"):=by decide +kernel
theorem DV:bootBuiltins "min"=some (.builtin "min"):=by decide +kernel
theorem vQ:bootBuiltins "abs"=some (.builtin "abs"):=by decide +kernel
theorem ip:bootBuiltins "repr"=some (.builtin "repr"):=by decide +kernel
theorem rJ:bootBuiltins "isinstance"=some (.builtin "isinstance"):=by decide +kernel
theorem io:bootBuiltins "int"=some (.type "int"):=by decide +kernel
theorem iq:bootBuiltins "str"=some (.type "str"):=by decide +kernel
theorem DT:bootBuiltins "bool"=some (.type "bool"):=by decide +kernel
theorem i7:bootBuiltins "list"=some (.type "list"):=by decide +kernel
abbrev uw:=PySem.F.slot_list_append
abbrev uY:=PySem.F.type_list_append
abbrev JZ:=PySem.F.slot_list_pop
abbrev KU:=PySem.F.type_list_pop
section
variable {X:Cx}{W:WX}{pos:Pos}{st:Stmt}
theorem yX {x z:Str} (hg:Gl X x) (h:∃ t,X.mg x=some (.str z t)) (hd:(x == ("__debug__":Str))=false:=by decide):PD X W (.Name x pos) (dC (.str z)):=by obtain⟨t,h⟩:=h;exact yW hg h (v:=.str z) ⟨t,rfl⟩ (λ_=>fb) hd
theorem ow {x:Str} {i:Int} (hg:Gl X x) (h:∃ t,X.mg x=some (.int i t)) (hd:(x == ("__debug__":Str))=false:=by decide):PD X W (.Name x pos) (dC (.int i)):=by obtain⟨t,h⟩:=h;exact yW hg h (v:=.int i) ⟨t,rfl⟩ (λ_=>dv) hd
end
section
open RZ
open PySem.Sem (wp)
def eG(b:Bool)(h:Heap)(it l:Addr)(i:Nat):Prop:=cond b (h.IsTupleIter it l i) (h.IsListIter it l i)
def dZ(b:Bool)(h:Heap)(l:Addr)(xs:Array Value):Prop:=cond b (h.IsTuple l xs) (h.IsList l xs)
def IsZ (h:Heap) (z TI TO:Addr) (o:Value) (f:Bool):Prop:=h.get? z=some { cls:=.type "zip",dict:=none,data:=.fields #[o,.bool f,.bool false,.ref TI,.ref TO],slots:=#[] }
def ou(o:Value):Prop:=o=.none∨∃ T:Addr,o=rawInt T
section
variable {prog:Program}{w:World}{A:Around}{E:Value->Shared->Prop}{s:Shared}{b c:Bool}
theorem eG.at{h h':Heap}{it l:Addr}{i:Nat}(x:eG b h it l i)(e:∀ o,h.get? it=some o->h'.get? it=some o):eG b h' it l i:=by
 cases b with
 | true=>exact Heap.IsTupleIter.at x e
 | false=>exact Heap.IsListIter.at x e
theorem dZ.at{h h':Heap}{l:Addr}{xs}(x:dZ b h l xs)(e:∀ o,h.get? l=some o->h'.get? l=some o):dZ b h' l xs:=by
 cases b with
 | true=>obtain⟨o,ho,r⟩:=x;exact⟨o,e _ ho,r⟩
 | false=>obtain⟨o,ho,r⟩:=x;exact⟨o,e _ ho,r⟩
theorem eG.live{h:Heap}{it l:Addr}{i:Nat}(x:eG b h it l i):∃ o,h.get? it=some o/\∀ v,o.data≠.cell v:=by
 cases b with
 | true=>obtain⟨o,ho,_,d⟩:=x;exact⟨o,ho,λv q=>by rw[d] at q;cases q⟩
 | false=>obtain⟨o,ho,_,d⟩:=x;exact⟨o,ho,λv q=>by rw[d] at q;cases q⟩
theorem kj{it l:Addr}{i:Nat}{items:Array Value}{x:Value}{Q:Value->Shared->Prop}(hit:eG b s.heap it l i)(hl:dZ b s.heap l items)(hx:items[i]?=some x)
  (hQ:∀ h',eG b h' it l (i+1)->Heap.SameBut it s.heap h'->Q x { s with heap:=h' }):wpAny (model prog w) A (Builtin.SmallTypes.nextOf (.ref it)) Q E s:=by
 cases b with
 | true=>exact nextOf_tuple_item hit hl hx hQ
 | false=>exact wpAny_nextOf_list_item hit hl hx hQ
theorem n7{it l:Addr}{i:Nat}{items:Array Value}{Q:Value->Shared->Prop}(hh:A.handled=none)(hit:eG b s.heap it l i)(hl:dZ b s.heap l items)(hx:items[i]?=none)
  (hE:∀ h' e,Heap.ExtBut it s.heap h'->(∃ o,h'.get? e=some o/\o.cls=.type "StopIteration")->E (.ref e) { s with heap:=h' }):wpAny (model prog w) A (Builtin.SmallTypes.nextOf (.ref it)) Q E s:=by
 cases b with
 | true=>exact nextOf_tuple_end hh hit hl hx hE
 | false=>exact wpAny_nextOf_list_end hh hit hl hx hE
theorem xV{z TI TO:Addr}{o:Value}{f:Bool}{Q:Bool->Shared->Prop}(hz:IsZ s.heap z TI TO o f)(ho:ou o)(h1:Q true s)
  (h2:∀ h',IsZ h' z TI TO o true->Heap.SameBut z s.heap h'->Q false { s with heap:=h' }):wpAny (model prog w) A (Builtin.SmallTypes.ownedTupleIsFree (.ref z)) Q E s:=by
 unfold Builtin.SmallTypes.ownedTupleIsFree;rcases ho with rfl|⟨T,rfl⟩
 ·exact wpAny_bind (wpAny_field hz rfl (x:=.none) rfl (wpAny_pure h1))
 refine wpAny_bind (wpAny_field hz rfl (x:=rawInt T) rfl ?_);show wpAny _ _ (loadIfAlive ((T:Int).toNat) >>= _) _ _ _;rw[Int.toNat_natCast];refine wpAny_bind ?_;have key:∀ (Q':Option Obj->Shared->Prop),Q' (s.heap.get? T) s->wpAny (model prog w) A (loadIfAlive T) Q' E s:=λQ' h=>λ_ _ _=>h;refine key _ ?_;cases hT:s.heap.get? T with
 | none =>
  simp only[Option.isNone_none,if_true];exact wpAny_pure h1
 | some oT =>
  simp only[Option.isNone_some,bd,if_false];refine wpAny_bind (wpAny_field hz rfl (x:=.bool f) rfl ?_);cases f with
  | true =>
   rw[if_neg (show ¬ ((Value.bool true != Value.bool true)=true) from aad)];exact wpAny_pure (h2 s.heap hz (Heap.SameBut.refl _ _))
  | false =>
   rw[if_pos (show (Value.bool false != Value.bool true)=true from rfl)];exact wpAny_bind (wpAny_setField_rec hz (by simp) λh₁ hz₁ hs₁=>wpAny_pure (h2 h₁ hz₁ hs₁))
structure ZSt(b c:Bool)(h:Heap)(z TI TO i1 i2 l1 l2:Addr)(i:Nat):Prop where
 z:∃ o f,ou o/\IsZ h z TI TO o f
 ti:IsPair h TI (.ref i1) (.ref i2)
 to:∃ x y,IsPair h TO x y
 i1:eG b h i1 l1 i
 i2:eG c h i2 l2 i
theorem Lk{z TI TO i1 i2 l1 l2:Addr}{i:Nat}{xs ys:Array Value}{x y:Value}{Q:Value->Shared->Prop}(D:ZipApart z TI TO i1 i2 l1 l2)
  (st:ZSt b c s.heap z TI TO i1 i2 l1 l2 i) (hl1:dZ b s.heap l1 xs) (hl2:dZ c s.heap l2 ys) (hx:xs[i]?=some x) (hy:ys[i]?=some y)
  (hQ:∀ h',ZSt b c h' z TI TO i1 i2 l1 l2 (i+1)->IsPair h' s.heap.objs.size x y->h'.objs.size=s.heap.objs.size+1 ->
   (∀ a o,a≠z->a≠TO->a≠i1->a≠i2->s.heap.get? a=some o->h'.get? a=some o)->Q (.ref s.heap.objs.size) { s with heap:=h' }) :
  wpAny (model prog w) A (Builtin.«zip.__next__» ⟨[.ref z],[]⟩) (λfin s'=>∃ v,fin=.done (.ret v)/\Q v s') E s:=by
 obtain⟨⟨o,f,ho,hz⟩,hTI,⟨a,b',hTO⟩,h1,h2⟩:=st;show wpAny _ _ (field (.ref z) 2 >>= _) _ _ _;refine wpAny_bind (wpAny_field hz rfl (x:=.bool false) rfl ?_);show wpAny _ _ (field (.ref z) 3 >>= _) _ _ _;refine wpAny_bind (wpAny_field hz rfl (x:=.ref TI) rfl ?_);refine wpAny_bind (wpAny_seqItems hTI rfl ?_);show wpAny _ _ (Builtin.SmallTypes.ownedTupleIsFree (.ref z) >>= _) _ _ _;refine wpAny_bind (xV hz ho ?_ λh₁ hz₁ hs₁=>?_)
 ·-- the owned pair is used again
  simp only[if_true];refine wpAny_bind (wpAny_rule ?_);refine wpAny_bind (wpAny_field hz rfl (x:=.ref TO) rfl ?_);refine wpAny_bind (wpAny_setField_rec hz (by simp) λh₁ hz₁ hs₁=>?_)
  replace hz₁:IsZ h₁ z TI TO .ellipsis f:=hz₁
  refine wpAny_bind ?_;simp only[List.zipIdx_cons,List.zipIdx_nil,List.forIn_cons,List.forIn_nil];refine wpAny_bind (wpAny_bind (wpAny_onRaise ?_));show wpAny _ _ (Builtin.SmallTypes.nextOf (.ref i1) >>= _) _ _ _;refine wpAny_bind (kj (s:={ s with heap:=h₁ }) (h1.at λo e=>hs₁.extBut _ _ D.i1z e) (hl1.at λo e=>hs₁.extBut _ _ D.l1z e) hx λh₂ h1₂ hs₂=>wpAny_pure ?_);have hTO₂:IsPair h₂ TO a b':=hs₂.extBut _ _ D.TOi1 (hs₁.extBut _ _ D.TOz hTO);refine wpAny_bind (wpAny_seqItems (s:={ s with heap:=h₂ }) hTO₂ rfl ?_);refine wpAny_bind (wpAny_updateSeq_pair (s:={ s with heap:=h₂ }) hTO₂ λh₃ hTO₃ hs₃=>?_)
  replace hTO₃:IsPair h₃ TO x b':=hTO₃
  refine wpAny_bind (wpAny_letGo (wpAny_pure ?_));refine wpAny_bind (wpAny_bind (wpAny_onRaise ?_));show wpAny _ _ (Builtin.SmallTypes.nextOf (.ref i2) >>= _) _ _ _;refine wpAny_bind (kj (s:={ s with heap:=h₃ }) (((h2.at λo e=>hs₁.extBut _ _ D.i2z e).at λo e=>hs₂.extBut _ _ D.i12.symm e).at λo e=>hs₃.extBut _ _ D.TOi2.symm e)
   (((hl2.at λo e=>hs₁.extBut _ _ D.l2z e).at λo e=>hs₂.extBut _ _ D.l2i1 e).at λo e=>hs₃.extBut _ _ D.l2TO e) hy λh₄ h2₄ hs₄=>wpAny_pure ?_)
  have hTO₄:IsPair h₄ TO x b':=hs₄.extBut _ _ D.TOi2 hTO₃;refine wpAny_bind (wpAny_seqItems (s:={ s with heap:=h₄ }) hTO₄ rfl ?_);refine wpAny_bind (wpAny_updateSeq_pair (s:={ s with heap:=h₄ }) hTO₄ λh₅ hTO₅ hs₅=>?_)
  replace hTO₅:IsPair h₅ TO x y:=hTO₅
  refine wpAny_bind (wpAny_letGo (wpAny_pure (wpAny_pure ?_)));refine wpAny_bind (wpAny_seqItems (s:={ s with heap:=h₅ }) hTO₅ rfl ?_);refine wpAny_bind (wpAny_newTuple ?_);have hsz:h₅.objs.size=s.heap.objs.size:=by rw[hs₅.1,hs₄.1,hs₃.1,hs₂.1,hs₁.1]
  have hz₅:IsZ h₅ z TI TO .ellipsis f:=hs₅.extBut _ _ D.TOz.symm (hs₄.extBut _ _ D.i2z.symm (hs₃.extBut _ _ D.TOz.symm (hs₂.extBut _ _ D.i1z.symm hz₁)));have hk₅:∀ c o,c≠z->c≠TO->c≠i1->c≠i2->s.heap.get? c=some o->h₅.get? c=some o:=λc o c1 c2 c3 c4 e =>
   hs₅.extBut _ _ c2 (hs₄.extBut _ _ c4 (hs₃.extBut _ _ c2 (hs₂.extBut _ _ c3 (hs₁.extBut _ _ c1 e))))
  have h1₅:eG b h₅ i1 l1 (i+1):=((h1₂.at λo e=>hs₃.extBut _ _ D.TOi1.symm e).at λo e=>hs₄.extBut _ _ D.i12 e).at λo e=>hs₅.extBut _ _ D.TOi1.symm e;have h2₅:eG c h₅ i2 l2 (i+1):=h2₄.at λo e=>hs₅.extBut _ _ D.TOi2.symm e;have hzlt:z < h₅.objs.size:=Heap.lt_size hz₅;show wpAny _ _ (Builtin.SmallTypes.ownedTupleHandOut (.ref z) (.ref h₅.objs.size) >>= _) _ _ _;refine wpAny_bind ?_;unfold Builtin.SmallTypes.ownedTupleHandOut;have hz₆:IsZ (h₅.push { cls:=.type "tuple",data:=.seq #[x,y] }) z TI TO .ellipsis f:=Heap.get?_push_of_some _ hz₅;refine wpAny_bind (wpAny_setField_rec (s:={ s with heap:=h₅.push { cls:=.type "tuple",data:=.seq #[x,y] } }) hz₆ (by simp) λh₇ hz₇ hs₇=>?_)
  replace hz₇:IsZ h₇ z TI TO (rawInt h₅.objs.size) f:=hz₇
  refine wpAny_setField_rec (s:={ s with heap:=h₇ }) hz₇ (by simp) λh₈ hz₈ hs₈=>?_
  replace hz₈:IsZ h₈ z TI TO (rawInt h₅.objs.size) false:=hz₈
  have up:∀ c o,c≠z->h₅.get? c=some o->h₈.get? c=some o:=λc o c1 e=>hs₈.extBut _ _ c1 (hs₇.extBut _ _ c1 (Heap.get?_push_of_some _ e));have hT₈:IsPair h₈ h₅.objs.size x y:=hs₈.extBut _ _ (Nat.ne_of_gt hzlt) (hs₇.extBut _ _ (Nat.ne_of_gt hzlt) (Heap.get?_push_size _ rfl));have hz8:h₈.objs.size=h₅.objs.size+1:=by rw[hs₈.1,hs₇.1,Heap.size_push]
  rw[hsz] at hz₈ hT₈ hz8;refine wpAny_pure ⟨_,rfl,?_⟩;show Q (.ref h₅.objs.size) _;rw[hsz];exact hQ h₈ ⟨⟨_,_,.inr ⟨_,rfl⟩,hz₈⟩,up _ _ D.TIz (hs₅.extBut _ _ D.TITO (hs₄.extBut _ _ D.TIi2 (hs₃.extBut _ _ D.TITO (hs₂.extBut _ _ D.TIi1 (hs₁.extBut _ _ D.TIz hTI))))),⟨x,y,up _ _ D.TOz hTO₅⟩,h1₅.at λo e=>up _ o D.i1z e,h2₅.at λo e=>up _ o D.i2z e⟩ hT₈ hz8
   λc o c1 c2 c3 c4 e=>up c o c1 (hk₅ c o c1 c2 c3 c4 e)
 ·-- a new pair beside the one that is held
  simp only[bd,if_false];refine wpAny_bind ?_;rw[<- Array.forIn_toList];simp only[List.forIn_cons,List.forIn_nil];refine wpAny_bind (wpAny_bind (wpAny_holding ?_));show wpAny _ _ (Builtin.SmallTypes.nextOf (.ref i1) >>= _) _ _ _;refine wpAny_bind (kj (s:={ s with heap:=h₁ }) (h1.at λo e=>hs₁.extBut _ _ D.i1z e) (hl1.at λo e=>hs₁.extBut _ _ D.l1z e) hx λh₂ h1₂ hs₂=>wpAny_pure ?_);refine wpAny_pure ?_;refine wpAny_bind (wpAny_bind (wpAny_holding ?_));show wpAny _ _ (Builtin.SmallTypes.nextOf (.ref i2) >>= _) _ _ _;refine wpAny_bind (kj (s:={ s with heap:=h₂ }) ((h2.at λo e=>hs₁.extBut _ _ D.i2z e).at λo e=>hs₂.extBut _ _ D.i12.symm e) ((hl2.at λo e=>hs₁.extBut _ _ D.l2z e).at λo e=>hs₂.extBut _ _ D.l2i1 e) hy λh₃ h2₃ hs₃=>wpAny_pure ?_);refine wpAny_pure (wpAny_pure ?_);show wpAny _ _ (newTuple [x,y] >>= _) _ _ _;refine wpAny_bind (wpAny_newTuple ?_);have hsz:h₃.objs.size=s.heap.objs.size:=by rw[hs₃.1,hs₂.1,hs₁.1]
  have hz₃:IsZ h₃ z TI TO o true:=hs₃.extBut _ _ D.i2z.symm (hs₂.extBut _ _ D.i1z.symm hz₁);have hk:∀ c o,c≠z->c≠i1->c≠i2->s.heap.get? c=some o->h₃.get? c=some o:=λc o c1 c2 c3 e=>hs₃.extBut _ _ c3 (hs₂.extBut _ _ c2 (hs₁.extBut _ _ c1 e));have h1₃:eG b h₃ i1 l1 (i+1):=h1₂.at λo e=>hs₃.extBut _ _ D.i12 e;refine wpAny_pure ⟨_,rfl,?_⟩;show Q (.ref h₃.objs.size) _;have hp:IsPair (h₃.push { cls:=.type "tuple",data:=.seq #[x,y] }) h₃.objs.size x y:=Heap.get?_push_size _ rfl;have hz4:(h₃.push { cls:=.type "tuple",data:=.seq #[x,y] }).objs.size=h₃.objs.size+1:=Heap.size_push ..;have up:∀ c o,h₃.get? c=some o->(h₃.push { cls:=.type "tuple",data:=.seq #[x,y] }).get? c=some o:=λc o e=>Heap.get?_push_of_some _ e;rw[hsz] at hp hz4 ⊢;exact hQ _ ⟨⟨_,_,ho,up _ _ hz₃⟩,up _ _ (hk _ _ D.TIz D.TIi1 D.TIi2 hTI),⟨_,_,up _ _ (hk _ _ D.TOz D.TOi1 D.TOi2 hTO)⟩,h1₃.at λo e=>up _ _ e,h2₃.at λo e=>up _ _ e⟩ hp hz4 λc o c1 _ c2 c3 e=>up _ _ (hk c o c1 c2 c3 e)
theorem Ll{z TI TO i1 i2 l1 l2:Addr}{i:Nat}{xs ys:Array Value}{Q:PySem.Fin->Shared->Prop}(hh:A.handled=none)(D:ZipApart z TI TO i1 i2 l1 l2)
  (st:ZSt b c s.heap z TI TO i1 i2 l1 l2 i) (hl1:dZ b s.heap l1 xs) (hl2:dZ c s.heap l2 ys) (hend:xs[i]?=none∨ys[i]?=none)
  (hE:∀ h' e,(∀ a o,a≠z->a≠TO->a≠i1->a≠i2->s.heap.get? a=some o->h'.get? a=some o)->(∃ o,h'.get? e=some o/\o.cls=.type "StopIteration")->E (.ref e) { s with heap:=h' }) :
  wpAny (model prog w) A (Builtin.«zip.__next__» ⟨[.ref z],[]⟩) Q E s:=by
 obtain⟨⟨o,f,ho,hz⟩,hTI,⟨a,b',hTO⟩,h1,h2⟩:=st;show wpAny _ _ (field (.ref z) 2 >>= _) _ _ _;refine wpAny_bind (wpAny_field hz rfl (x:=.bool false) rfl ?_);show wpAny _ _ (field (.ref z) 3 >>= _) _ _ _;refine wpAny_bind (wpAny_field hz rfl (x:=.ref TI) rfl ?_);refine wpAny_bind (wpAny_seqItems hTI rfl ?_);show wpAny _ _ (Builtin.SmallTypes.ownedTupleIsFree (.ref z) >>= _) _ _ _;refine wpAny_bind (xV hz ho ?_ λh₁ hz₁ hs₁=>?_)
 ·simp only[if_true];refine wpAny_bind (wpAny_rule ?_);refine wpAny_bind (wpAny_field hz rfl (x:=.ref TO) rfl ?_);refine wpAny_bind (wpAny_setField_rec hz (by simp) λh₁ hz₁ hs₁=>?_)
  replace hz₁:IsZ h₁ z TI TO .ellipsis f:=hz₁
  refine wpAny_bind ?_;simp only[List.zipIdx_cons,List.zipIdx_nil,List.forIn_cons,List.forIn_nil];refine wpAny_bind (wpAny_bind (wpAny_onRaise ?_));show wpAny _ _ (Builtin.SmallTypes.nextOf (.ref i1) >>= _) _ _ _;cases hx:xs[i]? with
  | none =>
   refine wpAny_bind (n7 (s:={ s with heap:=h₁ }) hh (h1.at λo e=>hs₁.extBut _ _ D.i1z e) (hl1.at λo e=>hs₁.extBut _ _ D.l1z e) hx λh₂ e hs₂ he=>?_);obtain⟨oe,hoe,hce⟩:=he;have hz₂:IsZ h₂ z TI TO .ellipsis f:=hs₂ _ _ D.i1z.symm hz₁;have hez:e≠z:=λx=>by subst x;rw[show h₂.get? e=_ from hz₂] at hoe;cases hoe;simp at hce
   refine wpAny_setField_rec (s:={ s with heap:=h₂ }) hz₂ (by simp) λh₃ _ hs₃=>hE h₃ e (λc o c1 _ c3 _ x=>hs₃.extBut _ _ c1 (hs₂ _ _ c3 (hs₁.extBut _ _ c1 x))) ⟨oe,hs₃.extBut _ _ hez hoe,hce⟩
  | some x =>
   have hy:ys[i]?=none:=by rcases hend with h|h;rw[hx] at h;cases h;exact h
   refine wpAny_bind (kj (s:={ s with heap:=h₁ }) (h1.at λo e=>hs₁.extBut _ _ D.i1z e) (hl1.at λo e=>hs₁.extBut _ _ D.l1z e) hx λh₂ h1₂ hs₂=>wpAny_pure ?_);have hTO₂:IsPair h₂ TO a b':=hs₂.extBut _ _ D.TOi1 (hs₁.extBut _ _ D.TOz hTO);refine wpAny_bind (wpAny_seqItems (s:={ s with heap:=h₂ }) hTO₂ rfl ?_);refine wpAny_bind (wpAny_updateSeq_pair (s:={ s with heap:=h₂ }) hTO₂ λh₃ hTO₃ hs₃=>?_);refine wpAny_bind (wpAny_letGo (wpAny_pure ?_));refine wpAny_bind (wpAny_bind (wpAny_onRaise ?_));show wpAny _ _ (Builtin.SmallTypes.nextOf (.ref i2) >>= _) _ _ _;refine wpAny_bind (n7 (s:={ s with heap:=h₃ }) hh (((h2.at λo e=>hs₁.extBut _ _ D.i2z e).at λo e=>hs₂.extBut _ _ D.i12.symm e).at λo e=>hs₃.extBut _ _ D.TOi2.symm e)
    (((hl2.at λo e=>hs₁.extBut _ _ D.l2z e).at λo e=>hs₂.extBut _ _ D.l2i1 e).at λo e=>hs₃.extBut _ _ D.l2TO e) hy λh₄ e hs₄ he=>?_)
   obtain⟨oe,hoe,hce⟩:=he;have hz₄:IsZ h₄ z TI TO .ellipsis f:=hs₄ _ _ D.i2z.symm (hs₃.extBut _ _ D.TOz.symm (hs₂.extBut _ _ D.i1z.symm hz₁));have hez:e≠z:=λx=>by subst x;rw[show h₄.get? e=_ from hz₄] at hoe;cases hoe;simp at hce
   refine wpAny_setField_rec (s:={ s with heap:=h₄ }) hz₄ (by simp) λh₅ _ hs₅=>hE h₅ e (λc o c1 c2 c3 c4 x=>hs₅.extBut _ _ c1 (hs₄ _ _ c4 (hs₃.extBut _ _ c2 (hs₂.extBut _ _ c3 (hs₁.extBut _ _ c1 x))))) ⟨oe,hs₅.extBut _ _ hez hoe,hce⟩
 ·simp only[bd,if_false];refine wpAny_bind ?_;rw[<- Array.forIn_toList];simp only[List.forIn_cons,List.forIn_nil];refine wpAny_bind (wpAny_bind (wpAny_holding ?_));show wpAny _ _ (Builtin.SmallTypes.nextOf (.ref i1) >>= _) _ _ _;cases hx:xs[i]? with
  | none =>
   refine wpAny_bind (n7 (s:={ s with heap:=h₁ }) hh (h1.at λo e=>hs₁.extBut _ _ D.i1z e) (hl1.at λo e=>hs₁.extBut _ _ D.l1z e) hx λh₂ e hs₂ he=>?_);exact hE h₂ e (λc o c1 _ c2 _ x=>hs₂ _ _ c2 (hs₁.extBut _ _ c1 x)) he
  | some x =>
   have hy:ys[i]?=none:=by rcases hend with h|h;rw[hx] at h;cases h;exact h
   refine wpAny_bind (kj (s:={ s with heap:=h₁ }) (h1.at λo e=>hs₁.extBut _ _ D.i1z e) (hl1.at λo e=>hs₁.extBut _ _ D.l1z e) hx λh₂ h1₂ hs₂=>wpAny_pure ?_);refine wpAny_pure ?_;refine wpAny_bind (wpAny_bind (wpAny_holding ?_));show wpAny _ _ (Builtin.SmallTypes.nextOf (.ref i2) >>= _) _ _ _;refine wpAny_bind (n7 (s:={ s with heap:=h₂ }) hh ((h2.at λo e=>hs₁.extBut _ _ D.i2z e).at λo e=>hs₂.extBut _ _ D.i12.symm e) ((hl2.at λo e=>hs₁.extBut _ _ D.l2z e).at λo e=>hs₂.extBut _ _ D.l2i1 e) hy λh₃ e hs₃ he=>?_);exact hE h₃ e (λc o c1 _ c2 c3 x=>hs₃ _ _ c3 (hs₂.extBut _ _ c2 (hs₁.extBut _ _ c1 x))) he
theorem vk {z TI TO:Addr} {o:Value} {f:Bool} (hz:IsZ s.heap z TI TO o f):s.TypeIs (.ref z) "zip":=⟨_,hz,rfl⟩
theorem Jo{z TI TO i1 i2 l1 l2:Addr}{i:Nat}{xs ys:Array Value}{x y:Value}{Q:Option Value->Shared->Prop}(D:ZipApart z TI TO i1 i2 l1 l2)
  (st:ZSt b c s.heap z TI TO i1 i2 l1 l2 i) (hl1:dZ b s.heap l1 xs) (hl2:dZ c s.heap l2 ys) (hx:xs[i]?=some x) (hy:ys[i]?=some y)
  (hQ:∀ h',ZSt b c h' z TI TO i1 i2 l1 l2 (i+1)->IsPair h' s.heap.objs.size x y->h'.objs.size=s.heap.objs.size+1 ->
   (∀ a o,a≠z->a≠TO->a≠i1->a≠i2->s.heap.get? a=some o->h'.get? a=some o)->Q (some (.ref s.heap.objs.size)) { s with heap:=h' }):wpAny (model prog w) A (pyNext (.ref z)) Q E s:=by
 obtain⟨o,f,_,hz⟩:=st.z;have hT:=vk hz;unfold pyNext;exact wpAny_bind (wpAny_attempt (wpAny_callSpecial?_slot (name:=Str.ofString "__next__") hT F.slot_zip_next
  (wpAny_call_entry F.slot_zip_next hT F.entry_zip_next (Lk D st hl1 hl2 hx hy λh' a1 a2 a3 a4=>wpAny_pure (hQ h' a1 a2 a3 a4)) (F.args_zip_next_1 _))))
theorem Jp{z TI TO i1 i2 l1 l2:Addr}{i:Nat}{xs ys:Array Value}{Q:Option Value->Shared->Prop}(hh:A.handled=none)(D:ZipApart z TI TO i1 i2 l1 l2)
  (st:ZSt b c s.heap z TI TO i1 i2 l1 l2 i) (hl1:dZ b s.heap l1 xs) (hl2:dZ c s.heap l2 ys) (hend:xs[i]?=none∨ys[i]?=none)
  (hQ:∀ h',(∀ a o,a≠z->a≠TO->a≠i1->a≠i2->s.heap.get? a=some o->h'.get? a=some o)->Q none { s with heap:=h' }):wpAny (model prog w) A (pyNext (.ref z)) Q E s:=by
 obtain⟨o,f,_,hz⟩:=st.z;have hT:=vk hz;unfold pyNext;refine wpAny_bind (wpAny_attempt (wpAny_callSpecial?_slot (name:=Str.ofString "__next__") hT F.slot_zip_next
  (wpAny_call_entry F.slot_zip_next hT F.entry_zip_next (Ll hh D st hl1 hl2 hend λh' e hk he=>?_) (F.args_zip_next_1 _))))
 obtain⟨o,ho,hc⟩:=he;refine wpAny_bind (wpAny_isInstance (T:="StopIteration") (b:=true) ⟨o,ho,hc⟩ isSubtype_stop ?_);exact wpAny_pure (hQ _ hk)
theorem zi {z TI TO:Addr} {o:Value} {f:Bool} {Q:Value->Shared->Prop} (hz:IsZ s.heap z TI TO o f) (h:Q (.ref z) s):wpAny (model prog w) A (pyIter (.ref z)) Q E s:=by have hT:=vk hz;refine wpAny_pyIter_slot hT F.slot_zip_iter (wpAny_call_entry F.slot_zip_iter hT F.entry_zip_iter ?_ (F.args_zip_iter_1 _));show wpAny _ _ (ret (.ref z)) _ _ s;exact wpAny_pure ⟨_,rfl,"zip",_,hT,F.slot_zip_next.lookup,h⟩
theorem GV{tg:Expr}{z TI TO T:Addr}{o:Value}{f:Bool}{Q:Unit->Shared->Prop}(hz:IsZ s.heap z TI TO o f)(ho:ou o)
  (hQ:∀ h' o' f',ou o'->IsZ h' z TI TO o' f'->Heap.SameBut z s.heap h'->Q () { s with heap:=h' }):wpAny (model prog w) A (letOwnedTupleGo tg (.ref z) (.ref T)) Q E s:=by
 have same:Q () s:=hQ s.heap o f ho hz (Heap.SameBut.refl _ _);have two:wpAny (model prog w) A (do
   let o <- load z
   match o.cls,o.data with
   | .type n,.fields vs =>
    if ["enumerate","zip","dict_itemiterator","dict_reverseitemiterator","odict_iterator","itertools.zip_longest","itertools.pairwise"].contains n&&vs[0]? == some (rawInt T) then
     rule "for.unpacks-the-owned-tuple"
     updateField z 0 .none
   | _,_=>pure ()) Q E s:=by
  refine wpAny_bind (wpAny_load hz ?_);show wpAny _ _ (if _ then _ else _) Q E s
  split
  ·refine wpAny_bind (wpAny_rule ?_);show wpAny _ _ (setField (.ref z) 0 .none) Q E s;exact wpAny_setField_rec hz (by simp) λh' hz' hs'=>hQ h' .none f (.inl rfl) hz' hs'
  ·exact wpAny_pure same
 unfold letOwnedTupleGo;cases tg <;> first
  | exact wpAny_pure same
  | exact two
end
end
section
open RZ
open PySem.Sem (wp)
def SqB(b:Bool)(K:Frg)(H:Hp)(a:Addr)(xs:List V):Prop:=cond b (SqT K H a xs) (SqL K H a xs)
section
variable {X:Cx}{pins:List (Addr × Obj)}{σ:L2.St}{H:Hp}{s:Shared}{b c:Bool}
theorem kc{a:Addr}{xs:List V}(I:Inv X pins σ H s)(h:SqB b X.K H a xs):∃ its:List Value,Vals xs its/\dZ b s.heap a its.toArray/\a < s.heap.objs.size/\xs.length<=sizeLine:=by
 cases b with
 | true =>
  obtain⟨its,r,p,z⟩:=I.tuple h;obtain⟨o,ho,_⟩:=id p;exact⟨its,r,p,Heap.lt_size ho,z⟩
 | false =>
  obtain⟨its,r,p,z⟩:=I.list h;exact⟨its,r,p.isList,p.lt,z⟩
theorem xT{a:Addr}{xs ys:List V}(I:Inv X pins σ H s)(h:SqB b X.K H a xs)(h':SqB b X.K H a ys):xs=ys:=by
 cases b with
 | true=>exact I.tuple_inj h h'
 | false=>exact I.list_inj h h'
end
def qv(b c:Bool)(K:Frg)(a l:Addr):It :=
 ⟨λi H=>∃(xs ys:List V)(x y:V),SqB b K H a xs/\SqB c K H l ys/\xs[i]?=some x/\ys[i]?=some y,
  λi H v H'=>∃ T x y,v=.ref T/\H T=none/\H'=upd H T (.tup [x,y])/\(∀ xs,SqB b K H a xs->xs[i]?=some x)/\∀ ys,SqB c K H l ys->ys[i]?=some y,
  λi H=>∃ xs ys:List V,SqB b K H a xs/\SqB c K H l ys/\(xs.length<=i∨ys.length<=i)⟩
theorem KJ{P:Program}{w:World}{K:Frg}{tg:Expr}{a l z TI TO i1 i2:Addr}{b c:Bool}(D:ZipApart z TI TO i1 i2 a l) :
  Turn P w K tg (qv b c K a l) [z,TI,TO,i1,i2] z (λi h=>ZSt b c h z TI TO i1 i2 a l i) where
 mem:=by simp
 obj:=λi h st d hd=>by
  obtain⟨⟨o,f,ho,hz⟩,hTI,⟨x,y,hTO⟩,h1,h2⟩:=st;have e':d=z∨d=TI∨d=TO∨d=i1∨d=i2:=by simpa using hd
  rcases e' with q|q|q|q|q
  ·rw[q];exact⟨_,hz,λv q=>nomatch q⟩
  ·rw[q];exact⟨_,hTI,λv q=>nomatch q⟩
  ·rw[q];exact⟨_,hTO,λv q=>nomatch q⟩
  ·rw[q];exact h1.live
  ·rw[q];exact h2.live
 keep:=λi h h' st k=>by
  obtain⟨⟨o,f,ho,hz⟩,hTI,⟨x,y,hTO⟩,h1,h2⟩:=st;exact⟨⟨o,f,ho,k z (by simp) _ hz⟩,k TI (by simp) _ hTI,⟨x,y,k TO (by simp) _ hTO⟩,h1.at λo q=>k i1 (by simp) o q,h2.at λo q=>k i2 (by simp) o q⟩
 item:=by
  intro X hP hw hK hc i pins s σ H E I hf st hg;subst hP hw hK;obtain⟨xs,ys,x,y,hqx,hqy,hx,hy⟩:=hg;obtain⟨its,rv,p,_,_⟩:=kc I hqx;obtain⟨its2,rv2,p2,_,_⟩:=kc I hqy;obtain⟨u,hu,ru⟩:=rv.get hx;obtain⟨u2,hu2,ru2⟩:=rv2.get hy;have lt:∀ d∈[z,TI,TO,i1,i2],d < s.heap.objs.size:=λd hd=>by
   obtain⟨⟨o,f,ho,hz⟩,hTI,⟨x,y,hTO⟩,h1,h2⟩:=id st;have e':d=z∨d=TI∨d=TO∨d=i1∨d=i2:=by simpa using hd
   rcases e' with q|q|q|q|q
   ·rw[q];exact Heap.lt_size hz
   ·rw[q];exact Heap.lt_size hTI
   ·rw[q];exact Heap.lt_size hTO
   ·rw[q];obtain⟨_,e1,_⟩:=h1.live;exact Heap.lt_size e1
   ·rw[q];obtain⟨_,e1,_⟩:=h2.live;exact Heap.lt_size e1
  refine Jo D st p p2 (x:=u) (y:=u2) (by simpa using hu) (by simpa using hu2) λh' st' hT hsz hk=>?_;obtain⟨o',f',ho',hz'⟩:=st'.z;refine⟨_,rfl,GV (s:={ s with heap:=h' }) hz' ho' λh'' o'' f'' ho'' hz'' sb=>?_⟩;have hzl:z < s.heap.objs.size:=lt z (by simp);have hT2:h''.get? s.heap.objs.size=some { cls:=.type "tuple",data:=.seq #[u,u2] }:=(sb.2 _ (Nat.ne_of_gt hzl)).trans hT;have new:ObjOk X.prog X.w (upd H s.heap.objs.size (.tup [x,y])) h'' s.heap.objs.size (.tup [x,y]) :=
   ⟨by show 2<=sizeLine;decide,[u,u2],.cons ru (.cons ru2 .nil),⟨_,hT2,rfl,_,rfl⟩⟩
  have I1:Inv X pins σ (upd H s.heap.objs.size (.tup [x,y])) { s with heap:=h'' } :=
   I.turnedNew (t':=s.toks) (ch:=[z,TI,TO,i1,i2]) (λd o hb q=>(sb.2 d (λq'=>hb (by simp [q']))).trans (hk d o (λq'=>hb (by simp [q'])) (λq'=>hb (by simp [q'])) (λq'=>hb (by simp [q'])) (λq'=>hb (by simp [q'])) q)) hf (aP _) new
  have st2:ZSt b c h'' z TI TO i1 i2 a l (i+1):=⟨⟨o'',f'',ho'',hz''⟩,(sb.2 _ D.TIz).trans st'.ti,by
   obtain⟨x',y',q⟩:=st'.to;exact⟨x',y',(sb.2 _ D.TOz).trans q⟩,st'.i1.at λo q=>(sb.2 _ D.i1z).trans q,st'.i2.at λo q=>(sb.2 _ D.i2z).trans q⟩
  refine⟨.ref s.heap.objs.size,_,I1,rfl,⟨_,x,y,rfl,I.hok.fresh (aP _),rfl,λl' hl=>by rw[xT I hl hqx];exact hx,λl' hl=>by rw[xT I hl hqy];exact hy⟩,st2,λd hd=>?_⟩;rw[upd_ne (Nat.ne_of_lt (lt d hd))];exact(hf d hd).1
 done:=by
  intro X hP hw hK hc i pins s σ H E I hf st hg;subst hP hw hK;obtain⟨xs,ys,hqx,hqy,hend⟩:=hg;obtain⟨its,rv,p,_,_⟩:=kc I hqx;obtain⟨its2,rv2,p2,_,_⟩:=kc I hqy;have l1:=rv.length;have l2:=rv2.length;have he:its.toArray[i]?=none∨its2.toArray[i]?=none:=by
   rcases hend with q|q
   ·exact .inl (by simp;omega)
   ·exact .inr (by simp;omega)
  exact Jp (I.ok.hd hc) D st p p2 he λh' hk=>⟨rfl,I.turnedL (t':=s.toks) (ch:=[z,TI,TO,i1,i2]) (λd o hb q =>
   hk d o (λq'=>hb (by simp [q'])) (λq'=>hb (by simp [q'])) (λq'=>hb (by simp [q'])) (λq'=>hb (by simp [q'])) q) hf⟩
 self:=λA i s Q E st h=>by
  obtain⟨o,f,ho,hz⟩:=st.z;exact zi hz h
def xY (b:Bool) (l:Addr):Obj:=cond b { cls:=.type "tuple_iterator",data:=.fields #[.ref l,.int 0 0] } { cls:=.type "list_iterator",data:=.fields #[.ref l,.int 0 0] }
theorem vL(b:Bool)(l:Addr)(items:Array Value):Begins (.ref l) (xY b l) λh=>dZ b h l items:=by
 cases b with
 | true=>exact begins_tuple l items
 | false=>exact begins_list l items
theorem xW{b:Bool}{h:Heap}{it l:Addr}(e:h.get? it=some (xY b l)):eG b h it l 0:=by
 cases b with
 | true=>exact⟨_,e,rfl,rfl⟩
 | false=>exact⟨_,e,rfl,rfl⟩
theorem HQ{X:Cx}{pins:List (Addr × Obj)}{σ:L2.St}{H:Hp}{s:Shared}{b c:Bool}{a l:Addr}{xs ys:List V}{Q:Value->Shared->Prop}{E:Value->Shared->Prop}(I:Inv X pins σ H s)(hx:SqB b X.K H a xs)(hy:SqB c X.K H l ys)
  (h:∀(z TI TO i1 i2:Addr) (h':Heap),Inv X pins σ H { s with heap:=h' }->ZipApart z TI TO i1 i2 a l->ZSt b c h' z TI TO i1 i2 a l 0->(∀ d∈[z,TI,TO,i1,i2],FpOk X pins H d/\s.heap.objs.size<=d/\d < h'.objs.size)->(∀ d o,s.heap.get? d=some o->h'.get? d=some o)->Q (.ref z) { s with heap:=h' }) :
  wpAny (model X.prog X.w) X.A (call (.type "zip") [.ref a,.ref l]) Q E s:=by
 obtain⟨its,rv,p,lt1,_⟩:=kc I hx;obtain⟨its2,rv2,p2,lt2,_⟩:=kc I hy;refine zip_begins2 (vL b a its.toArray) (vL c l its2.toArray) p p2 λh' hz hTI hTO g1 g2 hsz hk=>?_;refine h _ (s.heap.objs.size+2) (s.heap.objs.size+3) s.heap.objs.size (s.heap.objs.size+1) h' (I.kept (t':=s.toks) hk) (PySem.W.ktu_apart s.heap.objs.size a l lt1 lt2) ⟨⟨_,_,.inl rfl,hz⟩,hTI,⟨_,_,hTO⟩,xW g1,xW g2⟩ (λd hd=>?_) hk;have e':d=s.heap.objs.size+4∨d=s.heap.objs.size+2∨d=s.heap.objs.size+3∨d=s.heap.objs.size∨d=s.heap.objs.size+1:=by simpa using hd
 have hle:s.heap.objs.size<=d/\d < h'.objs.size:=by
  rw[hsz];show (s.heap.objs.size:Nat)<=d/\(d:Nat) < s.heap.objs.size+5;rcases e' with z|z|z|z|z <;> subst z <;> constructor <;> first|exact Nat.le_add_right _ _|exact aP _|(exact Nat.add_lt_add_left (by decide) _)|(exact Nat.lt_add_of_pos_right (by decide))
 exact⟨I.fpOk hle.1 (I.hok.fresh hle.1),hle⟩
def GX(K:Frg)(ta:TA):TI:=λσ H R=>ta σ H λvs H1=>∃ b c a l xs ys,vs=[.ref a,.ref l]/\SqB b K H1 a xs/\SqB c K H1 l ys/\R (qv b c K a l) H1
theorem Ja {X:Cx} {e e2:Expr} {ta:TA} {p pos:Pos} {tg:Expr} (hg:Gl X "zip") (hm:X.mg "zip"=none) (ha:PA X [e,e2] ta)
  (hs:starEach [e,e2] X.env=(false,eval e X.env)::starEach [e2] X.env:=by rfl) (hpl:(backTo pos (starEach [e2] X.env)).any (·.1)=false:=by rfl) :
  PI X tg (.Call (.Name "zip" p) [e,e2] [] pos) (GX X.K ta):=by
 refine⟨λpins s σ H R I h=>?_⟩;refine Call_ (ld_blt I hg hm PyProof.Rows.boot_zip (PyProof.Rows.callWith_type1 (thn (ha.run pos pins s σ H _ I h) λus s1 ⟨vs,H1,I1,r1,q1⟩=>?_) hs hpl));obtain⟨b,c,a,l,xs,ys,ex,qx,qy,q⟩:=q1;subst ex;cases r1 with
 | cons r rr =>
  cases rr with
  | cons r' rr =>
   cases rr;cases r;cases r';refine HQ I1 qx qy λz TI TO i1 i2 h' I2 D st hf hk=>?_;obtain⟨o,f,ho,hz⟩:=id st.z;exact zi hz ⟨z,[z,TI,TO,i1,i2],_,_,H1,rfl,I2,KJ D,st,λd hd=>(hf d hd).1,q⟩
def ix:Tr->Option (Bool × List Tr)
 | .lst xs=>some (false,xs)
 | .scr ns=>some (false,ns.map Tr.int)
 | .tup xs=>some (true,xs)
 | _=>none
theorem xn{K:Frg}{S:Gh}{d:Tr}{v:V}{b:Bool}{xs:List Tr}(r:Rep K S d v)(e:ix d=some (b,xs)):∃ a vs,v=.ref a/\SqB b K S.G a vs/\ah K S xs vs:=by
 cases d with
 | lst ys =>
  simp only[ix,Option.some.injEq,Prod.mk.injEq] at e;obtain⟨rfl,rfl⟩:=e;simp only[Rep] at r;obtain⟨a,vs,rfl,g,q⟩:=r;exact⟨a,vs,rfl,SqL.of g,q⟩
 | scr ns =>
  simp only[ix,Option.some.injEq,Prod.mk.injEq] at e;obtain⟨rfl,rfl⟩:=e;simp only[Rep] at r;obtain⟨a,rfl,g⟩:=r;exact⟨a,_,rfl,g,(ah.ints ns).mpr rfl⟩
 | tup ys =>
  simp only[ix,Option.some.injEq,Prod.mk.injEq] at e;obtain⟨rfl,rfl⟩:=e;simp only[Rep] at r;obtain⟨a,vs,rfl,g,q⟩:=r;exact⟨a,vs,rfl,g,q⟩
 | _=>simp [ix] at e
section
variable {K:Frg}{S:Gh}{M:Me}{H:Hp}{b c:Bool}
theorem OkH.sqB(o:OkH K S M H){a:Addr}{vs:List V}(e:SqB b K S.G a vs):SqB b K H a vs:=by
 cases b with
 | true=>exact o.sqT e
 | false=>exact o.sqL e
theorem Le.sqB{S':Gh}(h:Le S S'){a:Addr}{vs:List V}(e:SqB b K S.G a vs):SqB b K S'.G a vs:=by
 cases b with
 | true=>exact h.sqT e
 | false=>exact h.sqL e
theorem K7{a l:Addr}{vs ws:List V}{xs ys:List Tr}{H0:Hp}(g:SqB b K S.G a vs)(r:ah K S xs vs)(g':SqB c K S.G l ws)(r':ah K S ys ws):ig K (qv b c K a l) (eC xs ys) S H0 where
 go:=λi S2 M2 H l o hi=>by
  have h1:=r.length;have h2:=r'.length;rw[qi] at hi;exact⟨vs,ws,vs[i]'(by omega),ws[i]'(by omega),o.sqB (l.sqB g),o.sqB (l.sqB g'),by simp [show i < vs.length by omega],by simp [show i < ws.length by omega]⟩
 yld:=λi S2 M2 H x H2 l o hi y=>by
  obtain⟨T,w,z,rfl,n,rfl,y1,y2⟩:=y;obtain⟨d,e1,e2⟩:=r.get' (y1 vs (o.sqB (l.sqB g)));obtain⟨d',f1,f2⟩:=r'.get' (y2 ws (o.sqB (l.sqB g')));obtain⟨S3,l3,o3,r3⟩:=nZ (ds:=[d,d']) (vs:=[w,z]) o (ah.cons (Rep.mono l _ _ e2) (ah.cons (Rep.mono l _ _ f2) ah.nil)) n;exact⟨S3,_,CI xs ys i d d' e1 f1,l3,o3,r3⟩
 stop:=λS2 M2 H l o=>⟨vs,ws,o.sqB (l.sqB g),o.sqB (l.sqB g'),by rw[qi,<- r.length,<- r'.length];omega⟩
end
def sa(u:Rd (List Tr)):Rd (List Tr):=⟨λρ M Q E=>u.f ρ M (λds M1=>match ds with
 | [d,e]=>au (ix d) λxs=>au (ix e) λys=>Q (eC xs.2 ys.2) M1
 | _=>False) E,λh h' q=>u.mono (λds M1 z=>by
  split at z
  ·exact cm (λ_=>cm λ_=>h _ _) z
  ·exact z.elim) h' q⟩
theorem IY {X:Cx} {W:WX} {pos p:Pos} {tg a b:Expr} {u:Rd (List Tr)} (hg:Gl X "zip") (hm:X.mg "zip"=none) (ha:PDA X W [a,b] u) (hs:starEach [a,b] X.env=(false,eval a X.env)::starEach [b] X.env:=by rfl) (hpl:(backTo pos (starEach [b] X.env)).any (·.1)=false:=by rfl) :
  PDI X W tg (.Call (.Name "zip" p) [a,b] [] pos) (sa u):=oD (Ja hg hm ha hs hpl) λσ H R h=>by
 obtain⟨ρ,M,S,E,o,sl,er,q⟩:=h;refine⟨ρ,M,S,E,o,sl,er,u.mono (λds M1 q1 vs H1 S1 l1 o1 r1=>?_) (λ_ _ z=>z) q⟩;dsimp only at q1
 split at q1
 ·obtain⟨⟨b1,xs⟩,e,q2⟩:=b8 q1;obtain⟨⟨b2,ys⟩,e',q3⟩:=b8 q2;obtain⟨v,v',rfl,rv,rv'⟩:=lI r1;obtain⟨a,ws,rfl,g,rs⟩:=xn rv e;obtain⟨b,ws',rfl,g',rs'⟩:=xn rv' e';exact⟨b1,b2,a,b,ws,ws',rfl,o1.sqB g,o1.sqB g',q3 _ H1 S1 l1 o1 (K7 g rs g' rs')⟩
 ·exact q1.elim
end
section
open RZ
open PySem.Sem (wp)
end
section
open RZ
open PySem.Sem (wp)
end
section
variable {X:Cx}{W:WX}{pos:Pos}{K:Frg}
structure MkD(K:Frg)(S1:Gh)(H1:Hp)(D:Addr)(ks:List Key)(ds:List Tr)(M':Me)(S':Gh)(H':Hp):Prop where
 ex:∃ kvs:List (Key × V),Gr S1 H1 S' H'/\OkH K S' M' H'/\H' D=some (.dK kvs)/\S'.G D=none/\D∉S'.C/\kvs.map Prod.fst=ks/\ah K S' ds (kvs.map Prod.snd)
theorem MkD.grow{S1 S' S4:Gh}{H1 H' H4:Hp}{D:Addr}{ks:List Key}{ds:List Tr}{M' M4:Me}(m:MkD K S1 H1 D ks ds M' S' H')(l:Gr S' H' S4 H4)(o:OkH K S4 M4 H4):MkD K S1 H1 D ks ds M4 S4 H4:=by obtain⟨kvs,l',o',hD,gD,cD,hk,ra⟩:=m.ex;obtain⟨d1,d2,d3⟩:=l.held hD gD cD;exact⟨kvs,l'.trans l,o,d1,d2,d3,hk,ah.mono l.le _ _ ra⟩
def yU(c:Bool)(ks:List Key)(ds:List Tr)(M:Me)(Q:Tr->Me->Prop):Prop:=if c=true then Q (.cell M.length) (M++[.dct ks ds]) else Q (.dct ks ds) M
theorem MkD.fin{S S1 S':Gh}{H H1 H':Hp}{D:Addr}{ks:List Key}{ds:List Tr}{M':Me}{c:Bool}{Q:VK}(l1:Gr S H S1 H1)(nD:H1 D=none)(m:MkD K S1 H1 D ks ds M' S' H')
  (q:yU c ks ds M' λd M'=>∀ v H' S',Gr S H S' H'->OkH K S' M' H'->Rep K S' d v->Q v H'):Q (.ref D) H':=by
 obtain⟨kvs,l',o',hD,gD,cD,hk,ra⟩:=m.ex;have L:=l1.trans l';have hn:D∉S.C->NT H D:=λhc u e=>Classical.byContradiction λhu=>by
  have:=l1.keep D u e (λps z=>hu ⟨ps,z⟩) hc;rw[nD] at this;cases this
 unfold yU at q
 split at q
 ·obtain⟨o6,l6⟩:=o'.cellAt (c:=.dct ks ds) gD cD ⟨gD,kvs,hD,hk,ra⟩;refine q (.ref D) H' ⟨S'.G,S'.C++[D]⟩ ⟨L.le.trans l6,λa h1 h2=>?_,L.keep,L.fz⟩ o6 ?_
  ·rcases bf.mp h1 with h|h
   ·exact L.new a h h2
   ·rw[cB.mp h] at h2 ⊢;exact hn h2
  ·simp only[Rep];exact⟨D,rfl,by rw[show M'.length=S'.C.length from o'.len.symm];simp⟩
 ·obtain⟨o6,l6⟩:=o'.view hD gD cD;have G6:Gr S H ⟨upd S'.G D (.dK kvs),S'.C⟩ H':=by
   refine⟨L.le.trans l6,L.new,L.keep,λa h1 h2=>?_⟩
   by_cases ha:a=D
   ·subst ha
    by_cases hc:a∈S.C
    ·exact .inr hc
    ·exact .inl (hn hc).nx
   ·rw[show (⟨upd S'.G D (.dK kvs),S'.C⟩:Gh).G a=S'.G a from upd_ne ha] at h2;exact L.fz a h1 h2
  refine q (.ref D) H' _ G6 o6 ?_;simp only[Rep];exact⟨D,kvs,rfl,upd_same,hk,ah.mono l6 _ _ ra⟩
def iT:FA:=λM ds=>match ds with
 | [.int i]=>if i.natAbs.log2 < 1920 then some (.str (toString i),M) else none
 | [.str x]=>some (.str x,M)
 | [.non]=>some (.str "None",M)
 | _=>none
theorem DZ:CallR X (.type "str") (λxs H Q=>xs=[.non]/\Q (.str "None") H):=by intro pins s σ H xs us Q I r h;obtain⟨rfl,q⟩:=h;obtain⟨u,rfl,rfl⟩:=vals1 r;exact PySem.P.str_of_none ⟨.str _,H,I.tok _,⟨_,rfl⟩,q⟩
theorem vS:CallR X (.type "str") (rA X.K iT):=i9 (.or (.or call_str_int SkE.call_str_str) DZ) λvs H Q h=>by
 obtain⟨S,M,ds,z,M',o,r,hz,k⟩:=h;unfold iT at hz
 split at hz
 ·split at hz
  ·rename_i hl;cases hz;obtain⟨v,rfl,r1⟩:=ew r;simp only[Rep] at r1;exact .inl (.inl ⟨_,by rw[r1],hl,k _ H S (Gr.refl S H) o fb⟩)
  ·cases hz
 ·cases hz;obtain⟨v,rfl,r1⟩:=ew r;simp only[Rep] at r1;exact .inl (.inr ⟨_,by rw[r1],k _ H S (Gr.refl S H) o fb⟩)
 ·cases hz;obtain⟨v,rfl,r1⟩:=ew r;simp only[Rep] at r1;exact .inr ⟨by rw[r1],k _ H S (Gr.refl S H) o fb⟩
 ·cases hz
def sD:Tr->Option Str
 | .str y=>if y.length<=big then some y else none
 | .int i=>if i.natAbs.log2 < 1920 then some (toString i) else none
 | _=>none
def rT(t:Rd Tr):Rd Tr:=⟨λρ M Q E=>t.f ρ M (λd M1=>au (sD d) λy=>Q (.str y) M1) E,λh h' q=>t.mono (λd M1=>cm λy=>h _ M1) h' q⟩
theorem IM{e:Expr}{t:Rd Tr}(he:PD X W e t):PD X W (.FormattedValue e (-1) none pos) (rT t):=bA (pe_fmt he) λσ H Q h=>by
 obtain⟨ρ,M,S,E,o,s,er,q⟩:=h;refine⟨ρ,M,S,E,o,s,er,t.mono (λd M1 q1 v H1 S1 l1 o1 r1=>?_) (λ_ _ z=>z) q⟩;obtain⟨y,e,q2⟩:=b8 q1;unfold sD at e
 split at e
 ·split at e
  ·rename_i hl;cases e;simp only[Rep] at r1;exact .inl ⟨_,r1,by rw[<- cU];exact hl,q2 _ H1 S1 l1 o1 fb⟩
  ·cases e
 ·split at e
  ·rename_i hl;cases e;simp only[Rep] at r1;exact .inr ⟨_,r1,hl,q2 _ H1 S1 l1 o1 fb⟩
  ·cases e
 ·cases e
def dJs:List (Rd Tr)->Str->Rd Str
 | [],acc=>⟨λ_ M Q _=>Q acc M,λh _ q=>h _ _ q⟩
 | t::ts,acc=>⟨λρ M Q E=>t.f ρ M (λd M1=>match d with
  | .str y=>(acc++y).length<=big/\(dJs ts (acc++y)).f ρ M1 Q E
  | _=>False) E,λh h' q=>t.mono (λd M1 z=>by
   split at z
   ·exact⟨z.1,(dJs ts _).mono h h' z.2⟩
   ·exact z.elim) h' q⟩
def rW(ts:List (Rd Tr)):Rd Tr:=⟨λρ M Q E=>(dJs ts Str.empty).f ρ M (λy M1=>Q (.str y) M1) E,λh h' q=>(dJs ts _).mono (λy M1=>h _ M1) h' q⟩
inductive PDJ (X:Cx) (W:WX):List Expr->List (Rd Tr)->Prop where
 | nil:PDJ X W [] []
 | cons {e:Expr} {t:Rd Tr} {es:List Expr} {ts:List (Rd Tr)} (h:PD X W e t) (r:PDJ X W es ts):PDJ X W (e::es) (t::ts)
theorem PDJ.pj{es:List Expr}{ts:List (Rd Tr)}(h:PDJ X W es ts):PJ X es (ts.map (bO X.K W)):=by
 induction h with
 | nil=>exact .nil
 | cons h _ ih=>exact .cons h ih
theorem yo:∀(ts:List (Rd Tr)){acc:Str}{ρ:En}{M:Me}{S:Gh}{E:TK}{σ:L2.St}{H:Hp}{Qd:Str->Me->Prop}{Q:Str->Hp->Prop},OkH K S M H->be K S ρ σ->fj K W S H σ E->(dJs ts acc).f ρ M Qd E ->
  (∀ y M1 H1 S1,Gr S H S1 H1->OkH K S1 M1 H1->Qd y M1->Q y H1)->tJs (ts.map (bO K W)) acc σ H Q
 | [],acc,ρ,M,S,E,σ,H,Qd,Q,o,s,er,q,k=>k acc M H S (Gr.refl S H) o q
 | t::ts,acc,ρ,M,S,E,σ,H,Qd,Q,o,s,er,q,k=>by
  refine⟨ρ,M,S,E,o,s,er,t.mono (λd M1 q1 v H1 S1 l1 o1 r1=>?_) (λ_ _ z=>z) q⟩
  split at q1
  ·simp only[Rep] at r1;exact⟨_,r1,by rw[<- cU];exact q1.1,yo ts o1 (s.mono l1.le) (er.mono l1) q1.2 λy M2 H2 S2 l2 o2 q2=>k y M2 H2 S2 (l1.trans l2) o2 q2⟩
  ·exact q1.elim
theorem IQ{v1 v2:Expr}{rest:List Expr}{ts:List (Rd Tr)}(h:PDJ X W (v1::v2::rest) ts):PD X W (.JoinedStr (v1::v2::rest) pos) (rW ts):=bA (pe_joined h.pj) λσ H Q h=>by
 obtain⟨ρ,M,S,E,o,s,er,q⟩:=h;exact yo ts o s er q λy M1 H1 S1 l1 o1 q1=>q1 _ H1 S1 l1 o1 fb
end
section
variable {X:Cx}{W:WX}{pos:Pos}{K:Frg}
theorem sA{S S':Gh}{d:Tr}{v:V}(h:bI d=true)(r:Rep K S d v):Rep K S' d v:=by
 cases d with
 | non=>simpa only [Rep] using r
 | bl b=>simpa only [Rep] using r
 | int b=>simpa only [Rep] using r
 | str b=>simpa only [Rep] using r
 | _=>simp [bI] at h
end
section
variable {K:Frg}{S:Gh}{M:Me}{H:Hp}{j:Nat}{d:Tr}
end
section
variable {K:Frg}{C:List Addr}{G G':Hp}{d:Addr}
end
theorem lay{X:Cx}{pins:List (Addr × Obj)}{σ:L2.St}{H:Hp}{s:Shared}{a:Addr}{o:HO}(I:Inv X pins σ H s)(na:H a=none)(n0:X.s_0.heap.get? a=none)(nL:a≠X.env.locals)(nC:∀ x c,X.env.cells.lookup x=some c->c≠a)
  (nP:∀ p∈X.pn++pins,p.1≠a) (new:ObjOk X.prog X.w (upd H a o) s.heap a o):Inv X pins σ (upd H a o) s where
 ok:=I.ok
 os:=I.os
 bare:=I.bare
 base:=by
  have ne:∀ b u,H b=some u->b≠a:=λb u e z=>by rw[z,na] at e;cases e
  have u:=I.base;exact⟨u.keep,u.slot,λb ob e n hx=>by rw[upd_ne (λz=>by rw[z,n0] at e;cases e)];exact u.free b ob e n hx,u.there,
   λb xs e=>by rw[upd_ne (ne _ _ (u.tups b xs e))];exact u.tups b xs e,λb ob v e=>by rw[upd_ne (ne _ _ (u.frzs b ob v e))];exact u.frzs b ob v e,
   λb ps e=>by
    obtain⟨m,q⟩:=u.tbls b ps e;exact⟨m,by rw[upd_ne (ne _ _ q)];exact q⟩⟩
 loc:=I.loc
 cell:=I.cell
 free:=by rw[upd_ne nL.symm];exact I.free
 freeC:=λx c e=>by rw[upd_ne (nC x c e)];exact I.freeC x c e
 pin:=λp hp=>by
  obtain⟨h1,h2,h3⟩:=I.pin p hp;exact⟨h1,by rw[upd_ne (nP p hp)];exact h2,h3⟩
 hok:=I.hok.laidN (λ_ _ e=>e) na new
 len:=I.len
theorem E1{P:Program}{w:World}{H:Hp}{h:Heap}{a:Addr}{cls:Value}{dd:Option Addr}{oe:Obj}{vs:Array Value}(e:h.get? a=some oe)(z:Zc cls dd oe)(d:oe.data=.fields vs):ObjOk P w H h a (ExX cls dd a) :=
 ⟨⟨oe,vs,e,z,d⟩,⟨oe,e⟩,λ_ _ ⟨o,v,q,r⟩ k=>⟨o,v,k o q,r⟩⟩
def vb(K:Frg)(c:Value)(i:Nat)(ts:Addr->Value->Option Addr->TS)(Wout:WX)(D:Ends):WX:=λcls d σ H =>
 ∃ b,PySem.W.exmOne K cls c=some b /\
  (b=true->∀ a,H a=none->ts a cls d { nx:=λσ' H'=>H' a=none->D.nx (σ'.set i none) (upd H' a (ExX cls d a)),rt:=λ_ _=>False } (σ.set i (some (.ref a))) H)/\(b=false->Wout cls d σ H)
section
variable {X:Cx}{x n:Str}{c:Value}{i:Nat}{body suite:List Stmt}{b₀:Stmt}{np pos pos':Pos}{tb:WX->TS}{ts:Addr->Value->Option Addr->TS}{Wout:WX}
theorem Jg(hs:X.stack=X.env::X.outer)(hf:X.env.frame=some X.env.locals)(hex:X.ex=[])(hN:X.N.Nodup)(hi:X.N[i]?=some n)(hln:X.env.kindOf n=some .local)(hc:Names X x c)(tk:Takes X Wout)
  (hb:∀(W:WX)(pn:List (Addr × Obj))(xe:Value->Shared->Prop),Takes (X.tr pn xe) W->PassesOwn (model X.prog X.w) X.A X.env xe->PSs (X.tr pn xe) body (tb W))
  (hsu:∀(a:Addr)(oe:Obj)(cls:Value)(d:Option Addr)(pn:List (Addr × Obj)),Zc cls d oe->(∃ vs,oe.data=.fields vs)->PSs (X.suite a ((a,oe)::pn)) (b₀::suite) (ts a cls d)) :
  PS X (.Try body [.ExceptHandler (some (.Name x np)) (some n) (b₀::suite) pos'] [] [] pos) (λD σ H=>tb (vb X.K c i ts Wout D) D σ H):=by
 refine⟨λpins s σ H D I h=>?_⟩;have ok:=I.ok;have frame0:X.A.frames=some (X.env::X.outer):=by rw[ok.frames,hs]
 refine wpAny_Try_except (wpAny_mono ((hb (vb X.K c i ts Wout D) (X.pn++pins) _ (λu s' xx=>?_) PassesOwn.looking).run [] s σ H D (I.toTry _) h) (λf s1 hsp=>?_) (λe s1 he=>he))
 ·-- an exception of the body
  obtain⟨a,B,sI,pins',σ',H',cls,d,rfl,J',nb,up,sky,na,os,ag,b,hb1,hyes,hno⟩:=xx;have J:Inv X pins σ' H' sI:=J'.ofTry ok;rw[hs] at sky;show wpAny (model X.prog X.w) X.A (noteFrame (.ref a) X.env) _ _ _;refine Sky.land Zc.steady frame0 hf sky λh3 fl3 up3=>?_;have J3:Inv X pins σ' H' { s' with heap:=h3 }:=J.landed nb fl3.1 (up.trans up3) os ag;obtain⟨oe3,vs3,he3,hz3,hd3⟩:=fl3.there
  -- the exception is no frame,and was not there before
  have outFr:a∉frs (X.env::X.outer):=λhm=>by
   obtain⟨_,o',e',hnf⟩:=fl3.2.2.1.mem hm;rw[he3] at e';cases e';exact hnf _ hd3
  have nL:a≠X.env.locals:=λz=>outFr (List.mem_filterMap.mpr ⟨X.env,a6,by rw[hf,z]⟩);have nF:a∉X.fs:=λhm=>by
   obtain⟨e,he,q⟩:=List.mem_filterMap.mp hm;exact outFr (List.mem_filterMap.mpr ⟨e,aZ _ he,q⟩)
  have newI:sI.heap.get? a=none:=by
   cases q:sI.heap.get? a with
   | none=>rfl
   | some o =>
    have z:=nb a o q (by rw[hs];exact outFr);rw[fl3.2.1] at z;cases z
  have new0:X.s_0.heap.get? a=none:=by
   cases q:X.s_0.heap.get? a with
   | none=>rfl
   | some o =>
    obtain⟨o',z⟩:=J.base.there a o q (by rw[hex];exact λz=>nomatch z);rw[newI] at z;cases z
  have nP:∀ p∈X.pn++pins,p.1≠a:=λp hp z=>by
   have q:=(J.pin p hp).1;rw[z,newI] at q;cases q
  have S3:=J3.suite he3 hd3 na nL nF;refine wpAny_handleBy_cons (codeAny_handlers_test ?_) (by intro q;cases q);have LT:PySem.W.Looks (model X.prog X.w) h3 (typeOf (.ref a)) cls:=λA Q E s k q=>wpAny_typeOf_ref (k _ _ he3) (by rw[hz3.1];exact q);have LM:=PySem.W.exm_one (M:=model X.prog X.w) J3.kIn LT hb1;have asked:∀{Q:Value->Shared->Prop}{E:Value->Shared->Prop},Q c { s' with heap:=h3 }->wpAny (model X.prog X.w) (X.A.mark (some (.ref a))) (eval (.Name x np) X.env) Q E { s' with heap:=h3 }:=λ{Q E} q=>by
   obtain⟨hg,hdbg,hm|⟨hm,hv,hnn⟩⟩:=hc
   ·exact ld_glob (X:=X.suite a ((a,oe3)::(X.pn++pins))) S3 hg hm q hdbg
   ·exact ld_blt (X:=X.suite a ((a,oe3)::(X.pn++pins))) S3 hg hm hv q hnn hdbg
  refine asked (LM.here ?_);cases b with
  | true =>
   refine codeAny_handlers_suite_as (HandSPX.lands_againZ fl3 λh4 fl4 up4=>?_);have J4:Inv X pins σ' H' { s' with heap:=h4 }:=J.landed nb fl4.1 ((up.trans up3).trans up4) os ag;obtain⟨oe4,vs4,he4,hz4,hd4⟩:=fl4.there;refine store_ok (X:=X.suite a ((a,oe4)::(X.pn++pins))) (v:=.ref a) (J4.suite he4 hd4 na nL nF) hN hi (.inl hln) rfl (λs5 S5=>?_) (.inr hln);refine wpAny_mono ((hsu a oe4 cls d (X.pn++pins) hz4 ⟨_,hd4⟩).run [] s5 _ H' _ S5 (hyes rfl a na)) (λf s6 hsp=>?_) (λ_ _ z=>False.elim z);cases f with
   | next =>
    obtain⟨σ6,H6,S6,q6⟩:=hsp
    -- out of the suite,the exception pinned
    have J6:Inv X ((a,oe4)::pins) σ6 H6 s6:=⟨ok,S6.os,S6.bare,S6.base,S6.loc,S6.cell,S6.free,S6.freeC,λp hp=>S6.pin p (by
     rcases bf.mp hp with hp|hp
     ·exact aag _ (aZ _ (aag _ hp))
     ·rcases aM.mp hp with hp|hp
      ·exact aag _ (by rw[hp];exact a6)
      ·exact aag _ (aZ _ (aai _ hp))),S6.hok,S6.len⟩
    have n6:H6 a=none:=(J6.pin (a,oe4) (aai _ a6)).2.1;refine gone_ok J6 hN hi hln λs7 J7=>?_;have there7:s7.heap.get? a=some oe4:=(J7.pin (a,oe4) (aai _ a6)).1;have J8:Inv X pins (σ6.set i none) H6 s7:=⟨ok,J7.os,J7.bare,J7.base,J7.loc,J7.cell,J7.free,J7.freeC,λp hp=>J7.pin p (by
     rcases bf.mp hp with hp|hp
     ·exact aag _ hp
     ·exact aai _ (aZ _ hp)),J7.hok,J7.len⟩
    refine⟨_,_,lay J8 n6 new0 nL (λy k e z=>?_) nP (E1 there7 hz4 hd4),q6 n6⟩;obtain⟨v,o,ho,hdc⟩:=J8.cell y k e;rw[z,there7] at ho;cases ho;rw[hd4] at hdc;cases hdc
   | brk=>obtain⟨_,_,_,q6⟩:=hsp;exact q6.elim
   | cont=>obtain⟨_,_,_,q6⟩:=hsp;exact q6.elim
   | ret u=>obtain⟨_,_,_,_,_,q6⟩:=hsp;exact q6.elim
  | false =>
   -- not of that class: it goes on
   show wpAny _ X.A (handleBy (.ref a) X.env []) _ _ _;refine wpAny_handleBy_nil ?_;obtain⟨_,_,_,oe,vs,T,oT,ts',he,hz,hd,h1,hr⟩:=id fl3;unfold PySem.passOn;refine wpAny_bind (wpAny_field he hd h1 ?_);rw[if_neg (by simp)];have goes:wpAny (model X.prog X.w) X.A (setFlight (.ref a) X.env.frame) (λ_ s4=>wpAny (model X.prog X.w) X.A (throw (.ref a):Sem Flow) (SP X pins D) X.xe s4) X.xe { s' with heap:=h3 }:=by rw[hf];exact HandSPX.setFlight_upZ fl3 λh4 hh4 up4=>wpAny_throw (tk _ _ ⟨a,B,sI,pins,σ',H',cls,d,rfl,J,nb,(up.trans up3).trans up4,.inr (.inr (by rw[hs];exact hh4)),na,os,ag,hno rfl⟩)
   first
    | exact wpAny_bind (wpAny_pure (wpAny_bind goes))
    | exact wpAny_bind goes
 ·-- none
  cases f with
  | next =>
   obtain⟨σ',H',J',q⟩:=hsp;exact wpAny_execs_nil ⟨σ',H',J'.ofTry ok,q⟩
  | brk=>obtain⟨σ',H',J',q⟩:=hsp;exact⟨σ',H',J'.ofTry ok,q⟩
  | cont=>obtain⟨σ',H',J',q⟩:=hsp;exact⟨σ',H',J'.ofTry ok,q⟩
  | ret u=>obtain⟨v,σ',H',J',r,q⟩:=hsp;exact⟨v,σ',H',J'.ofTry ok,r,q⟩
end
structure XcK(K:Frg)(c:Nat):Prop where
 no:efs c=[]
 ex:PySem.W.excIn K (He.ga K (enm c)) [.type "ValueError",.type "Exception",.type "BaseException",.type "object"] "ValueError.__new__"=true
 kp:PySem.W.keepIn K (.ref (He.ga K (enm c)))=true
 sb:PySem.W.subIn K (.ref (He.ga K (enm c))) (.type "BaseException")=some true
 ty:PySem.W.typeIn K (.ref (He.ga K (enm c)))=some (.type "type")
structure XsK(K:Frg)(ec:List Nat):Prop where
 sub:∀ c∈ec,∀ ce∈ec,PySem.W.exmOne K (.ref (He.ga K (enm c))) (.ref (He.ga K (enm ce)))=some (eW c ce)
 kit:∀ c∈ec,∀ ce∈ec,PySem.W.kitOne K (.ref (He.ga K (enm c))) (.ref (He.ga K (enm ce)))=some (eW c ce)
 cl:∀ c∈ec,ExcC K (He.ga K (enm c))
 lt:∀ c∈ec,c < 1000
theorem E2{K:Frg}{D:Addr}(h:sw K D=true):ExcC K D:=by simp only[sw,ax,decide_eq_true_eq] at h;obtain⟨a,b,c,d,e,f,g,i⟩:=h;exact⟨a,b,c,d,e,f,g,i⟩
theorem Lj{K:Frg}{ec:List Nat}(h:xsB ec K=true):XsK K ec:=by
 simp only[xsB,ax] at h;obtain⟨h1,h2⟩:=h;refine⟨λc hc ce hce=>?_,λc hc ce hce=>?_,λc hc=>E2 (gz.mp (b7.mp h2 c hc)).1,λc hc=>of_decide_eq_true (gz.mp (b7.mp h2 c hc)).2⟩
 ·have:=b7.mp (b7.mp h1 c hc) ce hce;exact of_decide_eq_true (gz.mp this).1
 ·have:=b7.mp (b7.mp h1 c hc) ce hce;exact of_decide_eq_true (gz.mp this).2
theorem Ld{K:Frg}{c:Nat}(h:xcB c K=true):XcK K c:=by simp only[xcB,ax,decide_eq_true_eq] at h;obtain⟨a,b,d,e,f⟩:=h;exact⟨a,b,d,e,f⟩
def um(c:Nat):Sr:=⟨λD ρ M=>D.er ρ (.exc c []) M,λh q=>h.er _ _ _ q⟩
section
variable {X:Cx}{W:WX}{pos p p2 pos':Pos}
theorem I0 {x m:Str} {c j:Nat} (hc:X.calm=true) (tk:Takes X W) (T:XcK X.K c) (hx:x=enm c) (gC:X.mg x=some (.ref (He.ga X.K x))) (hg:Gl X x) (hdb:(x == ("__debug__":Str))=false:=by decide) :
  PDS X W (.Raise (some (.Call (.Name x p) [.Constant (.str m) j p2] [] pos)) none pos') (um c):=by
 subst hx;refine dU (ps_raise hc tk (pmk_own PySem.F.excBase_ValueError T.ex gC T.kp (raises_own T.sb T.ty) hg hdb)) λD σ H h=>?_;obtain⟨ρ,M,S,F,o,s,e,q⟩:=h;exact e.er ρ (.exc c []) M S σ H _ none (Gr.refl S H) o s ⟨rfl,.inl ⟨rfl,T.no,rfl⟩⟩ q
def mD(ec:List Nat)(ce i j:Nat)(D:Fin):Fin:={ D with er:=λρ' d M'=>match d with
 | .exc c ds=>c∈ec/\i < ρ'.length/\(if eW c ce=true then D.nx ((ρ'.set j (some (.exc c ds))).set i none) M' else D.er ρ' d M')
 | _=>False }
theorem KG{ec:List Nat}{ce i j:Nat}{D D':Fin}(h:Fin.Le D D'):Fin.Le (mD ec ce i j D) (mD ec ce i j D'):=by
 refine⟨h.nx,h.rt,h.bk,h.ct,λρ d M z=>?_⟩;cases d with
 | exc c ds =>
  have z':c∈ec/\i < ρ.length/\(if eW c ce=true then D.nx ((ρ.set j (some (.exc c ds))).set i none) M else D.er ρ (.exc c ds) M):=z;obtain⟨z1,z2,z3⟩:=z';refine⟨z1,z2,?_⟩
  by_cases hc:eW c ce=true
  ·rw[if_pos hc] at z3 ⊢;exact h.nx _ _ z3
  ·rw[if_neg hc] at z3 ⊢;exact h.er _ _ _ z3
 | _=>exact False.elim z
def uq(ec:List Nat)(ce i j:Nat)(b:Sr):Sr:=⟨λD ρ M=>b.f (mD ec ce i j D) ρ M,λh q=>b.mono (KG h) q⟩
theorem E3{K:Frg}{S:Gh}{M:Me}{H:Hp}{c:Nat}{ds:List Tr}{cls:Value}{dd:Option Addr}{a:Addr}(o:OkH K S M H)(x:Exc K S (.exc c ds) cls dd)(n:H a=none) :
  ∃ S',Gr S H S' (upd H a (ExX cls dd a))/\OkH K S' M (upd H a (ExX cls dd a))/\Rep K S' (.exc c ds) (.ref a):=by
 obtain⟨o',l⟩:=o.tree (o:=ExX cls dd a) n;obtain⟨h1,h2⟩:=x;refine⟨_,nH l n,o',?_⟩;subst h1;simp only[Rep];refine⟨a,rfl,.inl ⟨dd,upd_same,?_⟩⟩;rcases h2 with h2|⟨d,fs,e1,e2,e3,e4⟩
 ·exact .inl h2
 ·exact .inr ⟨d,fs,e1,l.g _ _ e2,e3,ah.mono l _ _ e4.1,e4.2⟩
theorem KH{ec:List Nat}{ce i j:Nat}(T:XsK X.K ec)(hce:ce∈ec)(hij:i≠j){S:Gh}{H:Hp}{D:Ends}{F:Fin}(e:gc X.K W S H D F){ρ1:En}{d:Tr}{M1:Me}{S1:Gh}{σ1:L2.St}{H1:Hp}{cls:Value}{dd:Option Addr}(l1:Gr S H S1 H1)(o1:OkH X.K S1 M1 H1)(s1:be X.K S1 ρ1 σ1)
  (x1:Exc X.K S1 d cls dd) (z:(mD ec ce i j F).er ρ1 d M1):vb X.K (.ref (He.ga X.K (enm ce))) i (λ_ _ _=>λD σ H=>∃ v,σ[i]?=some (some v)/\D.nx (σ.set j (some v)) H) W D cls dd σ1 H1:=by
 cases d with
 | exc c ds =>
  have z':c∈ec/\i < ρ1.length/\(if eW c ce=true then F.nx ((ρ1.set j (some (.exc c ds))).set i none) M1 else F.er ρ1 (.exc c ds) M1):=z;obtain⟨hc,hi1,z⟩:=z';refine⟨eW c ce,?_,λhb a na=>?_,λhb=>?_⟩
  ·rw[x1.1];exact T.sub c hc ce hce
  ·rw[if_pos hb] at z;have hiσ:i < σ1.length:=by rw[<- s1.len];exact hi1
   refine⟨.ref a,fE hiσ,λn1=>?_⟩;obtain⟨S2,l2,o2,r2⟩:=E3 o1 x1 n1;have s2:=((s1.mono l2.le).set (i:=j) r2).unset (i:=i);have e1:(((σ1.set i (some (V.ref a))).set j (some (V.ref a))).set i none)=(σ1.set j (some (V.ref a))).set i none:=by rw[List.set_comm _ _ hij,i6]
   rw[e1];exact e.nx _ _ _ _ _ (l1.trans l2) o2 s2 z
  ·have hb':¬ eW c ce=true:=by rw[hb];exact aad
   rw[if_neg hb'] at z;exact e.er ρ1 _ M1 S1 σ1 H1 cls dd l1 o1 s1 x1 z
 | _=>exact x1.elim
theorem I5{x n:Str}{ec:List Nat}{ce i j:Nat}{body:List Stmt}{st:Stmt}{np pos':Pos}{b:Sr}(hs:X.stack=X.env::X.outer)(hf:X.env.frame=some X.env.locals)(hex:X.ex=[])(hN:X.N.Nodup)(hi:X.N[i]?=some n)(hln:X.env.kindOf n=some .local)(hij:i≠j)(T:XsK X.K ec)(hce:ce∈ec)
  (hx:x=enm ce) (hg:Gl X x) (gC:X.mg x=some (.ref (He.ga X.K x))) (tk:Takes X W)
  (hb:∀(W:WX)(pn:List (Addr × Obj))(xe:Value->Shared->Prop),Takes (X.tr pn xe) W->PassesOwn (model X.prog X.w) X.A X.env xe->dE (X.tr pn xe) W body b)
  (hsu:∀(a:Addr)(oe:Obj)(pn:List (Addr × Obj)),PSs (X.suite a ((a,oe)::pn)) [st] (λD σ H=>∃ v,σ[i]?=some (some v)/\D.nx (σ.set j (some v)) H))
  (hdb:(x == ("__debug__":Str))=false:=by decide) :
  PDS X W (.Try body [.ExceptHandler (some (.Name x np)) (some n) [st] pos'] [] [] pos) (uq ec ce i j b):=by
 subst hx;refine dU (Jg (c:=.ref (He.ga X.K (enm ce))) (Wout:=W) (ts:=λ_ _ _=>λD σ H=>∃ v,σ[i]?=some (some v)/\D.nx (σ.set j (some v)) H) (tb:=λW=>fM X.K W b) hs hf hex hN hi hln ⟨hg,hdb,.inl gC⟩ tk hb (λa oe cls d pn _ _=>hsu a oe pn)) λD σ H h=>?_;obtain⟨ρ,M,S,F,o,s,e,q⟩:=h;exact⟨ρ,M,S,mD ec ce i j F,o,s,⟨e.nx,e.rt,e.bk,e.ct,λρ1 d M1 S1 σ1 H1 cls dd l1 o1 s1 x1 z=>KH T hce hij e l1 o1 s1 x1 z⟩,q⟩
theorem Ku{a:Addr}{oe:Obj}{pn:List (Addr × Obj)}{i j:Nat}{m n:Str}{q1 q2 q3:Pos}(hN:X.N.Nodup)(hi:X.N[i]?=some n)(hj:X.N[j]?=some m)(hvi:Vis X.env.scope n)(hlj:X.env.kindOf m=some .local)
  (h1:(n == ("__debug__":Str))=false:=by decide) (h2:(n == ("__classdict__":Str))=false:=by decide) :
  PSs (X.suite a ((a,oe)::pn)) [.Assign [.Name m q1] (.Name n q2) q3] (λD σ H=>∃ v,σ[i]?=some (some v)/\D.nx (σ.set j (some v)) H) :=
 pss_one (ps_set (X:=X.suite a ((a,oe)::pn)) (i:=j) hN hj (.inl hlj) (pe_var (X:=X.suite a ((a,oe)::pn)) (i:=i) hi hvi h1 h2) (hf:=.inr hlj))
end
section
open LamX
section
variable {K:Frg}{S:Gh}{M:Me}{H H1:Hp}
theorem OkH.code(o:OkH K S M H){c':Addr}{q:Str}(e:ExtN H H1)(t:Tabs (TBs K) H1)(hc:H1 c'=some (CodeO c' q)) :
  ∃ S1,Gr S H S1 H1/\OkH K S1 M H1/\S1.G c'=some (CodeO c' q)/\S1.C=S.C:=by
 have nd:∀ a o',S.G a=some o'->H1 a=some o':=λa o' z=>e a o' (o.sub a o' z) (λps y=>o.tb.nt a ps (by rw[z,y]));have nC:c'∉S.C:=λz=>by
  obtain⟨k,hk⟩:=eR.mp z;have hk2:k < M.length:=by rw[<- o.len];exact(bL.mp hk).1
  obtain⟨o1,e1,x1⟩:=(o.cell k c' M[k] hk (by simp [hk2])).obj;have:=e c' o1 e1 x1.ntb;rw[hc] at this;cases this;exact x1
 have cells:∀ a c,dz K S H a c->dz K S H1 a c:=λa c z=>by
  cases c with
  | dead=>obtain⟨u,e1,x⟩:=z;exact⟨u,e a u e1 x.ntb,x⟩
  | lst xs=>obtain⟨g,vs,e1,r⟩:=z;exact⟨g,vs,e a _ e1 (by nofun),r⟩
  | dct ks xs=>obtain⟨g,vs,e1,k,r⟩:=z;exact⟨g,vs,e a _ e1 (by nofun),k,r⟩
  | ins c xs=>obtain⟨g,dx,vs,e1,k,r⟩:=z;exact⟨g,dx,vs,e a _ e1 (by nofun),k,r⟩
  | dkf ks xs=>obtain⟨od,vs,g,e1,k,r⟩:=z;exact⟨od,vs,g,e a _ e1 (by nofun),k,r⟩
 have o1:OkH K S M H1:=⟨nd,o.len,o.nd,λk a c e1 e2=>cells a c (o.cell k a c e1 e2),⟨t,o.tb.nt⟩⟩
 have g1:Gr S H S H1:=⟨Le.refl S,λ_ a b=>absurd a b,λa u e1 hn _=>e a u e1 hn,λ_ a b=>absurd a b⟩
 cases hg:S.G c' with
 | some u =>
  have h2:=nd c' u hg;rw[hc] at h2;cases h2;exact⟨S,g1,o1,hg,rfl⟩
 | none =>
  obtain⟨o2,l2⟩:=o1.take' (p:=c') hg nC hc (codeO_ne);refine⟨⟨upd S.G c' (CodeO c' q),S.C⟩,⟨g1.le.trans l2,λa h1 h2=>absurd h1 h2,g1.keep,λa h1 h2=>?_⟩,o2,upd_same,rfl⟩;have:=u4 h1 h2;subst this;refine .inl λu z x=>?_;have:=e a u z x.ntb;rw[hc] at this;cases this;exact x
end
end
section
open LamX
section
variable {P:Program}{w:World}{K:Frg}{mg mb:Str->Option Value}{CX:CXT}{k:Nat}{fa a:Addr}{cs:List (Addr × Addr)}{fd:FuncData}{x:Str}{sp:Sp}{s₁:Shared}{vs:List Value}{ns:List Int}
def c9(K:Frg)(cs:List (Addr × Addr))(a:Addr)(vs:List Value)(ns:List Int):Hp:=λb =>
 if b∈cs.map (·.2) then some (.tbl #[]) else if b=a/\K.lookup a=none then some (.frz { cls:=.type "list",data:=.seq vs.toArray } (.lst (ns.map V.int))) else none
theorem yf{b:Addr}(h:b∈cs.map (·.2)):c9 K cs a vs ns b=some (.tbl #[]):=if_pos h
theorem ye {b:Addr} {u:HO} (h:c9 K cs a vs ns b=some u):(b∈cs.map (·.2)/\u=.tbl #[])∨(b∉cs.map (·.2)/\b=a/\K.lookup a=none/\u=.frz { cls:=.type "list",data:=.seq vs.toArray } (.lst (ns.map V.int))):=by
 unfold c9 at h
 split at h
 ·rename_i hb;cases h;exact .inl ⟨hb,rfl⟩
 ·rename_i hb
  split at h
  ·rename_i hc;cases h;exact .inr ⟨hb,hc.1,hc.2,rfl⟩
  ·cases h
theorem yd{b:Addr}(h1:b∉cs.map (·.2))(h2:¬ (b=a/\K.lookup a=none)):c9 K cs a vs ns b=none:=by unfold c9;rw[if_neg h1,if_neg h2]
theorem Hc (KX:K.In s₁.heap) (hns:s₁.heap.Ns mainGlobals mg) (hb:s₁.heap.Ns builtinsNs mb) (hbb:∀ x:Str,x≠"__name__"->mb x=bootBuiltins x) (hlim:s₁.heap.NoLimit) (hg:s₁.gens=#[]) (hS:∃ o es ep,s₁.heap.get? sysModules=some o/\o.data=.dict es ep)
  (hT:∀ p∈cs,s₁.heap.get? p.2=some p6) (nT:∀ p∈cs,K.lookup p.2=none) (C:∀ p∈cs,PySem.W.CodeHd s₁.heap p.1 p.2)
  (hbm:∃ (bm:Addr) (ob:Obj),mg "__builtins__"=some (.ref bm)/\bm≠builtinsNs/\s₁.heap.get? bm=some ob/\ob.cls=.type "module"/\ob.dict=some builtinsNs/\ob.data=.plain)
  (ha:s₁.heap.get? a=some { cls:=.type "list",data:=.seq vs.toArray }) (hi:IntsAre vs ns) (hl:ns.length<=sizeLine) (hr:Room k callerA)
  (F:∀ base:Heap,K.In base->base.Ns mainGlobals mg->(∀ p∈cs,TabB base mg p.1 p.2)->cc true P w K mg base CX k fa fd [x] sp) (hbind:∀(s:Shared)(u:Value),BindsTo s fd ⟨[u],[]⟩ [(x,u)])
  (hsp:∀ H:Hp,(∀ p∈cs,H p.2=some (.tbl #[]))->SqL K H a (ns.map V.int)->sp [.ref a] H (λv _=>v=.bl true) λ_ _ _=>False)
  (hCX:∀ H e s',CX [] H s₁ (λ_ _ _=>False) e s'->False) :
  codeAny (model P w) callerA (.call (.ref fa) ⟨[.ref a],[]⟩) (λr s'=>r=.ok (.ret (.bool true))/\OldK s₁.heap s'.heap/\s'.os=s₁.os/\AllBare s'.gens) s₁:=by
 have rv:=vals_ints hi;have isT:∀ b,b∈cs.map (·.2)->s₁.heap.get? b=some p6:=λb h=>by
  obtain⟨p,hp,e⟩:=cJ.mp h;rw[<- e];exact hT p hp
 have outK:∀ b,b∈cs.map (·.2)->K.lookup b=none:=λb h=>by
  obtain⟨p,hp,e⟩:=cJ.mp h;rw[<- e];exact nT p hp
 have aT:a∉cs.map (·.2):=λz=>by
  have q:=isT a z;rw[ha] at q;have:=congrArg Obj.data (Option.some.inj q);cases this
 -- what is neither a list nor an empty record is not tracked
 have free:∀{b:Addr}{o:Obj},s₁.heap.get? b=some o->o.data≠.fields #[]->(∀ us n,o.data≠.seq us n)->c9 K cs a vs ns b=none:=λ{b o} e h1 h2=>by
  refine yd (λz=>?_) (λz=>?_)
  ·rw[isT b z] at e;cases e;exact h1 rfl
  ·rw[z.1,ha] at e;cases e;exact h2 _ _ rfl
 have kept:∀{b:Addr}{o:Obj},s₁.heap.get? b=some o->o.data≠.fields #[]->(∀ us n,o.data≠.seq us n)->(hidT s₁.heap (c9 K cs a vs ns)).get? b=some o:=λe h1 h2=>hidT_get e (free e h1 h2);have dic:∀{b:Addr}{o:Obj}{es:Array DictEntry}{ep:Nat},s₁.heap.get? b=some o->o.data=.dict es ep->(hidT s₁.heap (c9 K cs a vs ns)).get? b=some o:=λ{b o es ep} e d=>kept e (λz=>by rw[d] at z;cases z) λus n z=>by rw[d] at z;cases z
 have nsK:∀{b:Addr}{m:Str->Option Value},s₁.heap.Ns b m->(hidT s₁.heap (c9 K cs a vs ns)).Ns b m:=λ{b m} ⟨o,es,ep,e,d,r⟩=>⟨o,es,ep,dic e d,d,r⟩
 have hKb:K.In (hidT s₁.heap (c9 K cs a vs ns)):=λb o e=>hidT_get (KX b o e) (yd (λz=>by rw[outK b z] at e;cases e) λz=>by rw[z.1,z.2] at e;cases e);have hM:L2.Mod K mg (hidT s₁.heap (c9 K cs a vs ns)):=⟨hKb,nsK hns,⟨mb,nsK hb,hbb⟩,hlim.imp λmc h=>⟨nsK h.1,h.2⟩⟩
 have TB:∀ p∈cs,TabB (hidT s₁.heap (c9 K cs a vs ns)) mg p.1 p.2:=λp hp=>by
  refine⟨?_,?_,λz=>?_⟩
  ·obtain⟨o,us,file,tf,flags,tg,inF,text,tt,e1,r1,r2,r3,rr⟩:=C p hp;refine⟨o,us,file,tf,flags,tg,inF,text,tt,kept e1 (λz=>?_) (λvs n z=>by rw[r2] at z;cases z),r1,r2,r3,rr⟩;rw[r2] at z;cases z;simp at r3
  ·obtain⟨bm,ob,b1,b2,b3,b4,b5,b6⟩:=hbm;refine⟨bm,ob,b1,b2,λq=>?_,λq=>?_,kept b3 (λz=>by rw[b6] at z;cases z) (λvs n z=>by rw[b6] at z;cases z),b4,b5,b6⟩
   ·obtain⟨o,es,ep,e,hd,_⟩:=hns;rw[q,e] at b3;cases b3;rw[hd] at b6;cases b6
   ·rw[q,hT p hp] at b3;cases b3;cases b6
  ·obtain⟨o,es,ep,e,hd,_⟩:=hns;rw[z,hT p hp] at e;cases e;cases hd
 have hok:HOk P w (c9 K cs a vs ns) s₁.heap:=λb u e=>by
  rcases ye e with ⟨h,rfl⟩|⟨_,rfl,_,rfl⟩
  ·exact isT b h
  ·exact⟨ha,by rw[cj];exact hl,vs,_,rv,ha⟩
 have hSq:SqL K (c9 K cs a vs ns) a (ns.map V.int):=by
  cases hk:K.lookup a with
  | none=>exact .inl (.inr ⟨_,by unfold c9;rw[if_neg aT,if_pos ⟨rfl,hk⟩]⟩)
  | some o =>
   have e:=KX a o hk;rw[ha] at e;cases e;exact .inr ⟨_,vs.toArray,_,hk,rfl,rfl,rfl,by rw[List.size_toArray,hi.length];exact hl,by simpa using rv⟩
 have nof:∀ b:Addr,b∉frs ([]:List Env):=λb z=>by cases z
 have e0:Env0 P w K mg (hidT s₁.heap (c9 K cs a vs ns)) callerA [] s₁ (c9 K cs a vs ns):=⟨rfl,hM,λb o e=>of_hidT e,Nat.le_of_eq (hidT_size _ _),trivial,λb hb=>(nof b hb).elim,hok,.of_eq hg⟩
 have gd:Gd (hidT s₁.heap (c9 K cs a vs ns)) callerA:=⟨rfl,by
  obtain⟨o,es,ep,e,d⟩:=hS;exact⟨o,dic e d⟩⟩
 refine codeAny_mono ((F _ hKb (nsK hns) TB).run callerA [] s₁ _ ⟨[.ref a],[]⟩ [.ref a] [.ref a] _ _ hr (λ_=>gd) e0 (hbind s₁ (.ref a)) (.cons rfl .nil) (hsp _ (λp hp=>yf (cJ.mpr ⟨p,hp,rfl⟩)) hSq)) λr s' h=>?_
 match r,h with
 | .error e,h=>exact(hCX _ e s' h).elim
 | .ok (.ret u),h =>
  obtain⟨v,H',os,bare,un,hok',r',q⟩:=h;have q':v=.bl true:=q;subst q';obtain rfl:u=Value.bool true:=r';have rest:∀ b o,b∉cs.map (·.2)->s₁.heap.get? b=some o->s'.heap.get? b=some o:=λb o nb e=>by
   cases z:c9 K cs a vs ns b with
   | none=>exact un.keep b o e z (nof b) (by simp)
   | some u =>
    rcases ye z with ⟨h,_⟩|⟨_,_,_,rfl⟩
    ·exact absurd h nb
    ·obtain⟨e1,_⟩:=hok b _ z;obtain⟨e2,_⟩:=hok' b _ (un.frzs b _ _ z);rw[e] at e1;cases e1;exact e2
  have tabs:∀ p∈cs,∃ more:Array Value,s'.heap.get? p.2=some { cls:=.none,data:=.fields more }:=λp hp=>by
   obtain⟨more,z⟩:=un.tbls p.2 #[] (yf (cJ.mpr ⟨p,hp,rfl⟩));exact⟨_,hok' p.2 _ z⟩
  refine⟨rfl,⟨λb o e=>?_,λb o e=>?_⟩,os,bare⟩
  ·by_cases nb:b∈cs.map (·.2)
   ·obtain⟨p,hp,ep⟩:=cJ.mp nb;subst ep;obtain⟨more,hm⟩:=tabs p hp;have e':=e;rw[hT p hp] at e';cases e';exact .inr (.inl ⟨((C p hp).tab (hT p hp)).isCodeTable,rfl,#[],more,rfl,by rw[Array.empty_append];exact hm⟩)
   ·exact .inl (rest b o nb e)
  ·by_cases nb:b∈cs.map (·.2)
   ·obtain⟨p,hp,ep⟩:=cJ.mp nb;subst ep;obtain⟨more,hm⟩:=tabs p hp;exact⟨_,hm⟩
   ·exact⟨o,rest b o nb e⟩
end
theorem walk_GT{l:PySem.W.OpenLaw}{n k:Nat}{q:Program}{loose:List Str}{XP:(Str->Option Value)->Heap->Prop}{YP:World->Heap->Prop}{d:DefRec}{CX:World->CXT}{x:Str}
  (hn:l.most=some n) (hn2:n<=sizeLine) (hdf:d.params.defaults=[]) (hr:Room k callerA)
  (F:∀(w:World)(mg:Str->Option Value)(fa:Addr)(h:Heap),YP w h->h.Ns mainGlobals mg->mg d.name=some (.ref fa) ->
   ∃(K:Frg)(fd:FuncData)(cs:List (Addr × Addr))(sp:Sp),K.In h/\(∃ o es ep,h.get? sysModules=some o/\o.data=.dict es ep)/\(∀ p∈cs,h.get? p.2=some p6)/\(∀ p∈cs,K.lookup p.2=none)/\(∀ p∈cs,PySem.W.CodeHd h p.1 p.2) /\
    (∀(s:Shared)(u:Value),BindsTo s fd ⟨[u],[]⟩ [(x,u)]) /\
    (∀(H:Hp)(a:Addr)(ns:List Int),ns.length<=n->(∀ z∈ns,Builtin.Int.intBits z<=1048576)->(∀ p∈cs,H p.2=some (.tbl #[]))->SqL K H a (ns.map V.int)->sp [.ref a] H (λv _=>v=.bl true) λ_ _ _=>False) /\
    ∀ base:Heap,K.In base->base.Ns mainGlobals mg->(∀ p∈cs,TabB base mg p.1 p.2)->cc true l.prog w K mg base (CX w) k fa fd [x] sp)
  (hCX:∀(w:World)(H:Hp)(s:Shared)(e:Value) (s':Shared),CX w [] H s (λ_ _ _=>False) e s'->False) :
  PySem.W.WalkO q loose XP YP l.row.toRowW d [] (λf vs=>PySem.call f vs):=by
 refine Att.attach_callB hn hdf λw s₀ s₁ mg mb fa o pm cd doc a vs ns G Y ho hd hcd hmg hobj hints hlen hbits hg=>?_;obtain⟨K,fd,cs,sp,KX,hS,hT,nT,C,hb,hsp,hF⟩:=F w mg fa _ Y G.T.g hmg;exact Hc KX G.T.g G.T.b G.T.builtins G.T.nolimit hg hS hT nT C G.T.bmain hobj hints (gH hlen hn2) hr hF hb (λH hH hS=>hsp H a ns hlen hbits hH hS) λH e s'=>hCX w H s₁ e s'
end
section
open LamX
section
variable {P:Program}{w:World}{K:Frg}{mg:Str->Option Value}{base:Heap}{x qual:Str}{params:Arguments}{body:List Stmt}{scope:Scope}{dvs:List V}{kws:List (Str × V)}{f:Addr}{fd:FuncData}
def CK(K:Frg)(f:Addr)(cdv:Value)(q:Str):Prop:=∃ oc od fd osl,K.lookup f=some ⟨oc,od,.func fd,osl⟩/\fd.code=cdv/\PySem.W.codeIn K cdv q=true
theorem FP{g:Bool}{N ps:List Str}{k:Nat}{sp:Sf}{t:Sr}(F:FunD K x qual params body scope dvs kws f fd)(Sc:FnScope N ps scope)
  (hb:∀(cdv:Value)(A:Around)(outer:List Env)(s:Shared)(H:Hp)(E:XK),CK K f cdv qual->Room k (A.deeper (envOfC qual scope s.heap.objs.size f cdv))->(g=true->Gd base A)->dE (BX P w K mg base N qual scope f cdv A outer s H E) (WB E) body t)
  (h:∀(ds:List Tr)(M:Me)(Q E:TK),ds.length=ps.length->bS M.length ds->(∀ c∈M,ee M.length c)->sp.f ds M Q E->t.f (ap M.length Q E) (df N ds) M) :
  cc g P w K mg base (L2.CX P w) (k+1) f fd ps (liftF K sp ps.length):=by
 obtain⟨oc,od,dV,kV,doc,pm,an,cdv,ct,osl,rfl,lk,hcd,_,_⟩:=F.ex;refine⟨λvs H Q E q=>q.1,λA outer s H args us vs Q E hr hgd e0 hb' r hsp=>?_⟩;have inn:∀ b o,base.get? b=some o->s.heap.get? b=some o:=λb o e=>(e0.bs b o e).1;have hl:=hsp.1;refine codeAny_call_function hr.depth ((e0.mod.kin.keeps inn) _ _ lk) rfl Sc.co Sc.gen rfl (PySem.W.codeRec_of (e0.mod.kin.keeps inn) hcd) (hb' _ _ _ _ ?_);refine wpAny_newFunctionEnv_cells Sc.kind (λ⟨n,v⟩ hy=>(Sc.par n (List.of_mem_zip hy).1).elim .inl λq=>.inr ⟨q,PySem.W.cellsFrom_some _ _ _ (.inl q)⟩) λenv he s1 xx=>?_;subst he;refine⟨(e0.mod.nolimit.keeps inn).keeps xx.toInCall.keep,codeAny_func ?_⟩;obtain⟨_,ds,M,S,o,rs,q⟩:=hsp;obtain⟨QT,ET,hQT,hET,q⟩:∃ QT ET:TK,(∀ d M',QT d M'->∀ v H' S',Gr S H S' H'->OkH K S' M' H'->Rep K S' d v->Q v H')/\(∀ e M',ET e M'->∀ cls dd H' S',Gr S H S' H'->OkH K S' M' H'->Exc K S' e cls dd->E cls dd H')/\sp.f ds M QT ET:=⟨_,_,λ_ _ z=>z,λ_ _ z=>z,q⟩
 have hb1:=fc _ _ rs;rw[o.len] at hb1;have q2:=h ds M QT ET (by rw[rs.length,hl]) hb1 (yL o) q;refine wpAny_mono ((hb cdv A outer s H E ⟨oc,od,_,osl,lk,rfl,hcd⟩ (hr.deeper _) hgd).run [] s1 (L2.start N vs) H { nx:=λ_ H'=>Q .non H',rt:=Q } (inv_start Sc hr.hd e0 hl r xx) ⟨df N ds,M,S,ap M.length QT ET,o,uy rs,⟨?_,?_,λ_ _ _ _ _ _ _ _ z=>z.elim,λ_ _ _ _ _ _ _ _ z=>z.elim,?_⟩,q2⟩) (λfl s' hs=>?_) λe s' hs=>hs
 ·intro ρ M' S' σ H' l o' s' q3;rcases q3 with q3|⟨n,hn,hd,q3⟩
  ·exact hQT _ _ q3 .non H' S' l o' jA
  ·obtain⟨l2,o2⟩:=gR hn o.len l o' hd;exact hQT _ _ q3 .non H' _ l2 o2 jA
 ·intro d M' S' v H' l o' r' q3;rcases q3 with q3|⟨n,hn,hd,q3⟩
  ·exact hQT _ _ q3 v H' S' l o' r'
  ·obtain⟨l2,o2⟩:=gR hn o.len l o' hd;exact hQT _ _ q3 v H' _ l2 o2 (pM _ _ r' hd.1)
 ·intro ρ d M' S' σ H' cls dd l o' s' x q3;rcases q3 with q3|⟨n,hn,hd,q3⟩
  ·exact hET _ _ q3 cls dd H' S' l o' x
  ·obtain⟨l2,o2⟩:=gR hn o.len l o' hd;exact hET _ _ q3 cls dd H' _ l2 o2 (sx x hd.1)
 ·match fl,hs with
  | .ret u,hs=>obtain⟨v,σ',H',J,rv,q⟩:=hs;exact⟨v,H',J.os,J.bare,J.base,J.hok,rv,q⟩
  | .next,hs=>obtain⟨σ',H',J,q⟩:=hs;exact⟨.non,H',J.os,J.bare,J.base,J.hok,rfl,q⟩
  | .brk,hs=>obtain⟨_,_,_,q⟩:=hs;exact q.elim
  | .cont,hs=>obtain⟨_,_,_,q⟩:=hs;exact q.elim
def vy(K:Frg)(mg:Str->Option Value)(base:Heap):Prop:=∀ y∈LN,jm K y=true->TabB base mg (He.cT K (y,none)).1 (He.cT K (y,none)).2
structure vz(K:Frg):Prop where
 nd:((TBs K).map Prod.fst).Nodup
end
end
theorem Fs{a:Addr}{p:PyData}{as:List Addr}{A:Around}{E:Value->Shared->Prop}{Q:Value->Shared->Prop}{prog:Program}{w:World}{s:Shared}(r:Reads s.heap (.ref a) p as)(hs:p.showable=true)(hsm:sysModules∉as)(hz:p.shown.length<=sizeLine)(hg:A.guards=some [])(hu:A.units+(p.depth+2) < cLine)
  (hQ:∀ h' u tk,(∀ b o,s.heap.get? b=some o->h'.get? b=some o)->Q (.str p.shown u) { s with heap:=h',toks:=tk }):wpAny (model prog w) A (formatField (.ref a) Str.empty) Q E s :=
 formatField_of_reads r hs (λ_=>hsm) hg hu (λ_ _ e=>e) hQ hz
section
variable {X:Cx}{pos:Pos}
def Kw(g:Bool)(K:Frg)(te:TE):TE:=λσ H Q=>te σ H λx H1=>tj g K H1 x/\∀ y:Str,y.length<=gS->Q (.str y) H1
theorem I9{g:Bool}{k:Nat}{e:Expr}{te:TE}(hr:Room k X.A)(hgd:g=true->Gd X.base X.A)(he:PE X e te):PE X (.FormattedValue e (-1) none pos) (Kw g X.K te):=by
 refine⟨λpins s σ H Q I h=>?_⟩;refine wpAny_FormattedValue_plain (thn (he.run pins s σ H _ I h) λv s1 hv=>?_);obtain⟨x,H1,I1,r1,c,q⟩:=hv;have hm:gS<=sizeLine:=by rw[<- cU];decide
 rcases c with rfl|⟨i,rfl,hi,hl⟩|⟨y,rfl,hl⟩|⟨hg,S,M,xs,p,o,r,e1,c1,c2,c3⟩
 ·cases r1;exact wpAny_formatField_none ⟨.str "None",H1,I1.tok _,⟨_,rfl⟩,q _ (by decide +kernel)⟩
 ·obtain⟨t,rfl⟩:=r1;exact wpAny_formatField_int hi ⟨.str (toString i),H1,I1.tok _,⟨_,rfl⟩,q _ hl⟩
 ·obtain⟨t,rfl⟩:=r1;exact wpAny_formatField_str ⟨.str y,H1,I1,⟨t,rfl⟩,q _ hl⟩ ⟨.str y,H1,I1.tok _,⟨_,rfl⟩,q _ hl⟩ (by omega)
 ·obtain⟨hg,hy⟩:=hgd hg;obtain⟨as,q1,q2⟩:=uk hy I1 o _ x _ p r r1 e1;have hx:∃ a,x=.ref a:=by
   simp only[Rep] at r;obtain⟨a,vs,rfl,_⟩:=r;exact⟨a,rfl⟩
  obtain⟨a,rfl⟩:=hx;cases r1;refine Fs q1 c1 q2 (by omega) hg (by have:=hr.un;omega) λh' u' tk k'=>?_;exact⟨.str p.shown,H1,I1.kept (t':=tk) k',⟨_,rfl⟩,q _ c3⟩
def B6(g:Bool)(K:Frg):TE:=λσ H Q=>∃ v,σ[1]?=some (some v)/\tj g K H v/\∀ y:Str,Q (.str y) H
theorem HW{g:Bool}{k:Nat}{e:Expr}{m1 m2:Str}{j1 j2:Nat}{q1 q2 q3:Pos}(hr:Room k X.A)(hgd:g=true->Gd X.base X.A)(he:PE X e (tVar 1))(h1:m1.length+m2.length<=1000) :
  PE X (.JoinedStr [.Constant (.str m1) j1 q1,.FormattedValue e (-1) none q2,.Constant (.str m2) j2 q3] pos) (B6 g X.K):=by
 refine bA (pe_joined (.cons pe_str (.cons (I9 hr hgd he) (.cons pe_str .nil)))) λσ H Q h=>?_;obtain⟨v,hv,c,q⟩:=h;have hb:big=sizeLine:=cU;have hm:gS+1000<=sizeLine:=by rw[<- cU];decide
 have e0:(Str.empty:Str).length=0:=rfl;refine⟨m1,rfl,by rw[strLen_append,e0];omega,v,hv,c,λy hy=>?_⟩;refine⟨y,rfl,by rw[strLen_append,strLen_append,e0];omega,m2,rfl,by rw[strLen_append,strLen_append,strLen_append,e0];omega,q _⟩
end
structure XiK(K:Frg):Prop where
 rd:PySem.W.readsIn K (He.ga K "CaseError") (.type "type")=true
 ga:PySem.W.specialIn K (.ref (He.ga K "CaseError")) "__getattribute__"=some (some (.builtin "type.__getattribute__"))
 at_:PySem.W.findCls K (.ref (He.ga K "CaseError")) (.type "type") "__init__"=some (.val (.builtin "ValueError.__init__"))
section
variable {X:Cx}{e:Expr}{es:List Expr}{ta:TA}{p1 p2 pos:Pos}
theorem I8 {pl:Sem Bool} (T:XiK X.K) (hg:Gl X "CaseError") (hm:X.mg "CaseError"=some (.ref (He.ga X.K "CaseError"))) (ha:PA X (e::es) ta)
  (hc:eval (.Call (.Attribute (.Name "CaseError" p1) "__init__" p2) (e::es) [] pos) X.env=(do
   let ov <- eval (.Name "CaseError" p1) X.env
   standAt p2.atName
   let (f,first) <- holding [ov] (getMethod ov "__init__" pl)
   callWith pos f first (backTo pos (starEach (e::es) X.env)) (backToKw pos (keywordEach [] X.env))):=by rfl)
  (he:starEach (e::es) X.env=(false,eval e X.env)::starEach es X.env:=by rfl) (hpl:(backTo pos (starEach es X.env)).any (·.1)=false:=by rfl) :
  PE X (.Call (.Attribute (.Name "CaseError" p1) "__init__" p2) (e::es) [] pos) (tVeI X.K ta):=by
 refine⟨λpins s σ H Q I h=>?_⟩;refine PySem.W.methodCall_KW (ld_glob I hg hm ?_ (by decide)) hc;refine PySem.W.method_cls I.kIn T.ga (PySem.W.cls_value I.kIn T.rd T.at_ rfl ?_);show wpAny _ _ (callWith pos (Value.builtin "ValueError.__init__") [] (backTo pos (starEach (e::es) X.env)) []) _ _ _;refine PyProof.Rows.callWith_method1 (thn (ha.run pos pins _ σ H _ (I.tok _) h) λus s1 ⟨vs,H1,I1,r1,a,C,ws,ev,hl,T,ea,q⟩=>?_) he hpl;subst ev;cases r1 with
 | @cons _ u0 _ ur ra rw' =>
  obtain rfl:u0=Value.ref a:=ra;have hlen:ur.length<=sizeLine:=by rw[<- Paired.length rw',sizeLine_eq];omega
  exact oinit_ok T I1 ea hlen λs' J=>⟨.non,H1,J,rfl,q⟩
end
section
variable {P:Program}{w:World}{K:Frg}{mg:Str->Option Value}{base:Heap}{x qual:Str}{params:Arguments}{body:List Stmt}{scope:Scope}{dvs:List V}{kws:List (Str × V)}{f:Addr}{fd:FuncData}
def tX1(K:Frg)(tm:TE)(f:Str):TS:=tSeq (tDrop (tVeI K (tCons (tVar 0) (tCons tm tNil)))) (tOst K f (tVar 0) (tVar 1))
theorem FT{g:Bool}{k c:Nat}{N ps:List Str}{fl:Str}{ok:Hp->List V->Prop}{tm:TE}(T:XoK K c)(hc:efs c=[fl])(hN:N.length=2)(hp:ps.length=2)(hm:∀ a v H Q,ok H [v]->(∀ y:Str,Q (.str y) H)->tm [some (.ref a),some v] H Q)(F:FunD K x qual params body scope dvs kws f fd)(Sc:FnScope N ps scope)
  (hb:∀(cdv:Value)(A:Around)(outer:List Env)(s:Shared)(H:Hp)(E:XK),Room k (A.deeper (envOfC qual scope s.heap.objs.size f cdv))->(g=true->Gd base A)->PSs (BX P w K mg base N qual scope f cdv A outer s H E) body (tX1 K tm fl)) :
  cc g P w K mg base (L2.CX P w) (k+1) f fd ps (spX K c ok):=by
 refine xB F Sc (λvs H Q E q=>?_) λcdv A outer s H vs Q E hr hgd q=>⟨_,hb cdv A outer s H E hr hgd,?_⟩
 ·obtain⟨a,ws,rfl,hl,_⟩:=q;rw[az,hl,hc,hp];rfl
 ·obtain⟨a,ws,rfl,hl,hok,ha,q⟩:=q;rw[hc] at hl;obtain⟨v,rfl⟩:∃ v,ws=[v]:=by
   match ws,hl with
   | [v],_=>exact⟨v,rfl⟩
  have hs:L2.start N [V.ref a,v]=[some (.ref a),some v]:=by unfold L2.start;rw[hN];rfl
  rw[hs];refine⟨.ref a,rfl,hm a v H _ hok λy=>?_⟩;refine⟨a,cw K c,[.str y],rfl,(by show 1<=1000;omega),T.ox,ha,?_⟩;refine⟨v,rfl,.ref a,rfl,a,cw K c,rfl,T.ox,T.no fl (by rw[hc];exact a6 ..),.inl ⟨ha,λdx hd hne=>?_⟩⟩;have:=q dx hd hne;rw[hc] at this;exact this
end
def lr(g:Bool):Tr->Bool
 | .non=>true
 | .int i=>decide (i.natAbs.log2 < 1920)&&decide ((toString i:Str).length<=gS)
 | .str y=>decide (y.length<=gS)
 | .lst xs=>g&&(match rpd (.lst xs) with
  | some p=>p.showable&&decide (p.depth<=100)&&decide (p.shown.length<=gS)
  | none=>false)
 | _=>false
def okX(g:Bool)(c:Nat)(ds:List Tr):Bool:=!vj c||(match ds with
 | d::_=>lr g d
 | []=>false)
theorem Iv{g:Bool}{K:Frg}{c:Nat}{S:Gh}{M:Me}{H:Hp}{ds:List Tr}{vs:List V}(o:OkH K S M H)(r:ah K S ds vs)(h:okX g c ds=true):okH g K c H vs:=λhx=>by
 unfold okX at h;rw[hx,dw,Bool.false_or] at h;cases ds with
 | nil=>cases h
 | cons d ds =>
  simp only[ah] at r;obtain⟨v,t,rfl,r1,_⟩:=r;refine⟨v,rfl,?_⟩;cases d with
  | non=>simp only[Rep] at r1;exact .inl r1
  | int i =>
   simp only[Rep] at r1;simp only[lr,ax,decide_eq_true_eq] at h;exact .inr (.inl ⟨i,r1,h.1,h.2⟩)
  | str y =>
   simp only[Rep] at r1;simp only[lr,decide_eq_true_eq] at h;exact .inr (.inr (.inl ⟨y,r1,h⟩))
  | lst xs =>
   simp only[lr,ax] at h;obtain⟨hg,h⟩:=h
   split at h
   ·rename_i p e;simp only[ax,decide_eq_true_eq] at h;exact .inr (.inr (.inr ⟨hg,S,M,xs,p,o,r1,e,h.1.1,h.1.2,h.2⟩))
   ·cases h
  | _=>simp [lr] at h
theorem Lm{as:List Str}{ws:List V}(h:ws.length=as.length):((as.zip ws).map Prod.fst)=as:=List.map_fst_zip (by omega)
theorem Ln{as:List Str}{ws:List V}(h:ws.length=as.length):((as.zip ws).map Prod.snd)=ws:=List.map_snd_zip (by omega)
section
variable {X:Cx}{W:WX}{x:Str}{k c:Nat}{e:Expr}{es:List Expr}{ta:TA}{u:Rd (List Tr)}{p pos pos':Pos}
theorem EQ(c:Nat):(efs c).length<=2:=by
 by_cases h:c < 12
 ·have:∀ c,c < 12->(efs c).length<=2:=by decide
  exact this c h
 ·have e:efs c=[]:=by
   unfold efs;rw[f6,aac (by show sr.length<=c;exact Nat.le_of_not_lt h)];rfl
  rw[e];decide
def fQ(c:Nat)(u:Rd (List Tr)):Sr:=⟨λD ρ M=>u.f ρ M (λds M1=>(ds.length=(efs c).length/\okX false c ds=true)/\D.er ρ (.exc c ds) M1) (D.er ρ),λh q=>u.mono (λds M1 z=>⟨z.1,h.er _ _ _ z.2⟩) (λd M z=>h.er _ d M z) q⟩
theorem lw(hc:X.calm=true)(tk:Takes X W)(T:Xm false X.prog X.w X.K X.mg X.base k c)(hr:Room (k+1) X.A)(hx:x=enm c)(hg:Gl X x)(ha:PDA X W (e::es) u)
  (hdb:(x == ("__debug__":Str))=false:=by decide) (he:starEach (e::es) X.env=(false,eval e X.env)::starEach es X.env:=by rfl) (hpl:(backTo pos (starEach es X.env)).any (·.1)=false:=by rfl) :
  PDS X W (.Raise (some (.Call (.Name x p) (e::es) [] pos)) none pos') (fQ c u):=by
 subst hx;obtain⟨fI,fd,ps,iC,tI,F1,hb⟩:=T.ex;refine dU (ps_raise hc tk (pmk_oex (dvs:=[]) T.xo.ox iC tI F1.ok hr hb .nil (passes_call tk λ_ _ _ _ z=>z.elim) hg T.at_ ha hdb he hpl)) λD σ H h=>?_;obtain⟨ρ,M,S,F,o,s,en,q⟩:=h;refine⟨ρ,M,S,F.er ρ,o,s,en.err s,u.mono (λds M1 q1 vs H1 S1 l1 o1 r1=>?_) (λ_ _ z=>z) q⟩;obtain⟨⟨hl,hok⟩,q2⟩:=q1;have hl2:vs.length=(efs c).length:=by rw[<- r1.length];exact hl
 refine⟨by have:=EQ c;omega,λa na=>?_⟩;rw[bq];refine⟨a,vs,rfl,hl2,Iv (o1.same (fy na)) r1 hok,upd_same,λdx hd hne=>?_⟩;have hd1:H1 dx=none:=by rw[upd_ne hne] at hd;exact hd
 refine⟨rfl,dx,(efs c).zip vs,upd_same,by rw[upd_ne hne];exact upd_same,hd1,?_⟩;have e:upd (del (upd (upd (upd H1 a (exo a (cw X.K c) none)) dx (exd dx ((efs c).zip vs))) a (exo a (cw X.K c) (some dx))) a) dx (.xd ((efs c).zip vs))=upd H1 dx (.xd ((efs c).zip vs)):=by
  funext b
  by_cases h2:b=dx
  ·rw[h2,upd_same,upd_same]
  ·by_cases h1:b=a
   ·rw[h1,upd_ne hne.symm,upd_ne hne.symm,del_same,na]
   ·simp only[upd_ne h1,upd_ne h2,del_ne h1]
 rw[e];obtain⟨o2,l2⟩:=o1.tree (o:=.xd ((efs c).zip vs)) hd1;refine en.er ρ (.exc c ds) M1 _ σ _ _ _ (l1.trans (nH l2 hd1)) o2 ((s.mono l1.le).mono l2) ⟨rfl,.inr ⟨dx,_,rfl,upd_same,Lm hl2,?_,T.ne⟩⟩ q2;rw[Ln hl2];exact ah.mono l2 _ _ r1
def qk(H:Hp)(D a:Addr):Prop:=∃ dd,H a=some (ExX (.ref D) dd a)/\∀ d,dd=some d->∃ fs,H d=some (.xd fs)
theorem EX{pins:List (Addr × Obj)}{σ:L2.St}{H:Hp}{s:Shared}{D a:Addr}(I:Inv X pins σ H s)(h:qk H D a):∃ oe od,PySem.W.InstAt s.heap a oe D od:=by
 obtain⟨dd,ha,hd⟩:=h;obtain⟨⟨oe,vs,hget,hz,hv⟩,_,_⟩:=I.hok a _ ha;have hn:PySem.W.notCls oe:=by unfold PySem.W.notCls;rw[hv] <;> rfl
 cases dd with
 | none=>exact⟨oe,none,hget,hz.1,hn,by rw[hz.2];trivial⟩
 | some d =>
  obtain⟨fs,hx⟩:=hd d rfl;have hx2:ObjOk X.prog X.w H s.heap d (.xd fs):=I.hok d _ hx;obtain⟨mA,hns,_⟩:=hx2;obtain⟨o,es,ep,ho,hr⟩:=hns;exact⟨oe,some o,hget,hz.1,hn,by rw[hz.2];exact ho⟩
def Jr(K:Frg):List V->Hp->VK->Prop:=λxs H Q=>∃(a D:Addr)(c:V)(u:Value)(b:Bool),xs=[.ref a,c]/\ClsV c u/\qk H D a/\ExcC K D/\PySem.W.kitOne K (.ref D) u=some b/\Q (.bl b) H
theorem DY:CallR X (.builtin "isinstance") (Jr X.K):=by
 intro pins s σ H xs us Q I r h;obtain⟨a,D,c,u,b,rfl,hcv,ha,C,e,q⟩:=h;cases r with
 | cons rx rr =>
  cases rr with
  | cons rt rr =>
   cases rr;cases rx;have ec:=hcv.eq rt;subst ec;obtain⟨oe,od,J⟩:=EX I ha;have hcl:(PySem.W.clsIn X.K D).isSome=true:=by obtain⟨cd,hc,_⟩:=PySem.W.any_some C.hd;rw[hc];rfl
   exact PySem.W.kia_one (PySem.W.kitx_exc hcl C.hg C.hk C.hs C.ha C.hn C.ht C.hm) I.kIn J e (λz=>nomatch z) λtk=>⟨.bl b,H,I.kept (t':=tk) λ_ _ z=>z,rfl,q⟩
theorem EY{K:Frg}{S:Gh}{M:Me}{H:Hp}{c:Nat}{ds:List Tr}{v:V}(o:OkH K S M H)(r:Rep K S (.exc c ds) v)(hc:c < 1000):∃ a,v=.ref a/\qk H (He.ga K (enm c)) a:=by
 simp only[Rep] at r;obtain⟨a,rfl,⟨dd,g,r2⟩|⟨c',q',e1,_⟩⟩:=r
 ·refine⟨a,rfl,dd,o.sub _ _ g,λd hd=>?_⟩;rcases r2 with ⟨r2,_⟩|⟨d',fs,e1,e2,_⟩
  ·rw[hd] at r2;cases r2
  ·rw[hd] at e1;cases e1;exact⟨fs,o.sub _ _ e2⟩
 ·omega
def jb(ec:List Nat)(ce:Nat)(t:Rd Tr):Rd Tr:=⟨λρ M Q E=>t.f ρ M (λd M1=>match d with
 | .exc c _=>c∈ec/\Q (.bl (eW c ce)) M1
 | _=>False) E,λ{ρ M Q Q' E E'} h h' q=>t.mono (λd M1 z=>by
  split at z
  ·exact⟨z.1,h _ _ z.2⟩
  ·exact z.elim) h' q⟩
theorem yY {ec:List Nat} {ce:Nat} {t:Rd Tr} {q:Pos} (T:XsK X.K ec) (hce:ce∈ec) (hx:x=enm ce) (hg:Gl X "isinstance") (hm:X.mg "isinstance"=none) (hb:bootBuiltins "isinstance"=some (.builtin "isinstance")) (he:PD X W e t) (hgx:Gl X x) (gC:X.mg x=some (.ref (He.ga X.K x)))
  (hdb:(x == ("__debug__":Str))=false:=by decide)
  (hs:starEach [e,.Name x q] X.env=(false,eval e X.env)::starEach [.Name x q] X.env:=by rfl) (hs2:starEach [.Name x q] X.env=(false,eval (.Name x q) X.env)::starEach [] X.env:=by rfl) (hpl:(backTo pos (starEach [.Name x q] X.env)).any (·.1)=false:=by rfl) :
  PD X W (.Call (.Name "isinstance" p) [e,.Name x q] [] pos) (jb ec ce t):=by
 subst hx;refine bA (pe_callB DY hg hm hb (pa_cons he (pa_cons (pe_glob (v:=.ref (He.ga X.K (enm ce))) hgx gC rfl hdb) pa_nil hs2) hs) (by decide) (by decide) hs hpl) λσ H Q h=>?_;obtain⟨ρ,M,S,E,ok,s,er,q⟩:=h;refine⟨ρ,M,S,E,ok,s,er,t.mono (λd M1 q1 v H1 S1 l1 o1 r1=>?_) (λ_ _ z=>z) q⟩;cases d with
 | exc c ds =>
  obtain⟨hc,q2⟩:=q1;obtain⟨a,rfl,ha⟩:=EY o1 r1 (T.lt c hc);exact⟨a,He.ga X.K (enm c),_,_,eW c ce,rfl,ClsV.own _,ha,T.cl c hc,T.kit c hc ce hce,q2 _ H1 S1 l1 o1 fw⟩
 | _=>exact q1.elim
structure XfK(K:Frg)(c:Nat)(f:Str):Prop where
 xf:XfC K (cw K c)
 no:PySem.W.findIn K (.ref (cw K c)) f=some none
def qg(alts:List (Nat × Nat)):Tr->Option Tr
 | .exc c ds=>(alts.lookup c).bind λi=>ds[i]?
 | _=>none
def ni(alts:List (Nat × Nat))(t:Rd Tr):Rd Tr:=⟨λρ M Q E=>t.f ρ M (λd M1=>au (qg alts d) λz=>Q z M1) E,λh h' q=>t.mono (λd M1=>cm λz=>h z M1) h' q⟩
theorem IV{alts:List (Nat × Nat)}{f:Str}{t:Rd Tr}(hf:∀ c i,(c,i)∈alts->c < 1000/\(efs c)[i]?=some f/\(efs c).Nodup/\XfK X.K c f)(he:PD X W e t)(hb:attributeBase e f X.env (eval e X.env)=eval e X.env):PD X W (.Attribute e f pos) (ni alts t):=by
 refine⟨λpins s σ H Q I h=>?_⟩;obtain⟨ρ,M,S,E,o,sl,er,q⟩:=h;refine attr_of hb (thn (he.run pins s σ H (λu H1=>∃ z M1 S1 d,Gr S H S1 H1/\OkH X.K S1 M1 H1/\Rep X.K S1 d u/\qg alts d=some z/\∀ v H' S',Gr S H S' H'->OkH X.K S' M1 H'->Rep X.K S' z v->Q v H') I ⟨ρ,M,S,E,o,sl,er,t.mono (λd M1 q1 v H1 S1 l1 o1 r1=>?_) (λ_ _ z=>z) q⟩) λu s1 hh=>?_)
 ·obtain⟨z,e1,q2⟩:=b8 q1;exact⟨z,M1,S1,d,l1,o1,r1,e1,q2⟩
 ·obtain⟨x,H1,I1,rx,z,M1,S1,d,l1,o1,r1,e1,q2⟩:=hh;cases d with
  | exc c ds =>
   simp only[qg] at e1;obtain⟨i,e2,e3⟩:=cn.mp e1;obtain⟨hc,hfi,hnd,X0⟩:=hf c i (nW e2);simp only[Rep] at r1;obtain⟨a,rfl,⟨dd,g,r2⟩|⟨c',q',e4,_⟩⟩:=r1
   case inr=>omega
   rcases r2 with ⟨_,_,rfl⟩|⟨d',fs,rfl,g2,hfs,r3,_⟩
   ·simp at e3
   obtain rfl:u=Value.ref a:=rx;obtain⟨⟨oe,vs,hget,hz,hv⟩,_,_⟩:=I1.hok a _ (o1.sub _ _ g);have hx2:ObjOk X.prog X.w H1 s1.heap d' (.xd fs):=I1.hok d' _ (o1.sub _ _ g2);obtain⟨mA,hns,hr⟩:=hx2;obtain⟨v,ev,rv⟩:=r3.get e3;have hlk:fs.lookup f=some v:=nV hfs hnd hfi ev;obtain⟨od,ho,hl⟩:=lookIn_ns hns;obtain⟨w,hw,rw'⟩:=RelO.some_of (v:=v) (o:=mA f) (by rw[<- hlk];exact hr f);have J:PySem.W.InstAt s1.heap a oe (cw X.K c) (some od):=⟨hget,hz.1,by unfold PySem.W.notCls;rw[hv] <;> rfl,by rw[hz.2];exact ho⟩
   exact HandSPX.exc_get I1.kIn J X0.xf.ga X0.xf.gg X0.xf.exC (PySem.W.findObj_own X0.xf.hdC X0.no rfl (by rw[hl,hw])) (handed_of rw') ⟨v,H1,I1.tok _,rw',q2 v H1 S1 l1 o1 rv⟩
  | _=>simp [qg] at e1
end
theorem Ip {K:Frg} {C:Addr} (q:td K C=true):∃ nm q N bs bm sn sub ab col dd k0 k1 k2 k3 k5,K.lookup C=some (excClassObj nm q C N bs bm true sn sub ab col dd k0 k1 k2 k3 k5 "ValueError.__new__")/\PySem.HandSPX.refsVE bm=true:=by
 unfold td at q
 split at q
 ·rename_i dd cd sl ho
  split at q
  ·rename_i C' bm k0 k1 k2 k3 n k5 hm hs;simp only[ax,beq_iff_eq,aam] at q;obtain⟨⟨⟨⟨rfl,rfl⟩,hdel⟩,hdct⟩,ht⟩:=q;obtain⟨nm,bs,mro,ns,qn,hd,sn,sub,ab,col,del⟩:=cd;dsimp only at hm hdel hdct;subst hm hdel hdct;have hsl:sl=#[k0,k1,k2,k3,some (.builtin "ValueError.__new__"),k5]:=by
    obtain⟨l⟩:=sl;simp only at hs;rw[hs]
   subst hsl;exact⟨nm,qn,ns,bs,bm,sn,sub,ab,col,dd,k0,k1,k2,k3,k5,ho,ht⟩
  ·cases q
 ·cases q
theorem CH{K:Frg}{c:Nat}(h:xoB c K=true):XoK K c:=by simp only[xoB,ax,decide_eq_true_eq] at h;obtain⟨h1,h2,h3,h4,h5,h6⟩:=h;exact⟨⟨Ip h1,h2,h3,h4,h5⟩,λf hf=>of_decide_eq_true (b7.mp h6 f hf)⟩
theorem Lh{K:Frg}(h:xiB K=true):XiK K:=by
 simp only[xiB,ax,decide_eq_true_eq] at h;obtain⟨h1,h2,h3⟩:=h;refine⟨h1,h2,?_⟩
 split at h3
 ·rename_i n e;rw[e,beq_iff_eq.mp h3]
 ·cases h3
theorem Lf{K:Frg}{c:Nat}{f:Str}(h:xkB c K=true)(o:XoK K c)(hf:f∈efs c):XfK K c f:=⟨xfB_ok h,o.no f hf⟩
section
variable {P:Program}{w:World}{K:Frg}{mg:Str->Option Value}{base:Heap}
theorem Li {g:Bool} {k c:Nat} {f:Addr} {fd:FuncData} {ps:List Str} (ne:efs c≠[]) (at_:mg (enm c)=some (.ref (cw K c))) (o:XoK K c) (M:Meth K (cw K c) "__init__" f) (F:cc g P w K mg base (L2.CX P w) k f fd ps (spX K c (okH g K c))) (hb:Binds K fd ps []):Xm g P w K mg base k c :=
 ⟨ne,at_,o,f,fd,ps,M.at_,beq_iff_eq.mp M.fn,F,hb⟩
theorem GW{g:Bool}{c:Nat}(hx:vj c=true):∀ a v H (Q:VK),okH g K c H [v]->(∀ y:Str,Q (.str y) H)->B6 g K [some (.ref a),some v] H Q:=λa v H Q h q=>by
 obtain⟨v',e,hc⟩:=h hx;cases e;exact⟨v,rfl,hc,q⟩
end
section
variable {fa:List He.Fa}{fn:List He.DefD}{ll:List Str}{ex:Frg->Bool}{h:Heap}{K:Frg}
abbrev csOf(K:Frg)(ll:List Str):List (Addr × Addr):=ll.map λx=>He.cT K (x,none)
theorem csOf_mem{p:Addr × Addr}(hp:p∈csOf K ll):∃ x,x∈ll/\p=He.cT K (x,none):=by obtain⟨x,hx,e⟩:=cJ.mp hp;exact⟨x,hx,e.symm⟩
theorem fF.inll(c:fF fa fn ll ex h K){x:Str}(hx:x∈LN)(hg:jm K x=true):x∈ll:=by have h1:=(gz.mp c.tt).1;have h2:=b7.mp h1 x hx;rw[hg,dw,Bool.false_or] at h2;exact of_decide_eq_true h2
theorem fF.tabK(c:fF fa fn ll ex h K):vz K:=⟨of_decide_eq_true (gz.mp c.tt).2⟩
theorem fF.tabAll(c:fF fa fn ll ex h K){mg:Str->Option Value}{base:Heap}(T:∀ p∈csOf K ll,LamX.TabB base mg p.1 p.2):vy K mg base:=λx hx hg=>T _ (cJ.mpr ⟨x,c.inll hx hg,rfl⟩)
theorem fF.start(c:fF fa fn ll ex h K){H:Hp}(hH:∀ p∈csOf K ll,H p.2=some (.tbl #[])):TX K H:=λp hp=>by
 obtain⟨x,hx,rfl⟩:=cJ.mp hp;obtain⟨h1,h2⟩:=List.mem_filter.mp hx;exact LamX.TabS.nil (hH _ (cJ.mpr ⟨x,c.inll h1 h2,rfl⟩))
end
theorem G8{cl:List Nat}{K:Frg}(h:xX cl K=true):dD K cl:=by obtain⟨h1,h2⟩:=gz.mp h;refine⟨λc hc=>?_,λg hg c hc=>of_decide_eq_true (b7.mp (b7.mp h2 g hg) c hc)⟩;have h3:=b7.mp h1 c hc;simp only[xP,ax,decide_eq_true_eq] at h3;obtain⟨a,b,c,d,e⟩:=h3;exact⟨He.cls_ok a,b,c,d,e⟩
section
variable {n:Nat}{fa fa2:List He.Fa}{fn fn2:List He.DefD}{p p2:Frg->Bool}{g:Addr->Option Obj}{r:PySem.W.OpenRow}{M:Nat}{w:World}
end
section
set_option maxHeartbeats 0
end
section
variable {P:Program}{w:World}{K:Frg}{mg:Str->Option Value}{base:Heap}
theorem Fy{g:Bool}{x:Str}{ps N:List Str}{k:Nat}{sp:Sf}{t:Sr}{st:Stmt}{f:Addr}{fd:FuncData}(D:FunD K x x (defArgs st) (defBody st) (defScope st) [] [] f fd)(hm:mg x=some (.ref f))(Sc:FnScope N ps (defScope st))
  (hbind:∀(kV doc pm:Value)(an:Option Addr)(cdv ct:Value)(us:List Value),us.length=ps.length->bindArgs (PySem.W.fnOf x x (defArgs st) (defBody st) (defScope st) .none kV doc pm an cdv ct) ⟨us,[]⟩=pure (ps.zip us))
  (hb:∀(cdv:Value)(A:Around)(outer:List Env)(s:Shared)(H:Hp)(E:XK),Room k (A.deeper (envOfC x (defScope st) s.heap.objs.size f cdv))->(g=true->Gd base A)->dE (BX P w K mg base N x (defScope st) f cdv A outer s H E) (WB E) (defBody st) t)
  (h:∀(ds:List Tr)(M:Me)(Q E:TK),ds.length=ps.length->sp.f ds M Q E->t.f (ap M.length Q E) (df N ds) M):Fn g P w K mg base x (k+1) ps.length [] sp :=
 ⟨f,fd,ps,[],[],iy D Sc hb λds M Q E hl _ _ q=>h ds M Q E hl q,hm,D.kp,D.bindsN hbind,.nil,λ_=>ah.nil⟩
theorem Fn.up{g g':Bool}{x:Str}{j k n:Nat}{dds:List Tr}{sp:Sf}(F:Fn g P w K mg base x j n dds sp)(h:j<=k)(hg:g=true->g'=true):Fn g' P w K mg base x k n dds sp:=by obtain⟨f,fd,ps,ds,dvs,F1,r⟩:=F.ex;exact⟨f,fd,ps,ds,dvs,F1.mono h hg,r⟩
theorem j6{g:Bool}{x:Str}{ps:List Str}{k:Nat}{st:Stmt}{f:Addr}{fd:FuncData}(D:FunD K x x (defArgs st) (defBody st) (defScope st) [] [] f fd)(hm:mg x=some (.ref f))
  (hbind:∀(kV doc pm:Value)(an:Option Addr)(cdv ct:Value)(us:List Value),us.length=ps.length->bindArgs (PySem.W.fnOf x x (defArgs st) (defBody st) (defScope st) .none kV doc pm an cdv ct) ⟨us,[]⟩=pure (ps.zip us)) {sp:Sf} (h:∀ ds M Q E,¬ sp.f ds M Q E):Fn g P w K mg base x k ps.length [] sp :=
 ⟨f,fd,ps,[],[],⟨λvs H Q E q=>q.1,λA outer s H args us vs Q E _ _ _ _ _ q=>by
  obtain⟨_,ds,M,S,_,_,q⟩:=q;exact(h _ _ _ _ q).elim⟩,hm,D.kp,D.bindsN hbind,.nil,λ_=>ah.nil⟩
end
abbrev bM(K:Frg)(mg:Str->Option Value)(x:Str)(st:Stmt):Prop:=∃ f fd,FunD K x x (defArgs st) (defBody st) (defScope st) [] [] f fd/\mg x=some (.ref f)
abbrev gh(K:Frg)(x m q:Str)(st:Stmt):Prop:=(∃ f fd,FunD K m q (defArgs st) (defBody st) (defScope st) [] [] f fd/\Meth K (He.ga K x) m f)/\Cls K (He.ga K x)
abbrev vm (K:Frg) (mg:Str->Option Value) (x q:Str) (st:Stmt) (dvs:List V):Prop:=∃ f fd,FunD K "__init__" q (defArgs st) (defBody st) (defScope st) dvs [] f fd/\Mk K (He.ga K x) f/\mg x=some (.ref (He.ga K x))
abbrev vA (K:Frg) (c:Nat) (q:Str) (st:Stmt):Prop:=∃ f fd,FunD K "__init__" q (defArgs st) (defBody st) (defScope st) [] [] f fd/\Meth K (cw K c) "__init__" f
section
variable {P:Program}{w:World}{K:Frg}{mg:Str->Option Value}{base:Heap}
theorem xp{g:Bool}{x:Str}{ps N:List Str}{k:Nat}{sp:Sf}{t:Sr}{st:Stmt}{f:Addr}{fd:FuncData}(D:FunD K x x (defArgs st) (defBody st) (defScope st) [] [] f fd)(hm:mg x=some (.ref f))(Sc:FnScope N ps (defScope st))
  (hbind:∀(kV doc pm:Value)(an:Option Addr)(cdv ct:Value)(us:List Value),us.length=ps.length->bindArgs (PySem.W.fnOf x x (defArgs st) (defBody st) (defScope st) .none kV doc pm an cdv ct) ⟨us,[]⟩=pure (ps.zip us))
  (hb:∀(cdv:Value)(A:Around)(outer:List Env)(s:Shared)(H:Hp)(E:XK),Room k (A.deeper (envOfC x (defScope st) s.heap.objs.size f cdv))->(g=true->Gd base A)->dE (BX P w K mg base N x (defScope st) f cdv A outer s H E) (WB E) (defBody st) t)
  (h:∀(ds:List Tr)(M:Me)(Q E:TK),ds.length=ps.length->(∀ c∈M,ee M.length c)->sp.f ds M Q E->t.f (ap M.length Q E) (df N ds) M):Fn g P w K mg base x (k+1) ps.length [] sp :=
 ⟨f,fd,ps,[],[],iy D Sc hb λds M Q E hl _ hC q=>h ds M Q E hl hC q,hm,D.kp,D.bindsN hbind,.nil,λ_=>ah.nil⟩
theorem HV{x:Str}{c n:Nat}(hx:x=cnm c){ps N:List Str}{k:Nat}{sp:Sf}{t:Sr}{st:Stmt}{nm q:Str}{dvs:List V}{f:Addr}{fd:FuncData}(D:FunD K nm q (defArgs st) (defBody st) (defScope st) dvs [] f fd)(hmk:Mk K (He.ga K x) f)(hm:mg x=some (.ref (He.ga K x)))
  (Sc:FnScope N ps (defScope st)) (hbn:Binds K fd ps []) (hn:ps.length=n+1)
  (hb:∀(cdv:Value)(A:Around)(outer:List Env)(s:Shared)(H:Hp)(E:XK),Room k (A.deeper (envOfC q (defScope st) s.heap.objs.size f cdv))->dE (BX P w K mg base N q (defScope st) f cdv A outer s H E) (WB E) (defBody st) t)
  (h:∀(ds:List Tr)(M:Me)(Q E:TK),ds.length=ps.length->sp.f ds M Q E->t.f (ap M.length Q E) (df N ds) M):Mkr P w K mg base x c (k+1) n [] sp:=by
 have F:=(iy (g:=false) D Sc (λcdv A outer s H E hr _=>hb cdv A outer s H E hr) (P:=P) (w:=w) (mg:=mg) (base:=base) λds M Q E hl _ _ q=>h ds M Q E hl q).ok;rw[hn] at F;exact⟨hx,f,fd,ps,[],[],hmk,F,hm,hbn,.nil,λ_=>ah.nil⟩
theorem Mkr.up{x:Str}{c j k n:Nat}{dds:List Tr}{sp:Sf}(F:Mkr P w K mg base x c j n dds sp)(h:j<=k):Mkr P w K mg base x c k n dds sp:=by obtain⟨hx,f,fd,ps,ds,dvs,hm,F1,r⟩:=F;exact⟨hx,f,fd,ps,ds,dvs,hm,F1.mono h,r⟩
end
mutual
def bG(M:Me):Tr->Tr->Prop
 | d,.lst ts=>∃ rs,(d=.lst rs∨∃ k,d=.cell k/\M[k]?=some (.lst rs))/\bX M rs ts
 | d,.tup ts=>∃ rs,d=.tup rs/\bX M rs ts
 | d,.dct ks ts=>∃ rs,(d=.dct ks rs∨∃ k,d=.cell k/\M[k]?=some (.dct ks rs))/\bX M rs ts
 | d,.ins c ts=>∃ rs,(d=.ins c rs∨∃ k,d=.cell k/\M[k]?=some (.ins c rs)/\rs.length=(cfs c).length)/\bX M rs ts
 | d,.non=>d=.non
 | d,.bl b=>d=.bl b
 | d,.int i=>d=.int i
 | d,.str x=>d=.str x
 | _,.cell _=>False
 | d,.scr ns=>d=.scr ns
 | _,.exc _ _=>False
 | _,.dkf _ _=>False
def bX(M:Me):List Tr->List Tr->Prop
 | ds,[]=>ds=[]
 | ds,t::ts=>∃ d r,ds=d::r/\bG M d t/\bX M r ts
end
def d9(S:Gh)(H:Hp):Hp:=λa=>match S.G a with
 | some o=>some o
 | none=>if a∈S.C then H a else none
section
variable {K:Frg}{S:Gh}{M:Me}{H:Hp}
theorem gK{a:Addr}{o:HO}(h:S.G a=some o):d9 S H a=some o:=by unfold d9;rw[h]
theorem rq{a:Addr}(h:a∈S.C)(n:S.G a=none):d9 S H a=H a:=by unfold d9;rw[n];exact if_pos h
theorem vD(o:OkH K S M H){a:Addr}{u:HO}(h:d9 S H a=some u):H a=some u:=by
 unfold d9 at h;cases e:S.G a with
 | some v=>rw[e] at h;rw[<- h];exact o.sub a v e
 | none =>
  rw[e] at h;dsimp only at h
  split at h
  ·exact h
  ·cases h
theorem mX{k:Nat}{a:Addr}(h:S.C[k]?=some a):a∈S.C:=eR.mpr ⟨k,h⟩
theorem vT(o:OkH K S M H){a:Addr}(h:a∈S.C):∃(k:Nat)(c:Ce),S.C[k]?=some a/\M[k]?=some c/\dz K S H a c:=by
 obtain⟨k,hk⟩:=eR.mp h;have hk2:k < M.length:=by rw[<- o.len];exact(bL.mp hk).1
 exact⟨k,M[k],hk,by simp [hk2],o.cell k a _ hk (by simp [hk2])⟩
theorem Iu(o:OkH K S M H):OkH K ⟨d9 S H,[]⟩ [] H :=
 ⟨λa u h=>vD o h,rfl,List.nodup_nil,λk a c h=>by simp at h,⟨o.tb.tabs,λa ps h=>by
  have h:d9 S H a=some (.tbl ps):=h;cases e:S.G a with
  | some v=>rw[gK e] at h;cases h;exact o.tb.nt a ps e
  | none =>
   by_cases hc:a∈S.C
   ·obtain⟨k,c,e1,e2,q⟩:=vT o hc;obtain⟨u,f1,f2⟩:=q.obj;have:=vD o h;rw[f1] at this;cases this;exact f2
   ·unfold d9 at h;rw[e] at h;dsimp only at h;rw[if_neg hc] at h;cases h⟩⟩
mutual
theorem K0(o:OkH K S M H):∀(t d:Tr)(v:V),bG M d t->Rep K S d v->Rep K ⟨d9 S H,[]⟩ t v
 | .lst ts,d,v,h,r=>by
  simp only[bG] at h;obtain⟨rs,h1,h2⟩:=h;simp only[Rep];rcases h1 with rfl|⟨k,rfl,hk⟩
  ·simp only[Rep] at r;obtain⟨a,vs,rfl,g,q⟩:=r;exact⟨a,vs,rfl,gK g,hV o ts rs vs h2 q⟩
  ·obtain⟨a,rfl,hc,n,vs,e,q⟩:=cC o r hk;exact⟨a,vs,rfl,(rq (mX hc) n).trans e,hV o ts rs vs h2 q⟩
 | .tup ts,d,v,h,r=>by
  simp only[bG] at h;obtain⟨rs,rfl,h2⟩:=h;simp only[Rep] at r ⊢;obtain⟨a,vs,rfl,g,q⟩:=r;refine⟨a,vs,rfl,?_,hV o ts rs vs h2 q⟩;rcases g with (g|⟨u,g⟩)|g
  ·exact .inl (.inl (gK g))
  ·exact .inl (.inr ⟨u,gK g⟩)
  ·exact .inr g
 | .dct ks ts,d,v,h,r=>by
  simp only[bG] at h;obtain⟨rs,h1,h2⟩:=h;simp only[Rep];rcases h1 with rfl|⟨k,rfl,hk⟩
  ·simp only[Rep] at r;obtain⟨a,kvs,rfl,g,e,q⟩:=r;exact⟨a,kvs,rfl,gK g,e,hV o ts rs _ h2 q⟩
  ·obtain⟨a,rfl,hc,n,kvs,e,e2,q⟩:=cC o r hk;exact⟨a,kvs,rfl,(rq (mX hc) n).trans e,e2,hV o ts rs _ h2 q⟩
 | .ins c ts,d,v,h,r=>by
  simp only[bG] at h;obtain⟨rs,h1,h2⟩:=h;simp only[Rep];rcases h1 with rfl|⟨k,rfl,hk,hl⟩
  ·simp only[Rep] at r;obtain⟨a,dx,fs,rfl,g,e,q⟩:=r;exact⟨a,dx,fs,rfl,gK g,e,hV o ts rs _ h2 q⟩
  ·obtain⟨a,rfl,hc,n,dx,fs,e,e2,q⟩:=cC o r hk;refine⟨a,dx,fs,rfl,(rq (mX hc) n).trans e,?_,hV o ts rs _ h2 q⟩;rw[e2,hl,List.take_length]
 | .non,d,v,h,r=>by simp only[bG] at h;subst h;simpa only [Rep] using r
 | .bl b,d,v,h,r=>by simp only[bG] at h;subst h;simpa only [Rep] using r
 | .int i,d,v,h,r=>by simp only[bG] at h;subst h;simpa only [Rep] using r
 | .str x,d,v,h,r=>by simp only[bG] at h;subst h;simpa only [Rep] using r
 | .cell _,d,v,h,r=>by simp only[bG] at h
 | .scr ns,d,v,h,r=>by
  simp only[bG] at h;subst h;simp only[Rep] at r ⊢;obtain⟨a,rfl,g⟩:=r;refine⟨a,rfl,?_⟩;rcases g with (g|⟨u,g⟩)|g
  ·exact .inl (.inl (gK g))
  ·exact .inl (.inr ⟨u,gK g⟩)
  ·exact .inr g
 | .exc _ _,d,v,h,r=>by simp only[bG] at h
 | .dkf _ _,d,v,h,r=>by simp only[bG] at h
theorem hV(o:OkH K S M H):∀(ts ds:List Tr)(vs:List V),bX M ds ts->ah K S ds vs->ah K ⟨d9 S H,[]⟩ ts vs
 | [],ds,vs,h,r=>by simp only[bX] at h;subst h;simpa only [ah] using r
 | t::ts,ds,vs,h,r=>by
  simp only[bX] at h;obtain⟨d,r',rfl,h1,h2⟩:=h;simp only[ah] at r ⊢;obtain⟨v,w,rfl,q1,q2⟩:=r;exact⟨v,w,rfl,K0 o t d v h1 q1,hV o ts r' w h2 q2⟩
end
def rE(S S':Gh):Gh:=⟨λa=>if a∈S.C then S.G a else S'.G a,S.C++S'.C⟩
end
theorem DQ{K:Frg}{S S':Gh}{M M':Me}{H H':Hp}(o:OkH K S M H)(l:Gr ⟨d9 S H,[]⟩ H S' H')(o':OkH K S' M' H') :
  Gr S H ⟨(rE S S').G,S.C⟩ H'/\OkH K ⟨(rE S S').G,S.C⟩ M H':=by
 have le:Le S ⟨(rE S S').G,S.C⟩:=⟨λa u h=>by
  show (if a∈S.C then S.G a else S'.G a)=some u
  split
  ·exact h
  ·exact l.le.g a u (gK h),aap _⟩
 have kp:∀ a u,H a=some u->(∀ ps,u≠.tbl ps)->H' a=some u:=λa u h n=>l.keep a u h n (by simp);refine⟨⟨le,λa h1 h2=>absurd h1 h2,λa u h n _=>kp a u h n,λa h1 h2=>?_⟩,⟨λa u h=>?_,o.len,o.nd,λk a c e1 e2=>?_,⟨o'.tb.tabs,λa ps h=>?_⟩⟩⟩
 ·by_cases hc:a∈S.C
  ·exact .inr hc
  ·have h3:S'.G a≠none:=by
    intro z;apply h2;show (if a∈S.C then S.G a else S'.G a)=none;rw[if_neg hc];exact z
   have h4:d9 S H a=none:=by unfold d9;rw[h1];exact if_neg hc
   rcases l.fz a h4 h3 with z|z
   ·exact .inl z
   ·simp at z
 ·have h:(if a∈S.C then S.G a else S'.G a)=some u:=h
  split at h
  ·have h5:=o.sub a u h;exact kp a u h5 λps z=>o.tb.nt a ps (by rw[h,z])
  ·exact o'.sub a u h
 ·have q:=o.cell k a c e1 e2;have hm:=mX e1;refine q.mono le ?_ λu h=>?_
  ·show (if a∈S.C then S.G a else S'.G a)=S.G a;rw[if_pos hm]
  ·obtain⟨u',f1,f2⟩:=q.obj;rw[f1] at h;cases h;exact kp a _ f1 f2.ntb
 ·have h:(if a∈S.C then S.G a else S'.G a)=some (.tbl ps):=h
  split at h
  ·exact o.tb.nt a ps h
  ·exact o'.tb.nt a ps h
def k9(f:FA)(u:Rd (List Tr)):Rd Tr:=⟨λρ M Q E=>u.f ρ M (λds M1=>∃ ts z,bX M1 ds ts/\f [] ts=some (z,[])/\bI z=true/\Q z M1) E,λh h' q=>u.mono (λds M1 ⟨ts,z,a,b,c,q⟩=>⟨ts,z,a,b,c,h _ _ q⟩) h' q⟩
section
variable {X:Cx}{W:WX}{pos p:Pos}{e:Expr}{es:List Expr}{u:Rd (List Tr)}{x:Str}{id:String}{f:FA}
theorem Hx{K:Frg}{f:FA}{σ:L2.St}{H:Hp}{Q:VK}(h:bO K W (k9 f u) σ H Q):tCB (rA K f) (gT K W u) σ H Q:=by obtain⟨ρ,M,S,E,o,s,er,q⟩:=h;refine⟨ρ,M,S,E,o,s,er,u.mono (λds M1 q1 vs H1 S1 l1 o1 r1=>?_) (λ_ _ z=>z) q⟩;obtain⟨ts,z,hv,hf,hz,q1⟩:=q1;refine⟨⟨d9 S1 H1,[]⟩,[],ts,z,[],Iu o1,hV o1 ts ds vs hv r1,hf,λw H' S' l' o' r'=>?_⟩;obtain⟨l2,o2⟩:=DQ o1 l' o';exact q1 w H' _ (l1.trans l2) o2 (sA hz r')
theorem IF (hc:CallR X (.builtin id) (rA X.K f)) (hg:Gl X x) (hm:X.mg x=none) (hv:bootBuiltins x=some (.builtin id)) (ha:PDA X W (e::es) u) (hn:x≠"__name__":=by decide) (hdb:(x == ("__debug__":Str))=false:=by decide)
  (he:starEach (e::es) X.env=(false,eval e X.env)::starEach es X.env:=by rfl) (hpl:(backTo pos (starEach es X.env)).any (·.1)=false:=by rfl):PD X W (.Call (.Name x p) (e::es) [] pos) (k9 f u) :=
 bA (pe_callB hc hg hm hv ha hn hdb he hpl) λ_ _ _=>Hx
end
theorem K1{M:Me}{d t:Tr}(h:bG M d t):bX M [d] [t]:=by simp only[bX];exact⟨d,[],rfl,h,rfl⟩
theorem bX.app{M:Me}:∀{ts us ds es:List Tr},bX M ds ts->bX M es us->bX M (ds++es) (ts++us)
 | [],us,ds,es,h,h2=>by simp only[bX] at h;subst h;exact h2
 | t::ts,us,ds,es,h,h2=>by
  simp only[bX] at h;obtain⟨d,r,rfl,h1,h3⟩:=h;simp only[aY,bX];exact⟨d,r++es,rfl,h1,bX.app h3 h2⟩
theorem bX.len{M:Me}:∀{ts ds:List Tr},bX M ds ts->ds.length=ts.length
 | [],ds,h=>by simp only[bX] at h;subst h;rfl
 | t::ts,ds,h=>by
  simp only[bX] at h;obtain⟨d,r,rfl,_,h3⟩:=h;simp [bX.len h3]
theorem K3{M:Me}{u:Rd (List Tr)}{ρ:En}{Q E:TK}(h:u.f ρ M (λds M1=>∃ d t w,ds=[d]/\bG M1 d t/\(∀ N,ca N [t]=some (.str w,N))/\Q (.str w) M1) E):(k9 ca u).f ρ M Q E :=
 u.mono (λds M1 ⟨d,t,w,e,hv,hr,q⟩=>by subst e;exact⟨[t],.str w,K1 hv,hr [],rfl,q⟩) (λ_ _ z=>z) h
structure rm(P:Program)(w:World)(K:Frg)(mg:Str->Option Value)(base:Heap)(c:Nat)(m:Str)(k n:Nat)(sp:Sf):Prop where
 ex:∃(f:Addr)(fd:FuncData)(ps:List Str),cc false P w K mg base (L2.CX P w) k f fd ps (liftF K sp n)/\PySem.W.findIn K (.ref (He.ga K (cnm c))) m=some (some (.ref f))/\PySem.W.isFn K (.ref f)=true/\L2.Binds K fd ps []
theorem rm.up{P:Program}{w:World}{K:Frg}{mg:Str->Option Value}{base:Heap}{c:Nat}{m:Str}{j k n:Nat}{sp:Sf}(F:rm P w K mg base c m j n sp)(h:j<=k):rm P w K mg base c m k n sp:=by obtain⟨f,fd,ps,F1,r⟩:=F.ex;exact⟨f,fd,ps,F1.mono h (λz=>z),r⟩
def nI(z:Option Nat × List Tr)(M:Me):Prop:=∀ k,z.1=some k->M[k]?=some (.lst z.2)
structure mP(K:Frg)(J:It)(z:Option Nat × List Tr)(S:Gh):Prop where
 go:∀(i:Nat) S2 M2 H,Le S S2->OkH K S2 M2 H->nI z M2->i < z.2.length->J.go i H
 yld:∀(i:Nat) S2 M2 H x H2,Le S S2->OkH K S2 M2 H->nI z M2->i < z.2.length->J.yld i H x H2->∃ S3 d,z.2[i]?=some d/\Gr S2 H S3 H2/\OkH K S3 M2 H2/\Rep K S3 d x
 stop:∀ S2 M2 H,Le S S2->OkH K S2 M2 H->nI z M2->J.stop z.2.length H
theorem mP.of{K:Frg}{J:It}{xs:List Tr}{S:Gh}{H0:Hp}(w:ig K J xs S H0):mP K J (none,xs) S :=
 ⟨λi S2 M2 H l o _ hi=>w.go i S2 M2 H l o hi,λi S2 M2 H x H2 l o _ hi y=>w.yld i S2 M2 H x H2 l o hi y,λS2 M2 H l o _=>w.stop S2 M2 H l o⟩
theorem mP.cell{K:Frg}{k:Nat}{a:Addr}{xs:List Tr}{S:Gh}(hC:S.C[k]?=some a):mP K (Itl K a) (some k,xs) S:=by
 have seq:∀{S2:Gh}{M2:Me}{H:Hp},Le S S2->OkH K S2 M2 H->nI (some k,xs) M2->∃ vs,SqL K H a vs/\ah K S2 xs vs:=λ{S2 M2 H} l o h=>by
  obtain⟨_,vs,e1,e2⟩:=o.cell k a _ (zf l.c hC) (h k rfl);exact⟨vs,SqL.of e1,e2⟩
 refine⟨λi S2 M2 H l o h hi=>?_,λi S2 M2 H x H2 l o h hi y=>?_,λS2 M2 H l o h=>?_⟩
 ·obtain⟨vs,s,r⟩:=seq l o h;have hi:i < xs.length:=hi;have:=r.length;exact⟨vs,vs[i]'(by omega),s,by simp [show i < vs.length by omega]⟩
 ·obtain⟨vs,s,r⟩:=seq l o h;obtain⟨rfl,y⟩:=y;obtain⟨d,e1,e2⟩:=r.get' (y vs s);exact⟨S2,d,e1,Gr.refl _ _,o,e2⟩
 ·obtain⟨vs,s,r⟩:=seq l o h;exact⟨vs,s,by have:=r.length;show vs.length<=xs.length;omega⟩
end DL
namespace PySem.SeqAt
open PySem PySem.Spec PyProof.Rows
end PySem.SeqAt
namespace DL
open PySem PySem.Spec PyProof.Rows L2
open PySem.W renaming Frag -> Frg
def m9(c:Nat)(sp:Sf)(n:Nat)(t:Rd Tr)(u:Rd (List Tr)):Rd Tr:=⟨λρ M Q E=>t.f ρ M (λd M1=>(∃ xs,d=.ins c xs)/\u.f ρ M1 (λds M2=>(d::ds).length=n/\sp.f (d::ds) M2 Q E) E) E,
 λh h' q=>t.mono (λd M1 z=>⟨z.1,u.mono (λds M2 w=>⟨w.1,sp.mono h h' w.2⟩) h' z.2⟩) h' q⟩
structure cq(P:Program)(w:World)(K:Frg)(mg:Str->Option Value)(base:Heap)(c:Nat)(m:Str)(k n:Nat)(sp:Sf):Prop where
 ex:∃(f:Addr)(fd:FuncData)(ps:List Str),cc false P w K mg base (L2.CX P w) k f fd ps (liftF K sp n)/\Meth K (He.ga K (cnm c)) m f/\L2.Binds K fd ps []
 cls:Cls K (He.ga K (cnm c))
 no:(cfs c).contains m=false
theorem cq.up{P:Program}{w:World}{K:Frg}{mg:Str->Option Value}{base:Heap}{c:Nat}{m:Str}{j k n:Nat}{sp:Sf}(F:cq P w K mg base c m j n sp)(h:j<=k):cq P w K mg base c m k n sp:=by obtain⟨⟨f,fd,ps,F1,r⟩,a,b⟩:=F;exact⟨⟨f,fd,ps,F1.mono h (λz=>z),r⟩,a,b⟩
theorem HH{fs:List (Str × V)}{m:Str}(h:(fs.map Prod.fst).contains m=false):fs.lookup m=none:=by
 induction fs with
 | nil=>rfl
 | cons p r ih =>
  simp only[aO,List.contains_cons,hZ] at h;obtain⟨x,v⟩:=p;simp only[List.lookup_cons,h.1];exact ih h.2
abbrev pmU(pm:List Nat)(ws:List Value):List Value:=pm.map λi=>ws.getD i .none
def KwB(fd:FuncData)(ps ks:List Str)(n:Nat)(pm:List Nat):Prop:=∀(s:Shared)(us ws:List Value),us.length=n->ws.length=ks.length->BindsTo s fd ⟨us,ks.zip ws⟩ (ps.zip (us++pmU pm ws))
structure qw(P:Program)(w:World)(K:Frg)(mg:Str->Option Value)(base:Heap)(x:Str)(c k:Nat)(ks:List Str)(pm:List Nat)(sp:Sf):Prop where
 nm:x=cnm c
 ex:∃(f:Addr)(fd:FuncData)(ps:List Str),Mk K (He.ga K x) f/\FnOk P w K mg base (L2.CX P w) k f fd ps (liftF K sp (pm.length+1))/\mg x=some (.ref (He.ga K x))/\KwB fd ps ks 1 pm
structure FnK(P:Program)(w:World)(K:Frg)(mg:Str->Option Value)(base:Heap)(x:Str)(k:Nat)(ks:List Str)(pm:List Nat)(sp:Sf):Prop where
 ex:∃(f:Addr)(fd:FuncData)(ps:List Str),cc false P w K mg base (L2.CX P w) k f fd ps (liftF K sp pm.length)/\mg x=some (.ref f)/\PySem.W.keepIn K (.ref f)=true/\KwB fd ps ks 0 pm
structure rl(P:Program)(w:World)(K:Frg)(mg:Str->Option Value)(base:Heap)(c:Nat)(m:Str)(k:Nat)(ks:List Str)(pm:List Nat)(sp:Sf):Prop where
 ex:∃(f:Addr)(fd:FuncData)(ps:List Str),cc false P w K mg base (L2.CX P w) k f fd ps (liftF K sp (pm.length+1))/\Meth K (He.ga K (cnm c)) m f/\KwB fd ps ks 1 pm
 cls:Cls K (He.ga K (cnm c))
 no:(cfs c).contains m=false
structure rj(P:Program)(w:World)(K:Frg)(mg:Str->Option Value)(base:Heap)(c k n:Nat)(sp:Sf):Prop where
 ex:∃(f:Addr)(fd:FuncData)(ps:List Str),cc false P w K mg base (L2.CX P w) k f fd ps (liftF K sp n)/\StX.CallO K (He.ga K (cnm c)) f/\L2.Binds K fd ps []
theorem rj.up{P:Program}{w:World}{K:Frg}{mg:Str->Option Value}{base:Heap}{c j k n:Nat}{sp:Sf}(F:rj P w K mg base c j n sp)(h:j<=k):rj P w K mg base c k n sp:=by obtain⟨f,fd,ps,F1,r⟩:=F;exact⟨f,fd,ps,F1.mono h (λz=>z),r⟩
section
variable {P:Program}{w:World}{K:Frg}{mg:Str->Option Value}{base:Heap}
theorem qw.up{x:Str}{c j k:Nat}{ks:List Str}{pm:List Nat}{sp:Sf}(F:qw P w K mg base x c j ks pm sp)(h:j<=k):qw P w K mg base x c k ks pm sp:=by obtain⟨hx,f,fd,ps,hm,F1,r⟩:=F;exact⟨hx,f,fd,ps,hm,F1.mono h,r⟩
theorem FnK.up{x:Str}{j k:Nat}{ks:List Str}{pm:List Nat}{sp:Sf}(F:FnK P w K mg base x j ks pm sp)(h:j<=k):FnK P w K mg base x k ks pm sp:=by obtain⟨f,fd,ps,F1,r⟩:=F;exact⟨f,fd,ps,F1.mono h (λz=>z),r⟩
theorem rl.up{c j k:Nat}{m:Str}{ks:List Str}{pm:List Nat}{sp:Sf}(F:rl P w K mg base c m j ks pm sp)(h:j<=k):rl P w K mg base c m k ks pm sp:=by obtain⟨⟨f,fd,ps,F1,r⟩,a,b⟩:=F;exact⟨⟨f,fd,ps,F1.mono h (λz=>z),r⟩,a,b⟩
end
section
variable {K:Frg}{h:Heap}{mg:Str->Option Value}{fa:List He.Fa}{fn:List He.DefD}
theorem dfk(X:K.In h)(G:h.Ns mainGlobals mg)(c:He.SaysD fa fn K){x:Str}{s:Stmt}(i j:Nat)(h1:fn[i]?=some (dfn x s):=by rfl)(h2:fa[j]?=some (.glo x):=by rfl):bM K mg x s:=by obtain⟨fd,F⟩:=c.def_ i (d:=dfn x s) h1;exact⟨_,fd,F,He.glo_ok X G (c.fact j (f:=.glo x) h2)⟩
theorem gk(X:K.In h)(G:h.Ns mainGlobals mg)(c:He.SaysD fa fn K){x:Str}(j:Nat)(h2:fa[j]?=some (.glo x):=by rfl):mg x=some (.ref (He.ga K x)):=He.glo_ok X G (c.fact j (f:=.glo x) h2)
theorem frk(X:K.In h)(G:h.Ns mainGlobals mg)(c:He.SaysD fa fn K){x:Str}(j:Nat)(h2:fa[j]?=some (.free x):=by rfl):mg x=none:=He.free_ok X G (c.fact j (f:=.free x) h2)
end
section
variable {P:Program}{w:World}{K:Frg}{mg:Str->Option Value}{base:Heap}
theorem Fn.u{g g':Bool}{x:Str}{j k n:Nat}{dds:List Tr}{sp:Sf}(F:Fn g P w K mg base x j n dds sp)(h:j<=k:=by omega)(hg:g=true->g'=true:=by exact λz=>z):Fn g' P w K mg base x k n dds sp:=F.up h hg
theorem jh{g:Bool}{x:Str}{ps N:List Str}{k:Nat}{sp:Sf}{t:Sr}{st:Stmt}{f:Addr}{fd:FuncData}(D:FunD K x x (defArgs st) (defBody st) (defScope st) [] [] f fd)(hm:mg x=some (.ref f))(Sc:FnScope N ps (defScope st))
  (hb:∀(cdv:Value)(A:Around)(outer:List Env)(s:Shared)(H:Hp)(E:XK),Room k (A.deeper (envOfC x (defScope st) s.heap.objs.size f cdv))->(g=true->Gd base A)->dE (BX P w K mg base N x (defScope st) f cdv A outer s H E) (WB E) (defBody st) t)
  (h:∀(ds:List Tr)(M:Me)(Q E:TK),ds.length=ps.length->sp.f ds M Q E->t.f (ap M.length Q E) (df N ds) M)
  (hbind:∀(kV doc pm:Value)(an:Option Addr)(cdv ct:Value)(us:List Value),us.length=ps.length->bindArgs (PySem.W.fnOf x x (defArgs st) (defBody st) (defScope st) .none kV doc pm an cdv ct) ⟨us,[]⟩=pure (ps.zip us):=by first|exact(fun|_,_,_,_,_,_,[_],_=>rfl)|exact(fun|_,_,_,_,_,_,[_,_],_=>rfl)|exact(fun|_,_,_,_,_,_,[_,_,_],_=>rfl)|exact(fun|_,_,_,_,_,_,[_,_,_,_],_=>rfl)|exact(fun|_,_,_,_,_,_,[_,_,_,_,_],_=>rfl)|exact(fun|_,_,_,_,_,_,[_,_,_,_,_,_],_=>rfl)):Fn g P w K mg base x (k+1) ps.length [] sp:=Fy D hm Sc hbind hb h
theorem cV{g:Bool}{x:Str}{ps N:List Str}{k:Nat}{sp:Sf}{t:Sr}{st:Stmt}(W0:∃ f fd,FunD K x x (defArgs st) (defBody st) (defScope st) [] [] f fd/\mg x=some (.ref f))(Sc:FnScope N ps (defScope st))
  (hb:∀(f:Addr)(cdv:Value)(A:Around)(outer:List Env)(s:Shared)(H:Hp)(E:XK),Room k (A.deeper (envOfC x (defScope st) s.heap.objs.size f cdv))->(g=true->Gd base A)->dE (BX P w K mg base N x (defScope st) f cdv A outer s H E) (WB E) (defBody st) t)
  (h:∀(ds:List Tr)(M:Me)(Q E:TK),ds.length=ps.length->sp.f ds M Q E->t.f (ap M.length Q E) (df N ds) M)
  (hbind:∀(kV doc pm:Value)(an:Option Addr)(cdv ct:Value)(us:List Value),us.length=ps.length->bindArgs (PySem.W.fnOf x x (defArgs st) (defBody st) (defScope st) .none kV doc pm an cdv ct) ⟨us,[]⟩=pure (ps.zip us):=by first|exact(fun|_,_,_,_,_,_,[_],_=>rfl)|exact(fun|_,_,_,_,_,_,[_,_],_=>rfl)|exact(fun|_,_,_,_,_,_,[_,_,_],_=>rfl)|exact(fun|_,_,_,_,_,_,[_,_,_,_],_=>rfl)|exact(fun|_,_,_,_,_,_,[_,_,_,_,_],_=>rfl)|exact(fun|_,_,_,_,_,_,[_,_,_,_,_,_],_=>rfl)):Fn g P w K mg base x (k+1) ps.length [] sp:=by
 obtain⟨f,fd,D,hm⟩:=W0;exact jh D hm Sc (hb f) h hbind
end
section
open GenW
def Hu(K:Frg)(sp:Sf)(n:Nat):SpG:=λvs H Q E=>vs.length=n/\∃ ds M S,OkH K S M H/\ah K S ds vs /\
 sp.f ds M (λr M'=>∃ xs,r=.lst xs/\∀ ys H' S',Gr S H S' H'->OkH K S' M' H'->ah K S' xs ys->Q ys H') (λe M'=>∀ cls dd H' S',Gr S H S' H'->OkH K S' M' H'->Exc K S' e cls dd->E cls dd H')
end
section
open GenW
structure rk(P:Program)(w:World)(K:Frg)(mg:Str->Option Value)(base:Heap)(c:Nat)(m:Str)(k:Nat)(sp:Sf):Prop where
 ex:∃(f:Addr)(fd:FuncData)(ps:List Str)(j:Nat),j+3<=k/\GFn P w K mg base j f fd ps (Hu K sp 1)/\Meth K (He.ga K (cnm c)) m f/\L2.Binds K fd ps []
 cls:Cls K (He.ga K (cnm c))
 no:(cfs c).contains m=false
theorem rk.up{P:Program}{w:World}{K:Frg}{mg:Str->Option Value}{base:Heap}{c:Nat}{m:Str}{j k:Nat}{sp:Sf}(F:rk P w K mg base c m j sp)(h:j<=k):rk P w K mg base c m k sp:=by obtain⟨⟨f,fd,ps,i,hi,r⟩,a,b⟩:=F;exact⟨⟨f,fd,ps,i,by omega,r⟩,a,b⟩
end
mutual
def noL:Tr->Bool
 | .non=>true
 | .bl _=>true
 | .int _=>true
 | .str _=>true
 | .tup xs=>km xs
 | .ins _ xs=>km xs
 | _=>false
def km:List Tr->Bool
 | []=>true
 | d::ds=>noL d&&km ds
end
mutual
def vlT:Tr->Bool
 | .lst xs=>hY xs
 | d=>bI d
def hY:List Tr->Bool
 | []=>true
 | d::ds=>vlT d&&hY ds
end
def DpL(lo:Nat)(M:Me):Nat->Tr->Prop
 | 0,d=>bI d=true
 | n+1,d=>bI d=true∨∃ k xs,d=.cell k/\lo<=k/\M[k]?=some (.lst xs)/\∀ x∈xs,DpL lo M n x
mutual
def dpW:Tr->Nat
 | .lst xs=>nn xs+1
 | _=>0
def nn:List Tr->Nat
 | []=>0
 | d::ds=>max (dpW d) (nn ds)
end
def KA(M:Me)(Q:TK):TK:=λr _=>vlT r=true/\∀(B:Me)(d:Tr),bG (M++B) d r->DpL M.length (M++B) (dpW r) d->Q d (M++B)
def nh(sp:Sf)(dds:List Tr)(n:Nat)(u:Rd (List Tr)):Rd Tr:=⟨λρ M Q E=>u.f ρ M (λds M1=>km (ds++dds)=true/\(ds++dds).length=n/\sp.f (ds++dds) [] (KA M1 Q) (λ_ _=>False)) E,
 λh h' q=>u.mono (λds M1 ⟨a,b,z⟩=>⟨a,b,sp.mono (λr M' z=>⟨z.1,λB d h1 h2=>h _ _ (z.2 B d h1 h2)⟩) (λe M' z=>z) z⟩) h' q⟩
def unL(G:Hp):Hp:=λa=>match G a with
 | some (.lst _)=>none
 | o=>o
theorem uZ{G:Hp}{a:Addr}{o:HO}(h:G a=some o)(n:∀ vs,o≠.lst vs):unL G a=some o:=by
 unfold unL;rw[h];cases o <;> first|rfl|exact absurd rfl (n _)
theorem u3{G:Hp}{a:Addr}{o:HO}(h:unL G a=some o):G a=some o/\∀ vs,o≠.lst vs:=by
 unfold unL at h
 split at h
 ·cases h
 ·rename_i e;exact⟨h,λvs z=>e vs (by rw[h,z])⟩
section
variable {K:Frg}{S:Gh}{M:Me}{H:Hp}
mutual
theorem Ic:∀(d:Tr)(v:V),noL d=true->Rep K S d v->Rep K ⟨unL S.G,[]⟩ d v
 | .non,v,h,r=>by simpa only [Rep] using r
 | .bl b,v,h,r=>by simpa only [Rep] using r
 | .int i,v,h,r=>by simpa only [Rep] using r
 | .str x,v,h,r=>by simpa only [Rep] using r
 | .lst _,v,h,r=>by simp [noL] at h
 | .cell _,v,h,r=>by simp [noL] at h
 | .dct _ _,v,h,r=>by simp [noL] at h
 | .exc _ _,v,h,r=>by simp [noL] at h
 | .scr _,v,h,r=>by simp [noL] at h
 | .dkf _ _,v,h,r=>by simp [noL] at h
 | .tup xs,v,h,r=>by
  simp only[noL] at h;simp only[Rep] at r ⊢;obtain⟨a,vs,rfl,g,q⟩:=r;refine⟨a,vs,rfl,?_,n8 xs vs h q⟩;rcases g with (g|⟨u,g⟩)|g
  ·exact .inl (.inl (uZ g nofun))
  ·exact .inl (.inr ⟨u,uZ g nofun⟩)
  ·exact .inr g
 | .ins c xs,v,h,r=>by
  simp only[noL] at h;simp only[Rep] at r ⊢;obtain⟨a,dx,fs,rfl,g,e,q⟩:=r;exact⟨a,dx,fs,rfl,uZ g nofun,e,n8 xs _ h q⟩
theorem n8:∀(ds:List Tr)(vs:List V),km ds=true->ah K S ds vs->ah K ⟨unL S.G,[]⟩ ds vs
 | [],vs,h,r=>by simpa only [ah] using r
 | d::ds,vs,h,r=>by
  simp only[km,ax] at h;simp only[ah] at r ⊢;obtain⟨v,w,rfl,r1,r2⟩:=r;exact⟨v,w,rfl,Ic d v h.1 r1,n8 ds w h.2 r2⟩
end
theorem Iw(o:OkH K S M H):OkH K ⟨unL S.G,[]⟩ [] H :=
 ⟨λa u h=>o.sub a u (u3 h).1,rfl,List.nodup_nil,λk a c h=>by simp at h,⟨o.tb.tabs,λa ps h=>o.tb.nt a ps (u3 h).1⟩⟩
def flV:V->Prop
 | .ref _=>False
 | _=>True
def fV:V->Tr
 | .int i=>.int i
 | .str x=>.str x
 | .bl b=>.bl b
 | _=>.non
theorem sy{d:Tr}{v:V}(h:bI d=true)(r:Rep K S d v):flV v/\fV v=d:=by
 cases d with
 | non=>simp only[Rep] at r;subst r;exact⟨trivial,rfl⟩
 | bl b=>simp only[Rep] at r;subst r;exact⟨trivial,rfl⟩
 | int i=>simp only[Rep] at r;subst r;exact⟨trivial,rfl⟩
 | str x=>simp only[Rep] at r;subst r;exact⟨trivial,rfl⟩
 | _=>simp [bI] at h
structure gI(G:Hp)(A:List Addr):Prop where
 at_:∀ a∈A,∃ vs,G a=some (.lst vs)/\∀ v∈vs,(∃ d,bI d=true/\∀ S:Gh,Rep K S d v)∨∃ b∈A,v=.ref b
theorem gI.app{G:Hp}{A B:List Addr}(h:gI (K:=K) G A)(k:gI (K:=K) G B):gI (K:=K) G (A++B):=⟨λa ha=>by
 rcases bf.mp ha with ha|ha
 ·obtain⟨vs,e,q⟩:=h.at_ a ha;exact⟨vs,e,λv hv=>(q v hv).imp id λ⟨b,hb,z⟩=>⟨b,bf.mpr (.inl hb),z⟩⟩
 ·obtain⟨vs,e,q⟩:=k.at_ a ha;exact⟨vs,e,λv hv=>(q v hv).imp id λ⟨b,hb,z⟩=>⟨b,bf.mpr (.inr hb),z⟩⟩⟩
mutual
theorem vB:∀(r:Tr)(v:V),vlT r=true->Rep K S r v->∃ A,gI (K:=K) S.G A/\((bI r=true)∨∃ a∈A,v=.ref a)
 | .lst xs,v,h,q=>by
  simp only[vlT] at h;simp only[Rep] at q;obtain⟨a,vs,rfl,g,q⟩:=q;obtain⟨A,c,e⟩:=vC xs vs h q;refine⟨a::A,⟨λb hb=>?_⟩,.inr ⟨a,a6 ..,rfl⟩⟩;rcases aM.mp hb with rfl|hb
  ·exact⟨vs,g,λv hv=>(e v hv).imp id λ⟨b,h1,z⟩=>⟨b,aZ _ h1,z⟩⟩
  ·obtain⟨ws,e1,e2⟩:=c.at_ b hb;exact⟨ws,e1,λv hv=>(e2 v hv).imp id λ⟨b,h1,z⟩=>⟨b,aZ _ h1,z⟩⟩
 | .non,v,h,q=>⟨[],⟨λa h=>by simp at h⟩,.inl rfl⟩
 | .bl _,v,h,q=>⟨[],⟨λa h=>by simp at h⟩,.inl rfl⟩
 | .int _,v,h,q=>⟨[],⟨λa h=>by simp at h⟩,.inl rfl⟩
 | .str _,v,h,q=>⟨[],⟨λa h=>by simp at h⟩,.inl rfl⟩
 | .tup _,v,h,q=>by simp [vlT,bI] at h
 | .cell _,v,h,q=>by simp [vlT,bI] at h
 | .dct _ _,v,h,q=>by simp [vlT,bI] at h
 | .ins _ _,v,h,q=>by simp [vlT,bI] at h
 | .exc _ _,v,h,q=>by simp [vlT,bI] at h
 | .scr _,v,h,q=>by simp [vlT,bI] at h
 | .dkf _ _,v,h,q=>by simp [vlT,bI] at h
theorem vC:∀(xs:List Tr)(vs:List V),hY xs=true->ah K S xs vs->∃ A,gI (K:=K) S.G A/\∀ v∈vs,(∃ d,bI d=true/\∀ S:Gh,Rep K S d v)∨∃ b∈A,v=.ref b
 | [],vs,h,q=>by
  simp only[ah] at q;subst q;exact⟨[],⟨λa h=>by simp at h⟩,λv h=>by simp at h⟩
 | x::xs,vs,h,q=>by
  simp only[hY,ax] at h;simp only[ah] at q;obtain⟨v,w,rfl,q1,q2⟩:=q;obtain⟨A,c,e⟩:=vB x v h.1 q1;obtain⟨B,c',e'⟩:=vC xs w h.2 q2;refine⟨A++B,c.app c',λu hu=>?_⟩;rcases aM.mp hu with rfl|hu
  ·exact e.imp (λf=>⟨x,f,λS'=>sA f q1⟩) λ⟨b,h1,z⟩=>⟨b,bf.mpr (.inl h1),z⟩
  ·exact(e' u hu).imp id λ⟨b,h1,z⟩=>⟨b,bf.mpr (.inr h1),z⟩
end
def ixA:List Addr->Addr->Nat
 | [],_=>0
 | x::r,b=>if x=b then 0 else ixA r b+1
theorem sH:∀{A:List Addr}{b:Addr},b∈A->A[ixA A b]?=some b
 | x::r,b,h=>by
  unfold ixA
  by_cases e:x=b
  ·rw[if_pos e,e];rfl
  ·rw[if_neg e];rcases aM.mp h with h|h
   ·exact absurd h.symm e
   ·rw[bB];exact sH h
def tOV(A:List Addr)(n:Nat):V->Tr
 | .ref b=>.cell (n+ixA A b)
 | v=>fV v
theorem B7{A:List Addr}{n:Nat}{v:V}(h:flV v):tOV A n v=fV v:=by
 cases v <;> first|rfl|exact h.elim
theorem wU:∀ A0:List Addr,∃ A:List Addr,A.Nodup/\∀ a,a∈A↔a∈A0
 | []=>⟨[],List.nodup_nil,λ_=>Iff.rfl⟩
 | x::r=>by
  obtain⟨A,h1,h2⟩:=wU r
  by_cases e:x∈A
  ·exact⟨A,h1,λa=>by rw[h2 a,aM];exact⟨.inr,λz=>z.elim (λz=>by rw[z];exact(h2 x).mp e) id⟩⟩
  ·exact⟨x::A,List.nodup_cons.mpr ⟨e,h1⟩,λa=>by rw[aM,aM,h2 a]⟩
def gL(G:Hp)(A:List Addr)(n:Nat):Me:=A.map λa=>match G a with
 | some (.lst vs)=>.lst (vs.map (tOV A n))
 | _=>.dead
theorem D2{G:Hp}{A:List Addr}{M:Me}{a:Addr}{vs:List V}(ha:a∈A)(h:G a=some (.lst vs)):(M++gL G A M.length)[M.length+ixA A a]?=some (.lst (vs.map (tOV A M.length))):=by rw[fD (by omega),Nat.add_sub_cancel_left];unfold gL;rw[gB,sH ha,bF,h]
theorem DpL.mono{lo:Nat}{M:Me}:∀{m n:Nat}{d:Tr},DpL lo M m d->m<=n->DpL lo M n d
 | 0,0,d,h,_=>h
 | 0,n+1,d,h,_=>.inl h
 | m+1,0,d,h,l=>by omega
 | m+1,n+1,d,h,l=>by
  rcases h with h|⟨k,xs,e,h1,h2,h3⟩
  ·exact .inl h
  ·exact .inr ⟨k,xs,e,h1,h2,λx hx=>(h3 x hx).mono (by omega)⟩
def InA(A:List Addr)(v:V):Prop:=(∃ d,bI d=true/\∀ S:Gh,Rep K S d v)∨∃ b∈A,v=.ref b
theorem nu{A:List Addr}{n lo:Nat}{M:Me}{r:Tr}{v:V}(h:bI r=true)(q:Rep K S r v):bG M (tOV A n v) r/\DpL lo M (dpW r) (tOV A n v):=by
 obtain⟨h1,h2⟩:=sy h q;rw[B7 h1,h2];cases r with
 | non=>exact⟨by simp only[bG],rfl⟩
 | bl _=>exact⟨by simp only[bG],rfl⟩
 | int _=>exact⟨by simp only[bG],rfl⟩
 | str _=>exact⟨by simp only[bG],rfl⟩
 | _=>simp [bI] at h
mutual
theorem yu{A:List Addr}(c:gI (K:=K) S.G A):∀(r:Tr)(v:V),vlT r=true->Rep K S r v->InA (K:=K) A v->bG (M++gL S.G A M.length) (tOV A M.length v) r/\DpL M.length (M++gL S.G A M.length) (dpW r) (tOV A M.length v)
 | .lst xs,v,h,q,z=>by
  simp only[vlT] at h;simp only[Rep] at q;obtain⟨a,vs,rfl,g,q⟩:=q;have ha:a∈A:=by
   rcases z with ⟨d,f,z⟩|⟨b,hb,e⟩
   ·exact(sy f (z S)).1.elim
   ·cases e;exact hb
  obtain⟨ws,e1,e2⟩:=c.at_ a ha;rw[g] at e1;cases e1;have hc:=D2 (M:=M) ha g;obtain⟨l1,l2⟩:=yv c xs vs h q e2;simp only[tOV,bG,dpW];exact⟨⟨_,.inr ⟨_,rfl,hc⟩,l1⟩,.inr ⟨_,_,rfl,by omega,hc,l2⟩⟩
 | .non,v,h,q,z=>nu rfl q
 | .bl _,v,h,q,z=>nu rfl q
 | .int _,v,h,q,z=>nu rfl q
 | .str _,v,h,q,z=>nu rfl q
 | .tup _,v,h,q,z=>by simp [vlT,bI] at h
 | .cell _,v,h,q,z=>by simp [vlT,bI] at h
 | .dct _ _,v,h,q,z=>by simp [vlT,bI] at h
 | .ins _ _,v,h,q,z=>by simp [vlT,bI] at h
 | .exc _ _,v,h,q,z=>by simp [vlT,bI] at h
 | .scr _,v,h,q,z=>by simp [vlT,bI] at h
 | .dkf _ _,v,h,q,z=>by simp [vlT,bI] at h
theorem yv{A:List Addr}(c:gI (K:=K) S.G A):∀(xs:List Tr)(vs:List V),hY xs=true->ah K S xs vs->(∀ v∈vs,InA (K:=K) A v)->bX (M++gL S.G A M.length) (vs.map (tOV A M.length)) xs/\∀ x∈vs.map (tOV A M.length),DpL M.length (M++gL S.G A M.length) (nn xs) x
 | [],vs,h,q,z=>by
  simp only[ah] at q;subst q;exact⟨by simp only[bX,h9],λx hx=>by simp at hx⟩
 | x::xs,vs,h,q,z=>by
  simp only[hY,ax] at h;simp only[ah] at q;obtain⟨v,w,rfl,q1,q2⟩:=q;obtain⟨a1,a2⟩:=yu c x v h.1 q1 (z v (a6 ..));obtain⟨b1,b2⟩:=yv c xs w h.2 q2 λu hu=>z u (aZ _ hu);simp only[aO,bX,nn];refine⟨⟨_,_,rfl,a1,b1⟩,λy hy=>?_⟩;rcases aM.mp hy with rfl|hy
  ·exact a2.mono (by omega)
  ·exact(b2 y hy).mono (by omega)
end
theorem AX{S1:Gh}{f:V->Tr}:∀(vs:List V),(∀ v∈vs,Rep K S1 (f v) v)->ah K S1 (vs.map f) vs
 | [],_=>by simp only[h9,ah]
 | v::vs,h=>by
  simp only[aO,ah];exact⟨v,vs,rfl,h v (a6 ..),AX vs λu hu=>h u (aZ _ hu)⟩
theorem KC{S':Gh}{M':Me}{H':Hp}(o:OkH K S M H)(l:Gr ⟨unL S.G,[]⟩ H S' H')(o':OkH K S' M' H'){r:Tr}{v:V}(hr:vlT r=true)(rr:Rep K S' r v) :
  ∃(B:Me)(d:Tr)(S1:Gh),Gr S H S1 H'/\OkH K S1 (M++B) H'/\Rep K S1 d v/\bG (M++B) d r/\DpL M.length (M++B) (dpW r) d:=by
 obtain⟨A0,c0,e0⟩:=vB r v hr rr;obtain⟨A,nd,hm⟩:=wU A0;have c:gI (K:=K) S'.G A:=⟨λa ha=>by
  obtain⟨vs,e1,e2⟩:=c0.at_ a ((hm a).mp ha);exact⟨vs,e1,λu hu=>(e2 u hu).imp id λ⟨b,hb,z⟩=>⟨b,(hm b).mpr hb,z⟩⟩⟩
 have hv:InA (K:=K) A v:=e0.imp (λf=>⟨r,f,λS'=>sA f rr⟩) λ⟨a,ha,z⟩=>⟨a,(hm a).mpr ha,z⟩
 obtain⟨k1,k2⟩:=yu (M:=M) c r v hr rr hv;have kp:∀ a u,H a=some u->(∀ ps,u≠.tbl ps)->H' a=some u:=λa u h n=>l.keep a u h n (by simp);have hA:∀ a∈A,∃ vs,S'.G a=some (.lst vs)/\H' a=some (.lst vs):=λa ha=>by
  obtain⟨vs,e1,_⟩:=c.at_ a ha;exact⟨vs,e1,o'.sub a _ e1⟩
 -- what is told is new
 have hnew:∀ a∈A,NT H a:=λa ha=>by
  obtain⟨vs,e1,e2⟩:=hA a ha;have h0:unL S.G a=none:=by
   cases e:unL S.G a with
   | none=>rfl
   | some u =>
    have h1:=l.le.g a u e;rw[e1] at h1;cases h1;exact absurd rfl ((u3 e).2 vs)
  have hx:NX H a:=(l.fz a h0 (by rw[e1];simp)).elim id λz=>by simp at z
  intro u hu;refine Classical.byContradiction λhn=>?_;have hn':∀ ps,u≠.tbl ps:=λps z=>hn ⟨ps,z⟩;have h1:=kp a u hu hn';rw[e2] at h1;cases h1;exact hx.no hu trivial
 have hSA:∀ a∈A,S.G a=none:=λa ha=>by
  cases e:S.G a with
  | none=>rfl
  | some u=>exact((hnew a ha).no (o.sub a u e) λps z=>o.tb.nt a ps (by rw[e,z])).elim
 have dis:∀ a,a∈A->a∉S.C:=λa h1 h2=>by
  obtain⟨k,c',e1,e2,q⟩:=vT o h2;obtain⟨u,f1,f2⟩:=q.obj;exact(hnew a h1).no f1 f2.ntb
 have le:Le S ⟨S.G,S.C++A⟩:=⟨λa u h=>h,List.prefix_append _ _⟩
 have hrep:∀ u,InA (K:=K) A u->Rep K ⟨S.G,S.C++A⟩ (tOV A M.length u) u:=λu hu=>by
  rcases hu with ⟨d,f,z⟩|⟨b,hb,rfl⟩
  ·obtain⟨h1,h2⟩:=sy f (z S);rw[B7 h1,h2];exact z _
  ·simp only[tOV,Rep];refine⟨b,rfl,?_⟩;show (S.C++A)[M.length+ixA A b]?=some b;rw[<- o.len,fD (by omega),Nat.add_sub_cancel_left];exact sH hb
 refine⟨gL S'.G A M.length,tOV A M.length v,⟨S.G,S.C++A⟩,⟨le,λa h1 h2=>?_,λa u h n _=>kp a u h n,λa h1 h2=>absurd h1 h2⟩,⟨λa u h=>?_,?_,?_,λk a ce e1 e2=>?_,⟨o'.tb.tabs,o.tb.nt⟩⟩,hrep v hv,k1,k2⟩
 ·rcases bf.mp h1 with h|h
  ·exact absurd h h2
  ·exact hnew a h
 ·exact kp a u (o.sub a u h) λps z=>o.tb.nt a ps (by rw[h,z])
 ·show (S.C++A).length=_;rw[bt,bt,o.len];unfold gL;rw[cj]
 ·show (S.C++A).Nodup;rw[aau];exact⟨o.nd,nd,λa h1 b h2 z=>dis b h2 (z ▸ h1)⟩
 ·have e1:(S.C++A)[k]?=some a:=e1
  by_cases hk:k < S.C.length
  ·rw[eD hk] at e1;rw[eD (by rw[<- o.len];exact hk)] at e2;have q:=o.cell k a ce e1 e2;refine q.mono le rfl λu h=>?_;obtain⟨u',f1,f2⟩:=q.obj;rw[f1] at h;cases h;exact kp a _ f1 f2.ntb
  ·rw[fD (by omega)] at e1;rw[fD (by rw[<- o.len];omega),<- o.len] at e2;have ha:=f7 e1;obtain⟨vs,g1,g2⟩:=c.at_ a ha;unfold gL at e2;rw[gB,e1,bF,g1] at e2;cases e2;exact⟨hSA a ha,vs,o'.sub a _ g1,by rw[o.len];exact AX vs λu hu=>hrep u (g2 u hu)⟩
end
section
variable {X:Cx}{W:WX}{x:Str}{k n:Nat}{dds:List Tr}{sp:Sf}{p pos:Pos}{e:Expr}{es:List Expr}{u:Rd (List Tr)}
theorem HF{K:Frg}{dvs:List V}(hd:∀ S,ah K S dds dvs){σ:L2.St}{H:Hp}{Q:VK}(h:bO K W (nh sp dds n u) σ H Q):tCallSD (liftF K sp n) dvs (WE W) (gT K W u) σ H Q:=by obtain⟨ρ,M,S,E,o,s,er,q⟩:=h;refine⟨ρ,M,S,E,o,s,er,u.mono (λds M1 q1 vs H1 S1 l1 o1 r1=>?_) (λ_ _ z=>z) q⟩;obtain⟨hn,hl,q2⟩:=q1;have r3:=r1.append (hd S1);have r2:=n8 _ _ hn r3;refine⟨by rw[<- r3.length];exact hl,ds++dds,[],⟨unL S1.G,[]⟩,Iw o1,r2,sp.mono (λr M2 z v H2 S2 l2 o2 rr=>?_) (λe M2 q2=>q2.elim) q2⟩;obtain⟨z1,z2⟩:=z;obtain⟨B,d,S3,l3,o3,r4,v4,d4⟩:=KC o1 l2 o2 z1 rr;exact z2 B d v4 d4 v H2 S3 (l1.trans l3) o3 r4
theorem IH {g:Bool} (tk:Takes X W) (F:Fn g X.prog X.w X.K X.mg X.base x k n dds sp) (hr:Room k X.A) (hgd:g=true->Gd X.base X.A) (hg:Gl X x) (ha:PDA X W (e::es) u) (hdb:(x == ("__debug__":Str))=false:=by decide)
  (he:starEach (e::es) X.env=(false,eval e X.env)::starEach es X.env:=by rfl) (hpl:(backTo pos (starEach es X.env)).any (·.1)=false:=by rfl):PD X W (.Call (.Name x p) (e::es) [] pos) (nh sp dds n u):=by
 obtain⟨f,fd,ps,ds,dvs,F1,hm,hk,hb,hd,hdd⟩:=F.ex;exact bA (zb F1 hr hgd hg hm hk hb hd (λσ=>passAt tk σ) ha hdb he hpl) λ_ _ _=>HF hdd
end
section
variable {X:Cx}{pins:List (Addr × Obj)}{σ σ':L2.St}{H:Hp}{s:Shared}{h2:Heap}{m2:Str->Option Value}{it:Addr}
theorem G7(I:Inv X pins σ H s)(fo:FpOk X pins H it)(hi:X.s_0.heap.objs.size<=it)(hn:h2.Ns X.env.locals m2)(sb:∀ b u,b≠X.env.locals->b≠it->s.heap.get? b=some u->h2.get? b=some u)(hl:σ'.length=X.N.length)
  (hv:∀(i:Nat)(x:Str)(v:V),X.N[i]?=some x->σ'[i]?=some (some v)->Vis X.env.scope x->∃ u,RelV v u/\Look X.env h2 m2 x u) (tk:Nat):Inv X pins σ' H { s with heap:=h2,toks:=tk }:=by
 obtain⟨f0,f1,f2,f3,f4,f5⟩:=fo;have old:∀ b u,X.s_0.heap.get? b=some u->b≠X.env.locals/\b≠it:=λb u e=>by
  have lt:=Heap.lt_size e;exact⟨Nat.ne_of_lt (aae lt I.ok.above),Nat.ne_of_lt (aae lt hi)⟩
 have un:Un X.fs X.ex X.H_0 H X.s_0.heap h2 :=
  { I.base with
   keep:=λb u e n1 n2 n3=>sb b u (old b u e).1 (old b u e).2 (I.base.keep b u e n1 n2 n3)
   slot:=λb u e n1 n2 n3=>by
    obtain⟨sl,q⟩:=I.base.slot b u e n1 n2 n3;exact⟨sl,sb b _ (old b u e).1 (old b u e).2 q⟩
   there:=λb u e n1=>by
    obtain⟨u',q⟩:=I.base.there b u e n1;exact⟨u',sb b _ (old b u e).1 (old b u e).2 q⟩ }
 refine⟨I.ok,I.os,I.bare,un,⟨m2,hn,hv⟩,λx c e=>?_,I.free,I.freeC,λp hp=>?_,λb ob e=>?_,hl⟩
 ·obtain⟨v,oc,q1,q2⟩:=I.cell x c e;exact⟨v,oc,sb c oc (I.cne x c e) (f4 x c e) q1,q2⟩
 ·obtain⟨q,r⟩:=I.pin p hp;exact⟨sb p.1 p.2 r.2.1 (f5 p hp) q,r⟩
 ·refine(I.hok b ob e).stay (λc u hc q=>sb c u (λz=>?_) (λz=>?_) q) (λ_ q=>q) λ_ _ q=>q
  ·subst z;rcases hc with hc|hc
   ·subst hc;rw[I.free] at e;cases e
   ·rw[I.free] at hc;cases hc
  ·subst z;rcases hc with hc|hc
   ·subst hc;rw[f0] at e;cases e
   ·rw[f0] at hc;cases hc
end
def eB (y:Str):Str:=Str.empty++" "++y++" "
def e9(x y:Str):Str:=Txt.replace x y (eB y)
def kJ:List Str:=["[","]",",","->"]
def dL(x:Str):Str:=kJ.foldl e9 x
section
variable {prog:Program}{w:World}{A:Around}{env:Env}{E:Value->Shared->Prop}{s:Shared}{m:Str->Option Value}{lx kx x y:Str}{tx ty:Tok}
abbrev xH (kx:Str) (d1 d2 pf pg pj:Pos):Expr:=.JoinedStr [.Constant (.str " ") 0 d1,.FormattedValue (.Name kx pf) (-1) none pg,.Constant (.str " ") 0 d2] pj
theorem FW{d1 d2 pf pg pj:Pos}{Q:Value->Shared->Prop}(hk:env.scope.kind=.function)(hl:env.kindOf kx=some .local)(hn:s.heap.Ns env.locals m)(hv:m kx=some (.str y ty))(hy:y.length<=100)
  (hd:(kx == ("__debug__":Str))=false) (q:∀ t tk,s.toks<=t->Q (.str (eB y) t) { s with toks:=tk }):wpAny (model prog w) A (eval (xH kx d1 d2 pf pg pj) env) Q E s:=by
 have big:(100:Nat)+10<=sizeLine:=by decide
 have l1:(" ":Str).length=1:=rfl;have l0:Str.empty.length=0:=rfl;have fit:∀ z:Str,z.length<=110->z.length<=sizeLine:=λz h=>gH h big;refine wpAny_JoinedStr ?_;show wpAny (model prog w) A (eval (.Constant (.str " ") 0 d1) env) _ E s;refine Calls.Constant_str ⟨" ",s.toks,rfl,fit _ (by rw[PySem.Str.length_append];omega),?_⟩;show wpAny (model prog w) A (eval (.FormattedValue (.Name kx pf) (-1) none pg) env) _ E _;refine wpAny_FormattedValue_plain (wpAny_Name (wpAny_loadName_local hk hl hn hv ?_) hd);have rest:∀ tk,s.toks+1<=tk->∃ y' t',Value.str y ty=Value.str y' t'/\True:=λ_ _=>⟨y,ty,rfl,trivial⟩
 have last:∀ tk,s.toks<=tk->Joins (model prog w) A E (evalEach [.Constant (.str " ") 0 d2] env) (Str.empty++" "++y) (λout s1=>out.length<=sizeLine/\Q (.str out s1.toks) { s1 with toks:=s1.toks+1 }) { s with toks:=tk }:=λtk h=>by
  show wpAny (model prog w) A (eval (.Constant (.str " ") 0 d2) env) _ E _;refine Calls.Constant_str ⟨" ",tk,rfl,fit _ (by rw[PySem.Str.length_append,PySem.Str.length_append,PySem.Str.length_append];omega),?_⟩;refine⟨fit _ (by rw[PySem.Str.length_append,PySem.Str.length_append,PySem.Str.length_append];omega),?_⟩;exact q (tk+1) _ (by omega)
 refine wpAny_formatField_str ⟨y,ty,rfl,fit _ (by rw[PySem.Str.length_append,PySem.Str.length_append];omega),last (s.toks+1) (by omega)⟩ ⟨y,s.toks+1,rfl,fit _ (by rw[PySem.Str.length_append,PySem.Str.length_append];omega),last (s.toks+1+1) (by omega)⟩ (fit _ (by omega))
abbrev ui (lx kx:Str) (pl pa apos pb d1 d2 pf pg pj pc ps:Pos):Stmt:=.Assign [.Name lx pl] (.Call (.Attribute (.Name lx pa) "replace" apos) [.Name kx pb,xH kx d1 d2 pf pg pj] [] pc) ps
theorem Jy{pl pa apos pb d1 d2 pf pg pj pc ps:Pos}{Q:Flow->Shared->Prop}(hk:env.scope.kind=.function)(hl:env.kindOf lx=some .local)(hl':env.kindOf kx=some .local)(hn:s.heap.Ns env.locals m)(hv:m lx=some (.str x tx))(hv':m kx=some (.str y ty))
  (h0:ty≠0) (h1:ty < s.toks) (hy:y.length<=100) (hyz:(y == eB y)=false) (hb:x.length+(x.length+1) * (eB y).length<=16777216) (hd:(lx == ("__debug__":Str))=false) (hd':(kx == ("__debug__":Str))=false) (hline:(apos.endLine == pc.line)=true)
  (q:∀ h' tk t',h'.Ns env.locals (λv=>if v=lx then some (.str (e9 x y) t') else m v)->Heap.SameBut env.locals s.heap h'->Q .next { s with heap:=h',toks:=tk }) :
  wpAny (model prog w) A (execs [ui lx kx pl pa apos pb d1 d2 pf pg pj pc ps] env) Q E s:=by
 refine wpAny_execs_cons (wpAny_Assign_Name (PySem.Call_method2 rfl rfl hline (wpAny_Name (wpAny_loadName_local hk hl hn hv ?_) hd)));refine⟨"str",_,PySem.F.plainAttrs_str,PySem.F.slot_str_replace,PySem.F.type_str_replace,typeIs_str _ _ _,(λ_ e=>nomatch e),Calls.callWith_builtin rfl (Calls.evalArgs_plain (Calls.spliced_cons ?_))⟩;refine wpAny_Name (wpAny_loadName_local hk hl' hn hv' ?_) hd';refine Calls.spliced_cons (FW hk hl' hn hv' hy hd' λt tk ht=>Calls.spliced_nil ?_);refine PySem.SC.replace h0 (by have:0 < t:=aae (Nat.lt_of_le_of_lt (eS _) h1) ht;exact Nat.ne_of_gt this) (Nat.ne_of_lt (aae h1 ht)) hyz hb λt' k=>?_;refine wpAny_storeName_local hl hn (λh' hn' sb=>?_) (by rw[hk];rfl);exact wpAny_execs_nil (q h' _ t' hn' sb)
end
theorem Jz{x y:Str}{n z:Nat}(h:x.length<=n)(hz:(eB y).length<=z):(e9 x y).length<=n+(n+1) * z:=by have h1:=TK.replace_len x y (eB y);have h2:(x.length+1) * (eB y).length<=(n+1) * z:=Nat.mul_le_mul (by omega) hz;unfold e9;omega
theorem uI (y:Str):(eB y).length=y.length+2:=by unfold eB;rw[PySem.Str.length_append,PySem.Str.length_append,PySem.Str.length_append];have l1:(" ":Str).length=1:=rfl;have l0:Str.empty.length=0:=rfl;omega
theorem Kk(y:Str):(y == eB y)=false:=by refine beq_eq_false_iff_ne.mpr λe=>?_;have:=congrArg Str.length e;rw[uI] at this;omega
def gm (t:Nat):Array Value:=#[.str "[" t,.str "]" (t+1),.str "," (t+2),.str "->" (t+3)]
def zR(i:Nat):Nat:=if i < 3 then 3 else 4
theorem xZ{t i:Nat}(h:i < 4):∃ y,kJ[i]?=some y/\(gm t)[i]?=some (.str y (t+i))/\y.length+2<=zR i:=by
 have:i=0∨i=1∨i=2∨i=3:=by omega
 rcases this with rfl|rfl|rfl|rfl
 ·exact⟨"[",rfl,rfl,by decide⟩
 ·exact⟨"]",rfl,rfl,by decide⟩
 ·exact⟨",",rfl,rfl,by decide⟩
 ·exact⟨"->",rfl,rfl,by decide⟩
def gu(x:Str)(i:Nat):Str:=(kJ.take i).foldl e9 x
theorem AT{x y:Str}{i:Nat}(h:kJ[i]?=some y):gu x (i+1)=e9 (gu x i) y:=by unfold gu;rw[List.take_succ,h,List.foldl_append];rfl
def jr:Nat->Nat
 | 0=>50000
 | n+1=>jr n+(jr n+1) * zR n
theorem uh{x:Str}(hx:x.length<=50000):∀ i,i<=4->(gu x i).length<=jr i
 | 0,_=>hx
 | i+1,h=>by
  obtain⟨y,h1,_,h3⟩:=xZ (t:=0) (show i < 4 by omega);rw[AT h1];exact Jz (uh hx i (by omega)) (by rw[uI];exact h3)
def Kx (il ik:Nat):TS:=λD σ H=>∃ x:Str,σ[il]?=some (some (.str x))/\x.length<=50000/\D.nx ((σ.set ik (some (.str "->"))).set il (some (.str (dL x)))) H
section
variable {X:Cx}{lx kx:Str}{il ik:Nat}
theorem Jj{pk pt c1 c2 c3 c4 pl pa apos pb d1 d2 pf pg pj pc ps pos:Pos}(hp:PassesOwn (model X.prog X.w) X.A X.env X.xe)(hc:X.calm=true)(hN:X.N.Nodup)(hil:X.N[il]?=some lx)(hik:X.N[ik]?=some kx)(hne:lx≠kx)
  (hl:X.env.kindOf lx=some .local) (hl':X.env.kindOf kx=some .local) (hline:(apos.endLine == pc.line)=true:=by rfl) (hd:(lx == ("__debug__":Str))=false:=by decide) (hd':(kx == ("__debug__":Str))=false:=by decide)
  (hs:∀ x,foldedSetIterable (.Tuple [.Constant (.str "[") 0 c1,.Constant (.str "]") 0 c2,.Constant (.str ",") 0 c3,.Constant (.str "->") 0 c4] 0 pt) X.env x=pure x:=by intro _;rfl) :
  PST X (.For (.Name kx pk) (.Tuple [.Constant (.str "[") 0 c1,.Constant (.str "]") 0 c2,.Constant (.str ",") 0 c3,.Constant (.str "->") 0 c4] 0 pt) [ui lx kx pl pa apos pb d1 d2 pf pg pj pc ps] [] pos) (Kx il ik):=by
 intro pins s σ H D h0 I h;obtain⟨x,hx,hxl,q⟩:=h;have K:=I.ok.kind;have hsz:(4:Nat)<=sizeLine:=by decide
 refine wpAny_For (wpAny_Tuple_spliced ?_) hs;show wpAny _ _ (spliced ((false,eval (.Constant (.str "[") 0 c1) X.env)::backTo pt (starEach [.Constant (.str "]") 0 c2,.Constant (.str ",") 0 c3,.Constant (.str "->") 0 c4] X.env))) _ _ s;refine Calls.spliced_cons (Calls.Constant_str ?_);show wpAny _ _ (spliced ((false,eval (.Constant (.str "]") 0 c2) X.env)::backTo pt (starEach [.Constant (.str ",") 0 c3,.Constant (.str "->") 0 c4] X.env))) _ _ _;refine Calls.spliced_cons (Calls.Constant_str ?_);show wpAny _ _ (spliced ((false,eval (.Constant (.str ",") 0 c3) X.env)::backTo pt (starEach [.Constant (.str "->") 0 c4] X.env))) _ _ _;refine Calls.spliced_cons (Calls.Constant_str ?_);show wpAny _ _ (spliced ((false,eval (.Constant (.str "->") 0 c4) X.env)::backTo pt (starEach [] X.env))) _ _ _;refine Calls.spliced_cons (Calls.Constant_str (Calls.spliced_nil ⟨hsz,?_⟩));have ht:∃ t,t=s.toks/\1<=t:=⟨_,rfl,h0⟩
 obtain⟨t,ht,h0⟩:=ht;have I1:Inv X pins σ H { s with heap:=s.heap.push { cls:=.type "tuple",data:=.seq (gm t) },toks:=t+1+1+1+1 }:=I.kept λb u e=>Heap.get?_push_of_some _ e;have tup1:({ s with heap:=s.heap.push { cls:=.type "tuple",data:=.seq (gm t) },toks:=t+1+1+1+1 }:Shared).heap.IsTuple s.heap.objs.size (gm t):=⟨_,Heap.get?_push_size _ rfl,rfl,0,rfl⟩
 subst ht;show wpAny _ _ (pyIter (.ref s.heap.objs.size)) _ _ ({ s with heap:=s.heap.push { cls:=.type "tuple",data:=.seq (gm s.toks) },toks:=s.toks+1+1+1+1 }:Shared);have ea:s.heap.objs.size < (s.heap.push { cls:=.type "tuple",data:=.seq (gm s.toks) }).objs.size:=Heap.lt_size (Heap.get?_push_size _ rfl);generalize hs1:({ s with heap:=s.heap.push { cls:=.type "tuple",data:=.seq (gm s.toks) },toks:=s.toks+1+1+1+1 }:Shared)=s1 at I1 tup1;have e1:s1.heap=s.heap.push { cls:=.type "tuple",data:=.seq (gm s.toks) }:=by rw[<- hs1]
 have e2:s1.toks=s.toks+4:=by rw[<- hs1]
 rw[<- e1] at ea;refine wpAny_pyIter_tuple tup1 ?_;have I2:Inv X pins σ H { s1 with heap:=s1.heap.push { cls:=.type "tuple_iterator",data:=.fields #[.ref s.heap.objs.size,.int 0 0] } }:=I1.kept (t':=s1.toks) λb u e=>Heap.get?_push_of_some _ e;have fo:FpOk X pins H s1.heap.objs.size:=I1.fpOk (aP _) (I1.hok.fresh (aP _));have iti:({ s1 with heap:=s1.heap.push { cls:=.type "tuple_iterator",data:=.fields #[.ref s.heap.objs.size,.int 0 0] } }:Shared).heap.IsTupleIter s1.heap.objs.size s.heap.objs.size 0:=⟨_,Heap.get?_push_size _ rfl,rfl,rfl⟩
 have hit0:X.s_0.heap.objs.size<=s1.heap.objs.size:=I1.sz;have tup2:({ s1 with heap:=s1.heap.push { cls:=.type "tuple_iterator",data:=.fields #[.ref s.heap.objs.size,.int 0 0] } }:Shared).heap.IsTuple s.heap.objs.size (gm s.toks):=by obtain⟨o,g,r⟩:=tup1;exact⟨o,Heap.get?_push_of_some _ g,r⟩
 have sne:s.heap.objs.size≠s1.heap.objs.size:=Nat.ne_of_lt ea;have lne:s.heap.objs.size≠X.env.locals:=Nat.ne_of_gt I.lt;generalize s1.heap.objs.size=it at *;generalize hs2:({ s1 with heap:=s1.heap.push { cls:=.type "tuple_iterator",data:=.fields #[.ref s.heap.objs.size,.int 0 0] } }:Shared)=s2 at I2 iti tup2;have e3:s2.toks=s.toks+4:=by rw[<- hs2];exact e2
 generalize s.heap.objs.size=a at *;generalize s.toks=t at *;clear hs2 hs1 e1 e2 tup1 I1 I ea s1;obtain⟨m0,n0,l0⟩:=I2.loc;have kl:X.env.scope.names.lookup lx=some .local:=by
  first
  | exact hl
  | simpa [Env.kindOf] using hl
 have kk:X.env.scope.names.lookup kx=some .local:=by
  first
  | exact hl'
  | simpa [Env.kindOf] using hl'
 obtain⟨ux,⟨tx,rfl⟩,lkx⟩:=l0 il lx (.str x) hil hx (.inl kl);have mlx:m0 lx=some (.str x tx):=by
  rcases lkx with ⟨_,e⟩|⟨z,_⟩
  ·exact e
  ·rcases z with z|z <;> rw[hl] at z <;> cases z
 have lit:X.env.locals≠it:=Ne.symm fo.2.1;refine codeAny_forLoop_any (λn s'=>∃ i h' tk m tx,n+i=4/\s'={ s2 with heap:=h',toks:=tk }/\h'.Ns X.env.locals m/\m lx=some (.str (gu x i) tx)/\(∀ y,y≠lx->y≠kx->m y=m0 y)/\(0 < i->∃ y ty,kJ[i - 1]?=some y/\m kx=some (.str y ty))/\h'.IsTupleIter it a i/\h'.IsTuple a (gm t) /\
  (∀ b u,b≠X.env.locals->b≠it->s2.heap.get? b=some u->h'.get? b=some u)/\t+4<=tk) ?_ 4 ⟨0,s2.heap,s2.toks,m0,tx,rfl,rfl,n0,mlx,λ_ _ _=>rfl,λz=>absurd z (by omega),iti,tup2,λ_ _ _ _ e=>e,by omega⟩
 rintro n s3 ⟨i,h3,tk,m,tx',hni,rfl,n3,m3,o3,k3,it3,tu3,sb3,tk3⟩
 by_cases hi:i < 4
 ·obtain⟨y,y1,y2,y3⟩:=xZ (t:=t) hi;refine wpAny_pyNext_tuple_item it3 tu3 y2 λh4 it4 sb4=>?_;obtain⟨oi,gi,ci,di⟩:=id it4;refine go_of (s:={ s2 with heap:=h4,toks:=tk }) gi ci di (by decide) ?_;have n4:h4.Ns X.env.locals m:=n3.sameBut sb4 lit;refine wpAny_assign_Name (wpAny_storeName_local hl' n4 (λh5 n5 sb5=>?_) (by rw[K];rfl));refine wpAny_passesOwn hp ?_;have hm5:(λz=>if z=kx then some (Value.str y (t+i)) else m z) lx=some (.str (gu x i) tx'):=by
   show (if lx=kx then some (Value.str y (t+i)) else m lx)=_;rw[if_neg hne];exact m3
  have hk5:(λz=>if z=kx then some (Value.str y (t+i)) else m z) kx=some (.str y (t+i)):=if_pos rfl;have bl:=uh hxl i (by omega);have zl:=uI y;have z4:zR i<=4:=by unfold zR;split <;> decide
  have hb:(gu x i).length+((gu x i).length+1) * (eB y).length<=16777216:=by
   have h1:((gu x i).length+1) * (eB y).length<=(jr i+1) * zR i:=Nat.mul_le_mul (by omega) (by omega);have h2:jr i+(jr i+1) * zR i<=16777216:=by
    have:i=0∨i=1∨i=2∨i=3:=by omega
    rcases this with rfl|rfl|rfl|rfl <;> decide
   omega
  refine PySem.wpAny_with_toks (n:=t+4) (by show t+4<=tk+1;omega) (wpAny_mono (Jy (m:=λz=>if z=kx then some (Value.str y (t+i)) else m z) (E:=λ_ _=>False) K hl hl' n5 hm5 hk5 (Nat.ne_of_gt (aae h0 (Nat.le_add_right t i))) (by show t+i < tk+1;omega) (by omega) (Kk y) hb hd hd' hline (Q:=λf s'=>f=.next/\∃ h6 tk6 t6,s'={ s2 with heap:=h6,toks:=tk6 }/\h6.Ns X.env.locals (λv=>if v=lx then some (.str (e9 (gu x i) y) t6) else if v=kx then some (Value.str y (t+i)) else m v)/\Heap.SameBut X.env.locals h5 h6) λh6 tk6 t6 n6 sb6=>⟨rfl,h6,tk6,t6,rfl,n6,sb6⟩) (λf s' z ht=>?_) λ_ _ z=>z.elim);obtain⟨rfl,h6,tk6,t6,rfl,n6,sb6⟩:=z;have stay:∀ b u,b≠X.env.locals->b≠it->h3.get? b=some u->h6.get? b=some u:=λb u e1 e2 g=>(sb6.2 b e1).trans ((sb5.2 b e1).trans ((sb4.2 b e2).trans g));refine⟨n - 1,by omega,i+1,h6,tk6,_,t6,by omega,rfl,n6,?_,λv e1 e2=>?_,λ_=>⟨y,t+i,y1,?_⟩,?_,?_,λb u e1 e2 g=>stay b u e1 e2 (sb3 b u e1 e2 g),ht⟩
  ·rw[if_pos rfl,AT y1]
  ·rw[if_neg e1,if_neg e2];exact o3 v e1 e2
  ·rw[if_neg (Ne.symm hne),if_pos rfl]
  ·obtain⟨o,g,r⟩:=it4;exact⟨o,(sb6.2 it (Ne.symm lit)).trans ((sb5.2 it (Ne.symm lit)).trans g),r⟩
  ·obtain⟨o,g,r⟩:=tu3;exact⟨o,stay a o lne sne g,r⟩
 ·have h4:i=4:=by omega
  subst h4;refine wpAny_pyNext_tuple_end (I2.ok.hd hc) it3 tu3 rfl λh4 eb=>?_;refine wpAny_execs_nil ?_;obtain⟨y,ty,y1,y2⟩:=k3 (by omega);have ey:y="->":=by have e:kJ[4 - 1]?=some ("->":Str):=rfl;rw[e] at y1;exact(Option.some.inj y1).symm
  subst ey;have n4:h4.Ns X.env.locals m:=n3.extBut eb lit;refine⟨(σ.set ik (some (.str "->"))).set il (some (.str (dL x))),H,?_,q⟩;have hlen:((σ.set ik (some (V.str "->"))).set il (some (.str (dL x)))).length=X.N.length:=by rw[eF,eF];exact I2.len
  refine G7 I2 fo hit0 n4 (λb u e1 e2 g=>eb b u e2 (sb3 b u e1 e2 g)) hlen (λj z v e1 e2 e3=>?_) tk;have hσl:il < σ.length:=by rw[I2.len];exact(bL.mp hil).1
  have hσk:ik < σ.length:=by rw[I2.len];exact(bL.mp hik).1
  by_cases jl:j=il
  ·subst jl;rw[hil] at e1;cases e1;rw[fE (by rw[eF];exact hσl)] at e2;cases e2;exact⟨_,⟨tx',rfl⟩,.inl ⟨hl,m3⟩⟩
  ·rw[eQ (Ne.symm jl)] at e2
   by_cases jk:j=ik
   ·subst jk;rw[hik] at e1;cases e1;rw[fE hσk] at e2;cases e2;exact⟨_,⟨ty,rfl⟩,.inl ⟨hl',y2⟩⟩
   ·rw[eQ (Ne.symm jk)] at e2;obtain⟨u,r,lo⟩:=l0 j z v e1 e2 e3;have zl:z≠lx:=λe=>jl (nodup_ix hN e1 (e ▸ hil));have zk:z≠kx:=λe=>jk (nodup_ix hN e1 (e ▸ hik));refine⟨u,r,?_⟩;rcases lo with ⟨k1,k2⟩|⟨k1,c,k2,oc,g,dc⟩
    ·exact .inl ⟨k1,by rw[o3 z zl zk];exact k2⟩
    ·exact .inr ⟨k1,c,k2,oc,eb c oc (fo.2.2.2.2.1 z c k2) (sb3 c oc (I2.cne z c k2) (fo.2.2.2.2.1 z c k2) g),dc⟩
end
def uo (il ik:Nat):Sr:=⟨λF ρ M=>∃ x:Str,ρ[il]?=some (some (.str x))/\x.length<=50000/\F.nx ((ρ.set ik (some (.str "->"))).set il (some (.str (dL x)))) M,λh ⟨x,a,b,q⟩=>⟨x,a,b,h.nx _ _ q⟩⟩
section
variable {X:Cx}{W:WX}{st:Stmt}{rest:List Stmt}{u v:Sr}
theorem Ji{t t':TS}(p:PST X st t)(h:∀ D σ H,t' D σ H->t D σ H):PST X st t':=λpins s σ H D h0 I q=>p pins s σ H D h0 I (h D σ H q)
theorem Jh{t t':TS}(p:PSsT X rest t)(h:∀ D σ H,t' D σ H->t D σ H):PSsT X rest t':=λpins s σ H D h0 I q=>p pins s σ H D h0 I (h D σ H q)
theorem I6(h1:PST X st (fM X.K W u))(h2:PSsT X rest (fM X.K W v)):PSsT X (st::rest) (fM X.K W (aj u v)):=Jh (psst_cons h1 h2) λD σ H h=>by
 obtain⟨ρ,M,S,F,ok,sl,en,q⟩:=h;exact⟨ρ,M,S,{ F with nx:=v.f F },ok,sl,⟨λρ' M' S' σ' H' l o s' q'=>⟨ρ',M',S',F,o,s',en.mono l,q'⟩,en.rt,en.bk,en.ct,en.er⟩,q⟩
variable {lx kx:Str}{il ik:Nat}
theorem I7{pk pt c1 c2 c3 c4 pl pa apos pb d1 d2 pf pg pj pc ps pos:Pos}(hp:PassesOwn (model X.prog X.w) X.A X.env X.xe)(hc:X.calm=true)(hN:X.N.Nodup)(hil:X.N[il]?=some lx)(hik:X.N[ik]?=some kx)(hne:lx≠kx)
  (hl:X.env.kindOf lx=some .local) (hl':X.env.kindOf kx=some .local) (hline:(apos.endLine == pc.line)=true:=by rfl) (hd:(lx == ("__debug__":Str))=false:=by decide) (hd':(kx == ("__debug__":Str))=false:=by decide)
  (hs:∀ x,foldedSetIterable (.Tuple [.Constant (.str "[") 0 c1,.Constant (.str "]") 0 c2,.Constant (.str ",") 0 c3,.Constant (.str "->") 0 c4] 0 pt) X.env x=pure x:=by intro _;rfl) :
  PST X (.For (.Name kx pk) (.Tuple [.Constant (.str "[") 0 c1,.Constant (.str "]") 0 c2,.Constant (.str ",") 0 c3,.Constant (.str "->") 0 c4] 0 pt) [ui lx kx pl pa apos pb d1 d2 pf pg pj pc ps] [] pos) (fM X.K W (uo il ik)) :=
 Ji (Jj hp hc hN hil hik hne hl hl' hline hd hd' hs) λD σ H h=>by
  obtain⟨ρ,M,S,F,ok,sl,en,x,hx,hxl,q⟩:=h;obtain⟨w,e,r⟩:=sl.at_ il _ hx;simp only[Rep] at r;subst r;have r1:Rep X.K S (.str "->") (.str "->"):=by simp only[Rep]
  have r2:Rep X.K S (.str (dL x)) (.str (dL x)):=by simp only[Rep]
  exact⟨x,e,hxl,en.nx _ M S _ H (Gr.refl S H) ok ((sl.set r1).set r2) q⟩
end
section
variable {P:Program}{w:World}{K:Frg}{mg:Str->Option Value}{base:Heap}
theorem FB{x:Str}{ps N:List Str}{k:Nat}{sp:Sf}{t:Sr}{st:Stmt}{f:Addr}{fd:FuncData}(D:FunD K x x (defArgs st) (defBody st) (defScope st) [] [] f fd)(hm:mg x=some (.ref f))(Sc:FnScope N ps (defScope st))(hnc:∀ y∈(defScope st).names,y.2≠.cell)(hps:1<=ps.length)
  (hbind:∀(kV doc pm:Value)(an:Option Addr)(cdv ct:Value)(us:List Value),us.length=ps.length->bindArgs (PySem.W.fnOf x x (defArgs st) (defBody st) (defScope st) .none kV doc pm an cdv ct) ⟨us,[]⟩=pure (ps.zip us))
  (hb:∀(cdv:Value)(A:Around)(outer:List Env)(s:Shared)(H:Hp)(E:XK),Room k (A.deeper (envOfC x (defScope st) s.heap.objs.size f cdv))->PSsT (BX P w K mg base N x (defScope st) f cdv A outer s H E) (defBody st) (fM K (WB E) t))
  (h:∀(ds:List Tr)(M:Me)(Q E:TK),ds.length=ps.length->sp.f ds M Q E->t.f (ap M.length Q E) (df N ds) M):Fn false P w K mg base x (k+1) ps.length [] sp:=by
 refine⟨f,fd,ps,[],[],?_,hm,D.kp,D.bindsN hbind,.nil,λ_=>ah.nil⟩;obtain⟨oc,od,dV,kV,doc,pm,an,cdv,ct,osl,rfl,lk,hcd,_,_⟩:=D.ex;have F:FnOk P w K mg base (L2.CX P w) (k+1) f _ ps (liftF K sp ps.length):=fn_ofT lk hcd Sc hnc hps (λvs H Q E q=>q.1) λA outer s H vs Q E hr q=>by
  obtain⟨hl,ds,M,S,o,r,q⟩:=q;refine⟨_,hb cdv A outer s H E hr,?_⟩;have q2:=h ds M _ _ (by rw[r.length,hl]) q;refine⟨df N ds,M,S,_,o,uy r,⟨?_,?_,?_,?_,?_⟩,q2⟩
  ·intro ρ M' S' σ H' l o' s' q3;rcases q3 with q3|⟨n,hn,hd,q3⟩
   ·exact q3 .non H' S' l o' jA
   ·obtain⟨l2,o2⟩:=gR hn o.len l o' hd;exact q3 .non H' _ l2 o2 jA
  ·intro d M' S' v H' l o' r' q3;rcases q3 with q3|⟨n,hn,hd,q3⟩
   ·exact q3 v H' S' l o' r'
   ·obtain⟨l2,o2⟩:=gR hn o.len l o' hd;exact q3 v H' _ l2 o2 (pM _ _ r' hd.1)
  ·exact λ_ _ _ _ _ _ _ _ z=>z.elim
  ·exact λ_ _ _ _ _ _ _ _ z=>z.elim
  ·intro ρ d M' S' σ H' cls dd l o' s' x q3;rcases q3 with q3|⟨n,hn,hd,q3⟩
   ·exact q3 cls dd H' S' l o' x
   ·obtain⟨l2,o2⟩:=gR hn o.len l o' hd;exact q3 cls dd H' _ l2 o2 (sx x hd.1)
 exact⟨F.len,λA outer s H args us vs Q E hr _=>F.run A outer s H args us vs Q E hr⟩
end
def ng(t u:Rd Tr):Rd Tr:=⟨λρ M Q E=>t.f ρ M (λd M1=>∃ a,d=.str a/\u.f ρ M1 (λe M2=>∃ b,e=.str b/\(b.length == 0)=false/\a.length+2<=big/\Q (.lst ((Txt.split a b).map Tr.str)) M2) E) E,
 λh h' q=>t.mono (λd M1 ⟨a,e,z⟩=>⟨a,e,u.mono (λe M2 ⟨b,h1,h2,h3,z⟩=>⟨b,h1,h2,h3,h _ _ z⟩) h' z⟩) h' q⟩
def cr(c:Nat)(sp:Sf)(n:Nat)(t:Rd Tr)(u:Rd (List Tr)):Rd Tr:=⟨λρ M Q E=>t.f ρ M (λd M1=>(∃ xs,iX M1 d=some (c,xs))/\u.f ρ M1 (λds M2=>(d::ds).length=n/\sp.f (d::ds) M2 Q E) E) E,
 λh h' q=>t.mono (λd M1 z=>⟨z.1,u.mono (λds M2 w=>⟨w.1,sp.mono h h' w.2⟩) h' z.2⟩) h' q⟩
def jU(alts:List (Nat × Nat))(M:Me)(x:Tr)(f:Int->Int):Option Me:=match x with
 | .cell k=>(match M[k]? with
  | some (.ins c ds)=>(alts.lookup c).bind λi=>(match ds[i]? with
   | some (.int a)=>some (M.set k (.ins c (ds.set i (.int (f a)))))
   | _=>none)
  | _=>none)
 | _=>none
def jB(alts:List (Nat × Nat))(t:Rd Tr)(n:Int)(f:Int->Int->Int):Sr:=⟨λF ρ M=>t.f ρ M (λx M1=>au (jU alts M1 x (λa=>f a n)) λM2=>F.nx ρ M2) (F.er ρ),
 λh q=>t.mono (λx M1=>cm λM2=>h.nx _ M2) (λd M z=>h.er _ d M z) q⟩
section
variable {X:Cx}{W:WX}{c k n:Nat}{sp:Sf}{o e:Expr}{es:List Expr}{t ta tb:Rd Tr}{u:Rd (List Tr)}{apos cpos pos tpos p q:Pos}{m:Str}
theorem IT (ho:PD X W o ta) (he:PD X W e tb) (hs:starEach [e] X.env=[(false,eval e X.env)]:=by rfl) (hbase:attributeBase o "split" X.env (eval o X.env)=eval o X.env:=by rfl) (hline:(apos.endLine == pos.line)=true:=by rfl) :
  PD X W (.Call (.Attribute o "split" apos) [e] [] pos) (ng ta tb):=bA (pe_split ho he hs hbase hline) λσ H Q h=>by
 obtain⟨ρ,M,S,E,ok,s,er,q⟩:=h;refine⟨ρ,M,S,E,ok,s,er,ta.mono (λd M1 q1 v H1 S1 l1 o1 r1=>?_) (λ_ _ z=>z) q⟩;obtain⟨a,rfl,q1⟩:=q1;simp only[Rep] at r1;refine⟨⟨_,r1⟩,ρ,M1,S1,E,o1,s.mono l1.le,er.mono l1,tb.mono (λe M2 q2 v2 H2 S2 l2 o2 r2=>?_) (λ_ _ z=>z) q1⟩;obtain⟨b,rfl,h1,h2,q3⟩:=q2;simp only[Rep] at r2;refine⟨a,b,r1,by rw[r2],h1,?_,λp' n'=>?_⟩
 ·rw[sizeLine_eq];unfold big at h2;omega
 ·obtain⟨S3,l3,o3,r3⟩:=lj o2 ((ah.strs (K:=X.K) (S:=S2) (Txt.split a b)).mpr rfl) n';exact q3 _ _ S3 ((l1.trans l2).trans l3) o3 r3
theorem yq(no:(cfs c).contains m=false){σ:L2.St}{H:Hp}{Q:VK}(h:bO X.K W (cr c sp n t u) σ H Q):tMeth (He.ga X.K (cnm c)) m (liftF X.K sp n) [] (WE W σ) (bO X.K W t) (gT X.K W u) σ H Q:=by
 obtain⟨ρ,M,S,E,ok,s,er,q⟩:=h;refine⟨ρ,M,S,E,ok,s,er,t.mono (λd M1 q1 v H1 S1 l1 o1 r1=>?_) (λ_ _ z=>z) q⟩;obtain⟨⟨xs,ev⟩,q2⟩:=q1;obtain⟨a,dx,fs,e,g,hf,_⟩:=Cz o1 r1 ev;have no':(fs.map Prod.fst).contains m=false:=by
  rw[hf];cases hc:((cfs c).take xs.length).contains m with
  | false=>rfl
  | true =>
   have:=aaa (List.contains_iff_mem.mp hc);rw[<- List.contains_iff_mem] at this;rw[no] at this;cases this
 refine⟨a,dx,fs,e,g,HH no',ρ,M1,S1,E,o1,s.mono l1.le,er.mono l1,u.mono (λds M2 q3 vs H2 S2 l2 o2 r2=>?_) (λ_ _ z=>z) q2⟩;have r3:=ah.cons (Rep.mono l2.le _ _ r1) r2;refine⟨by rw[bq,<- q3.1,r3.length],d::ds,M2,S2,o2,by rw[bq];exact r3,sp.mono (λr M3 q4 v H3 S3 l3 o3 r4=>q4 v H3 S3 ((l1.trans l2).trans l3) o3 r4) (λe M3 q4 cls dd H3 S3 l3 o3 x=>er e M3 S3 H3 cls dd ((l1.trans l2).trans l3) o3 x q4) q3.2⟩
theorem gY{pl:Sem Bool}(tk:Takes X W)(F:cq X.prog X.w X.K X.mg X.base c m k 1 sp)(hr:Room k X.A)(ho:PD X W o t)
  (ht:eval (.Call (.Attribute o m apos) [] [] pos) X.env=(do
   let ov <- eval o X.env
   standAt apos.atName
   let (f,first) <- holding [ov] (getMethod ov m pl)
   callWith pos f first (backTo pos (starEach [] X.env)) (backToKw pos (keywordEach [] X.env))):=by rfl) :
  PD X W (.Call (.Attribute o m apos) [] [] pos) (cr c sp 1 t ae):=by
 obtain⟨⟨f,fd,ps,F1,hm,hb⟩,hcl,no⟩:=F;refine⟨λpins s σ H Q I h=>?_⟩;have h1:=yq (m:=m) no h;refine PySem.W.methodCall_KW (pl:=pl) (thn (ho.run pins s σ H _ I h1) λu s1 ⟨x,H1,I1,rx,a,dx,fs,ex,ea,l,q⟩=>?_) ht;subst ex;obtain rfl:u=Value.ref a:=rx;refine getmeth_ok I1 ea hcl hm l ?_;obtain⟨ρ,M,S,E,ok,sl,er,q2⟩:=q;have q3:=q2 [] H1 S (Gr.refl S H1) ok ah.nil;exact PySem.W.callWith_K0 (first:=[.ref a]) I1.kIn hm.kp (pO (E:=WE W) (us:=[.ref a]) (vs:=[.ref a]) F1 hr (λz=>nomatch z) hb .nil (passAt tk σ) I1 (.cons rfl .nil) q3)
theorem tF{alts:List (Nat × Nat)}{f:Str}{op:Operator}{g:Int->Int->Int}{j:Nat}{n:Int}(hf:∀ c i,(c,i)∈alts->dB X.K f c i)(ha:PD X W o ta)(hop:InOp X op (ipI g))(hv:PD X W e (dC (.int n))):PDS X W (.AugAssign (.Attribute o f tpos) op e pos) (jB alts ta n g) :=
 dU (ps_fldaug ha hv hop) λD σ H h=>by
  obtain⟨ρ,M,S,F,ok,s,en,q⟩:=h;refine⟨ρ,M,S,F.er ρ,ok,s,en.err s,ta.mono (λx M1 q1 v H1 S1 l1 o1 r1=>?_) (λ_ _ z=>z) q⟩;obtain⟨M2,hz,q2⟩:=b8 q1;unfold jU at hz
  split at hz
  ·rename_i k
   split at hz
   ·rename_i c ds em;obtain⟨i,ei,hz⟩:=cn.mp hz
    split at hz
    ·rename_i a ea;cases hz;obtain⟨A,rfl,hc,hg,dx,fs,hA,hn,hr⟩:=cC o1 r1 em;have fo:=hf c i (nW ei);have hi:i < ds.length:=(bL.mp ea).1;obtain⟨w,hw,rw'⟩:=hr.get ea;simp only[Rep] at rw';subst rw';have hlen:fs.length=ds.length:=by have:=hr.length;simpa using this.symm
     have hle:ds.length<=(cfs c).length:=by have h1:=congrArg List.length hn;rw[cj,hlen,gF] at h1;omega
     have h16:(cfs c).length<=16:=by
      unfold cfs;have:∀ p∈jX,p.2.length<=16:=by decide
      by_cases hc:c < jX.length
      ·rw[f6,eE hc];exact this _ (List.getElem_mem hc)
      ·rw[f6,aac (by omega)]
       decide
     have nd:(fs.map Prod.fst).Nodup:=by rw[hn];exact fo.nd.sublist (aak _ _)
     have hat:(fs.map Prod.fst)[i]?=some f:=by rw[hn,h8 hi];exact fo.at_
     refine⟨A,He.ga X.K (cnm c),dx,fs,.int a,rfl,hA,fo.cls,fo.no,nV hn (fo.nd.sublist (aak _ _)) (by rw[h8 hi];exact fo.at_) hw,?_⟩;refine⟨ρ,M1,S1,F.er ρ,o1,s.mono l1.le,(en.mono l1).err (s.mono l1.le),?_⟩;intro y H2 S2 l2 o2 r2;simp only[Rep] at r2;subst r2;obtain⟨A2,e2,hc2,hg2,dx2,fs2,hA2,hn2,hr2⟩:=cC o2 (Rep.mono l2.le _ _ r1) em;cases e2;have hlen2:fs2.length=ds.length:=by have:=hr2.length;simpa using this.symm
     have nd2:(fs2.map Prod.fst).Nodup:=by rw[hn2];exact fo.nd.sublist (aak _ _)
     have hat2:(fs2.map Prod.fst)[i]?=some f:=by rw[hn2,h8 hi];exact fo.at_
     refine⟨a,n,rfl,rfl,dx2,fs2,hA2,by omega,?_⟩;obtain⟨h1,h2⟩:=tJ (y:=V.int (g a n)) nd2 hat2;have rz:Rep X.K S2 (.int (g a n)) (.int (g a n)):=by simp only[Rep]
     refine en.nx ρ _ S2 σ _ ((l1.trans l2).trans (j8 hc2)) (o2.setCell (c':=.ins c (ds.set i (.int (g a n)))) hc2 em hg2 ⟨hg2,dx2,putF f (.int (g a n)) fs2,upd_same,by rw[h1,hn2,eF],?_⟩) ((s.mono l1.le).mono l2.le) q2;rw[h2];exact hr2.set i rz
    ·cases hz
   ·cases hz
  ·cases hz
theorem tD{pl:Sem Bool}(tk:Takes X W)(F:cq X.prog X.w X.K X.mg X.base c m k n sp)(hr:Room k X.A)(ho:PD X W o t)(ha:PDA X W (e::es) u)
  (ht:eval (.Call (.Attribute o m apos) (e::es) [] pos) X.env=(do
   let ov <- eval o X.env
   standAt apos.atName
   let (f,first) <- holding [ov] (getMethod ov m pl)
   callWith pos f first (backTo pos (starEach (e::es) X.env)) (backToKw pos (keywordEach [] X.env))):=by rfl)
  (he:starEach (e::es) X.env=(false,eval e X.env)::starEach es X.env:=by rfl) (hpl:(backTo pos (starEach es X.env)).any (·.1)=false:=by rfl) :
  PD X W (.Call (.Attribute o m apos) (e::es) [] pos) (cr c sp n t u):=by
 obtain⟨⟨f,fd,ps,F1,hm,hb⟩,hcl,no⟩:=F;refine⟨λpins s σ H Q I h=>?_⟩;have h1:=yq (m:=m) no h;refine PySem.W.methodCall_KW (pl:=pl) (thn (ho.run pins s σ H _ I h1) λu s1 ⟨x,H1,I1,rx,a,dx,fs,ex,ea,l,q⟩=>?_) ht;subst ex;obtain rfl:u=Value.ref a:=rx;refine getmeth_ok I1 ea hcl hm l ?_;refine PySem.W.callWith_K (first:=[.ref a]) (h₀:=X.base) I1.ok.mod.kin hm.kp (thn (ha.run pos pins s1 σ H1 _ I1 q) λus s2 ⟨vs,H2,I2,r,q2⟩=>⟨I2.kIn,?_⟩) he hpl;exact pO (E:=WE W) (us:=.ref a::us) (vs:=.ref a::vs) F1 hr (λz=>nomatch z) hb .nil (passAt tk σ) I2 (.cons rfl r) q2
theorem IS (tk:Takes X W) {x:Str} {dds:List Tr} (F:Mkr X.prog X.w X.K X.mg X.base x c k n dds sp) (hr:Room (k+1) X.A) (hg:Gl X x) (ha:PDA X W (e::es) u) (hW:∀ cls d σ σ' H,W cls d σ H->W cls d σ' H) (hdb:(x == ("__debug__":Str))=false:=by decide)
  (he:starEach (e::es) X.env=(false,eval e X.env)::starEach es X.env:=by rfl) (hpl:(backTo pos (starEach es X.env)).any (·.1)=false:=by rfl):PD X W (.Call (.Name x p) (e::es) [] pos) (rX c sp dds n u):=by
 obtain⟨f,fd,ps,ds0,dvs,Mk1,F1,hm,hb,hd,hdd⟩:=F.ex;have hnm:=F.nm;subst hnm;refine bA (pe_make (E:=λcls d H=>∀ σ,W cls d σ H) Mk1 F1 hr hg hm hb hd (passes_call tk λcls d σ H z=>z σ) ha hdb he hpl) λσ H Q h=>?_;obtain⟨ρ,M,S,E,o,s,er,q⟩:=h;refine⟨ρ,M,S,E,o,s,er,u.mono (λds M1 q1 vs H1 S1 l1 o1 r1=>?_) (λ_ _ z=>z) q⟩;intro y dx ny nd ne;obtain⟨S2,l2,o2,rc,rfl⟩:=Ia (c:=c) o1 ny nd ne;have r2:=(ah.mono l2.le _ _ r1).append (hdd ⟨S1.G,S1.C++[y]⟩);refine⟨by rw[az,<- r2.length];exact congrArg (·+1) q1.1,_,_,_,o2,ah.cons rc r2,sp.mono (λr M2 q2 v H3 S3 l3 o3 r3=>?_) (λe M2 q2 cls dd H3 S3 l3 o3 x σ'=>?_) q1.2⟩
 ·have hv:v=.non:=by
   have:=sG r3;rw[q2.1] at this;exact of_decide_eq_true this
  exact⟨hv,q2.2 (.ref y) H3 S3 ((l1.trans l2).trans l3) o3 (Rep.mono l3.le _ _ rc)⟩
 ·exact hW _ _ σ _ _ (er e M2 S3 H3 cls dd ((l1.trans l2).trans l3) o3 x q2)
end
def fN:F2:=λM d e=>match e with
 | .lst []=>(bj M d).map λxs=>.bl (!xs.isEmpty)
 | _=>none
section
variable {X:Cx}
theorem sZ(hu:X.A.units+64 < cLine):OpR X (compareOp .NotEq) (rD X.K fN):=by
 intro pins s σ H x y v u Q I rx ry h;obtain⟨S,M,d,e,z,o,q1,q2,hz,k⟩:=h;cases e with
 | lst ys =>
  cases ys with
  | cons _ _=>simp [fN] at hz
  | nil =>
   simp only[fN,bz] at hz;obtain⟨xs,hxs,rfl⟩:=hz;obtain⟨a,vs,rfl,g1,r1⟩:=gv o q1 hxs;simp only[Rep] at q2;obtain⟨b,ws,rfl,g2,r2⟩:=q2;simp only[ah] at r2;subst r2;cases rx;cases ry;obtain⟨i1,v1,p1,_⟩:=I.list (.inl (.inl g1));obtain⟨i2,v2,p2,_⟩:=I.list (.inl (.inl (o.sub _ _ g2)));cases v2;show wpAny (model X.prog X.w) X.A (richCompare .NotEq (.ref a) (.ref b)) (EP X pins σ Q) X.xe s;have fin:∀ bb:Bool,bb=(!xs.isEmpty)->EP X pins σ Q (.bool bb) s:=λbb e=>⟨.bl bb,H,I,rfl,by rw[e];exact k _ H S (Gr.refl S H) o fw⟩
   cases xs with
   | nil =>
    simp only[ah] at r1;subst r1;cases v1;exact PySem.SeqAt.RcNeAt.lists (e:=λ_=>true) p1.isList p2.isList rfl (by omega) (λj h1 _=>absurd h1 (f9 _)) _ _ _ _ (fin _ rfl)
   | cons x xs =>
    simp only[ah] at r1;obtain⟨w,r,rfl,_,_⟩:=r1;cases v1;exact PySem.SeqAt.RcNeAt.lists_lengths p1.isList p2.isList (by simp) (by omega) _ _ _ _ (fin _ rfl)
 | _=>simp [fN] at hz
end
section
open PySem.Builtin PySem.Builtin.Str
def dig(a:Nat)(c:Char):Nat:=a * 10+(c.toNat - 48)
theorem w6:∀ n,n < 10->(aax n).toNat - 48=n:=by decide
theorem wb:∀(fuel n:Nat)(ds:List Char),n < fuel->(Nat.toDigitsCore 10 fuel n ds).foldl dig 0=ds.foldl dig n
 | 0,n,ds,h=>absurd h (f9 _)
 | fuel+1,n,ds,h=>by
  unfold Nat.toDigitsCore
  by_cases h0:n / 10=0
  ·rw[if_pos h0,aat];have h1:n < 10:=by omega
   have:dig 0 (aax (n % 10))=n:=by unfold dig;rw[w6 _ (Nat.mod_lt _ (by decide))];omega
   rw[this]
  ·rw[if_neg h0,wb fuel (n / 10) _ (by omega),aat];have:dig (n / 10) (aax (n % 10))=n:=by
    unfold dig;rw[w6 _ (Nat.mod_lt _ (by decide))];omega
   rw[this]
theorem sk(n:Nat):(gb 10 n).foldl dig 0=n:=by unfold gb;rw[wb _ _ _ (Nat.lt_succ_self n)];rfl
theorem EN{m n:Nat}(h:gb 10 m=gb 10 n):m=n:=by rw[<- sk m,h,sk n]
theorem yB{m n:Nat}(h:dy m=dy n):m=n:=by
 refine EN ?_;have e:∀ k,(dy k).toList=gb 10 k:=λk=>by
  unfold dy;simp
 rw[<- e m,<- e n,h]
theorem ki (n:Nat):toString (Int.negSucc n)="-"++dy (n+1):=rfl
theorem jw(n:Nat):toString (Int.ofNat n)=dy n:=rfl
theorem w7{n:Nat}{c:Char}(h:c∈(dy n).toList):c.isDigit=true:=by
 have:=int_sign (Int.ofNat n) c (by rw[jw];exact h);rcases this with h1|h1
 ·exact h1
 ·have e:(dy n).toList=gb 10 n:=by unfold dy;simp
  rw[e] at h;exact Nat.isDigit_of_mem_toDigits (by decide) (by decide) h
theorem G4{i j:Int}(h:toString i=toString j):i=j:=by
 cases i with
 | ofNat m =>
  cases j with
  | ofNat n=>rw[jw,jw] at h;rw[yB h]
  | negSucc n =>
   rw[jw,ki] at h;have:'-'∈(dy m).toList:=by rw[h];simp
   exact absurd (w7 this) (by decide)
 | negSucc m =>
  cases j with
  | ofNat n =>
   rw[jw,ki] at h;have:'-'∈(dy n).toList:=by rw[<- h];simp
   exact absurd (w7 this) (by decide)
  | negSucc n =>
   rw[ki,ki] at h;have h2:dy (m+1)=dy (n+1):=by have:=congrArg String.toList h;simp only[String.toList_append,List.append_cancel_left_eq] at this;exact String.toList_inj.mp this
   have:=yB h2;have e:m=n:=by omega
   rw[e]
end
section
open PySem.Builtin PySem.Builtin.Str
def chL(s:Str):List Nat:=s.cps.toList
theorem cE(a b:Str):chL (a++b)=chL a++chL b:=by unfold chL;rw[Str.cps_append,Array.toList_append]
theorem jV{a b:Str}(h:chL a=chL b):a=b:=Str.ext' (Array.toList_inj.mp h)
theorem Cd:∀{a b:List Char},a.map Char.toNat=b.map Char.toNat->a=b
 | [],[],_=>rfl
 | [],_::_,h=>by simp at h
 | _::_,[],h=>by simp at h
 | x::a,y::b,h=>by
  simp only[aO,List.cons.injEq] at h;have h2:x=y:=Char.ext (UInt32.toNat_inj.mp h.1);rw[h2,Cd h.2]
theorem a8(s:String):chL (Str.ofString s)=s.toList.map Char.toNat:=signs_ofString s
theorem Iq{s t:String}(h:Str.ofString s=Str.ofString t):s=t:=by have:=congrArg chL h;rw[a8,a8] at this;exact String.toList_inj.mp (Cd this)
def kA:List Nat:=[97,98,99,100,101,102,103,104,105,106,107,108,109,110,111,112,113,114,115,116,117,118,119,120,121,122,65,66,67,68,69,70,71,72,73,74,75,76,77,78,79,80,81,82,83,84,85,86,87,88,89,90,48,49,50,51,52,53,54,55,56,57,32,45,95,91,93,44,46,33,40,41]
theorem tG:∀ c∈kA,reprChar 39 c=[c]/\c≠39:=by decide +kernel
def lz(w:Str):Bool:=w.cps.toList.all λc=>decide (c∈kA)
theorem xG:∀(l:List Nat)(acc:Array Nat),(∀ c∈l,c∈kA)->(l.foldl (λout c=>out++(reprChar 39 c).toArray) acc).toList=acc.toList++l
 | [],acc,_=>by simp
 | c::r,acc,h=>by
  rw[aat,xG r _ λx hx=>h x (aZ _ hx),(tG c (h c (a6 ..))).1];simp
theorem JE{w:Str}(h:lz w=true):chL (reprText w)=39::chL w++[39]:=by
 have hm:∀ c∈w.cps.toList,c∈kA:=λc hc=>of_decide_eq_true (b7.mp h c hc);have hq:reprQuote w=39:=by
  unfold reprQuote;have:w.cps.contains 39=false:=by
   refine Bool.eq_false_iff.mpr λz=>?_;have:(39:Nat)∈w.cps.toList:=by simpa using z
   exact(tG 39 (hm _ this)).2 rfl
  rw[this];rfl
 unfold reprText chL;rw[hq];simp only[Array.toList_push];rw[<- Array.foldl_toList,xG _ _ hm];rfl
mutual
def reT:Tr->Bool
 | .non=>true
 | .bl _=>true
 | .int i=>decide (i.natAbs.log2 < 1920)
 | .str w=>lz w
 | .lst xs=>b9 xs
 | .tup xs=>b9 xs
 | _=>false
def b9:List Tr->Bool
 | []=>true
 | d::ds=>reT d&&b9 ds
end
mutual
def txt:Tr->List Nat
 | .non=>[78,111,110,101]
 | .bl true=>[84,114,117,101]
 | .bl false=>[70,97,108,115,101]
 | .int i=>chL (Str.ofString (toString i))
 | .str w=>39::chL w++[39]
 | .lst xs=>match xs with
  | []=>[91,93]
  | d::ds=>91::(txt d++tl ds 93)
 | .tup xs=>match xs with
  | []=>[40,41]
  | d::ds=>40::(txt d++match ds with
   | []=>[44,41]
   | e::es=>44::32::(txt e++tl es 41))
 | _=>[]
def tl:List Tr->Nat->List Nat
 | [],c=>[c]
 | d::ds,c=>44::32::(txt d++tl ds c)
end
theorem hU(d:Tr)(ds:List Tr)(c:Nat):tl (d::ds) c=44::32::(txt d++tl ds c):=by rw[tl]
def dlm(r:List Nat):Prop:=r=[]∨∃ t,r=44::t∨r=41::t∨r=93::t
theorem j5{ds:List Tr}{c:Nat}{r:List Nat}(hc:c=41∨c=93):dlm (tl ds c++r):=by
 cases ds with
 | nil =>
  rw[tl];rcases hc with rfl|rfl
  ·exact .inr ⟨r,.inr (.inl rfl)⟩
  ·exact .inr ⟨r,.inr (.inr rfl)⟩
 | cons d ds=>rw[hU];exact .inr ⟨_,.inl rfl⟩
def iA(c:Nat):Bool:=decide (c=45)||(decide (48<=c)&&decide (c<=57))
theorem nK(i:Int):∀ c∈txt (.int i),iA c=true:=by
 intro c hc;rw[txt,a8] at hc;obtain⟨ch,h1,rfl⟩:=cJ.mp hc;rcases int_sign i ch h1 with h|h
 ·have:=digit_range h;unfold iA;simp only[gA,ax,decide_eq_true_eq];exact .inr this
 ·subst h;decide
theorem xQ(i:Int):txt (.int i)≠[]:=by
 rw[txt,a8];intro h;have h2:(toString i).toList=[]:=by simpa using h
 have h3:toString i="":=String.toList_inj.mp (by rw[h2];rfl);cases i with
 | ofNat n =>
  rw[jw] at h3;have e:(dy n).toList=gb 10 n:=by unfold dy;simp
  have:=congrArg String.toList h3;rw[e] at this;have h4:=tDigits_len_ge 10 n;rw[this] at h4;simp at h4
 | negSucc n =>
  rw[ki] at h3;have:=congrArg String.toList h3;simp at this
theorem sU{P:Nat->Bool}:∀(a b r s:List Nat),(∀ c∈a,P c=true)->(∀ c∈b,P c=true)->(∀ c t,r=c::t->P c=false)->(∀ c t,s=c::t->P c=false)->a++r=b++s->a=b/\r=s
 | [],[],r,s,_,_,_,_,h=>⟨rfl,h⟩
 | [],y::b,r,s,_,hb,hr,_,h=>by
  have:=hr y (b++s) h;rw[hb y (a6 ..)] at this;cases this
 | x::a,[],r,s,ha,_,_,hs,h=>by
  have:=hs x (a++r) h.symm;rw[ha x (a6 ..)] at this;cases this
 | x::a,y::b,r,s,ha,hb,hr,hs,h=>by
  simp only[aY,List.cons.injEq] at h;obtain⟨rfl,h⟩:=h;obtain⟨h1,h2⟩:=sU a b r s (λc hc=>ha c (aZ _ hc)) (λc hc=>hb c (aZ _ hc)) hr hs h;exact⟨by rw[h1],h2⟩
theorem w9{r:List Nat}(h:dlm r):∀ c t,r=c::t->iA c=false:=by
 rintro c t rfl;rcases h with h|⟨u,h|h|h⟩ <;> cases h <;> decide
def fst:Tr->Nat->Bool
 | .non,c=>c == 78
 | .bl true,c=>c == 84
 | .bl false,c=>c == 70
 | .int _,c=>iA c
 | .str _,c=>c == 39
 | .lst _,c=>c == 91
 | .tup _,c=>c == 40
 | _,_=>false
theorem j7:∀(d:Tr),reT d=true->∃ c t,txt d=c::t/\fst d c=true
 | .non,_=>⟨_,_,by rw[txt],rfl⟩
 | .bl true,_=>⟨_,_,by rw[txt],rfl⟩
 | .bl false,_=>⟨_,_,by rw[txt],rfl⟩
 | .int i,_=>by
  cases h:txt (.int i) with
  | nil=>exact absurd h (xQ i)
  | cons c t=>exact⟨c,t,rfl,nK i c (by rw[h];exact a6 ..)⟩
 | .str w,_=>⟨39,chL w++[39],by rw[txt];rfl,rfl⟩
 | .lst xs,_=>by
  cases xs with
  | nil=>exact⟨91,[93],by rw[txt],rfl⟩
  | cons d ds=>exact⟨91,txt d++tl ds 93,by rw[txt],rfl⟩
 | .tup xs,_=>by
  cases xs with
  | nil=>exact⟨40,[41],by rw[txt],rfl⟩
  | cons d ds =>
   cases ds with
   | nil=>exact⟨40,_,by rw[txt],rfl⟩
   | cons e es=>exact⟨40,_,by rw[txt],rfl⟩
 | .dct _ _,h=>by simp [reT] at h
 | .ins _ _,h=>by simp [reT] at h
 | .exc _ _,h=>by simp [reT] at h
 | .cell _,h=>by simp [reT] at h
 | .scr _,h=>by simp [reT] at h
 | .dkf _ _,h=>by simp [reT] at h
def knd:Tr->Nat
 | .non=>0
 | .bl true=>1
 | .bl false=>2
 | .int _=>3
 | .str _=>4
 | .lst _=>5
 | .tup _=>6
 | _=>7
theorem nA{x:Tr}{c:Nat}(h:fst x c=true):(knd x=0/\c=78)∨(knd x=1/\c=84)∨(knd x=2/\c=70)∨(knd x=3/\(c=45∨(48<=c/\c<=57)))∨(knd x=4/\c=39)∨(knd x=5/\c=91)∨(knd x=6/\c=40):=by
 cases x with
 | non=>exact .inl ⟨rfl,by simpa [fst] using h⟩
 | bl b=>cases b <;> simp [fst] at h <;> simp [knd,h]
 | int i =>
  simp only[fst,iA,gA,ax,decide_eq_true_eq] at h;simp [knd,h]
 | str w=>simp [fst] at h;simp [knd,h]
 | lst w=>simp [fst] at h;simp [knd,h]
 | tup w=>simp [fst] at h;simp [knd,h]
 | _=>simp [fst] at h
theorem FV{d e:Tr}{c:Nat}(h:fst d c=true)(h':fst e c=true):knd d=knd e:=by have h1:=nA h;have h2:=nA h';omega
theorem nz{d:Tr}:¬ fst d 93=true:=λh=>by have h1:=nA h;omega
theorem nw{d:Tr}:¬ fst d 41=true:=λh=>by have h1:=nA h;omega
mutual
theorem iW:∀(d e:Tr)(r s:List Nat),reT d=true->reT e=true->dlm r->dlm s->txt d++r=txt e++s->d=e/\r=s
 | d,e,r,s,hd,he,hr,hs,h=>by
  have hk:knd d=knd e:=by obtain⟨c,t,e1,f1⟩:=j7 d hd;obtain⟨c',t',e2,f2⟩:=j7 e he;rw[e1,e2] at h;simp only[aY,List.cons.injEq] at h;rw[h.1] at f1;exact FV f1 f2
  match d,e,hd,he,h,hk with
  | .non,.non,_,_,h,_=>exact⟨rfl,aah h⟩
  | .bl true,.bl true,_,_,h,_=>exact⟨rfl,aah h⟩
  | .bl false,.bl false,_,_,h,_=>exact⟨rfl,aah h⟩
  | .int i,.int j,_,_,h,_ =>
   obtain⟨h1,h2⟩:=sU (P:=iA) _ _ r s (nK i) (nK j) (w9 hr) (w9 hs) h;refine⟨?_,h2⟩;rw[txt,txt] at h1;rw[G4 (Iq (jV h1))]
  | .str w,.str v,hd,he,h,_ =>
   rw[txt,txt] at h;simp only[aY,cb,List.cons.injEq,true_and,bR] at h;have ok:∀{w:Str},reT (.str w)=true->∀ c∈chL w,(decide (c≠39))=true:=λ{w} hw c hc=>decide_eq_true (tG c (of_decide_eq_true (b7.mp (show lz w=true by simpa only [reT] using hw) c hc))).2;obtain⟨h1,h2⟩:=sU (P:=λc=>decide (c≠39)) (chL w) (chL v) (39::r) (39::s) (ok hd) (ok he) (λc t z=>by cases z;decide) (λc t z=>by cases z;decide) h;rw[jV h1];exact⟨rfl,(List.cons.inj h2).2⟩
  | .lst xs,.lst ys,hd,he,h,_ =>
   simp only[reT] at hd he;obtain⟨h1,h2⟩:=HN xs ys r s hd he hr hs h;rw[h1];exact⟨rfl,h2⟩
  | .tup xs,.tup ys,hd,he,h,_ =>
   simp only[reT] at hd he;obtain⟨h1,h2⟩:=KI xs ys r s hd he hr hs h;rw[h1];exact⟨rfl,h2⟩
theorem HN:∀(xs ys:List Tr)(r s:List Nat),b9 xs=true->b9 ys=true->dlm r->dlm s->txt (.lst xs)++r=txt (.lst ys)++s->xs=ys/\r=s
 | [],[],r,s,_,_,_,_,h=>⟨rfl,aah h⟩
 | [],y::ys,r,s,_,hy,_,_,h=>by
  simp only[b9,ax] at hy;obtain⟨c,t,e1,f1⟩:=j7 y hy.1;rw[txt,txt,e1] at h;simp only[aY,List.cons.injEq,true_and] at h;rw[<- h.1] at f1;exact absurd f1 (by first|exact nz|exact nw)
 | x::xs,[],r,s,hx,_,_,_,h=>by
  simp only[b9,ax] at hx;obtain⟨c,t,e1,f1⟩:=j7 x hx.1;rw[txt,txt,e1] at h;simp only[aY,List.cons.injEq,true_and] at h;rw[h.1] at f1;exact absurd f1 (by first|exact nz|exact nw)
 | x::xs,y::ys,r,s,hx,hy,hr,hs,h=>by
  simp only[b9,ax] at hx hy;rw[txt,txt] at h;simp only[aY,cb,List.cons.injEq,true_and] at h;obtain⟨h1,h2⟩:=iW x y _ _ hx.1 hy.1 (j5 (.inr rfl)) (j5 (.inr rfl)) h;obtain⟨h3,h4⟩:=uT xs ys 93 r s hx.2 hy.2 hr hs (by decide) h2;exact⟨by rw[h1,h3],h4⟩
theorem KI:∀(xs ys:List Tr)(r s:List Nat),b9 xs=true->b9 ys=true->dlm r->dlm s->txt (.tup xs)++r=txt (.tup ys)++s->xs=ys/\r=s
 | [],[],r,s,_,_,_,_,h=>⟨rfl,aah h⟩
 | [],y::ys,r,s,_,hy,_,_,h=>by
  simp only[b9,ax] at hy;obtain⟨c,t,e1,f1⟩:=j7 y hy.1;have h':(41:Nat)::r=(txt y++match ys with
   | []=>[44,41]
   | e::es=>44::32::(txt e++tl es 41))++s:=by
   cases ys <;> ·rw[txt,txt] at h;simpa using h
  rw[e1] at h';simp only[aY,List.cons.injEq] at h';rw[<- h'.1] at f1;exact absurd f1 (by first|exact nz|exact nw)
 | x::xs,[],r,s,hx,_,_,_,h=>by
  simp only[b9,ax] at hx;obtain⟨c,t,e1,f1⟩:=j7 x hx.1;have h':(txt x++match xs with
   | []=>[44,41]
   | e::es=>44::32::(txt e++tl es 41))++r=(41:Nat)::s:=by
   cases xs <;> ·rw[txt,txt] at h;simpa using h
  rw[e1] at h';simp only[aY,List.cons.injEq] at h';rw[h'.1] at f1;exact absurd f1 (by first|exact nz|exact nw)
 | [x],[y],r,s,hx,hy,hr,hs,h=>by
  simp only[b9,ax] at hx hy;rw[txt,txt] at h;simp only[aY,cb,List.cons.injEq,true_and,bR] at h;obtain⟨h1,h2⟩:=iW x y (44::41::r) (44::41::s) hx.1 hy.1 (.inr ⟨_,.inl rfl⟩) (.inr ⟨_,.inl rfl⟩) h;simp only[List.cons.injEq,true_and] at h2;exact⟨by rw[h1],h2⟩
 | [x],y::z::ys,r,s,hx,hy,hr,hs,h=>by
  simp only[b9,ax] at hx hy;rw[txt,txt] at h;simp only[aY,cb,List.cons.injEq,true_and,bR] at h;obtain⟨h1,h2⟩:=iW x y (44::41::r) (44::32::(txt z++(tl ys 41++s))) hx.1 hy.1 (.inr ⟨_,.inl rfl⟩) (.inr ⟨_,.inl rfl⟩) h;simp at h2
 | x::z::xs,[y],r,s,hx,hy,hr,hs,h=>by
  simp only[b9,ax] at hx hy;rw[txt,txt] at h;simp only[aY,cb,List.cons.injEq,true_and,bR] at h;obtain⟨h1,h2⟩:=iW x y (44::32::(txt z++(tl xs 41++r))) (44::41::s) hx.1 hy.1 (.inr ⟨_,.inl rfl⟩) (.inr ⟨_,.inl rfl⟩) h;simp at h2
 | x::z::xs,y::u::ys,r,s,hx,hy,hr,hs,h=>by
  simp only[b9,ax] at hx hy;rw[txt,txt] at h;simp only[aY,cb,List.cons.injEq,true_and,bR] at h;obtain⟨h1,h2⟩:=iW x y (44::32::(txt z++(tl xs 41++r))) (44::32::(txt u++(tl ys 41++s))) hx.1 hy.1 (.inr ⟨_,.inl rfl⟩) (.inr ⟨_,.inl rfl⟩) h;simp only[List.cons.injEq,true_and] at h2;obtain⟨h3,h4⟩:=iW z u _ _ hx.2.1 hy.2.1 (j5 (.inl rfl)) (j5 (.inl rfl)) h2;obtain⟨h5,h6⟩:=uT xs ys 41 r s hx.2.2 hy.2.2 hr hs (by decide) h4;exact⟨by rw[h1,h3,h5],h6⟩
theorem uT:∀(xs ys:List Tr)(c:Nat)(r s:List Nat),b9 xs=true->b9 ys=true->dlm r->dlm s->(c=41∨c=93)->tl xs c++r=tl ys c++s->xs=ys/\r=s
 | [],[],c,r,s,_,_,_,_,_,h=>by
  rw[tl] at h;exact⟨rfl,(List.cons.inj h).2⟩
 | [],y::ys,c,r,s,_,_,_,_,hc,h=>by
  rw[tl,hU] at h;have:=(List.cons.inj h).1;omega
 | x::xs,[],c,r,s,_,_,_,_,hc,h=>by
  rw[tl,hU] at h;have:=(List.cons.inj h).1;omega
 | x::xs,y::ys,c,r,s,hx,hy,hr,hs,hc,h=>by
  simp only[b9,ax] at hx hy;rw[hU,hU] at h;simp only[aY,cb,List.cons.injEq,true_and] at h;obtain⟨h1,h2⟩:=iW x y _ _ hx.1 hy.1 (j5 hc) (j5 hc) h;obtain⟨h3,h4⟩:=uT xs ys c r s hx.2 hy.2 hr hs hc h2;exact⟨by rw[h1,h3],h4⟩
end
end
def pL(x:Str)(n:Nat):Str:=⟨((bW n x.cps.toList).flatten).toArray⟩
def dR:F2:=λ_ d e=>match d,e with
 | .str x,.int n=>if 0<=n/\n<=1000000/\x.length * n.toNat<=big then some (.str (pL x n.toNat)) else none
 | _,_=>none
theorem xF:∀(l:List (Array Nat))(a:Array Nat),(l.foldl (·++·) a).toList=a.toList++(l.map Array.toList).flatten
 | [],a=>by simp
 | x::r,a=>by rw[aat,xF r];simp
theorem HX{x:Str}{n:Int}(h:0<=n):Txt.mul x n=pL x n.toNat:=by
 refine Str.ext' (Array.toList_inj.mp ?_);unfold Txt.mul pL
 by_cases h1:n < 1
 ·rw[if_pos h1];have:n.toNat=0:=by omega
  rw[this];rfl
 ·rw[if_neg h1]
  split
  ·rename_i hz;rcases Bool.or_eq_true_iff.mp hz with e|e
   ·have:n=1:=by simpa using e
    subst this;simp
   ·have e:x.length=0:=by simpa using e
    have:x.cps.toList=[]:=gE.mp (by simpa [Str.length] using e);rw[this];simp
  ·rw[xF];simp
theorem iB{X:Cx}:OpR X (binaryOp .Mult) (rD X.K dR):=by
 intro pins s σ H x y v u Q I rx ry h;obtain⟨S,M,d,e,z,o,r1,r2,hz,k⟩:=h;unfold dR at hz
 split at hz
 ·split at hz
  ·rename_i xs n hc;obtain⟨h1,h2,h3⟩:=hc;cases hz;simp only[Rep] at r1 r2;subst r1 r2;obtain⟨t,rfl⟩:=rx;obtain⟨t',rfl⟩:=ry;refine SB.mul ⟨?_,λa b=>?_,λa b=>?_⟩ λt' tk=>?_
   ·simp only[hZ,decide_eq_false_iff_not];omega
   ·have h4:(xs.length:Int) * n<=16777216:=by
     have e:((xs.length * n.toNat:Nat):Int)=(xs.length:Int) * n:=by rw[Int.natCast_mul,Int.toNat_of_nonneg h1]
     rw[<- e];unfold big at h3;omega
    have:(xs.length:Int)<=(2 ^ 63 - 1) / n:=by rw[Int.le_ediv_iff_mul_le (by omega)];omega
    omega
   ·unfold Builtin.Str.tooLong;unfold big at h3;simp only[decide_eq_false_iff_not]
    first
    | omega
    | (rw[sizeLine_eq];omega)
   ·rw[HX h1];exact⟨.str (pL xs n.toNat),H,I.tok _,⟨_,rfl⟩,k _ H S (Gr.refl S H) o (by simp only[Rep])⟩
  ·cases hz
 ·cases hz
abbrev fK:List (Nat × Nat):=[(7,0)]
abbrev eo:List (Nat × Nat):=[(7,1)]
abbrev eX:List (Nat × Nat):=[(7,2)]
abbrev mI:List (Nat × Nat):=[(9,0)]
abbrev vq:List Str:=["self","line"]
abbrev qL:List Str:=["thing","sign"]
def oR(cl:List Nat):Sr :=
 (ao (c6 (bY cl [(.b "str")] (aa 0)) (c6 (m8 leT leT (dC (.int 1)) (aB bx (ac (aa 0) ae)) (dC (.int 8))) (aB d8 (ac (bv false [1] (dG (aa 0)) (.nm 1) cL (F3 inT (aa 1) (dC (.str "abcdefghijklmnopqrstuvwxyz")))) ae)))))
abbrev qI:List Str:=["thing"]
def oO(cl:List Nat):Sr :=
 (ao (c6 (bY cl [(.b "int")] (aa 0)) (c6 (jZ (bY cl [(.b "bool")] (aa 0))) (F3 ltT (aB jR (ac (aa 0) ae)) (F3 fv (dC (.int 10)) (dC (.int 40)))))))
abbrev qH:List Str:=["thing"]
def oN(s0 s1:Sf):Sr :=
 (ao (nc (F3 fk (aa 0) (dC .non)) (nc (GE s0 [] 1 (ac (aa 0) ae)) (GE s1 [] 1 (ac (aa 0) ae)))))
abbrev rf:List Str:=["thing","lists","inner"]
def AL(cl:List Nat)(s2 s3:Sf):Sr :=
 (GT (cH (bp (bY cl [(.b "list")] (aa 0)))) (ao (GE s2 [] 1 (ac (aa 0) ae))) aL)
def uf(cl:List Nat)(s2 s3:Sf):Sr :=
 (ao (c6 (F3 gtT (aa 1) (dC (.int 0))) (aB d8 (ac (bv false [2] (c7 (aa 0)) (.nm 2) cL (GE s3 [] 2 (ac (aa 2) (ac (F3 dN (aa 1) (dC (.int 1))) ae)))) ae))))
def pI(cl:List Nat)(s2 s3:Sf):Sr :=
 (aj (AL cl s2 s3) (uf cl s2 s3))
abbrev qK:List Str:=["thing"]
def oQ(s3:Sf):Sr :=
 (ao (GE s3 [] 2 (ac (aa 0) (ac (dC (.int 60)) ae))))
abbrev q8:List Str:=["thing"]
def pE(s4:Sf):Sr :=
 (GT (cH (bp (GE s4 [] 1 (ac (aa 0) ae)))) (um 0) aL)
abbrev qM:List Str:=["value"]
def zD(cl:List Nat):Sr :=
 (GT (am (F3 fk (aa 0) (dC .non))) (ao (dC (.str "none"))) aL)
def tN(cl:List Nat):Sr :=
 (GT (bp (bY cl [(.b "list")] (aa 0))) (ao (dC (.str "list"))) aL)
def oU(cl:List Nat):Sr :=
 (ao (dIf (bp (bY cl [(.b "str")] (aa 0))) (dC (.str "word")) (dC (.str "int"))))
def oS(cl:List Nat):Sr :=
 (aj (zD cl) (aj (tN cl) (oU cl)))
abbrev qJ:List Str:=["one","other","pair"]
def zC(cl:List Nat)(s5 s6:Sf):Sr :=
 (GT (dQ (bp (bY cl [(.b "list")] (aa 0))) (bp (bY cl [(.b "list")] (aa 1)))) (ao (c6 (F3 eqT (aB bx (ac (aa 0) ae)) (aB bx (ac (aa 1) ae))) (aB d8 (ac (bv false [2] (sa (ac (aa 0) (ac (aa 1) ae))) (.nm 2) cL (GE s5 [] 2 (rZ (aa 2) ae))) ae)))) aL)
def tM(cl:List Nat)(s5 s6:Sf):Sr :=
 (ao (c6 (F3 eqT (GE s6 [] 1 (ac (aa 0) ae)) (GE s6 [] 1 (ac (aa 1) ae))) (F3 eqT (aa 0) (aa 1))))
def oP(cl:List Nat)(s5 s6:Sf):Sr :=
 (aj (zC cl s5 s6) (tM cl s5 s6))
abbrev rb:List Str:=["one","other"]
def AJ(s7 s5:Sf):Sr :=
 (ao (GE s5 [] 2 (ac (aa 0) (ac (aa 1) ae))))
def pG(s7 s5:Sf):Sr :=
 (aj (cX (GE s7 [] 1 (ac (aa 0) ae))) (aj (cX (GE s7 [] 1 (ac (aa 1) ae))) (AJ s7 s5)))
abbrev qG:List Str:=["atom"]
def oM(cl:List Nat):Sr :=
 (ao (dIf (bp (bY cl [(.b "str")] (aa 0))) (rW [(dC (.str "'")),(rT (aa 0)),(dC (.str "'"))]) (aB iT (ac (aa 0) ae))))
abbrev rg:List Str:=["value","inner"]
def AM(cl:List Nat)(s8 s9:Sf):Sr :=
 (GT (cH (bp (bY cl [(.b "list")] (aa 0)))) (ao (GE s8 [] 1 (ac (aa 0) ae))) aL)
def AN(cl:List Nat)(s8 s9:Sf):Sr :=
 (ao (F3 aq (F3 aq (dC (.str "[")) (jc (dC (.str ", ")) (bv false [1] (c7 (aa 0)) (.nm 1) cL (GE s9 [] 1 (ac (aa 1) ae))))) (dC (.str "]"))))
def pJ(cl:List Nat)(s8 s9:Sf):Sr :=
 (aj (AM cl s8 s9) (AN cl s8 s9))
abbrev rh:List Str:=["value"]
def pK(s7 s9:Sf):Sr :=
 (aj (cX (GE s7 [] 1 (ac (aa 0) ae))) (ao (GE s9 [] 1 (ac (aa 0) ae))))
abbrev qF:List Str:=["sign","figures","one"]
def zx(s1:Sf):Sr :=
 (GT (am (F3 eqT (aa 0) (dC (.str "None")))) (ao (aI (ac (dC .non) ae))) aL)
def zy(s1:Sf):Sr :=
 (GT (dQ (am (F3 gtT (aB bx (ac (aa 0) ae)) (dC (.int 2)))) (dQ (am (F3 eqT (F3 L4 (aa 0) (dC (.int 0))) (dC (.str "'")))) (am (F3 eqT (F3 L4 (aa 0) (eV (dC (.int 1)))) (dC (.str "'")))))) (ao (dIf (bp (GE s1 [] 1 (ac (dSl (aa 0) (ay (some (dC (.int 1)))) (ay (some (eV (dC (.int 1)))))) ae))) (aI (ac (dSl (aa 0) (ay (some (dC (.int 1)))) (ay (some (eV (dC (.int 1)))))) ae)) (aI ae))) aL)
def zz(s1:Sf):Sr :=
 (aC (.nm 1) (dIf (am (F3 eqT (dSl (aa 0) (ay none) (ay (some (dC (.int 1))))) (dC (.str "-")))) (dSl (aa 0) (ay (some (dC (.int 1)))) (ay none)) (aa 0)))
def zA(s1:Sf):Sr :=
 (GT (dF (am (F3 eqT (aa 1) (dC (.str "")))) (dF (am (F3 gtT (aB bx (ac (aa 1) ae)) (dC (.int 40)))) (cH (bp (aB d8 (ac (bv false [2] (dG (aa 1)) (.nm 2) cL (F3 inT (aa 2) (dC (.str "0123456789")))) ae)))))) (ao (aI ae)) aL)
def zB(s1:Sf):Sr :=
 (ao (dIf (dF (am (F3 neT (F3 L4 (aa 1) (dC (.int 0))) (dC (.str "0")))) (am (F3 eqT (aa 0) (dC (.str "0"))))) (aI (ac (aB dk (ac (aa 0) ae)) ae)) (aI ae)))
def oK(s1:Sf):Sr :=
 (aj (zx s1) (aj (zy s1) (aj (zz s1) (aj (zA s1) (zB s1)))))
abbrev re:List Str:=["line","sign"]
def AK:Sr :=
 (ao (bv false [1] (c7 (ng (aa 0) (dC (.str " ")))) (.nm 1) (am (F3 neT (aa 1) (dC (.str "")))) (aa 1)))
def pH:Sr :=
 (aj (uo 0 1) (AK))
abbrev qz:List Str:=["self","signs"]
def oE:Sr :=
 (aj (lL fK (aa 0) (aa 1)) (aj (lL eo (aa 0) (dC (.int 0))) (lL eX (aa 0) (dC (.int 0)))))
abbrev qD:List Str:=["self"]
def oI:Sr :=
 (ao (dIf (am (F3 ltT (eI eo (aa 0)) (aB bx (ac (eI fK (aa 0)) ae)))) (F3 L4 (eI fK (aa 0)) (eI eo (aa 0))) (dC (.str ""))))
abbrev qE:List Str:=["self","sign"]
def oJ(LL:Sf):Sr :=
 (aj (aC (.nm 1) (cr 7 LL 1 (aa 0) ae)) (aj (jB eo (aa 0) 1 (λa b=>a+b)) (ao (aa 1))))
abbrev qB:List Str:=["self","sign"]
def oG(LR:Sf):Sr :=
 (GT (am (F3 neT (cr 7 LR 1 (aa 0) ae) (aa 1))) (fQ 9 (ac (dC (.int 0)) ae)) aL)
abbrev qA:List Str:=["self","found"]
def zo(LQ LL LP:Sf):Sr :=
 (cX (cr 7 LQ 2 (aa 0) (ac (dC (.str "[")) ae)))
def zp(LQ LL LP:Sf):Sr :=
 (GT (am (F3 gtT (eI eX (aa 0)) (dC (.int 100)))) (fQ 9 (ac (dC (.int 0)) ae)) aL)
def zs(LQ LL LP:Sf):Sr :=
 (GT (am (F3 fN (aa 1) (aI ae))) (cX (cr 7 LQ 2 (aa 0) (ac (dC (.str ",")) ae))) aL)
def tL(LQ LL LP:Sf):Sr :=
 (cX (gl ij (aa 1) (ac (cr 7 LP 1 (aa 0) ae) ae)))
def lD(LQ LL LP:Sf):Sr :=
 (aj (zs LQ LL LP) (tL LQ LL LP))
def zr(LQ LL LP:Sf):Sr :=
 (lM (am (F3 neT (cr 7 LL 1 (aa 0) ae) (dC (.str "]")))) (lD LQ LL LP))
def zt(LQ LL LP:Sf):Sr :=
 (cX (cr 7 LQ 2 (aa 0) (ac (dC (.str "]")) ae)))
def oF(LQ LL LP:Sf):Sr :=
 (aj (zo LQ LL LP) (aj (jB eX (aa 0) 1 (λa b=>a+b)) (aj (zp LQ LL LP) (aj (aC (.nm 1) (lc ae)) (aj (zr LQ LL LP) (aj (zt LQ LL LP) (aj (jB eX (aa 0) 1 (λa b=>a - b)) (ao (rV (aa 1))))))))))
abbrev qC:List Str:=["self","found"]
def zu(LL LX LV LR:Sf):Sr :=
 (GT (am (F3 eqT (cr 7 LL 1 (aa 0) ae) (dC (.str "[")))) (ao (cr 7 LX 1 (aa 0) ae)) aL)
def zv(LL LX LV LR:Sf):Sr :=
 (aC (.nm 1) (GE LV [] 1 (ac (cr 7 LR 1 (aa 0) ae) ae)))
def zw(LL LX LV LR:Sf):Sr :=
 (GT (am (F3 eqT (aa 1) (aI ae))) (fQ 9 (ac (dC (.int 0)) ae)) aL)
def oH(LL LX LV LR:Sf):Sr :=
 (aj (zu LL LX LV LR) (aj (zv LL LX LV LR) (aj (zw LL LX LV LR) (ao (F3 L4 (aa 1) (dC (.int 0)))))))
abbrev q9:List Str:=["text","reader","found"]
def AG(cl:List Nat)(LZ Lp LP LL s4:Sf):Sr :=
 (GT (cH (bp (bY cl [(.b "str")] (aa 0)))) (fQ 9 (ac (dC (.int 0)) ae)) aL)
def AH(cl:List Nat)(LZ Lp LP LL s4:Sf):Sr :=
 (aC (.nm 1) (rX 7 LZ [] 1 (ac (GE Lp [] 1 (ac (aa 0) ae)) ae)))
def AI(cl:List Nat)(LZ Lp LP LL s4:Sf):Sr :=
 (GT (dF (am (F3 neT (cr 7 LL 1 (aa 1) ae) (dC (.str "")))) (cH (bp (GE s4 [] 1 (ac (aa 2) ae))))) (fQ 9 (ac (dC (.int 0)) ae)) aL)
def pF(cl:List Nat)(LZ Lp LP LL s4:Sf):Sr :=
 (aj (AG cl LZ Lp LP LL s4) (aj (AH cl LZ Lp LP LL s4) (aj (aC (.nm 2) (cr 7 LP 1 (aa 1) ae)) (aj (AI cl LZ Lp LP LL s4) (ao (aa 2))))))
abbrev qQ:List Str:=["_law_script","_law_cells","_law_cell"]
def zT:Sr :=
 (aC (.nm 1) (bv false [2] (c7 (aa 0)) (.nm 2) cL (aB jR (ac (aa 2) ae))))
def uc:Sr :=
 (ao (rS [((dC (.str "great")),(bv true [2] (c7 (aa 1)) (.nm 2) (am (F3 geT (aa 2) (F3 fv (dC (.int 10)) (dC (.int 18))))) (F3 dN (aa 2) (F3 fv (dC (.int 10)) (dC (.int 18)))))),((dC (.str "cells")),(aa 1)),((dC (.str "rest")),(dC (.int 0))),((dC (.str "turn")),(dC (.int 0)))]))
def oY:Sr :=
 (aj (zT) (uc))
abbrev qY:List Str:=["_law_draw","_law_many","_law_found","_law_mixed","_law_cell","_law_turn"]
def pA:Sr :=
 (GT (dQ (am (F3 eqT (F3 dj (aa 0) (dC (.str "rest"))) (dC (.int 0)))) (am (F3 neT (F3 dj (aa 0) (dC (.str "great"))) (aI ae)))) (iH (aa 0) (dC (.str "rest")) (gl lA (F3 dj (aa 0) (dC (.str "great"))) (ac (dC (.int 0)) ae))) aL)
def Aw:Sr :=
 (iH (aa 0) (dC (.str "turn")) (F3 aq (F3 dj (aa 0) (dC (.str "turn"))) (dC (.int 1))))
def Ax:Sr :=
 (aC (.nm 3) (F3 aq (F3 bT (dC (.int 7919)) (F3 dj (aa 0) (dC (.str "turn")))) (aB bx (ac (F3 dj (aa 0) (dC (.str "cells"))) ae))))
def Ay:Sr :=
 (ez (c7 (F3 dj (aa 0) (dC (.str "cells")))) (.nm 4) (aC (.nm 3) (F3 jv (aB dk (ac (F3 aq (F3 aq (F3 bT (aa 3) (dC (.int 48271))) (aa 4)) (dC (.int 11))) ae)) (dC (.int 2147483647)))))
def Az:Sr :=
 (ez (gQ (ac (dC (.int 3)) ae)) (.nm 5) (aC (.nm 3) (F3 jv (aB dk (ac (F3 aq (F3 aq (F3 bT (aa 3) (aa 3)) (F3 bT (dC (.int 16807)) (aa 3))) (dC (.int 13))) ae)) (dC (.int 2305843009213693951)))))
def Av:Sr :=
 (aj (Aw) (aj (Ax) (aj (Ay) (aj (Az) (iH (aa 0) (dC (.str "rest")) (aa 3))))))
def lG:Sr :=
 (GT (am (F3 eqT (F3 dj (aa 0) (dC (.str "rest"))) (dC (.int 0)))) (Av) aL)
def kE:Sr :=
 (aC (.nm 2) (F3 jv (aB dk (ac (F3 dj (aa 0) (dC (.str "rest"))) ae)) (aa 1)))
def kF:Sr :=
 (iH (aa 0) (dC (.str "rest")) (F3 nr (F3 dj (aa 0) (dC (.str "rest"))) (aa 1)))
def Au:Sr :=
 (aj (pA) (aj (lG) (aj (kE) (aj (kF) (ao (aa 2))))))
abbrev qT:List Str:=["_law_draw","_law_some"]
def o9(L6:Sf):Sr :=
 (ao (F3 L4 (aa 1) (GE L6 [] 2 (ac (aa 0) (ac (aB bx (ac (aa 1) ae)) ae)))))
abbrev q7:List Str:=["_law_draw","_law_most","_law_letters","_law_long","_law_k"]
def AE(L6 L7:Sf):Sr :=
 (aC (.nm 3) (F3 aq (dC (.int 1)) (GE L6 [] 2 (ac (aa 0) (ac (GE L7 [] 2 (ac (aa 0) (ac (aI (ac (dC (.int 1)) (ac (dC (.int 2)) (ac (aa 1) ae)))) ae))) ae)))))
def AF(L6 L7:Sf):Sr :=
 (ao (jc (dC (.str "")) (bv false [4] (gQ (ac (aa 3) ae)) (.nm 4) cL (GE L7 [] 2 (ac (aa 0) (ac (aa 2) ae))))))
def pD(L6 L7:Sf):Sr :=
 (aj (aC (.nm 2) (dC (.str "abcdefghijklmnopqrstuvwxyz"))) (aj (AE L6 L7) (AF L6 L7)))
abbrev qO:List Str:=["_law_draw","_law_way"]
def zF(L6 LU:Sf):Sr :=
 (aC (.nm 1) (GE L6 [] 2 (ac (aa 0) (ac (dC (.int 12)) ae))))
def zG(L6 LU:Sf):Sr :=
 (GT (am (F3 ltT (aa 1) (dC (.int 10)))) (ao (F3 L4 (aI (ac (dC .non) (ac (dC (.int 0)) (ac (dC (.int 1)) (ac (dC (.str "a")) (ac (dC (.str "b")) (ac (dC (.int 0)) (ac (dC (.int 1)) (ac (dC (.str "a")) (ac (eV (dC (.int 1))) (ac (dC (.int 2)) ae))))))))))) (aa 1))) aL)
def zH(L6 LU:Sf):Sr :=
 (GT (am (F3 eqT (aa 1) (dC (.int 10)))) (ao (GE LU [] 2 (ac (aa 0) (ac (dC (.int 8)) ae)))) aL)
def zI(L6 LU:Sf):Sr :=
 (ao (F3 bT (F3 dN (dC (.int 1)) (F3 bT (dC (.int 2)) (GE L6 [] 2 (ac (aa 0) (ac (dC (.int 2)) ae))))) (F3 dN (F3 dN (F3 fv (dC (.int 10)) (dC (.int 40))) (dC (.int 1))) (GE L6 [] 2 (ac (aa 0) (ac (dC (.int 3)) ae))))))
def oW(L6 LU:Sf):Sr :=
 (aj (zF L6 LU) (aj (zG L6 LU) (aj (zH L6 LU) (zI L6 LU))))
abbrev q0:List Str:=["_law_draw","_law_deep","_law_k"]
def AC(L6 LC LA:Sf):Sr :=
 (GT (dF (am (F3 eqT (aa 1) (dC (.int 0)))) (am (F3 eqT (GE L6 [] 2 (ac (aa 0) (ac (dC (.int 3)) ae))) (dC (.int 0))))) (ao (GE LC [] 1 (ac (aa 0) ae))) aL)
def AD(L6 LC LA:Sf):Sr :=
 (ao (bv false [2] (gQ (ac (GE L6 [] 2 (ac (aa 0) (ac (dC (.int 5)) ae))) ae)) (.nm 2) cL (GE LA [] 2 (ac (aa 0) (ac (F3 dN (aa 1) (dC (.int 1))) ae)))))
def pC(L6 LC LA:Sf):Sr :=
 (aj (AC L6 LC LA) (AD L6 LC LA))
abbrev qZ:List Str:=["_law_value_here","_law_one"]
def AA(cl:List Nat)(L9:Sf):Sr :=
 (GT (bp (bY cl [(.b "list")] (aa 0))) (ao (F3 aq (F3 aq (dC (.str "[")) (jc (dC (.str ", ")) (bv false [1] (c7 (aa 0)) (.nm 1) cL (GE L9 [] 1 (ac (aa 1) ae))))) (dC (.str "]")))) aL)
def AB(cl:List Nat)(L9:Sf):Sr :=
 (ao (dIf (bp (bY cl [(.b "str")] (aa 0))) (F3 aq (F3 aq (dC (.str "'")) (aa 0)) (dC (.str "'"))) (aB iT (ac (aa 0) ae))))
def pB(cl:List Nat)(L9:Sf):Sr :=
 (aj (AA cl L9) (AB cl L9))
abbrev qW:List Str:=["_law_text_here","_law_sign","_law_found","_law_now"]
def Ao:Sr :=
 (eN [2,3] (ac (aI ae) (ac (dC (.str "")) ae)))
def Aq:Sr :=
 (aC (.nm 2) (F3 aq (F3 aq (aa 2) (F3 bT (aI (ac (aa 3) ae)) (aB dk (ac (F3 neT (aa 3) (dC (.str ""))) ae)))) (F3 bT (aI (ac (aa 1) ae)) (aB dk (ac (F3 neT (aa 1) (dC (.str " "))) ae)))))
def pq:Sr :=
 (aj (Aq) (aC (.nm 3) (dC (.str ""))))
def Ap:Sr :=
 (ez (dG (F3 aq (aa 0) (dC (.str " ")))) (.nm 1) (GT (am (F3 inT (aa 1) (dC (.str " [],")))) (pq) (aC (.nm 3) (F3 aq (aa 3) (aa 1)))))
def pp:Sr :=
 (aj (Ao) (aj (Ap) (ao (aa 2))))
abbrev qP:List Str:=["_law_sign","_law_rest","_law_letters","_law_figures","_law_inner","_law_good","_law_one"]
def ub:Sr :=
 (aC (.tp [(.nm 2),(.nm 3)]) (fH (ac (dC (.str "abcdefghijklmnopqrstuvwxyz")) (ac (dC (.str "0123456789")) ae))))
def zJ:Sr :=
 (GT (am (F3 eqT (aa 0) (dC (.str "None")))) (ao (aI (ac (dC .non) ae))) aL)
def zM:Sr :=
 (aC (.nm 4) (dSl (aa 0) (ay (some (dC (.int 1)))) (ay (some (eV (dC (.int 1)))))))
def zN:Sr :=
 (aC (.nm 5) (c6 (F3 gtT (aB bx (ac (aa 0) ae)) (dC (.int 2))) (c6 (F3 eqT (F3 L4 (aa 0) (eV (dC (.int 1)))) (dC (.str "'"))) (F3 ltT (aB bx (ac (aa 4) ae)) (dC (.int 9))))))
def zO:Sr :=
 (ao (dIf (dQ (bp (aa 5)) (am (F3 eqT (bv false [6] (dG (aa 4)) (.nm 6) (am (F3 gU (aa 6) (aa 2))) (aa 6)) (aI ae)))) (aI (ac (aa 4) ae)) (aI ae)))
def zL:Sr :=
 (aj (zM) (aj (zN) (zO)))
def zK:Sr :=
 (GT (am (F3 eqT (dSl (aa 0) (ay none) (ay (some (dC (.int 1))))) (dC (.str "'")))) (zL) aL)
def zP:Sr :=
 (aC (.nm 1) (dIf (am (F3 eqT (dSl (aa 0) (ay none) (ay (some (dC (.int 1))))) (dC (.str "-")))) (dSl (aa 0) (ay (some (dC (.int 1)))) (ay none)) (aa 0)))
def zQ:Sr :=
 (GT (dF (am (F3 eqT (aa 1) (dC (.str "")))) (dF (am (F3 gtT (aB bx (ac (aa 1) ae)) (dC (.int 40)))) (am (F3 neT (bv false [6] (dG (aa 1)) (.nm 6) (am (F3 gU (aa 6) (aa 3))) (aa 6)) (aI ae))))) (ao (aI ae)) aL)
def zS:Sr :=
 (ao (dIf (dF (am (F3 eqT (aa 0) (dC (.str "0")))) (am (F3 neT (F3 L4 (aa 1) (dC (.int 0))) (dC (.str "0"))))) (aI (ac (aB dk (ac (aa 0) ae)) ae)) (aI ae)))
def oX:Sr :=
 (aj (ub) (aj (zJ) (aj (zK) (aj (zP) (aj (zQ) (zS))))))
abbrev qS:List Str:=["_law_signs_here","_law_at","_law_room","_law_sign","_law_found","_law_inner"]
def z7(LO LB:Sf):Sr :=
 (aC (.nm 3) (F3 L4 (F3 aq (aa 0) (F3 bT (aI (ac (dC (.str "")) ae)) (F3 aq (aa 1) (dC (.int 1))))) (aa 1)))
def Aa(LO LB:Sf):Sr :=
 (aC (.nm 4) (GE LO [] 1 (ac (aa 3) ae)))
def Ab(LO LB:Sf):Sr :=
 (ao (dIf (am (F3 fN (aa 4) (aI ae))) (fH (ac (F3 L4 (aa 4) (dC (.int 0))) (ac (F3 aq (aa 1) (dC (.int 1))) ae))) (dC .non)))
def z9(LO LB:Sf):Sr :=
 (aj (Aa LO LB) (Ab LO LB))
def z8(LO LB:Sf):Sr :=
 (GT (am (F3 neT (aa 3) (dC (.str "[")))) (z9 LO LB) aL)
def Ac(LO LB:Sf):Sr :=
 (eN [4,1] (ac (aI ae) (ac (F3 aq (aa 1) (dC (.int 1))) ae)))
def Ag(LO LB:Sf):Sr :=
 (GT (am (F3 neT (F3 L4 (F3 aq (aa 0) (F3 bT (aI (ac (dC (.str "")) ae)) (F3 aq (aa 1) (dC (.int 1))))) (aa 1)) (dC (.str ",")))) (ao (dC .non)) aL)
def Af(LO LB:Sf):Sr :=
 (aj (Ag LO LB) (aC (.nm 1) (F3 aq (aa 1) (dC (.int 1)))))
def Ae(LO LB:Sf):Sr :=
 (GT (am (F3 fN (aa 4) (aI ae))) (Af LO LB) aL)
def o8(LO LB:Sf):Sr :=
 (aC (.nm 5) (dIf (am (F3 gtT (aa 2) (dC (.int 1)))) (GE LB [] 3 (ac (aa 0) (ac (aa 1) (ac (F3 dN (aa 2) (dC (.int 1))) ae)))) (dC .non)))
def lE(LO LB:Sf):Sr :=
 (GT (dQ (am (F3 fk (aa 5) (dC .non))) (am (F3 eqT (aa 2) (dC (.int 1))))) (aC (.nm 5) (dIf (am (F3 neT (F3 L4 (F3 aq (aa 0) (F3 bT (aI (ac (dC (.str "")) ae)) (F3 aq (aa 1) (dC (.int 1))))) (aa 1)) (dC (.str "[")))) (GE LB [] 3 (ac (aa 0) (ac (aa 1) (ac (dC (.int 0)) ae)))) (dC .non))) aL)
def ud(LO LB:Sf):Sr :=
 (GT (am (F3 fk (aa 5) (dC .non))) (ao (dC .non)) aL)
def ue(LO LB:Sf):Sr :=
 (eN [4,1] (ac (F3 aq (aa 4) (aI (ac (F3 L4 (aa 5) (dC (.int 0))) ae))) (ac (F3 L4 (aa 5) (dC (.int 1))) ae)))
def kD(LO LB:Sf):Sr :=
 (aj (Ae LO LB) (aj (o8 LO LB) (aj (lE LO LB) (aj (ud LO LB) (ue LO LB)))))
def Ad(LO LB:Sf):Sr :=
 (lM (am (F3 neT (F3 L4 (F3 aq (aa 0) (F3 bT (aI (ac (dC (.str "")) ae)) (F3 aq (aa 1) (dC (.int 1))))) (aa 1)) (dC (.str "]")))) (kD LO LB))
def Ah(LO LB:Sf):Sr :=
 (ao (fH (ac (aa 4) (ac (F3 aq (aa 1) (dC (.int 1))) ae))))
def o7(LO LB:Sf):Sr :=
 (aj (z7 LO LB) (aj (z8 LO LB) (aj (Ac LO LB) (aj (Ad LO LB) (Ah LO LB)))))
abbrev qU:List Str:=["_law_text_here","_law_signs_here","_law_found"]
def Ai(cl:List Nat)(LY LB:Sf):Sr :=
 (GT (cH (bp (bY cl [(.b "str")] (aa 0)))) (ao (aI ae)) aL)
def Aj(cl:List Nat)(LY LB:Sf):Sr :=
 (aC (.nm 2) (GE LB [] 3 (ac (aa 1) (ac (dC (.int 0)) (ac (dC (.int 60)) ae)))))
def Ak(cl:List Nat)(LY LB:Sf):Sr :=
 (ao (dIf (dQ (am (F3 kn (aa 2) (dC .non))) (am (F3 eqT (F3 L4 (aa 2) (dC (.int 1))) (aB bx (ac (aa 1) ae))))) (aI (ac (F3 L4 (aa 2) (dC (.int 0))) ae)) (aI ae)))
def pd(cl:List Nat)(LY LB:Sf):Sr :=
 (aj (Ai cl LY LB) (aj (aC (.nm 1) (GE LY [] 1 (ac (aa 0) ae))) (aj (Aj cl LY LB) (Ak cl LY LB))))
abbrev qX:List Str:=["_law_draw","_law_text_here","_law_found","_law_sign"]
def Ar(L6:Sf):Sr :=
 (aC (.nm 2) (F3 dR (dC (.str " ")) (GE L6 [] 2 (ac (aa 0) (ac (dC (.int 2)) ae)))))
def As(L6:Sf):Sr :=
 (ez (dG (aa 1)) (.nm 3) (GT (am (F3 inT (aa 3) (dC (.str "[],")))) (aC (.nm 2) (F3 aq (F3 aq (F3 aq (aa 2) (F3 dR (dC (.str " ")) (GE L6 [] 2 (ac (aa 0) (ac (dC (.int 2)) ae))))) (aa 3)) (F3 dR (dC (.str " ")) (GE L6 [] 2 (ac (aa 0) (ac (dC (.int 3)) ae)))))) (aC (.nm 2) (F3 aq (aa 2) (aa 3)))))
def pw(L6:Sf):Sr :=
 (aj (Ar L6) (aj (As L6) (ao (aa 2))))
abbrev qR:List Str:=["_law_draw","_law_text_here","_law_sign","_law_other","_law_at","_law_way","_law_low","_law_high"]
def zU(L6 L7:Sf):Sr :=
 (eN [4,5] (ac (GE L6 [] 2 (ac (aa 0) (ac (F3 aq (aB bx (ac (aa 1) ae)) (dC (.int 1))) ae))) (ac (GE L6 [] 2 (ac (aa 0) (ac (dC (.int 6)) ae))) ae)))
def zV(L6 L7:Sf):Sr :=
 (aC (.nm 2) (GE L7 [] 2 (ac (aa 0) (ac (aI (ac (dC (.str "[")) (ac (dC (.str "]")) (ac (dC (.str ",")) (ac (dC (.str " ")) (ac (dC (.str "'")) (ac (dC (.str "-")) (ac (dC (.str "0")) (ac (dC (.str "1")) (ac (dC (.str "a")) (ac (dC (.str "A")) (ac (dC (.str "None")) (ac (dC (.str "+")) (ac (dC (.str "_")) (ac (dC (.str "\n")) (ac (F3 dR (dC (.str "9")) (dC (.int 39))) ae)))))))))))))))) ae))))
def zW(L6 L7:Sf):Sr :=
 (GT (am (F3 ltT (aa 5) (dC (.int 2)))) (ao (F3 aq (F3 aq (dSl (aa 1) (ay none) (ay (some (aa 4)))) (aa 2)) (dSl (aa 1) (ay (some (aa 4))) (ay none)))) aL)
def zX(L6 L7:Sf):Sr :=
 (GT (am (F3 eqT (aa 5) (dC (.int 2)))) (ao (F3 aq (dSl (aa 1) (ay none) (ay (some (aa 4)))) (dSl (aa 1) (ay (some (F3 aq (aa 4) (dC (.int 1))))) (ay none)))) aL)
def zY(L6 L7:Sf):Sr :=
 (GT (am (F3 eqT (aa 5) (dC (.int 3)))) (ao (F3 aq (F3 aq (dSl (aa 1) (ay none) (ay (some (aa 4)))) (aa 2)) (dSl (aa 1) (ay (some (F3 aq (aa 4) (dC (.int 1))))) (ay none)))) aL)
def zZ(L6 L7:Sf):Sr :=
 (aC (.nm 3) (GE L6 [] 2 (ac (aa 0) (ac (F3 aq (aB bx (ac (aa 1) ae)) (dC (.int 1))) ae))))
def z0(L6 L7:Sf):Sr :=
 (aC (.tp [(.nm 6),(.nm 7)]) (dIf (am (F3 ltT (aa 4) (aa 3))) (fH (ac (aa 4) (ac (aa 3) ae))) (fH (ac (aa 3) (ac (aa 4) ae)))))
def z6(L6 L7:Sf):Sr :=
 (ao (dIf (am (F3 eqT (aa 5) (dC (.int 4)))) (F3 aq (F3 aq (dSl (aa 1) (ay none) (ay (some (aa 7)))) (dSl (aa 1) (ay (some (aa 6))) (ay (some (aa 7))))) (dSl (aa 1) (ay (some (aa 7))) (ay none))) (F3 aq (dSl (aa 1) (ay none) (ay (some (aa 6)))) (dSl (aa 1) (ay (some (aa 7))) (ay none)))))
def oZ(L6 L7:Sf):Sr :=
 (aj (zU L6 L7) (aj (zV L6 L7) (aj (zW L6 L7) (aj (zX L6 L7) (aj (zY L6 L7) (aj (zZ L6 L7) (aj (z0 L6 L7) (z6 L6 L7))))))))
abbrev qV:List Str:=["_law_text_here","e","_law_due","_law_found","_law_error"]
def Am(LS L8:Sf):Sr :=
 (eN [2,3,4] (ac (GE LS [] 1 (ac (aa 0) ae)) (ac (lc ae) (ac (dC .non) ae))))
def An(LS L8:Sf):Sr :=
 (uq ec 11 1 4 (cX (gl ij (aa 3) (ac (GE L8 [] 1 (ac (aa 0) ae)) ae))))
def lF(LS L8:Sf):Sr :=
 (GT (am (F3 eqT (aa 2) (aI ae))) (ao (c6 (jb ec 9 (aa 4)) (c6 (jZ (jb ec 0 (aa 4))) (F3 eqT (ni mI (aa 4)) (dC (.int 0)))))) aL)
def po(LS L8:Sf):Sr :=
 (ao (c6 (F3 fk (aa 4) (dC .non)) (F3 eqT (aB ca (ac (aa 3) ae)) (aB ca (ac (aa 2) ae)))))
def ph(LS L8:Sf):Sr :=
 (aj (Am LS L8) (aj (An LS L8) (aj (lF LS L8) (po LS L8))))
abbrev qN:List Str:=["_law_script","_law_draw","_law_turn","_law_long","_law_many","_law_text_here","_law_spaced_here","_law_found","_law_bent_here","_law_some","_law_odd","_law_value_here","_law_other"]
def tP(cl:List Nat)(LK LA LD L9 LH LJ L8 LG LF L7 LC L6:Sf):Sr :=
 (eN [11,12] (ac (GE LA [] 2 (ac (aa 1) (ac (dC (.int 3)) ae))) (ac (GE LA [] 2 (ac (aa 1) (ac (dC (.int 1)) ae))) ae)))
def tT(cl:List Nat)(LK LA LD L9 LH LJ L8 LG LF L7 LC L6:Sf):Sr :=
 (aC (.nm 5) (GE LD [] 1 (ac (aa 11) ae)))
def tU(cl:List Nat)(LK LA LD L9 LH LJ L8 LG LF L7 LC L6:Sf):Sr :=
 (GT (dF (am (F3 neT (aa 5) (GE L9 [] 1 (ac (aa 11) ae)))) (am (F3 neT (GE LD [] 1 (ac (aa 12) ae)) (GE L9 [] 1 (ac (aa 12) ae))))) (ao (dC (.bl false))) aL)
def tV(cl:List Nat)(LK LA LD L9 LH LJ L8 LG LF L7 LC L6:Sf):Sr :=
 (GT (am (F3 neT (F3 eqT (aa 5) (GE LD [] 1 (ac (aa 12) ae))) (GE LH [] 2 (ac (aa 11) (ac (aa 12) ae))))) (ao (dC (.bl false))) aL)
def tW(cl:List Nat)(LK LA LD L9 LH LJ L8 LG LF L7 LC L6:Sf):Sr :=
 (aC (.nm 6) (GE LJ [] 2 (ac (aa 1) (ac (aa 5) ae))))
def tX(cl:List Nat)(LK LA LD L9 LH LJ L8 LG LF L7 LC L6:Sf):Sr :=
 (aC (.nm 7) (nh L8 [] 1 (ac (aa 6) ae)))
def tY(cl:List Nat)(LK LA LD L9 LH LJ L8 LG LF L7 LC L6:Sf):Sr :=
 (GT (dF (am (F3 neT (k9 ca (ac (aa 7) ae)) (aB ca (ac (aa 11) ae)))) (am (F3 neT (aB ca (ac (GE L8 [] 1 (ac (aa 5) ae)) ae)) (aB ca (ac (aa 11) ae))))) (ao (dC (.bl false))) aL)
def tZ(cl:List Nat)(LK LA LD L9 LH LJ L8 LG LF L7 LC L6:Sf):Sr :=
 (GT (bp (bY cl [(.b "list")] (aa 7))) (cX (gl ij (aa 7) (ac (dC (.str "spoilt")) ae))) aL)
def t4(cl:List Nat)(LK LA LD L9 LH LJ L8 LG LF L7 LC L6:Sf):Sr :=
 (aC (.nm 8) (GE LG [] 2 (ac (aa 1) (ac (aa 6) ae))))
def tQ(cl:List Nat)(LK LA LD L9 LH LJ L8 LG LF L7 LC L6:Sf):Sr :=
 (ez (c7 (aI (ac (aa 5) (ac (aa 6) (ac (aa 8) (ac (GE LG [] 2 (ac (aa 1) (ac (aa 8) ae))) (ac (GE LG [] 2 (ac (aa 1) (ac (aa 5) ae))) ae))))))) (.nm 9) (GT (cH (bp (GE LF [] 1 (ac (aa 9) ae)))) (ao (dC (.bl false))) aL))
def tR(cl:List Nat)(LK LA LD L9 LH LJ L8 LG LF L7 LC L6:Sf):Sr :=
 (aC (.nm 10) (aI (ac (dC .non) (ac (dC (.int 5)) (ac (dC (.str "")) (ac (dC (.str " ")) (ac (aI ae) (ac (fH (ac (dC (.str "0")) ae)) (ac (dC (.bl true)) (ac (dC (.str "-0")) (ac (dC (.str "00")) (ac (dC (.str "1 2")) (ac (dC (.str "[1 2]")) (ac (dC (.str "[,]")) (ac (dC (.str "[1,]")) (ac (dC (.str "'a'b")) (ac (dC (.str "1->")) (ac (dC (.str "->")) ae))))))))))))))))))
def tS(cl:List Nat)(LK LA LD L9 LH LJ L8 LG LF L7 LC L6:Sf):Sr :=
 (GT (cH (bp (GE LF [] 1 (ac (GE L7 [] 2 (ac (aa 1) (ac (aa 10) ae))) ae)))) (ao (dC (.bl false))) aL)
def tO(cl:List Nat)(LK LA LD L9 LH LJ L8 LG LF L7 LC L6:Sf):Sr :=
 (aj (tP cl LK LA LD L9 LH LJ L8 LG LF L7 LC L6) (aj (tT cl LK LA LD L9 LH LJ L8 LG LF L7 LC L6) (aj (tU cl LK LA LD L9 LH LJ L8 LG LF L7 LC L6) (aj (tV cl LK LA LD L9 LH LJ L8 LG LF L7 LC L6) (aj (tW cl LK LA LD L9 LH LJ L8 LG LF L7 LC L6) (aj (tX cl LK LA LD L9 LH LJ L8 LG LF L7 LC L6) (aj (tY cl LK LA LD L9 LH LJ L8 LG LF L7 LC L6) (aj (tZ cl LK LA LD L9 LH LJ L8 LG LF L7 LC L6) (aj (t4 cl LK LA LD L9 LH LJ L8 LG LF L7 LC L6) (aj (tQ cl LK LA LD L9 LH LJ L8 LG LF L7 LC L6) (aj (tR cl LK LA LD L9 LH LJ L8 LG LF L7 LC L6) (tS cl LK LA LD L9 LH LJ L8 LG LF L7 LC L6))))))))))))
def zE(cl:List Nat)(LK LA LD L9 LH LJ L8 LG LF L7 LC L6:Sf):Sr :=
 (ez (gQ (ac (aB nX (ac (dC (.int 3)) (ac (aB nY (ac (dC (.int 10)) (ac (aB bx (ac (aa 0) ae)) ae))) ae))) ae)) (.nm 2) (tO cl LK LA LD L9 LH LJ L8 LG LF L7 LC L6))
def t5(cl:List Nat)(LK LA LD L9 LH LJ L8 LG LF L7 LC L6:Sf):Sr :=
 (aC (.nm 3) (F3 bT (aI (ac (GE LC [] 1 (ac (aa 1) ae)) (ac (dC (.str "a")) (ac (aI (ac (dC .non) ae)) ae)))) (F3 aq (dC (.int 300)) (GE L6 [] 2 (ac (aa 1) (ac (dC (.int 400)) ae))))))
def t9(cl:List Nat)(LK LA LD L9 LH LJ L8 LG LF L7 LC L6:Sf):Sr :=
 (GT (dF (am (F3 neT (GE LD [] 1 (ac (aa 3) ae)) (GE L9 [] 1 (ac (aa 3) ae)))) (am (F3 neT (aB ca (ac (GE L8 [] 1 (ac (GE L9 [] 1 (ac (aa 3) ae)) ae)) ae)) (aB ca (ac (aa 3) ae))))) (ao (dC (.bl false))) aL)
def ua(cl:List Nat)(LK LA LD L9 LH LJ L8 LG LF L7 LC L6:Sf):Sr :=
 (ez (rY (ac (dC (.int 58)) (ac (dC (.int 63)) ae))) (.nm 4) (GT (dF (cH (bp (GE LF [] 1 (ac (F3 aq (F3 dR (dC (.str "[")) (aa 4)) (F3 dR (dC (.str "]")) (aa 4))) ae)))) (cH (bp (GE LF [] 1 (ac (F3 aq (F3 aq (F3 dR (dC (.str "[")) (aa 4)) (dC (.str "0"))) (F3 dR (dC (.str "]")) (aa 4))) ae))))) (ao (dC (.bl false))) aL))
def oV(cl:List Nat)(LK LA LD L9 LH LJ L8 LG LF L7 LC L6:Sf):Sr :=
 (aj (aC (.nm 1) (GE LK [] 1 (ac (aa 0) ae))) (aj (zE cl LK LA LD L9 LH LJ L8 LG LF L7 LC L6) (aj (t5 cl LK LA LD L9 LH LJ L8 LG LF L7 LC L6) (aj (t9 cl LK LA LD L9 LH LJ L8 LG LF L7 LC L6) (aj (ua cl LK LA LD L9 LH LJ L8 LG LF L7 LC L6) (ao (dC (.bl true))))))))
section
variable {X:Cx}{W:WX}{pos p:Pos}{a b c e:Expr}{es:List Expr}{t ta tb:Rd Tr}{u:Rd (List Tr)}{x:Str}
theorem vv (i:Nat) (hN:X.N[i]?=some x:=by rfl) (hv:Vis X.env.scope x:=by first|exact Or.inl rfl|exact Or.inr (Or.inl rfl)|exact Or.inr (Or.inr rfl)) (hd:(x == ("__debug__":Str))=false:=by decide)
  (hcd:(x == ("__classdict__":Str))=false:=by decide):PD X W (.Name x pos) (aa i):=IU (pv i hN hv hd hcd)
theorem pgn{i:Nat}(hN:X.N.Nodup)(hi:X.N[i]?=some x:=by rfl)(hx:Loc X.env.scope x:=by first|exact .inl rfl|exact .inr rfl)(hf:X.fn x=true∨X.env.scope.names.lookup x=some .local:=by first|exact .inl rfl|exact .inr rfl|assumption):PDG X (.Name x pos) (.nm i):=IW hN hi hx hf
theorem pst{i:Nat}{pos':Pos}(hN:X.N.Nodup)(he:PD X W e t)(hi:X.N[i]?=some x:=by rfl)(hx:Loc X.env.scope x:=by first|exact .inl rfl|exact .inr rfl)(hs:swapsWith e (some (.Name x pos')) pos.line X.env=pure false:=by rfl)(hf:X.fn x=true∨X.env.scope.names.lookup x=some .local:=by first|exact .inl rfl|exact .inr rfl|assumption) :
  PDS X W (.Assign [.Name x pos'] e pos) (aC (.nm i) t):=I3 hN hi hx he hs hf
theorem pcl {k n:Nat} {dds:List Tr} {sp:Sf} {g:Bool} (F:Fn g X.prog X.w X.K X.mg X.base x k n dds sp) (hr:Room k X.A) (ha:PDA X W (e::es) u) (hgd:g=true->Gd X.base X.A:=by nofun) (tk:Takes X W:=by exact cg) (hg:Gl X x:=by rfl) (hdb:(x == ("__debug__":Str))=false:=by decide)
  (he:starEach (e::es) X.env=(false,eval e X.env)::starEach es X.env:=by rfl) (hpl:(backTo pos (starEach es X.env)).any (·.1)=false:=by rfl):PD X W (.Call (.Name x p) (e::es) [] pos) (GE sp dds n u):=fO tk F hr hgd hg ha hdb he hpl
theorem pfl{alts:List (Nat × Nat)}{f:Str}(hf:∀ c i,(c,i)∈alts->dB X.K f c i)(he:PD X W e t)(hb:attributeBase e f X.env (eval e X.env)=eval e X.env:=by rfl):PD X W (.Attribute e f pos) (eI alts t):=IL hf he hb
theorem pcm{f:F2}{op:CmpOp}(ho:OpR X (compareOp op) (rD X.K f))(ha:PD X W a ta)(hb:PD X W b tb)(hm:behindInMarks op b=false:=by rfl):PDT X W (.Compare a [op] [b] pos) (am (F3 f ta tb)):=Jk ho ha hb hm
theorem pcv{f:F2}{op:CmpOp}(ho:OpR X (compareOp op) (rD X.K f))(ha:PD X W a ta)(hb:PD X W b tb)(hm:behindInMarks op b=false:=by rfl):PD X W (.Compare a [op] [b] pos) (F3 f ta tb):=IJ ho ha hb hm
theorem pis {cl:List Nat} {g:TyG} (I:dD X.K cl) (hm:X.mg "isinstance"=none) (he:PD X W e t) (hc:PE X c (tC (g.vv X.K))) (hg:Gl X "isinstance":=by rfl) (hcl:g∈cP cl:=by decide)
  (h1:starEach [e,c] X.env=(false,eval e X.env)::starEach [c] X.env:=by rfl) (h2:starEach [c] X.env=(false,eval c X.env)::starEach [] X.env:=by rfl) (h3:(backTo pos (starEach [c] X.env)).any (·.1)=false:=by rfl) :
  PD X W (.Call (.Name "isinstance" p) [e,c] [] pos) (bY cl [g] t):=IP I hg hm rJ he hc hcl h1 h2 h3
theorem pcn {n:String} (hm:X.mg x=none) (hb:bootBuiltins x=some (.type n)) (hg:Gl X x:=by rfl) (h1:x≠("__name__":Str):=by decide) (h2:(x == ("__debug__":Str))=false:=by decide):PE X (.Name x p) (tC ((TyG.b n).vv X.K)):=IE hg hm hb h1 h2
end
section
variable {P:Program}{w:World}{K:Frg}{mg:Str->Option Value}{base:Heap}{f:Addr}{cdv:Value}{A:Around}{outer:List Env}{s:Shared}{H:Hp}{E:XK}
theorem fsc{N P:List Str}{sc:Scope}(h1:sc.kind=.function:=by rfl)(h2:sc.isCoroutine=false:=by rfl)(h3:sc.isGenerator=false:=by rfl)(h4:N.Nodup:=by decide +kernel)(h5:N.take P.length=P:=by rfl)(h6:∀ x∈P,sc.names.lookup x=some .local ∨ sc.names.lookup x=some .cell:=by decide +kernel)(h7:∀ y∈sc.names,y.2≠.free:=by decide +kernel) :FnScope N P sc:=⟨h1,h2,h3,h4,h5,h6,h7⟩
theorem A6:FnScope vq ["self","line"] (defScope g8):=fsc
theorem FX {P:Program} {w:World} {K:Frg} {mg:Str->Option Value} {base:Heap} {f:Addr} {fd:FuncData} {g:Bool} (D:FunD K "__init__" "BadText.__init__" (defArgs g8) (defBody g8) (defScope g8) [] [] f fd) (XO:XoK K 9) (XI:XiK K) (gCE:mg "CaseError"=some (.ref (He.ga K "CaseError"))) :
  cc g P w K mg base (L2.CX P w) 2 f fd ["self","line"] (spX K 9 (okH g K 9)) :=
 FT (k:=1) (N:=vq) XO rfl rfl rfl (GW rfl) D A6 λcdv A outer s H E hr hgd=>by
  have sc:=A6;exact(pss_cons (ps_expr (I8 XI (by rfl) gCE (pa_cons (pv 0) (pa_cons (HW hr hgd (pv 1) (by decide +kernel)) pa_nil)))) (pss_one (ps_ost (pv 0) (pv 1))))
theorem Bk:FnScope qL ["thing"] (defScope lU):=fsc
abbrev Rq(k:Nat)(A:Around)(x:Str)(t:Stmt)(s:Shared)(f:Addr)(cdv:Value) :Prop:=Room (k+1) (A.deeper (envOfC x (defScope t) s.heap.objs.size f cdv))
abbrev Bq(P:Program)(w:World)(K:PySem.W.Frag)(mg:Str -> Option Value)(base:Heap)(N:List Str)(x:Str)(t:Stmt)(f:Addr)(cdv:Value)(A:Around)(outer:List Env)(s:Shared)(H:Hp)(E:XK)(r:Sr) :Prop:=dE (BX P w K mg base N x (defScope t) f cdv A outer s H E) (WB E) (defBody t) r
abbrev Fq(P:Program)(w:World)(K:PySem.W.Frag)(mg:Str -> Option Value)(base:Heap)(x:Str)(k n:Nat)(sp:Sf) :Prop:=Fn false P w K mg base x (k+1) n [] sp
theorem Dm {k:Nat} (B:Bn mg) (hr:Rq k A "is_word" lU s f cdv) (I:dD K cl) (c_MOST_LETTERS:∃ t,mg "MOST_LETTERS"=some (.int 8 t)) (c_LETTERS:∃ t,mg "LETTERS"=some (.str "abcdefghijklmnopqrstuvwxyz" t)) :
  Bq P w K mg base qL "is_word" lU f cdv A outer s H E (oR cl):=by
 have sc:=Bk;exact(av (aH (ft (pis I B.isinstance (vv 0) (pcn B.str iq)) (ft (II yI yI ak (bQ el (by rfl) B.len eh (af (vv 0) ai)) (ow (by rfl) c_MOST_LETTERS)) (gZ (bQ (mW rfl) (by rfl) B.all mV (af (fu (own:=[("sign",1)]) false rfl sc.nd (kz (vv 0)) (blkOk_by (by rfl)) (by decide) (λ_ _ _ _ _=>pgn sc.nd) (λ_ _ _ _ _=>g6) (λ_ _ _ _ _=>pcv (oh (u65 hr)) (vv 1) (yX (by rfl) c_LETTERS))) ai)))))))
theorem Bh:FnScope qI ["thing"] (defScope lR):=fsc
theorem Dj {k:Nat} (B:Bn mg) (hr:Rq k A "is_integer" lR s f cdv) (I:dD K cl) :
  Bq P w K mg base qI "is_integer" lR f cdv A outer s H E (oO cl):=by
 have sc:=Bh;exact(av (aH (ft (pis I B.isinstance (vv 0) (pcn B.int io)) (ft (y0 (pis I B.isinstance (vv 0) (pcn B.bool DT))) (gZ (pcv ko (bQ vR (by rfl) B.abs vQ (af (vv 0) ai)) (aw oj ak ak)))))))
theorem Bg:FnScope qH ["thing"] (defScope lP):=fsc
theorem Di {k:Nat} (B:Bn mg) (hr:Rq k A "is_atom" lP s f cdv) (CO:Fq P w K mg base "is_integer" k 1 BU) (qo:Fq P w K mg base "is_word" k 1 pS) :
  Bq P w K mg base qH "is_atom" lP f cdv A outer s H E (oN BU pS):=by
 have sc:=Bg;exact(av (aH (y6 (pcv lq (vv 0) dI) (y6 (pcl CO hr (af (vv 0) ai)) (gZ (pcl qo hr (af (vv 0) ai)))))))
theorem BH:FnScope rf ["thing","lists"] (defScope mr):=fsc
theorem DN {k:Nat} (B:Bn mg) (hr:Rq k A "stands" mr s f cdv) (I:dD K cl) (CN:Fq P w K mg base "is_atom" k 1 BS) (qt:Fq P w K mg base "stands" k 2 pY) :
  Bq P w K mg base rf "stands" mr f cdv A outer s H E (pI cl BS pY):=by
 have sc:=BH;exact(ar (a5 (fP (cN (pis I B.isinstance (vv 0) (pcn B.list i7)))) (av (aH (pcl CN hr (af (vv 0) ai)))) bc) (av (aH (ft (pcv jx (vv 1) ak) (gZ (bQ (mW rfl) (by rfl) B.all mV (af (fu (own:=[("inner",2)]) false rfl sc.nd (iG (vv 0)) (blkOk_by (by rfl)) (by decide) (λ_ _ _ _ _=>pgn sc.nd) (λ_ _ _ _ _=>g6) (λ_ _ _ _ _=>fO takes0 qt hr (by nofun) (by rfl) (af (vv 2) (af (aw jy (vv 1) ak) ai)))) ai)))))))
theorem Bj:FnScope qK ["thing"] (defScope lT):=fsc
theorem Dl {k:Nat} (B:Bn mg) (hr:Rq k A "is_value" lT s f cdv) (qt:Fq P w K mg base "stands" k 2 pY) (c_MOST_LISTS:∃ t,mg "MOST_LISTS"=some (.int 60 t)) :
  Bq P w K mg base qK "is_value" lT f cdv A outer s H E (oQ pY):=by
 have sc:=Bj;exact(av (aH (pcl qt hr (af (vv 0) (af (ow (by rfl) c_MOST_LISTS) ai)))))
theorem BD:FnScope q8 ["thing"] (defScope mn):=fsc
theorem DI {k:Nat} (B:Bn mg) (hr:Rq k A "need_value" mn s f cdv) (qm:Fq P w K mg base "is_value" k 1 pR) (X_BadValue:XcK K 0) (g_BadValue:mg "BadValue"=some (.ref (He.ga K "BadValue"))) :
  Bq P w K mg base q8 "need_value" mn f cdv A outer s H E (pE pR):=by
 have sc:=BD;exact(av (a5 (fP (cN (pcl qm hr (af (vv 0) ai)))) (av (I0 rfl cg X_BadValue rfl g_BadValue (by rfl))) bc))
theorem Bl:FnScope qM ["value"] (defScope lV):=fsc
theorem Do {k:Nat} (B:Bn mg) (hr:Rq k A "kind_here" lV s f cdv) (I:dD K cl) :
  Bq P w K mg base qM "kind_here" lV f cdv A outer s H E (oS cl):=by
 have sc:=Bl;exact(ar (a5 (pcm lq (vv 0) dI) (av (aH al)) bc) (ar (a5 (cN (pis I B.isinstance (vv 0) (pcn B.list i7))) (av (aH al)) bc) (av (aH (dT (cN (pis I B.isinstance (vv 0) (pcn B.str iq))) al al)))))
theorem Bi:FnScope qJ ["one","other"] (defScope lS):=fsc
theorem Dk {k:Nat} (B:Bn mg) (hr:Rq k A "is_same" lS s f cdv) (I:dD K cl) (ql:Fq P w K mg base "is_same" k 2 fB) (vo:Fq P w K mg base "kind_here" k 1 jH) :
  Bq P w K mg base qJ "is_same" lS f cdv A outer s H E (oP cl fB jH):=by
 have sc:=Bi;exact(ar (a5 (pw_and' (cN (pis I B.isinstance (vv 0) (pcn B.list i7))) (pw_and1' (cN (pis I B.isinstance (vv 1) (pcn B.list i7))))).pt (av (aH (ft (pcv (bJ (u64 hr)) (bQ el (by rfl) B.len eh (af (vv 0) ai)) (bQ el (by rfl) B.len eh (af (vv 1) ai))) (gZ (bQ (mW rfl) (by rfl) B.all mV (af (fu (own:=[("pair",2)]) false rfl sc.nd (IY (by rfl) B.zip (af (vv 0) (af (vv 1) ai))) (blkOk_by (by rfl)) (by decide) (λ_ _ _ _ _=>pgn sc.nd) (λ_ _ _ _ _=>g6) (λ_ _ _ _ _=>IG takes0 ql hr (by nofun) (by rfl) (vv 2))) ai)))))) bc) (av (aH (ft (pcv (bJ (u64 hr)) (pcl vo hr (af (vv 0) ai)) (pcl vo hr (af (vv 1) ai))) (gZ (pcv (bJ (u64 hr)) (vv 0) (vv 1)))))))
theorem BF:FnScope rb ["one","other"] (defScope mq):=fsc
theorem DK {k:Nat} (B:Bn mg) (hr:Rq k A "same" mq s f cdv) (mM:Fq P w K mg base "need_value" k 1 pV) (ql:Fq P w K mg base "is_same" k 2 fB) :
  Bq P w K mg base rb "same" mq f cdv A outer s H E (pG pV fB):=by
 have sc:=BF;exact(ar (g5 (pcl mM hr (af (vv 0) ai))) (ar (g5 (pcl mM hr (af (vv 1) ai))) (av (aH (pcl ql hr (af (vv 0) (af (vv 1) ai)))))))
theorem Bf:FnScope qG ["atom"] (defScope lO):=fsc
theorem Dh {k:Nat} (B:Bn mg) (hr:Rq k A "atom_text" lO s f cdv) (I:dD K cl) :
  Bq P w K mg base qG "atom_text" lO f cdv A outer s H E (oM cl):=by
 have sc:=Bf;exact(av (aH (dT (cN (pis I B.isinstance (vv 0) (pcn B.str iq))) (IQ (.cons al (.cons (IM (vv 0)) (.cons al .nil)))) (gX vS (by rfl) B.str iq (af (vv 0) ai)))))
theorem BI:FnScope rg ["value"] (defScope mu):=fsc
theorem DO {k:Nat} (B:Bn mg) (hr:Rq k A "text_here" mu s f cdv) (I:dD K cl) (CM:Fq P w K mg base "atom_text" k 1 jE) (qu:Fq P w K mg base "text_here" k 1 fX) :
  Bq P w K mg base rg "text_here" mu f cdv A outer s H E (pJ cl jE fX):=by
 have sc:=BI;exact(ar (a5 (fP (cN (pis I B.isinstance (vv 0) (pcn B.list i7)))) (av (aH (pcl CM hr (af (vv 0) ai)))) bc) (av (aH (aw aR (aw aR al (tz al (fu (own:=[("inner",1)]) false rfl sc.nd (iG (vv 0)) (blkOk_by (by rfl)) (by decide) (λ_ _ _ _ _=>pgn sc.nd) (λ_ _ _ _ _=>g6) (λ_ _ _ _ _=>fO takes0 qu hr (by nofun) (by rfl) (af (vv 1) ai))))) al))))
theorem BJ:FnScope rh ["value"] (defScope mv):=fsc
theorem DP {k:Nat} (B:Bn mg) (hr:Rq k A "value_text" mv s f cdv) (mM:Fq P w K mg base "need_value" k 1 pV) (qu:Fq P w K mg base "text_here" k 1 fX) :
  Bq P w K mg base rh "value_text" mv f cdv A outer s H E (pK pV fX):=by
 have sc:=BJ;exact(ar (g5 (pcl mM hr (af (vv 0) ai))) (av (aH (pcl qu hr (af (vv 0) ai)))))
theorem Be:FnScope qF ["sign"] (defScope lN):=fsc
theorem Dg {k:Nat} (B:Bn mg) (hr:Rq k A "atom_in" lN s f cdv) (qo:Fq P w K mg base "is_word" k 1 pS) (c_MOST_FIGURES:∃ t,mg "MOST_FIGURES"=some (.int 40 t)) (c_FIGURES:∃ t,mg "FIGURES"=some (.str "0123456789" t)) :
  Bq P w K mg base qF "atom_in" lN f cdv A outer s H E (oK pS):=by
 have sc:=Be;exact(ar (a5 (pcm (bJ (u64 hr)) (vv 0) al) (av (aH (bh (af dI ai)))) bc) (ar (a5 (pw_and' (pcm jx (bQ el (by rfl) B.len eh (af (vv 0) ai)) ak) (pw_and' (pcm (bJ (u64 hr)) (dt dm (vv 0) ak (λ_ _=>rfl)) al) (pw_and1' (pcm (bJ (u64 hr)) (dt dm (vv 0) (kr ak) (λ_ _=>rfl)) al)))).pt (av (aH (dT (cN (pcl qo hr (af (de (vv 0) (cx ak) (cx (kr ak))) ai))) (bh (af (de (vv 0) (cx ak) (cx (kr ak))) ai)) (bh ai)))) bc) (ar (pst sc.nd (dT (pcm (bJ (u64 hr)) (de (vv 0) eu (cx ak)) al) (de (vv 0) (cx ak) eu) (vv 0))) (ar (a5 (pw_or' (pcm (bJ (u64 hr)) (vv 1) al) (pw_or' (pcm jx (bQ el (by rfl) B.len eh (af (vv 1) ai)) (ow (by rfl) c_MOST_FIGURES)) (pw_or1' (fP (cN (bQ (mW rfl) (by rfl) B.all mV (af (fu (own:=[("one",2)]) false rfl sc.nd (kz (vv 1)) (blkOk_by (by rfl)) (by decide) (λ_ _ _ _ _=>pgn sc.nd) (λ_ _ _ _ _=>g6) (λ_ _ _ _ _=>pcv (oh (u65 hr)) (vv 2) (yX (by rfl) c_FIGURES))) ai))))))).pt (av (aH (bh ai))) bc) (av (aH (dT (pw_or' (pcm (cM (u64 hr)) (dt dm (vv 1) ak (λ_ _=>rfl)) al) (pw_or1' (pcm (bJ (u64 hr)) (vv 0) al))).pt (bh (af (gX i8 (by rfl) B.int io (af (vv 0) ai)) ai)) (bh ai))))))))
theorem BG:FnScope re ["line"] (defScope kH):=fsc
theorem DM {k:Nat} (B:Bn mg) (hr:Rq k A "signs_in" kH s f cdv)  :
  PSsT (BX P w K mg base re "signs_in" (defScope kH) f cdv A outer s H E) (defBody kH) (fM K (WB E) (pH)):=by
 have sc:=BG;exact(I6 (I7 (il:=0) (ik:=1) (passes_of rfl) rfl sc.nd rfl rfl (by decide) rfl rfl) (PSsT.of (av (aH (fu (own:=[("sign",1)]) false rfl sc.nd (iG (IT (vv 0) al)) (blkOk_by (by rfl)) (by decide) (λ_ _ _ _ _=>pgn sc.nd) (λ_ _ _ _ _=>oC (pcm (cM (u64 hr)) (vv 1) al)) (λ_ _ _ _ _=>vv 1))))))
theorem A7:FnScope qz ["self","signs"] (defScope iJ):=fsc
theorem C9 {k:Nat} (B:Bn mg) (hr:Rq k A "Reader.__init__" iJ s f cdv) (o_signs:∀ c i,(c,i)∈fK->dB K "signs" c i) (o_spot:∀ c i,(c,i)∈eo->dB K "spot" c i) (o_rows:∀ c i,(c,i)∈eX->dB K "rows" c i) :
  Bq P w K mg base qz "Reader.__init__" iJ f cdv A outer s H E (oE):=by
 have sc:=A7;exact(ar (tE o_signs (vv 0) (vv 1)) (ar (tE o_spot (vv 0) ak) (av (tE o_rows (vv 0) ak))))
theorem Bb:FnScope qD ["self"] (defScope iN):=fsc
theorem De {k:Nat} (B:Bn mg) (hr:Rq k A "Reader.peek" iN s f cdv) (o_spot:∀ c i,(c,i)∈eo->dB K "spot" c i) (o_signs:∀ c i,(c,i)∈fK->dB K "signs" c i) :
  Bq P w K mg base qD "Reader.peek" iN f cdv A outer s H E (oI):=by
 have sc:=Bb;exact(av (aH (dT (pcm ko (pfl o_spot (vv 0)) (bQ el (by rfl) B.len eh (af (pfl o_signs (vv 0)) ai))) (dt dm (pfl o_signs (vv 0)) (pfl o_spot (vv 0)) (λ_ _=>rfl)) al)))
theorem Bc:FnScope qE ["self"] (defScope iO):=fsc
theorem Df {k:Nat} (B:Bn mg) (hr:Rq k A "Reader.take" iO s f cdv) (L_Reader_peek:cq P w K mg base 7 "peek" (k+1) 1 jC) (o_spot:∀ c i,(c,i)∈eo->dB K "spot" c i) :
  Bq P w K mg base qE "Reader.take" iO f cdv A outer s H E (oJ jC):=by
 have sc:=Bc;exact(ar (pst sc.nd (gY cg L_Reader_peek hr (vv 0))) (ar (tF (j:=0) o_spot (vv 0) ip_add ak) (av (aH (vv 1)))))
theorem A9:FnScope qB ["self","sign"] (defScope iL):=fsc
theorem Dc {k:Nat} (B:Bn mg) (hr:Rq k A "Reader.need" iL s f cdv) (L_Reader_take:cq P w K mg base 7 "take" (k+1) 1 uB) (x_BadText:Xm false P w K mg base k 9) :
  Bq P w K mg base qB "Reader.need" iL f cdv A outer s H E (oG uB):=by
 have sc:=A9;exact(av (a5 (pcm (cM (u64 hr)) (gY cg L_Reader_take hr (vv 0)) (vv 1)) (av (lw rfl cg x_BadText hr rfl (by rfl) (af ak ai))) bc))
theorem A8:FnScope qA ["self"] (defScope iK):=fsc
theorem Da {k:Nat} (B:Bn mg) (hr:Rq k A "Reader.listed" iK s f cdv) (L_Reader_need:cq P w K mg base 7 "need" (k+1) 2 J9) (x_BadText:Xm false P w K mg base k 9) (L_Reader_peek:cq P w K mg base 7 "peek" (k+1) 1 jC) (L_Reader_part:cq P w K mg base 7 "part" (k+1) 1 uA) (o_rows:∀ c i,(c,i)∈eX->dB K "rows" c i) (c_MOST_OPEN:∃ t,mg "MOST_OPEN"=some (.int 100 t)) :
  Bq P w K mg base qA "Reader.listed" iK f cdv A outer s H E (oF J9 jC uA):=by
 have sc:=A8;exact(ar (g5 (tD cg L_Reader_need hr (vv 0) (af al ai))) (ar (tF (j:=0) o_rows (vv 0) ip_add ak) (ar (a5 (pcm jx (pfl o_rows (vv 0)) (ow (by rfl) c_MOST_OPEN)) (av (lw rfl cg x_BadText hr rfl (by rfl) (af ak ai))) bc) (ar (pst sc.nd (yZ ai)) (ar (za (passes_of rfl) (pcm (cM (u64 hr)) (gY cg L_Reader_peek hr (vv 0)) al) (ar (a5 (pcm (sZ (u64 hr)) (vv 1) (bh ai)) (av (g5 (tD cg L_Reader_need hr (vv 0) (af al ai)))) bc) (av (g5 (oy uw uY sS (vv 1) (af (gY cg L_Reader_part hr (vv 0)) ai)))))) (ar (g5 (tD cg L_Reader_need hr (vv 0) (af al ai))) (ar (tF (j:=0) o_rows (vv 0) ip_sub ak) (av (aH (IN (vv 1)))))))))))
theorem Ba:FnScope qC ["self"] (defScope iM):=fsc
theorem Dd {k:Nat} (B:Bn mg) (hr:Rq k A "Reader.part" iM s f cdv) (L_Reader_peek:cq P w K mg base 7 "peek" (k+1) 1 jC) (L_Reader_listed:cq P w K mg base 7 "listed" (k+1) 1 J5) (CL:Fq P w K mg base "atom_in" k 1 cY) (L_Reader_take:cq P w K mg base 7 "take" (k+1) 1 uB) (x_BadText:Xm false P w K mg base k 9) :
  Bq P w K mg base qC "Reader.part" iM f cdv A outer s H E (oH jC J5 cY uB):=by
 have sc:=Ba;exact(ar (a5 (pcm (bJ (u64 hr)) (gY cg L_Reader_peek hr (vv 0)) al) (av (aH (gY cg L_Reader_listed hr (vv 0)))) bc) (ar (pst sc.nd (pcl CL hr (af (gY cg L_Reader_take hr (vv 0)) ai))) (ar (a5 (pcm (bJ (u64 hr)) (vv 1) (bh ai)) (av (lw rfl cg x_BadText hr rfl (by rfl) (af ak ai))) bc) (av (aH (dt dm (vv 1) ak (λ_ _=>rfl)))))))
theorem BE:FnScope q9 ["text"] (defScope mo):=fsc
theorem DJ {k:Nat} (B:Bn mg) (hr:Rq k A "read_value" mo s f cdv) (I:dD K cl) (x_BadText:Xm false P w K mg base k 9) (m_Reader:Mkr P w K mg base "Reader" 7 k 1 [] J2) (CY:Fq P w K mg base "signs_in" k 1 Kj) (L_Reader_part:cq P w K mg base 7 "part" (k+1) 1 uA) (L_Reader_peek:cq P w K mg base 7 "peek" (k+1) 1 jC) (qm:Fq P w K mg base "is_value" k 1 pR) :
  Bq P w K mg base q9 "read_value" mo f cdv A outer s H E (pF cl J2 Kj uA jC pR):=by
 have sc:=BE;exact(ar (a5 (fP (cN (pis I B.isinstance (vv 0) (pcn B.str iq)))) (av (lw rfl cg x_BadText hr rfl (by rfl) (af ak ai))) bc) (ar (pst sc.nd (IS cg m_Reader hr (by rfl) (af (pcl CY hr (af (vv 0) ai)) ai) (λ_ _ _ _ _ h=>h))) (ar (pst sc.nd (gY cg L_Reader_part hr (vv 1))) (ar (a5 (pw_or' (pcm (cM (u64 hr)) (gY cg L_Reader_peek hr (vv 1)) al) (pw_or1' (fP (cN (pcl qm hr (af (vv 2) ai)))))).pt (av (lw rfl cg x_BadText hr rfl (by rfl) (af ak ai))) bc) (av (aH (vv 2)))))))
theorem Br:FnScope qQ ["_law_script"] (defScope lY):=fsc
theorem Du {k:Nat} (B:Bn mg) (hr:Rq k A "_law_begun" lY s f cdv)  :
  Bq P w K mg base qQ "_law_begun" lY f cdv A outer s H E (oY):=by
 have sc:=Br;exact(ar (I4 (own:=[("_law_cell",2)]) false rfl sc.nd rfl rfl (by rfl) (iG (vv 0)) (blkOk_by (by rfl)) (by decide) (λ_ _ _ _ _=>pgn sc.nd) (λ_ _ _ _ _=>g6) (λ_ _ _ _ _=>bQ vR (by rfl) B.abs vQ (af (vv 2) ai))) (av (aH (IK (ps:=[((dC (.str "great")),(bv true [2] (c7 (aa 1)) (.nm 2) (am (F3 geT (aa 2) (F3 fv (dC (.int 10)) (dC (.int 18))))) (F3 dN (aa 2) (F3 fv (dC (.int 10)) (dC (.int 18)))))),((dC (.str "cells")),(aa 1)),((dC (.str "rest")),(dC (.int 0))),((dC (.str "turn")),(dC (.int 0)))]) (pps_cons al (fu (own:=[("_law_cell",2)]) true rfl sc.nd (iG (vv 1)) (blkOk_by (by rfl)) (by decide) (λ_ _ _ _ _=>pgn sc.nd) (λ_ _ _ _ _=>oC (pcm Ii (vv 2) (aw oj ak ak))) (λ_ _ _ _ _=>aw jy (vv 2) (aw oj ak ak))) (pps_cons al (vv 1) (pps_cons al ak (pps_cons al ak pps_nil)))) (by rfl) (by rfl) (by simp) (by decide)))))
theorem Bz:FnScope qY ["_law_draw","_law_many"] (defScope mi):=fsc
theorem DE {k:Nat} (B:Bn mg) (hr:Rq k A "_law_take" mi s f cdv)  :
  Bq P w K mg base qY "_law_take" mi f cdv A outer s H E (Au):=by
 have sc:=Bz;exact(ar (a5 (pw_and' (pcm (bJ (u64 hr)) (gq (u1 hr) (vv 0) al (λ_ _=>rfl)) ak) (pw_and1' (pcm (cM (u64 hr)) (gq (u1 hr) (vv 0) al (λ_ _=>rfl)) (bh ai)))).pt (av (oB (u1 hr) (vv 0) al (oy JZ KU HP (gq (u1 hr) (vv 0) al (λ_ _=>rfl)) (af ak ai)))) bc) (ar (a5 (pcm (bJ (u64 hr)) (gq (u1 hr) (vv 0) al (λ_ _=>rfl)) ak) (ar (oB (u1 hr) (vv 0) al (aw aR (gq (u1 hr) (vv 0) al (λ_ _=>rfl)) ak)) (ar (pst sc.nd (aw aR (aw e8 ak (gq (u1 hr) (vv 0) al (λ_ _=>rfl))) (bQ el (by rfl) B.len eh (af (gq (u1 hr) (vv 0) al (λ_ _=>rfl)) ai)))) (ar (jz (passes_of rfl) rfl (iG (gq (u1 hr) (vv 0) al (λ_ _=>rfl))) (pgn sc.nd) (av (pst sc.nd (aw sY (gX i8 (by rfl) B.int io (af (aw aR (aw aR (aw e8 (vv 3) ak) (vv 4)) ak) ai)) ak)))) (ar (jz (passes_of rfl) rfl (oA (by rfl) B.range (af ak ai)) (pgn sc.nd) (av (pst sc.nd (aw sY (gX i8 (by rfl) B.int io (af (aw aR (aw aR (aw e8 (vv 3) (vv 3)) (aw e8 ak (vv 3))) ak) ai)) ak)))) (av (oB (u1 hr) (vv 0) al (vv 3))))))) bc) (ar (pst sc.nd (aw sY (gX i8 (by rfl) B.int io (af (gq (u1 hr) (vv 0) al (λ_ _=>rfl)) ai)) (vv 1))) (ar (oB (u1 hr) (vv 0) al (aw Ih (gq (u1 hr) (vv 0) al (λ_ _=>rfl)) (vv 1))) (av (aH (vv 2)))))))
theorem Bu:FnScope qT ["_law_draw","_law_some"] (defScope l8):=fsc
theorem Dz {k:Nat} (B:Bn mg) (hr:Rq k A "_law_pick" l8 s f cdv) (cS:Fq P w K mg base "_law_take" k 2 fe) :
  Bq P w K mg base qT "_law_pick" l8 f cdv A outer s H E (o9 fe):=by
 have sc:=Bu;exact(av (aH (dt dm (vv 1) (pcl cS hr (af (vv 0) (af (bQ el (by rfl) B.len eh (af (vv 1) ai)) ai))) (λ_ _=>rfl))))
theorem BC:FnScope q7 ["_law_draw","_law_most"] (defScope mm):=fsc
theorem DH {k:Nat} (B:Bn mg) (hr:Rq k A "_law_word" mm s f cdv) (cS:Fq P w K mg base "_law_take" k 2 fe) (jM:Fq P w K mg base "_law_pick" k 2 my) :
  Bq P w K mg base q7 "_law_word" mm f cdv A outer s H E (pD fe my):=by
 have sc:=BC;exact(ar (pst sc.nd al) (ar (pst sc.nd (aw aR ak (pcl cS hr (af (vv 0) (af (pcl jM hr (af (vv 0) (af (bh (af ak (af ak (af (vv 1) ai)))) ai))) ai))))) (av (aH (tz al (fu (own:=[("_law_k",4)]) false rfl sc.nd (oA (by rfl) B.range (af (vv 3) ai)) (blkOk_by (by rfl)) (by decide) (λ_ _ _ _ _=>pgn sc.nd) (λ_ _ _ _ _=>g6) (λ_ _ _ _ _=>fO takes0 jM hr (by nofun) (by rfl) (af (vv 0) (af (vv 2) ai)))))))))
theorem Bo:FnScope qO ["_law_draw"] (defScope lW):=fsc
theorem Ds {k:Nat} (B:Bn mg) (hr:Rq k A "_law_atom" lW s f cdv) (cS:Fq P w K mg base "_law_take" k 2 fe) (CV:Fq P w K mg base "_law_word" k 2 Ki) :
  Bq P w K mg base qO "_law_atom" lW f cdv A outer s H E (oW fe Ki):=by
 have sc:=Bo;exact(ar (pst sc.nd (pcl cS hr (af (vv 0) (af ak ai)))) (ar (a5 (pcm ko (vv 1) ak) (av (aH (dt dm (bh (af dI (af ak (af ak (af al (af al (af ak (af ak (af al (af (kr ak) (af ak ai))))))))))) (vv 1) (λ_ _=>rfl)))) bc) (ar (a5 (pcm (bJ (u64 hr)) (vv 1) ak) (av (aH (pcl CV hr (af (vv 0) (af ak ai))))) bc) (av (aH (aw e8 (aw jy ak (aw e8 ak (pcl cS hr (af (vv 0) (af ak ai))))) (aw jy (aw jy (aw oj ak ak) ak) (pcl cS hr (af (vv 0) (af ak ai))))))))))
theorem BB:FnScope q0 ["_law_draw","_law_deep"] (defScope ml):=fsc
theorem DG {k:Nat} (B:Bn mg) (hr:Rq k A "_law_value" ml s f cdv) (cS:Fq P w K mg base "_law_take" k 2 fe) (qp:Fq P w K mg base "_law_atom" k 1 uC) (mL:Fq P w K mg base "_law_value" k 2 uF) :
  Bq P w K mg base q0 "_law_value" ml f cdv A outer s H E (pC fe uC uF):=by
 have sc:=BB;exact(ar (a5 (pw_or' (pcm (bJ (u64 hr)) (vv 1) ak) (pw_or1' (pcm (bJ (u64 hr)) (pcl cS hr (af (vv 0) (af ak ai))) ak))).pt (av (aH (pcl qp hr (af (vv 0) ai)))) bc) (av (aH (fu (own:=[("_law_k",2)]) false rfl sc.nd (oA (by rfl) B.range (af (pcl cS hr (af (vv 0) (af ak ai))) ai)) (blkOk_by (by rfl)) (by decide) (λ_ _ _ _ _=>pgn sc.nd) (λ_ _ _ _ _=>g6) (λ_ _ _ _ _=>fO takes0 mL hr (by nofun) (by rfl) (af (vv 0) (af (aw jy (vv 1) ak) ai)))))))
theorem BA:FnScope qZ ["_law_value_here"] (defScope mj):=fsc
theorem DF {k:Nat} (B:Bn mg) (hr:Rq k A "_law_text" mj s f cdv) (I:dD K cl) (jN:Fq P w K mg base "_law_text" k 1 uE) :
  Bq P w K mg base qZ "_law_text" mj f cdv A outer s H E (pB cl uE):=by
 have sc:=BA;exact(ar (a5 (cN (pis I B.isinstance (vv 0) (pcn B.list i7))) (av (aH (aw aR (aw aR al (tz al (fu (own:=[("_law_one",1)]) false rfl sc.nd (iG (vv 0)) (blkOk_by (by rfl)) (by decide) (λ_ _ _ _ _=>pgn sc.nd) (λ_ _ _ _ _=>g6) (λ_ _ _ _ _=>fO takes0 jN hr (by nofun) (by rfl) (af (vv 1) ai))))) al))) bc) (av (aH (dT (cN (pis I B.isinstance (vv 0) (pcn B.str iq))) (aw aR (aw aR al (vv 0)) al) (gX vS (by rfl) B.str iq (af (vv 0) ai))))))
theorem Bx:FnScope qW ["_law_text_here"] (defScope mf):=fsc
theorem DC {k:Nat} (B:Bn mg) (hr:Rq k A "_law_signs" mf s f cdv)  :
  Bq P w K mg base qW "_law_signs" mf f cdv A outer s H E (pp):=by
 have sc:=Bx;exact(ar (lu (i:=2) (j:=3) rfl sc.nd rfl rfl (by decide) rfl rfl (af (bh ai) (af al ai)) (by rfl)) (ar (jz (passes_of rfl) rfl (kz (aw aR (vv 0) al)) (pgn sc.nd) (av (a5 (pcm (oh (u65 hr)) (vv 1) al) (ar (pst sc.nd (aw aR (aw aR (vv 2) (aw e8 (bh (af (vv 3) ai)) (gX i8 (by rfl) B.int io (af (pcv (cM (u64 hr)) (vv 3) al) ai)))) (aw e8 (bh (af (vv 1) ai)) (gX i8 (by rfl) B.int io (af (pcv (cM (u64 hr)) (vv 1) al) ai))))) (av (pst sc.nd al))) (av (pst sc.nd (aw aR (vv 3) (vv 1))))))) (av (aH (vv 2)))))
theorem Bp:FnScope qP ["_law_sign"] (defScope lX):=fsc
theorem Dt {k:Nat} (B:Bn mg) (hr:Rq k A "_law_atom_of" lX s f cdv)  :
  Bq P w K mg base qP "_law_atom_of" lX f cdv A outer s H E (oX):=by
 have sc:=Bp;exact(ar (y9 (ku (af al (af al ai))) (y7 rfl (oz (pgn sc.nd) (oz (pgn sc.nd) y8)))) (ar (a5 (pcm (bJ (u64 hr)) (vv 0) al) (av (aH (bh (af dI ai)))) bc) (ar (a5 (pcm (bJ (u64 hr)) (de (vv 0) eu (cx ak)) al) (ar (pst sc.nd (de (vv 0) (cx ak) (cx (kr ak)))) (ar (pst sc.nd (ft (pcv jx (bQ el (by rfl) B.len eh (af (vv 0) ai)) ak) (ft (pcv (bJ (u64 hr)) (dt dm (vv 0) (kr ak) (λ_ _=>rfl)) al) (gZ (pcv ko (bQ el (by rfl) B.len eh (af (vv 4) ai)) ak))))) (av (aH (dT (pw_and' (cN (vv 5)) (pw_and1' (pcm (bJ (u64 hr)) (fu (own:=[("_law_one",6)]) false rfl sc.nd (kz (vv 4)) (blkOk_by (by rfl)) (by decide) (λ_ _ _ _ _=>pgn sc.nd) (λ_ _ _ _ _=>oC (pcm (yJ (u65 hr)) (vv 6) (vv 2))) (λ_ _ _ _ _=>vv 6)) (bh ai)))).pt (bh (af (vv 4) ai)) (bh ai)))))) bc) (ar (pst sc.nd (dT (pcm (bJ (u64 hr)) (de (vv 0) eu (cx ak)) al) (de (vv 0) (cx ak) eu) (vv 0))) (ar (a5 (pw_or' (pcm (bJ (u64 hr)) (vv 1) al) (pw_or' (pcm jx (bQ el (by rfl) B.len eh (af (vv 1) ai)) ak) (pw_or1' (pcm (cM (u64 hr)) (fu (own:=[("_law_one",6)]) false rfl sc.nd (kz (vv 1)) (blkOk_by (by rfl)) (by decide) (λ_ _ _ _ _=>pgn sc.nd) (λ_ _ _ _ _=>oC (pcm (yJ (u65 hr)) (vv 6) (vv 3))) (λ_ _ _ _ _=>vv 6)) (bh ai))))).pt (av (aH (bh ai))) bc) (av (aH (dT (pw_or' (pcm (bJ (u64 hr)) (vv 0) al) (pw_or1' (pcm (cM (u64 hr)) (dt dm (vv 1) ak (λ_ _=>rfl)) al))).pt (bh (af (gX i8 (by rfl) B.int io (af (vv 0) ai)) ai)) (bh ai)))))))))
theorem Bt:FnScope qS ["_law_signs_here","_law_at","_law_room"] (defScope l7):=fsc
theorem Dy {k:Nat} (B:Bn mg) (hr:Rq k A "_law_from" l7 s f cdv) (CP:Fq P w K mg base "_law_atom_of" k 1 Kb) (mJ:Fq P w K mg base "_law_from" k 3 uD) :
  Bq P w K mg base qS "_law_from" l7 f cdv A outer s H E (o7 Kb uD):=by
 have sc:=Bt;exact(ar (pst sc.nd (dt dm (aw aR (vv 0) (aw e8 (bh (af al ai)) (aw aR (vv 1) ak))) (vv 1) (λ_ _=>rfl))) (ar (a5 (pcm (cM (u64 hr)) (vv 3) al) (ar (pst sc.nd (pcl CP hr (af (vv 3) ai))) (av (aH (dT (pcm (sZ (u64 hr)) (vv 4) (bh ai)) (ku (af (dt dm (vv 4) ak (λ_ _=>rfl)) (af (aw aR (vv 1) ak) ai))) dI)))) bc) (ar (lu (i:=4) (j:=1) rfl sc.nd rfl rfl (by decide) rfl rfl (af (bh ai) (af (aw aR (vv 1) ak) ai)) (by rfl)) (ar (za (passes_of rfl) (pcm (cM (u64 hr)) (dt dm (aw aR (vv 0) (aw e8 (bh (af al ai)) (aw aR (vv 1) ak))) (vv 1) (λ_ _=>rfl)) al) (ar (a5 (pcm (sZ (u64 hr)) (vv 4) (bh ai)) (ar (a5 (pcm (cM (u64 hr)) (dt dm (aw aR (vv 0) (aw e8 (bh (af al ai)) (aw aR (vv 1) ak))) (vv 1) (λ_ _=>rfl)) al) (av (aH dI)) bc) (av (pst sc.nd (aw aR (vv 1) ak)))) bc) (ar (pst sc.nd (dT (pcm jx (vv 2) ak) (pcl mJ hr (af (vv 0) (af (vv 1) (af (aw jy (vv 2) ak) ai)))) dI)) (ar (a5 (pw_and' (pcm lq (vv 5) dI) (pw_and1' (pcm (bJ (u64 hr)) (vv 2) ak))).pt (av (pst sc.nd (dT (pcm (cM (u64 hr)) (dt dm (aw aR (vv 0) (aw e8 (bh (af al ai)) (aw aR (vv 1) ak))) (vv 1) (λ_ _=>rfl)) al) (pcl mJ hr (af (vv 0) (af (vv 1) (af ak ai)))) dI))) bc) (ar (a5 (pcm lq (vv 5) dI) (av (aH dI)) bc) (av (lu (i:=4) (j:=1) rfl sc.nd rfl rfl (by decide) rfl rfl (af (aw aR (vv 4) (bh (af (dt dm (vv 5) ak (λ_ _=>rfl)) ai))) (af (dt dm (vv 5) ak (λ_ _=>rfl)) ai)) (by rfl)))))))) (av (aH (ku (af (vv 4) (af (aw aR (vv 1) ak) ai)))))))))
theorem Bv:FnScope qU ["_law_text_here"] (defScope l9):=fsc
theorem DA {k:Nat} (B:Bn mg) (hr:Rq k A "_law_read" l9 s f cdv) (I:dD K cl) (CT:Fq P w K mg base "_law_signs" k 1 Kg) (mJ:Fq P w K mg base "_law_from" k 3 uD) :
  Bq P w K mg base qU "_law_read" l9 f cdv A outer s H E (pd cl Kg uD):=by
 have sc:=Bv;exact(ar (a5 (fP (cN (pis I B.isinstance (vv 0) (pcn B.str iq)))) (av (aH (bh ai))) bc) (ar (pst sc.nd (pcl CT hr (af (vv 0) ai))) (ar (pst sc.nd (pcl mJ hr (af (vv 1) (af ak (af ak ai))))) (av (aH (dT (pw_and' (pcm Ij (vv 2) dI) (pw_and1' (pcm (bJ (u64 hr)) (dt dm (vv 2) ak (λ_ _=>rfl)) (bQ el (by rfl) B.len eh (af (vv 1) ai))))).pt (bh (af (dt dm (vv 2) ak (λ_ _=>rfl)) ai)) (bh ai)))))))
theorem By:FnScope qX ["_law_draw","_law_text_here"] (defScope mh):=fsc
theorem DD {k:Nat} (B:Bn mg) (hr:Rq k A "_law_spaced" mh s f cdv) (cS:Fq P w K mg base "_law_take" k 2 fe) :
  Bq P w K mg base qX "_law_spaced" mh f cdv A outer s H E (pw fe):=by
 have sc:=By;exact(ar (pst sc.nd (aw iB al (pcl cS hr (af (vv 0) (af ak ai))))) (ar (jz (passes_of rfl) rfl (kz (vv 1)) (pgn sc.nd) (av (a5 (pcm (oh (u65 hr)) (vv 3) al) (av (pst sc.nd (aw aR (aw aR (aw aR (vv 2) (aw iB al (pcl cS hr (af (vv 0) (af ak ai))))) (vv 3)) (aw iB al (pcl cS hr (af (vv 0) (af ak ai))))))) (av (pst sc.nd (aw aR (vv 2) (vv 3))))))) (av (aH (vv 2)))))
theorem Bs:FnScope qR ["_law_draw","_law_text_here"] (defScope lZ):=fsc
theorem Dx {k:Nat} (B:Bn mg) (hr:Rq k A "_law_bent" lZ s f cdv) (cS:Fq P w K mg base "_law_take" k 2 fe) (jM:Fq P w K mg base "_law_pick" k 2 my) :
  Bq P w K mg base qR "_law_bent" lZ f cdv A outer s H E (oZ fe my):=by
 have sc:=Bs;exact(ar (lu (i:=4) (j:=5) rfl sc.nd rfl rfl (by decide) rfl rfl (af (pcl cS hr (af (vv 0) (af (aw aR (bQ el (by rfl) B.len eh (af (vv 1) ai)) ak) ai))) (af (pcl cS hr (af (vv 0) (af ak ai))) ai)) (by rfl)) (ar (pst sc.nd (pcl jM hr (af (vv 0) (af (bh (af al (af al (af al (af al (af al (af al (af al (af al (af al (af al (af al (af al (af al (af al (af (aw iB al ak) ai)))))))))))))))) ai)))) (ar (a5 (pcm ko (vv 5) ak) (av (aH (aw aR (aw aR (de (vv 1) eu (cx (vv 4))) (vv 2)) (de (vv 1) (cx (vv 4)) eu)))) bc) (ar (a5 (pcm (bJ (u64 hr)) (vv 5) ak) (av (aH (aw aR (de (vv 1) eu (cx (vv 4))) (de (vv 1) (cx (aw aR (vv 4) ak)) eu)))) bc) (ar (a5 (pcm (bJ (u64 hr)) (vv 5) ak) (av (aH (aw aR (aw aR (de (vv 1) eu (cx (vv 4))) (vv 2)) (de (vv 1) (cx (aw aR (vv 4) ak)) eu)))) bc) (ar (pst sc.nd (pcl cS hr (af (vv 0) (af (aw aR (bQ el (by rfl) B.len eh (af (vv 1) ai)) ak) ai)))) (ar (y9 (dT (pcm ko (vv 4) (vv 3)) (ku (af (vv 4) (af (vv 3) ai))) (ku (af (vv 3) (af (vv 4) ai)))) (y7 rfl (oz (pgn sc.nd) (oz (pgn sc.nd) y8)))) (av (aH (dT (pcm (bJ (u64 hr)) (vv 5) ak) (aw aR (aw aR (de (vv 1) eu (cx (vv 7))) (de (vv 1) (cx (vv 6)) (cx (vv 7)))) (de (vv 1) (cx (vv 7)) eu)) (aw aR (de (vv 1) eu (cx (vv 6))) (de (vv 1) (cx (vv 7)) eu))))))))))))
theorem Bw:FnScope qV ["_law_text_here"] (defScope me):=fsc
theorem DB {k:Nat} (B:Bn mg) (hr:Rq k A "_law_right" me s f cdv) (hgd:Gd base A) (CS:Fq P w K mg base "_law_read" k 1 Ke) (XS:XsK K ec) (g_CaseError:mg "CaseError"=some (.ref (He.ga K "CaseError"))) (kT:Fq P w K mg base "read_value" k 1 uG) (g_BadText:mg "BadText"=some (.ref (He.ga K "BadText"))) (g_BadValue:mg "BadValue"=some (.ref (He.ga K "BadValue"))) (q_line:∀ c i,(c,i)∈mI->c < 1000/\(efs c)[i]?=some "line"/\(efs c).Nodup/\XfK K c "line") :
  Bq P w K mg base qV "_law_right" me f cdv A outer s H E (ph Ke uG):=by
 have sc:=Bw;exact(ar (IZ (i:=2) (j:=3) (l:=4) rfl sc.nd rfl rfl rfl (by decide) (by decide) (by decide) rfl rfl rfl (af (pcl CS hr (af (vv 0) ai)) (af (yZ ai) (af dI ai))) (by rfl)) (ar (I5 (i:=1) (j:=4) rfl rfl rfl sc.nd rfl rfl (by decide) XS (by decide) rfl (by rfl) g_CaseError cg (λW pn xe tk px=>av (g5 (oy uw uY sS (vv 3) (af (fO tk kT hr (by nofun) (by rfl) (af (vv 0) ai)) ai)))) (λa oe pn=>Ku (i:=1) (j:=4) sc.nd rfl rfl (.inl rfl) rfl)) (ar (a5 (pcm (bJ (u64 hr)) (vv 2) (bh ai)) (av (aH (ft (yY (ce:=9) XS (by decide) (by rfl) (by rfl) B.isinstance rJ (vv 4) (by rfl) g_BadText) (ft (y0 (yY (ce:=0) XS (by decide) (by rfl) (by rfl) B.isinstance rJ (vv 4) (by rfl) g_BadValue)) (gZ (pcv (bJ (u64 hr)) (IV q_line (vv 4) (by rfl)) ak)))))) bc) (av (aH (ft (pcv lq (vv 4) dI) (gZ (pcv (bJ (u64 hr)) (bQ (ir hr hgd) (by rfl) B.repr ip (af (vv 3) ai)) (bQ (ir hr hgd) (by rfl) B.repr ip (af (vv 2) ai))))))))))
theorem Bm:FnScope qN ["_law_script"] (defScope iP):=fsc
theorem Dq {k:Nat} (B:Bn mg) (hr:Rq k A "law" iP s f cdv) (hgd:Gd base A) (CQ:Fq P w K mg base "_law_begun" k 1 Kc) (mL:Fq P w K mg base "_law_value" k 2 uF) (mN:Fq P w K mg base "value_text" k 1 gx) (jN:Fq P w K mg base "_law_text" k 1 uE) (CW:Fq P w K mg base "same" k 2 iS) (CU:Fq P w K mg base "_law_spaced" k 2 Kh) (kT:Fq P w K mg base "read_value" k 1 uG) (I:dD K cl) (qq:Fq P w K mg base "_law_bent" k 2 Kd) (mK:Fn true P w K mg base "_law_right" (k+1) 1 [] Kf) (jM:Fq P w K mg base "_law_pick" k 2 my) (qp:Fq P w K mg base "_law_atom" k 1 uC) (cS:Fq P w K mg base "_law_take" k 2 fe) :
  Bq P w K mg base qN "law" iP f cdv A outer s H E (oV cl Kc uF gx uE iS Kh uG Kd Kf my uC fe):=by
 have sc:=Bm;exact(ar (pst sc.nd (pcl CQ hr (af (vv 0) ai))) (ar (jz (passes_of rfl) rfl (oA (by rfl) B.range (af (bQ (DW rfl) (by rfl) B.max DU (af ak (af (bQ (DX rfl) (by rfl) B.min DV (af ak (af (bQ el (by rfl) B.len eh (af (vv 0) ai)) ai))) ai))) ai)) (pgn sc.nd) (ar (lu (i:=11) (j:=12) rfl sc.nd rfl rfl (by decide) rfl rfl (af (pcl mL hr (af (vv 1) (af ak ai))) (af (pcl mL hr (af (vv 1) (af ak ai))) ai)) (by rfl)) (ar (pst sc.nd (pcl mN hr (af (vv 11) ai))) (ar (a5 (pw_or' (pcm (cM (u64 hr)) (vv 5) (pcl jN hr (af (vv 11) ai))) (pw_or1' (pcm (cM (u64 hr)) (pcl mN hr (af (vv 12) ai)) (pcl jN hr (af (vv 12) ai))))).pt (av (aH gW)) bc) (ar (a5 (pcm (cM (u64 hr)) (pcv (bJ (u64 hr)) (vv 5) (pcl mN hr (af (vv 12) ai))) (pcl CW hr (af (vv 11) (af (vv 12) ai)))) (av (aH gW)) bc) (ar (pst sc.nd (pcl CU hr (af (vv 1) (af (vv 5) ai)))) (ar (pst sc.nd (IH cg kT hr (by nofun) (by rfl) (af (vv 6) ai))) (ar (a5 (pw_or' (pcm (cM (u64 hr)) (IF (ir hr hgd) (by rfl) B.repr ip (af (vv 7) ai)) (bQ (ir hr hgd) (by rfl) B.repr ip (af (vv 11) ai))) (pw_or1' (pcm (cM (u64 hr)) (bQ (ir hr hgd) (by rfl) B.repr ip (af (pcl kT hr (af (vv 5) ai)) ai)) (bQ (ir hr hgd) (by rfl) B.repr ip (af (vv 11) ai))))).pt (av (aH gW)) bc) (ar (a5 (cN (pis I B.isinstance (vv 7) (pcn B.list i7))) (av (g5 (oy uw uY sS (vv 7) (af al ai)))) bc) (ar (pst sc.nd (pcl qq hr (af (vv 1) (af (vv 6) ai)))) (ar (jz (passes_of rfl) rfl (iG (bh (af (vv 5) (af (vv 6) (af (vv 8) (af (pcl qq hr (af (vv 1) (af (vv 8) ai))) (af (pcl qq hr (af (vv 1) (af (vv 5) ai))) ai))))))) (pgn sc.nd) (av (a5 (fP (cN (fO cg mK hr (λ_=>hgd) (by rfl) (af (vv 9) ai)))) (av (aH gW)) bc))) (ar (pst sc.nd (bh (af dI (af ak (af al (af al (af (bh ai) (af (ku (af al ai)) (af gW (af al (af al (af al (af al (af al (af al (af al (af al (af al ai)))))))))))))))))) (av (a5 (fP (cN (fO cg mK hr (λ_=>hgd) (by rfl) (af (pcl jM hr (af (vv 1) (af (vv 10) ai))) ai)))) (av (aH gW)) bc)))))))))))))) (ar (pst sc.nd (aw e8 (bh (af (pcl qp hr (af (vv 1) ai)) (af al (af (bh (af dI ai)) ai)))) (aw aR ak (pcl cS hr (af (vv 1) (af ak ai)))))) (ar (a5 (pw_or' (pcm (cM (u64 hr)) (pcl mN hr (af (vv 3) ai)) (pcl jN hr (af (vv 3) ai))) (pw_or1' (pcm (cM (u64 hr)) (bQ (ir hr hgd) (by rfl) B.repr ip (af (pcl kT hr (af (pcl jN hr (af (vv 3) ai)) ai)) ai)) (bQ (ir hr hgd) (by rfl) B.repr ip (af (vv 3) ai))))).pt (av (aH gW)) bc) (ar (jz (passes_of rfl) rfl (IX (by rfl) B.range (af ak (af ak ai))) (pgn sc.nd) (av (a5 (pw_or' (fP (cN (fO cg mK hr (λ_=>hgd) (by rfl) (af (aw aR (aw iB al (vv 4)) (aw iB al (vv 4))) ai)))) (pw_or1' (fP (cN (fO cg mK hr (λ_=>hgd) (by rfl) (af (aw aR (aw aR (aw iB al (vv 4)) al) (aw iB al (vv 4))) ai)))))).pt (av (aH gW)) bc))) (av (aH gW)))))))
end
section
variable {ρ:En}{M:Me}{E:TK}
theorem aJ{α:Type}{o:Option α}{z:α}{k:α->Prop}(e:o=some z)(h:k z):au o k:=by rw[e];exact h
theorem bV{Q:TK}{i:Nat}{d:Tr}(e:ρ[i]?=some (some d))(h:Q d M):(aa i).f ρ M Q E:=by
 show (match ρ[i]? with
  | some (some d)=>Q d M
  | _=>False)
 rw[e];exact h
theorem aA{t u:Sr}{F:Fin}(h:t.f { F with nx:=u.f F } ρ M):(aj t u).f F ρ M:=h
theorem jj{g:Tg}{tb:Sr}{F:Fin}(I:Nat->En->Me->Prop):∀(xs:List Tr)(n:Nat)(ρ:En)(M:Me),I n ρ M ->
  (∀(i:Nat)(x:Tr)(ρ:En)(M:Me),xs[i]?=some x->I (n+i) ρ M->∃ ρ',br g x ρ=some ρ'/\tb.f { F with nx:=I (n+i+1),ct:=I (n+i+1),bk:=F.nx } ρ' M) ->
  (∀ ρ M,I (n+xs.length) ρ M->F.nx ρ M)->ck g tb xs F ρ M
 | [],n,ρ,M,h0,_,hn=>hn ρ M h0
 | x::r,n,ρ,M,h0,hs,hn=>by
  obtain⟨ρ',e,q⟩:=hs 0 x ρ M rfl h0;refine aJ e (tb.mono (D:={ F with nx:=I (n+1),ct:=I (n+1),bk:=F.nx }) (D':={ F with nx:=ck g tb r F,ct:=ck g tb r F,bk:=F.nx }) ⟨λρ1 M1 h1=>?_,λ_ _ z=>z,λ_ _ z=>z,λρ1 M1 h1=>?_,λ_ _ _ z=>z⟩ q)
  ·exact jj I r (n+1) ρ1 M1 h1 (λi y ρ2 M2 e2 h2=>by
    have:=hs (i+1) y ρ2 M2 (by simpa using e2) (by rw[show n+(i+1)=n+1+i by omega];exact h2);rw[show n+(i+1)=n+1+i by omega] at this;exact this) λρ2 M2 h2=>hn ρ2 M2 (by rw[az,show n+(r.length+1)=n+1+r.length by omega];exact h2)
  ·exact jj I r (n+1) ρ1 M1 h1 (λi y ρ2 M2 e2 h2=>by
    have:=hs (i+1) y ρ2 M2 (by simpa using e2) (by rw[show n+(i+1)=n+1+i by omega];exact h2);rw[show n+(i+1)=n+1+i by omega] at this;exact this) λρ2 M2 h2=>hn ρ2 M2 (by rw[az,show n+(r.length+1)=n+1+r.length by omega];exact h2)
theorem rP{g:Tg}{tt:Rd Bool}{te:Rd Tr}{Q:List Tr->Me->Prop}(I:Nat->List Tr->Me->Prop):∀(xs:List Tr)(n:Nat)(acc:List Tr)(M:Me),I n acc M ->
  (∀(i:Nat)(x:Tr)(acc:List Tr)(M:Me),xs[i]?=some x->I (n+i) acc M->∃ ρ',br g x ρ=some ρ'/\tt.f ρ' M (λb M1=>if b=true then te.f ρ' M1 (λy M2=>acc.length < big/\I (n+i+1) (acc++[y]) M2) (λ_ _=>False) else I (n+i+1) acc M1) λ_ _=>False) ->
  (∀ acc M,I (n+xs.length) acc M->Q acc M)->cG g tt te ρ xs acc M Q
 | [],n,acc,M,h0,_,hn=>hn acc M h0
 | x::r,n,acc,M,h0,hs,hn=>by
  obtain⟨ρ',e,q⟩:=hs 0 x acc M rfl h0;have rc:∀ acc1 M1,I (n+1) acc1 M1->cG g tt te ρ r acc1 M1 Q:=λacc1 M1 h1=>rP I r (n+1) acc1 M1 h1 (λi y ρ2 M2 e2 h2=>by
    have:=hs (i+1) y ρ2 M2 (by simpa using e2) (by rw[show n+(i+1)=n+1+i by omega];exact h2);rw[show n+(i+1)=n+1+i by omega] at this;exact this) λρ2 M2 h2=>hn ρ2 M2 (by rw[az,show n+(r.length+1)=n+1+r.length by omega];exact h2)
  refine aJ e (tt.mono (λb M1 z=>?_) (λ_ _ z=>z) q)
  by_cases hb:b=true
  ·rw[if_pos hb] at z ⊢;exact te.mono (λy M2 z2=>⟨z2.1,rc _ _ z2.2⟩) (λ_ _ z=>z) z
  ·rw[if_neg hb] at z ⊢;exact rc _ _ z
theorem k8{g:Tg}{te:Rd Tr}{Q:List Tr->Me->Prop}(φ:Tr->Tr)(M:Me):∀(xs acc:List Tr),acc.length+xs.length<=big ->
  (∀ x∈xs,∃ ρ',br g x ρ=some ρ'/\∀ Q':TK,Q' (φ x) M->te.f ρ' M Q' λ_ _=>False)->Q (acc++xs.map φ) M->cG g cL te ρ xs acc M Q
 | [],acc,_,_,q=>by
  show Q acc M;simpa using q
 | x::r,acc,hl,h,q=>by
  obtain⟨ρ',e,k⟩:=h x (a6 ..);rw[az] at hl;refine aJ e ?_;show (if true=true then te.f ρ' M (λy M2=>acc.length < big/\cG g cL te ρ r (acc++[y]) M2 Q) (λ_ _=>False) else cG g cL te ρ r acc M Q);rw[if_pos rfl];refine k _ ⟨by omega,k8 φ M r (acc++[φ x]) (by rw[bt,cA];omega) (λy hy=>h y (aZ _ hy)) ?_⟩;simpa using q
end
def da:Str:="abcdefghijklmnopqrstuvwxyz"
def bK(w:Str):Bool:=decide (1<=w.length)&&decide (w.length<=8)&&w.cps.toList.all λc=>decide (c∈da.cps.toList)
def et(i:Int):Bool:=decide ((if i < 0 then -i else i) < 10 ^ 40)
mutual
def IR:Tr->Bool
 | .non=>true
 | .int i=>et i
 | .str w=>bK w
 | .lst xs=>decide (xs.length<=100000)&&bg xs
 | _=>false
def bg:List Tr->Bool
 | []=>true
 | d::ds=>IR d&&bg ds
end
mutual
def a9:Tr->Nat
 | .lst xs=>c8 xs+1
 | _=>0
def c8:List Tr->Nat
 | []=>0
 | d::ds=>max (a9 d) (c8 ds)
end
theorem yO:∀{ds:List Tr}{d:Tr},bg ds=true->d∈ds->IR d=true
 | d::ds,x,h,m=>by
  simp only[bg,ax] at h;rcases aM.mp m with e|e
  ·subst e;exact h.1
  ·exact yO h.2 e
theorem nj:∀{ds:List Tr}{d:Tr},d∈ds->a9 d<=c8 ds
 | d::ds,x,m=>by
  simp only[c8];rcases aM.mp m with e|e
  ·subst e;omega
  ·have:=nj e;omega
theorem dH{xs:List Tr}(h:IR (.lst xs)=true):xs.length<=100000/\bg xs=true:=by simpa only [IR,ax,decide_eq_true_eq] using h
theorem oo{xs:List Tr}{x:Tr}(h:IR (.lst xs)=true)(m:x∈xs):IR x=true:=yO (dH h).2 m
def sp1(P:Tr->Prop)(f:Tr->Tr):Sf:=⟨λds M Q _=>∃ d,ds=[d]/\P d/\Q (f d) M,λh _ ⟨d,a,b,q⟩=>⟨d,a,b,h _ _ q⟩⟩
def pS:Sf:=sp1 (λd=>IR d=true) λd=>match d with
 | .str w=>.bl (bK w)
 | _=>.bl false
theorem mE{M:Me}{d:Tr}{cl:List Nat}(h:IR d=true):∃ g,tyG M d=some g/\g∈cP cl:=by
 cases d with
 | non=>exact⟨_,rfl,by simp [cP]⟩
 | int i=>exact⟨_,rfl,by simp [cP]⟩
 | str i=>exact⟨_,rfl,by simp [cP]⟩
 | lst i=>exact⟨_,rfl,by simp [cP]⟩
 | _=>simp [IR] at h
theorem xN {M:Me} {c:Nat}:inT M (.str ⟨#[c]⟩) (.str "abcdefghijklmnopqrstuvwxyz")=some (.bl (decide (c∈da.cps.toList))):=by rfl
def BU:Sf:=sp1 (λd=>IR d=true) λd=>match d with
 | .int i=>.bl (et i)
 | _=>.bl false
def a7:Tr->Bool
 | .lst _=>false
 | _=>true
def BS:Sf:=sp1 (λd=>IR d=true) λd=>.bl (a7 d)
theorem G9 {d:Tr} {M:Me} {g:TyG} (h:IR d=true) (e:tyG M d=some g):([TyG.b "list"].any (isa g))=!a7 d:=by
 cases d with
 | non=>simp only[tyG,Option.some.injEq] at e;subst e;rfl
 | int i=>simp only[tyG,Option.some.injEq] at e;subst e;rfl
 | str i=>simp only[tyG,Option.some.injEq] at e;subst e;rfl
 | lst i=>simp only[tyG,Option.some.injEq] at e;subst e;rfl
 | _=>simp [IR] at h
theorem kR {cl:List Nat} {ρ:En} {M:Me} {Q:Bool->Me->Prop} {E:TK} {i:Nat} {d:Tr} (e:ρ[i]?=some (some d)) (h:IR d=true) (q:Q (!a7 d) M):(bp (bY cl [.b "list"] (aa i))).f ρ M Q E:=by obtain⟨g,eg,hg⟩:=mE (M:=M) (cl:=cl) h;simp only[bp,bY,aa,e,eg,au];refine⟨hg,?_⟩;rw[G9 h eg];exact q
def pY(n:Nat):Sf:=⟨λds M Q _=>∃ d,∃ k:Nat,ds=[d,.int (k:Nat)]/\IR d=true/\a9 d < n/\a9 d<=k/\Q (.bl true) M,λh _ ⟨d,k,a,b,c,e,q⟩=>⟨d,k,a,b,c,e,h _ _ q⟩⟩
def pR:Sf:=sp1 (λd=>IR d=true/\a9 d<=60) λ_=>.bl true
def pV:Sf:=sp1 (λd=>IR d=true/\a9 d<=60) λ_=>.non
def dn:Tr->Str
 | .non=>"none"
 | .lst _=>"list"
 | .str _=>"word"
 | _=>"int"
theorem nO {d:Tr} {M:Me} {g:TyG} (h:IR d=true) (e:tyG M d=some g):([TyG.b "str"].any (isa g))=decide (dn d="word"):=by
 cases d with
 | non=>simp only[tyG,Option.some.injEq] at e;subst e;decide
 | int i=>simp only[tyG,Option.some.injEq] at e;subst e;exact(by decide:([TyG.b "str"].any (isa (.b "int")))=decide (("int":Str)="word"))
 | str i=>simp only[tyG,Option.some.injEq] at e;subst e;exact(by decide:([TyG.b "str"].any (isa (.b "str")))=decide (("word":Str)="word"))
 | lst i=>simp only[tyG,Option.some.injEq] at e;subst e;exact(by decide:([TyG.b "str"].any (isa (.b "list")))=decide (("list":Str)="word"))
 | _=>simp [IR] at h
def jH:Sf:=sp1 (λd=>IR d=true) λd=>.str (dn d)
abbrev Go(n:Nat)(N:List Str)(r:Sr)(sp:Sf) :Prop:=∀(ds:List Tr)(M:Me)(Q E:TK),ds.length=n->sp.f ds M Q E->r.f (ap M.length Q E) (df N ds) M
theorem Gj(cl:List Nat):Go 1 qM (oS cl) jH:=λds M Q E hl h=>by
 obtain⟨d,rfl,hd,q⟩:=h;show (oS cl).f (ap M.length Q E) [some d] M;simp only[oS,aj,zD,GT,am,F3,aa,dC,aE,fk,au];have rest:∀(hnn:isNone d=false),(tN cl).f { ap M.length Q E with nx:=(oU cl).f (ap M.length Q E) } [some d] M:=λhnn=>by
  simp only[tN,GT];refine kR rfl hd ?_;cases d with
  | lst xs=>simp only[a7,dX,if_true,ao,dC];exact .inl q
  | non=>simp [isNone] at hnn
  | int i =>
   obtain⟨g,eg,hg⟩:=mE (M:=M) (cl:=cl) hd;simp only[a7,dw,bd,if_false,aL,oU,ao,dIf,bp,bY,aa,aE,eg,au];refine⟨hg,?_⟩;rw[nO hd eg];exact .inl q
  | str i =>
   obtain⟨g,eg,hg⟩:=mE (M:=M) (cl:=cl) hd;simp only[a7,dw,bd,if_false,aL,oU,ao,dIf,bp,bY,aa,aE,eg,au];refine⟨hg,?_⟩;rw[nO hd eg];exact .inl q
  | _=>simp [IR] at hd
 cases hn:isNone d with
 | true =>
  cases d with
  | non=>simp only[if_true,ao,dC];exact .inl q
  | _=>simp [isNone] at hn
 | false =>
  simp only[bd,if_false,aL];exact rest hn
mutual
def bZ:Tr->Tr->Bool
 | .non,.non=>true
 | .int i,.int j=>decide (i=j)
 | .str a,.str b=>decide (a=b)
 | .lst xs,.lst ys=>fR xs ys
 | _,_=>false
def fR:List Tr->List Tr->Bool
 | [],[]=>true
 | x::xs,y::ys=>bZ x y&&fR xs ys
 | _,_=>false
end
theorem Ks{a b:Str}:(a == b)=decide (a=b):=by
 by_cases e:a=b
 ·subst e;simp
 ·rw[decide_eq_false e];exact beq_eq_false_iff_ne.mpr e
theorem jg{M:Me}{a b:Str}(ha:PyData.strOk a=true)(hb:PyData.strOk b=true):eqT M (.str a) (.str b)=some (.bl (decide (a=b))):=by
 have h:∀ x:Str,PyData.strOk x=true->SeqAt.shaped (.str x)=true:=λx hx=>by
  simp only[SeqAt.shaped,PyData.canLay0,PyData.depth,hx];rfl
 simp only[eqT,eqB,fi,pyd,h a ha,h b hb,dO,if_true,bF,PyData.eqv,Ks]
theorem ES{M:Me}:eqT M .non .non=some (.bl true):=by simp only[eqT,eqB,fi,pyd,SeqAt.shaped,dO,if_true,bF,PyData.eqv];rfl
theorem xi{M:Me}{a b:Int}:eqT M (.int a) (.int b)=some (.bl (decide (a=b))):=by simp only[eqT,eqB,fi,pyd,SeqAt.shaped,dO,if_true,bF,PyData.eqv];rfl
theorem Hq:∀ c∈da.cps.toList,c < 0x110000:=by decide
theorem mz{w:Str}(h:bK w=true):PyData.strOk w=true:=by unfold bK at h;simp only[ax] at h;have h3:=b7.mp h.2;unfold PyData.strOk;rw[Array.all_eq_true'];intro c hc;exact decide_eq_true (Hq c (of_decide_eq_true (h3 c (Array.mem_toList_iff.mpr hc))))
theorem BZ(d:Tr):PyData.strOk (dn d)=true:=by
 have h1:PyData.strOk "none"=true:=by decide +kernel
 have h2:PyData.strOk "list"=true:=by decide +kernel
 have h3:PyData.strOk "word"=true:=by decide +kernel
 have h4:PyData.strOk "int"=true:=by decide +kernel
 cases d <;> simp only[dn] <;> assumption
theorem ER{M:Me}{a b:Tr}(ha:IR a=true)(hb:IR b=true)(hk:dn a=dn b)(h1:a7 a=true):eqT M a b=some (.bl (bZ a b)):=by
 have k1:("none":Str)≠"list":=by decide
 have k2:("none":Str)≠"word":=by decide
 have k3:("none":Str)≠"int":=by decide
 have k4:("list":Str)≠"word":=by decide
 have k5:("list":Str)≠"int":=by decide
 have k6:("word":Str)≠"int":=by decide
 cases a with
 | non=>cases b with
  | non=>simp only[bZ];exact ES
  | int _=>exact absurd hk k3
  | str _=>exact absurd hk k2
  | lst _=>exact absurd hk k1
  | _=>simp [IR] at hb
 | int i=>cases b with
  | non=>exact absurd hk.symm k3
  | int j=>simp only[bZ];exact xi
  | str _=>exact absurd hk.symm k6
  | lst _=>exact absurd hk.symm k5
  | _=>simp [IR] at hb
 | str x=>cases b with
  | non=>exact absurd hk.symm k2
  | int _=>exact absurd hk k6
  | str y=>simp only[bZ];exact jg (mz ha) (mz hb)
  | lst _=>exact absurd hk.symm k4
  | _=>simp [IR] at hb
 | lst xs=>simp [a7] at h1
 | _=>simp [IR] at ha
theorem JN{a b:Tr}(ha:IR a=true)(hb:IR b=true)(hk:dn a≠dn b):bZ a b=false:=by
 cases a <;> cases b <;> first
  | exact absurd rfl hk
  | (simp [IR] at ha;done)
  | (simp [IR] at hb;done)
  | rfl
  | simp [bZ]
def sp2(P:Tr->Tr->Prop)(f:Tr->Tr->Tr):Sf:=⟨λds M Q _=>∃ a b,ds=[a,b]/\P a b/\Q (f a b) M,λh _ ⟨a,b,c,d,q⟩=>⟨a,b,c,d,h _ _ q⟩⟩
def fB(n:Nat):Sf:=sp2 (λa b=>IR a=true/\IR b=true/\a9 a < n) λa b=>.bl (bZ a b)
theorem A5:∀{xs ys:List Tr},xs.length=ys.length->fR xs ys=((eC xs ys).map λd=>match d with
  | .tup [a,b]=>bZ a b
  | _=>false).all id
 | [],[],_=>rfl
 | x::xs,y::ys,h=>by
  simp only[fR,eC,aO,List.all_cons,id];rw[A5 (by simpa using h)]
 | [],_::_,h=>by simp at h
 | _::_,[],h=>by simp at h
theorem A4:∀{xs ys:List Tr},xs.length≠ys.length->fR xs ys=false
 | [],[],h=>absurd rfl h
 | x::xs,y::ys,h=>by
  simp only[fR];rw[A4 (by simpa using h),Bool.and_false]
 | [],_::_,h=>rfl
 | _::_,[],h=>rfl
theorem CJ:∀{xs ys:List Tr}{d:Tr},d∈eC xs ys->∃ a b,d=.tup [a,b]/\a∈xs/\b∈ys
 | x::xs,y::ys,d,h=>by
  simp only[eC,aM] at h;rcases h with rfl|h
  ·exact⟨x,y,rfl,by simp,by simp⟩
  ·obtain⟨a,b,e,h1,h2⟩:=CJ h;exact⟨a,b,e,by simp [h1],by simp [h2]⟩
 | [],_,d,h=>by simp [eC] at h
 | _::_,[],d,h=>by simp [eC] at h
theorem C4{M:Me}(f:Tr->Bool)(l:List Tr):d8 M [.lst (l.map λd=>Tr.bl (f d))]=some (.bl ((l.map f).all id),M):=by
 have:gj (l.map λd=>Tr.bl (f d))=some (l.map f):=by
  induction l with
  | nil=>rfl
  | cons x r ih=>simp only[aO,gj,ih,bF]
 simp only[d8,bj,bD,this,bF]
theorem Gf(cl:List Nat)(n:Nat):Go 2 qJ (oP cl (fB n) jH) (fB (n+1)):=λds M Q E hl h=>by
 obtain⟨a,b,rfl,⟨ha,hb,hn⟩,q⟩:=h;show (oP cl (fB n) jH).f (ap M.length Q E) [some a,some b,none] M;simp only[oP,aj,zC,GT,dQ];have rest:∀(h1:a7 a=true∨dn a≠dn b),(tM cl (fB n) jH).f (ap M.length Q E) [some a,some b,none] M:=λh1=>by
  simp only[tM,ao,c6,F3,GE,ac,ae,aa,aE,bB,bq,az,aN,true_and];refine⟨a,rfl,ha,b,rfl,hb,?_⟩;simp only[jg (BZ a) (BZ b),au]
  by_cases hk:dn a=dn b
  ·simp only[hk,decide_true];have h2:a7 a=true:=h1.resolve_right λz=>z hk;simp only[ER ha hb hk h2];exact .inl q
  ·simp only[hk,decide_false];have e:=JN ha hb hk;have q':Q (.bl (bZ a b)) M:=q;rw[e] at q';exact .inl q'
 refine kR rfl ha ?_;cases hA:a7 a with
 | true=>simp only[dw,bd,if_false,aL];exact rest (.inl hA)
 | false =>
  simp only[dX,if_true];refine kR rfl hb ?_;cases hB:a7 b with
  | true =>
   simp only[dw,bd,if_false,aL];refine rest (.inr ?_);cases a <;> simp only[a7] at hA <;> first|(cases hA;done)|skip
   cases b with
   | lst _=>simp only[a7] at hB;cases hB
   | non=>exact(by decide:("list":Str)≠"none")
   | int _=>exact(by decide:("list":Str)≠"int")
   | str _=>exact(by decide:("list":Str)≠"word")
   | _=>simp [IR] at hb
  | false =>
   simp only[dX,if_true];cases a <;> simp only[a7] at hA <;> first|(cases hA;done)|skip
   cases b <;> simp only[a7] at hB <;> first|(cases hB;done)|skip
   rename_i xs ys;simp only[ao,c6,F3,aB,ac,ae,aa,aE,bB,bx,cO,bj,bF,au,xi];simp only[a9] at hn
   by_cases hlen:xs.length=ys.length
   ·have e1:decide ((xs.length:Int)=(ys.length:Int))=true:=by simp [hlen]
    rw[e1];simp only[bv,sa,ac,ae,aa,aE,bB,ix,au];refine k8 (λd=>.bl (match d with
     | .tup [a,b]=>bZ a b
     | _=>false)) M _ [] ?_ ?_ ?_
    ·have:=(dH ha).1;rw[aN,qi];unfold big;omega
    ·intro x hx;obtain⟨c,d,rfl,hc,hd⟩:=CJ hx;have hx2:=nj hc;refine⟨_,rfl,λQ' hq=>?_⟩;simp only[GE,rZ,ae,aa,dW,bC,bE,bB,aE,cO,au,bq,az,aN,true_and];exact⟨c,d,rfl,⟨oo ha hc,oo hb hd,by omega⟩,hq⟩
    ·unfold dS;simp only[bd,if_false,bR,C4];have q':Q (.bl (bZ (.lst xs) (.lst ys))) M:=q;simp only[bZ,A5 hlen] at q';exact .inl q'
   ·have e1:decide ((xs.length:Int)=(ys.length:Int))=false:=by simp;omega
    rw[e1];have q':Q (.bl (bZ (.lst xs) (.lst ys))) M:=q;simp only[bZ,A4 hlen] at q';exact .inl q'
def jT:Tr->Str
 | .str w=>Str.empty++"'"++w++"'"
 | .int i=>toString i
 | .non=>"None"
 | _=>Str.empty
theorem sR{i:Int}(h:et i=true):i.natAbs.log2 < 1920:=by
 unfold et at h;have h:=of_decide_eq_true h;have h2:i.natAbs < 2 ^ 134:=by
  have:(10:Int) ^ 40 < 2 ^ 134:=by decide
  split at h <;> omega
 by_cases h0:i.natAbs=0
 ·rw[h0];decide
 ·have:=(Nat.log2_lt h0).mpr h2;omega
mutual
def aG:Tr->Str
 | .lst xs=>"["++Txt.join ", " (cz xs)++"]"
 | d=>jT d
def cz:List Tr->List Str
 | []=>[]
 | d::ds=>aG d::cz ds
end
theorem uS:∀ xs:List Tr,cz xs=xs.map aG
 | []=>by simp only[cz,h9]
 | x::r=>by simp only[cz,aO,uS r]
mutual
def szV:Tr->Nat
 | .lst xs=>2+cp xs
 | _=>100
def cp:List Tr->Nat
 | []=>0
 | d::ds=>(szV d+2)+cp ds
end
theorem uQ:∀{ds:List Tr}{d:Tr},d∈ds->szV d+2<=cp ds
 | d::ds,x,m=>by
  simp only[cp];rcases aM.mp m with e|e
  ·subst e;omega
  ·have:=uQ e;omega
theorem eZ(a b:Str):(a++b).length=a.length+b.length:=PySem.Str.length_append a b
theorem Hj(s:String):(Str.ofString s).length=s.length:=by rw[Str.ofString_eq_toList];show (s.toList.map Char.toNat).toArray.size=_;simp [String.length_toList]
theorem yg{i:Int}(h:et i=true):((toString i:String):Str).length<=50:=by
 unfold et at h;have h:=of_decide_eq_true h;rw[Hj,Int.toString_eq_repr,Int.repr_eq_if]
 by_cases h0:0<=i
 ·rw[if_pos h0];have:i.toNat.repr.length<=40:=(Nat.length_repr_le_iff (by decide)).mpr (by
   rw[if_neg (by omega)] at h;have e:((10 ^ 40:Nat):Int)=10 ^ 40:=by decide
   omega)
  omega
 ·rw[if_neg h0,String.length_append];have:(-i).toNat.repr.length<=40:=(Nat.length_repr_le_iff (by decide)).mpr (by
   rw[if_pos (by omega)] at h;have e:((10 ^ 40:Nat):Int)=10 ^ 40:=by decide
   omega)
  have e2:("-":String).length=1:=by decide
  omega
theorem sP{w:Str}(h:bK w=true):w.length<=8:=by unfold bK at h;simp only[ax,decide_eq_true_eq] at h;exact h.1.2
theorem sM{d:Tr}(h:IR d=true)(hA:a7 d=true):(jT d).length<=100:=by
 cases d with
 | non=>show ("None":Str).length<=100;decide
 | int i =>
  have:=yg (i:=i) (by simpa only [IR] using h);show ((toString i:String):Str).length<=100;omega
 | str w =>
  have:=sP (w:=w) (by simpa only [IR] using h);show (Str.empty++"'"++w++"'":Str).length<=100;rw[eZ,eZ,eZ];have e:("'":Str).length=1:=by decide
  have e2:(Str.empty:Str).length=0:=by decide
  omega
 | lst xs=>simp [a7] at hA
 | _=>simp [IR] at h
theorem jo(a:Str)(ws:List Str):Txt.join a ws=Str.join a ws:=by unfold Txt.join;rw[StrLaws.glued_eq_join]
theorem sO (ws:List Str):(Str.join ", " ws).length<=(ws.map λw=>w.length+2).sum:=by
 cases ws with
 | nil=>exact eS _
 | cons w r =>
  have:=join_length_add (w::r) (by simp);unfold piled at this;omega
mutual
theorem Hk:∀ d:Tr,IR d=true->(aG d).length<=szV d
 | .lst xs,h=>by
  simp only[aG,szV];rw[eZ,eZ,jo];have h1:=sO (cz xs);have h2:=nS xs (dH h).2;have e:("[":Str).length=1:=by decide
  have e2:("]":Str).length=1:=by decide
  omega
 | .non,h=>by simp only[aG,szV];exact sM h rfl
 | .int i,h=>by simp only[aG,szV];exact sM h rfl
 | .str i,h=>by simp only[aG,szV];exact sM h rfl
 | .bl _,h=>by simp [IR] at h
 | .tup _,h=>by simp [IR] at h
 | .dct _ _,h=>by simp [IR] at h
 | .ins _ _,h=>by simp [IR] at h
 | .exc _ _,h=>by simp [IR] at h
 | .cell _,h=>by simp [IR] at h
 | .scr _,h=>by simp [IR] at h
 | .dkf _ _,h=>by simp [IR] at h
theorem nS:∀ ds:List Tr,bg ds=true->((cz ds).map λw=>w.length+2).sum<=cp ds
 | [],_=>by simp only[cz,h9,List.sum_nil,cp];omega
 | d::ds,h=>by
  simp only[bg,ax] at h;have h1:=Hk d h.1;have h2:=nS ds h.2;simp only[cz,aO,List.sum_cons,cp];omega
end
theorem iU{a b:Str}(ha:PyData.strOk a=true)(hb:PyData.strOk b=true):PyData.strOk (a++b)=true:=by
 unfold PyData.strOk at ha hb ⊢;rw[Array.all_eq_true'] at ha hb ⊢;intro c hc;have:c∈a.cps++b.cps:=hc;rcases Array.mem_append.mp this with h|h
 ·exact ha c h
 ·exact hb c h
theorem Ea(c:Char):c.toNat < 0x110000:=by
 have h:c.val.toNat.isValidChar:=c.valid;show c.val.toNat < _;rcases h with h|h <;> omega
theorem Kr(s:String):PyData.strOk (Str.ofString s)=true:=by rw[Str.ofString_eq_toList];unfold PyData.strOk;rw[Array.all_eq_true'];intro c hc;have:c∈(s.toList.map Char.toNat).toArray:=hc;simp only[List.mem_toArray,cJ] at this;obtain⟨d,_,rfl⟩:=this;exact decide_eq_true (Ea d)
theorem BY{a:Str}(ha:PyData.strOk a=true):∀ ws:List Str,(∀ w∈ws,PyData.strOk w=true)->PyData.strOk (Str.join a ws)=true
 | [],_=>by show PyData.strOk Str.empty=true;decide +kernel
 | [x],h=>h x (a6 ..)
 | x::y::r,h=>iU (iU (h x (a6 ..)) ha) (BY ha (y::r) λw hw=>h w (aZ _ hw))
mutual
theorem uM:∀ d:Tr,IR d=true->PyData.strOk (aG d)=true
 | .lst xs,h=>by
  simp only[aG];rw[jo];exact iU (iU (by decide +kernel) (BY (by decide +kernel) _ (B1 xs (dH h).2))) (by decide +kernel)
 | .non,h=>by simp only[aG];show PyData.strOk "None"=true;decide +kernel
 | .int i,h=>by simp only[aG];exact Kr _
 | .str i,h=>by
  simp only[aG];have:=mz (w:=i) (by simpa only [IR] using h);exact iU (iU (by decide +kernel) this) (by decide +kernel)
 | .bl _,h=>by simp [IR] at h
 | .tup _,h=>by simp [IR] at h
 | .dct _ _,h=>by simp [IR] at h
 | .ins _ _,h=>by simp [IR] at h
 | .exc _ _,h=>by simp [IR] at h
 | .cell _,h=>by simp [IR] at h
 | .scr _,h=>by simp [IR] at h
 | .dkf _ _,h=>by simp [IR] at h
theorem B1:∀ ds:List Tr,bg ds=true->∀ w∈cz ds,PyData.strOk w=true
 | [],_=>by simp only[cz];exact λ_ h=>nomatch h
 | d::ds,h=>by
  simp only[bg,ax] at h;simp only[cz];intro w hw;rcases aM.mp hw with e|e
  ·subst e;exact uM d h.1
  ·exact B1 ds h.2 w e
end
section
open PySem.Builtin PySem.Builtin.Str
mutual
def dpt:Tr->Nat
 | .lst xs=>je xs+1
 | .tup xs=>je xs+1
 | _=>0
def je:List Tr->Nat
 | []=>0
 | d::ds=>max (dpt d) (je ds)
end
theorem kO:∀(ds:List Tr)(c:Nat),tl ds c=(ds.flatMap λd=>44::32::txt d)++[c]
 | [],c=>by simp [tl]
 | d::ds,c=>by
  rw[hU,kO ds c,aan];simp
theorem vU:chL ((", ":String):Str)=[44,32]:=by rw[a8];rfl
theorem vV:∀(ts:List Str)(k:Nat)(acc:Str),chL (textFrom (k+1) acc ts)=chL acc++ts.flatMap λt=>44::32::chL t
 | [],k,acc=>by simp [textFrom]
 | t::ts,k,acc=>by
  rw[textFrom,vV ts (k+1),cE,cE,if_pos (Nat.succ_pos k),vU,aan];simp
theorem vW:∀ (t:Str) (ts:List Str),chL (Str.join ((", ":String):Str) (t::ts))=chL t++ts.flatMap λt=>44::32::chL t
 | t,[]=>by simp [Str.join]
 | t,u::ts=>by
  rw[Str.join,cE,cE,vW u ts,vU,aan]
  ·simp
  ·simp
theorem sB{ts:List Str}{ds:List Tr}(h:ts.map chL=ds.map txt):(ts.flatMap λt=>44::32::chL t)=ds.flatMap λd=>44::32::txt d:=by
 have e1:(ts.flatMap λt=>44::32::chL t)=(ts.map chL).flatMap λl=>44::32::l:=by rw[List.flatMap_map]
 have e2:(ds.flatMap λd=>44::32::txt d)=(ds.map txt).flatMap λl=>44::32::l:=by rw[List.flatMap_map]
 rw[e1,e2,h]
theorem D5{ts:List Str}{ds:List Tr}(h:ts.map chL=ds.map txt):chL (listText ts)=txt (.lst ds):=by
 unfold listText;rw[cE];cases ts with
 | nil =>
  cases ds with
  | nil=>rw[txt];simp only[textFrom];rw[a8,a8];rfl
  | cons d ds=>simp at h
 | cons t ts =>
  cases ds with
  | nil=>simp at h
  | cons d ds =>
   simp only[aO,List.cons.injEq] at h;rw[textFrom,vV,cE,cE,sB h.2,h.1,txt,kO];have e0:chL ((if 0 > 0 then ", " else "":String):Str)=[]:=by rw[if_neg (by decide),a8];rfl
   rw[e0,a8,a8];simp
theorem D9{ts:List Str}{ds:List Tr}(h:ts.map chL=ds.map txt):chL (tupleText ts)=txt (.tup ds):=by
 unfold tupleText;rw[cE,cE];cases ts with
 | nil =>
  cases ds with
  | nil=>rw[txt];simp only[Str.join];decide +kernel
  | cons d ds=>simp at h
 | cons t ts =>
  cases ds with
  | nil=>simp at h
  | cons d ds =>
   simp only[aO,List.cons.injEq] at h;rw[vW,h.1];cases ts with
   | nil =>
    cases ds with
    | nil =>
     have e1:(([t]:List Str).length == 1)=true:=rfl;rw[e1,txt,a8];simp only[if_true];rw[a8];simp
    | cons e es=>simp at h
   | cons u us =>
    cases ds with
    | nil=>simp at h
    | cons e es =>
     rw[sB h.2,txt,kO];have e1:((t::u::us).length == 1)=false:=by simp
     rw[e1,a8];simp only[bd,if_false];rw[a8,aan];simp
def C1(d:Tr)(p:PyData):Prop:=rpd d=some p/\p.showable=true/\chL p.shown=txt d/\p.depth<=dpt d
def C2(ds:List Tr)(ps:List PyData):Prop:=g7 ds=some ps/\PyData.showableAll ps=true/\(PyData.shownAll ps).map chL=ds.map txt/\PyData.depthAll ps<=je ds
mutual
theorem AZ:∀ d:Tr,reT d=true->∃ p,C1 d p
 | .non,_=>⟨.none,rfl,rfl,by simp only[PyData.shown,txt];rw[a8];rfl,aP _⟩
 | .bl true,_=>⟨.bool true,rfl,rfl,by simp only[PyData.shown,txt,if_true];rw[a8];rfl,aP _⟩
 | .bl false,_=>⟨.bool false,rfl,rfl,by simp only[PyData.shown,txt,bd,if_false];rw[a8];rfl,aP _⟩
 | .int i,h=>⟨.int i,rfl,by simpa only [reT,PyData.showable] using h,by simp only[PyData.shown,txt],aP _⟩
 | .str w,h=>⟨.str w,rfl,rfl,by simp only[PyData.shown,txt];exact JE (by simpa only [reT] using h),aP _⟩
 | .lst xs,h=>by
  obtain⟨ps,h1,h2,h3,h4⟩:=ul xs (by simpa only [reT] using h);exact⟨.list ps,by simp only[rpd,h1,bF],by simpa only [PyData.showable] using h2,by simp only[PyData.shown];exact D5 h3,by simp only[PyData.depth,dpt];omega⟩
 | .tup xs,h=>by
  obtain⟨ps,h1,h2,h3,h4⟩:=ul xs (by simpa only [reT] using h);exact⟨.tuple ps,by simp only[rpd,h1,bF],by simpa only [PyData.showable] using h2,by simp only[PyData.shown];exact D9 h3,by simp only[PyData.depth,dpt];omega⟩
 | .dct _ _,h=>by simp [reT] at h
 | .ins _ _,h=>by simp [reT] at h
 | .exc _ _,h=>by simp [reT] at h
 | .cell _,h=>by simp [reT] at h
 | .scr _,h=>by simp [reT] at h
 | .dkf _ _,h=>by simp [reT] at h
theorem ul:∀ ds:List Tr,b9 ds=true->∃ ps,C2 ds ps
 | [],_=>⟨[],rfl,rfl,rfl,aP _⟩
 | d::ds,h=>by
  simp only[b9,ax] at h;obtain⟨p,a1,a2,a3,a4⟩:=AZ d h.1;obtain⟨ps,b1,b2,b3,b4⟩:=ul ds h.2;exact⟨p::ps,by simp only[g7,a1,b1],by simp only[PyData.showableAll,a2,b2,dO],by simp only[PyData.shownAll,aO,a3,b3],by simp only[PyData.depthAll,je];omega⟩
end
theorem Jc:∀ c∈kA,c < 0x110000:=by decide +kernel
theorem G5{c:Nat}(h:iA c=true):c < 0x110000:=by unfold iA at h;simp only[gA,ax,decide_eq_true_eq] at h;omega
mutual
theorem Cr:∀ d:Tr,reT d=true->∀ c∈txt d,c < 0x110000
 | .non,_=>by rw[txt];decide
 | .bl true,_=>by rw[txt];decide
 | .bl false,_=>by rw[txt];decide
 | .int i,_=>λc hc=>G5 (nK i c hc)
 | .str w,h=>by
  intro c hc;rw[txt] at hc;have hw:lz w=true:=by simpa only [reT] using h
  simp only[aY,aM,bf,cR,or_false] at hc;rcases hc with rfl|hc|rfl
  ·decide
  ·exact Jc c (of_decide_eq_true (b7.mp hw c hc))
  ·decide
 | .lst xs,h=>by
  have h2:b9 xs=true:=by simpa only [reT] using h
  have ht:=uX xs h2;cases xs with
  | nil=>rw[txt];decide
  | cons d ds =>
   intro c hc;rw[txt,kO] at hc;have m:=ht;simp only[aM,bf,List.mem_flatMap,cR,or_false] at hc;rcases hc with rfl|hc|⟨e,he,rfl|rfl|hc⟩|rfl
   ·decide
   ·exact m d (a6 ..) c hc
   ·decide
   ·decide
   ·exact m e (aZ _ he) c hc
   ·decide
 | .tup xs,h=>by
  have h2:b9 xs=true:=by simpa only [reT] using h
  have m:=uX xs h2;cases xs with
  | nil=>rw[txt];decide
  | cons d ds =>
   cases ds with
   | nil =>
    intro c hc;rw[txt] at hc;simp only[aM,bf,cR,or_false] at hc;rcases hc with rfl|hc|rfl|rfl
    ·decide
    ·exact m d (a6 ..) c hc
    ·decide
    ·decide
   | cons u us =>
    intro c hc;rw[txt,kO] at hc;simp only[aM,bf,List.mem_flatMap,cR,or_false] at hc;rcases hc with rfl|hc|rfl|rfl|hc|⟨e,he,rfl|rfl|hc⟩|rfl
    ·decide
    ·exact m d (a6 ..) c hc
    ·decide
    ·decide
    ·exact m u (aZ _ (a6 ..)) c hc
    ·decide
    ·decide
    ·exact m e (aZ _ (aZ _ he)) c hc
    ·decide
 | .dct _ _,h=>by simp [reT] at h
 | .ins _ _,h=>by simp [reT] at h
 | .exc _ _,h=>by simp [reT] at h
 | .cell _,h=>by simp [reT] at h
 | .scr _,h=>by simp [reT] at h
 | .dkf _ _,h=>by simp [reT] at h
theorem uX:∀ ds:List Tr,b9 ds=true->∀ d∈ds,∀ c∈txt d,c < 0x110000
 | [],_=>by simp
 | d::ds,h=>by
  simp only[b9,ax] at h;intro e he;rcases aM.mp he with z|z
  ·rw[z];exact Cr d h.1
  ·exact uX ds h.2 e z
end
theorem KZ{M:Me}{d:Tr}(h:reT d=true):qc M d=d:=by cases d <;> first|rfl|simp [reT] at h
theorem JF{d:Tr}(h:reT d=true)(hl:(txt d).length<=big)(hd:dpt d<=100):∃ w,PyData.strOk w=true/\chL w=txt d/\∀ M,ca M [d]=some (.str w,M):=by
 obtain⟨p,h1,h2,h3,h4⟩:=AZ d h;refine⟨p.shown,?_,h3,λM=>?_⟩
 ·unfold PyData.strOk;rw[Array.all_eq_true'];intro c hc;have:c∈chL p.shown:=by unfold chL;simpa using hc
  rw[h3] at this;exact decide_eq_true (Cr d h c this)
 ·have e:p.shown.length=(txt d).length:=by rw[<- h3];simp [chL,Str.length]
  simp only[ca,KZ h,h1,bD,h2,decide_eq_true (show p.depth<=100 by omega),decide_eq_true (show p.shown.length<=big by omega),dO,if_true]
end
section
abbrev Wrd:=List Nat
def brk(c:Nat):Bool:=c == 91||c == 93||c == 44
def flu(now:Wrd):List Wrd:=if now=[] then [] else [now]
def aF:Wrd->List Nat->List Wrd
 | now,[]=>flu now
 | now,c::r=>if c=32 then flu now++aF [] r else if brk c=true then flu now++[c]::aF [] r else aF (now++[c]) r
def wsG:Wrd->List Nat->List Wrd
 | now,[]=>flu now
 | now,c::r=>if c=32 then flu now++wsG [] r else wsG (now++[c]) r
def hR(l:List Nat):List Nat:=l.flatMap λc=>if brk c=true then [32,c,32] else [c]
theorem rH{c:Nat}:brk c=true↔c=91∨c=93∨c=44:=by simp [brk,or_assoc]
theorem p0(c:Nat)(r:List Nat):hR (c::r)=(if brk c=true then [32,c,32] else [c])++hR r:=rfl
theorem qf:∀(l:List Nat)(now:Wrd),wsG now (hR l)=aF now l
 | [],now=>rfl
 | c::r,now=>by
  rw[p0]
  by_cases hb:brk c=true
  ·have h32:c≠32:=by rintro rfl;simp [brk] at hb
   rw[if_pos hb];simp only[aY,bR,wsG,aF,if_pos rfl,if_neg h32,if_pos hb];rw[qf r []];simp [flu]
  ·rw[if_neg hb];simp only[aY,bR,wsG,aF]
   by_cases h32:c=32
   ·rw[if_pos h32,if_pos h32,qf r []]
   ·rw[if_neg h32,if_neg h32,if_neg hb,qf r]
def arr:List Nat->Bool
 | c::d::r=>(c == 45&&d == 62)||arr (d::r)
 | _=>false
theorem jS{c:Nat}{r:List Nat}(h:c≠45):arr (c::r)=arr r:=by
 cases r with
 | nil=>rfl
 | cons d r=>simp [arr,h]
theorem vI{c d:Nat}{r:List Nat}(h:d≠62):arr (c::d::r)=arr (d::r):=by simp [arr,h]
theorem rB:∀ l:List Nat,arr (hR l)=arr l
 | []=>rfl
 | c::r=>by
  rw[p0];have ih:=rB r
  by_cases hb:brk c=true
  ·have hc:c≠45:=by rintro rfl;simp [brk] at hb
   rw[if_pos hb];simp only[aY,bR];rw[jS (by decide),jS hc,jS (by decide),jS hc,ih]
  ·rw[if_neg hb];simp only[aY,bR]
   by_cases hc:c=45
   ·subst hc;cases r with
    | nil=>rfl
    | cons d r =>
     rw[p0] at ih ⊢
     by_cases hd:brk d=true
     ·have d62:d≠62:=by rintro rfl;simp [brk] at hd
      rw[if_pos hd] at ih ⊢;simp only[aY,bR] at ih ⊢;rw[vI (by decide),ih,vI d62]
     ·rw[if_neg hd] at ih ⊢;simp only[aY,bR] at ih ⊢;simp only[arr,ih]
   ·rw[jS hc,jS hc,ih]
open PySem.StrLaws in
theorem AU:∀ l:List Nat,arr l=false->replL [45,62] [32,45,62,32] l=l
 | [],_=>replL_nil
 | c::r,h=>by
  have h2:arr r=false:=by
   cases r with
   | nil=>rfl
   | cons d r=>simp only[arr,hZ] at h;exact h.2
  rw[replL_miss (λe=>?_),AU r h2];cases r with
  | nil=>simp at e
  | cons d r =>
   simp only[az,aN,ia,ib,List.cons.injEq,and_true] at e;obtain⟨rfl,rfl⟩:=e;simp [arr] at h
open PySem.StrLaws in
theorem CG:∀(n:Nat)(l:List Nat),l.length<=n->arr l=true->∀ now,[45,62]∈wsG now (replL [45,62] [32,45,62,32] l)
 | n,[],_,h,_=>by simp [arr] at h
 | 0,c::r,hl,_,_=>by simp at hl
 | n+1,c::r,hl,h,now=>by
  by_cases hh:(c::r).take ([45,62]:List Nat).length=[45,62]
  ·rw[replL_hit (by simp) hh];have:wsG now ([32,45,62,32]++replL [45,62] [32,45,62,32] ((c::r).drop ([45,62]:List Nat).length))=flu now++([45,62]::wsG [] (replL [45,62] [32,45,62,32] ((c::r).drop ([45,62]:List Nat).length))):=by
    simp only[aY,bR,wsG];simp [flu]
   rw[this];simp
  ·rw[replL_miss hh];have h2:arr r=true:=by
    cases r with
    | nil=>simp [arr] at h
    | cons d r =>
     simp only[arr,gA,ax,beq_iff_eq] at h;rcases h with ⟨rfl,rfl⟩|h
     ·exact absurd rfl hh
     ·exact h
   have ih:=CG n r (by simp at hl;omega) h2;simp only[wsG]
   by_cases hc:c=32
   ·rw[if_pos hc];exact bf.mpr (.inr (ih []))
   ·rw[if_neg hc];exact ih _
theorem Ci:∀(l:List Nat)(now:Wrd)(x:Nat),x∈now->∃ w∈aF now l,x∈w
 | [],now,x,h=>⟨now,by
   have:now≠[]:=λe=>by rw[e] at h;cases h
   simp [aF,flu,this],h⟩
 | c::r,now,x,h=>by
  have hn:now≠[]:=λe=>by rw[e] at h;cases h
  have hf:now∈flu now:=by simp [flu,hn]
  simp only[aF]
  by_cases hc:c=32
  ·rw[if_pos hc];exact⟨now,bf.mpr (.inl hf),h⟩
  ·rw[if_neg hc]
   by_cases hb:brk c=true
   ·rw[if_pos hb];exact⟨now,bf.mpr (.inl hf),h⟩
   ·rw[if_neg hb];exact Ci r _ x (bf.mpr (.inl h))
theorem Cf:∀(l:List Nat)(now:Wrd),arr l=true->∃ w∈aF now l,62∈w
 | [],_,h=>by simp [arr] at h
 | [c],_,h=>by simp [arr] at h
 | c::d::r,now,h=>by
  simp only[arr,gA,ax,beq_iff_eq] at h;rcases h with ⟨rfl,rfl⟩|h
  ·have e:aF now (45::62::r)=aF (now++[45]++[62]) r:=rfl;rw[e];exact Ci r _ 62 (by simp)
  ·have ih:=λnow=>Cf (d::r) now h;rw[aF]
   by_cases hc:c=32
   ·rw[if_pos hc];obtain⟨w,hw,h6⟩:=ih [];exact⟨w,bf.mpr (.inr hw),h6⟩
   ·rw[if_neg hc]
    by_cases hb:brk c=true
    ·rw[if_pos hb];obtain⟨w,hw,h6⟩:=ih [];exact⟨w,bf.mpr (.inr (aZ _ hw)),h6⟩
    ·rw[if_neg hb];exact ih _
open PySem.StrLaws in
theorem lH(b:Nat):∀ l:List Nat,replL [b] [32,b,32] l=l.flatMap λc=>if c=b then [32,c,32] else [c]
 | []=>replL_nil
 | c::r=>by
  rw[aan]
  by_cases h:c=b
  ·subst h;rw[if_pos rfl,replL_hit (by simp) rfl];exact congrArg _ (lH c r)
  ·rw[if_neg h,replL_miss (λe=>h (by simpa using e)),lH b r];rfl
theorem Kl(l:List Nat):((l.flatMap λc=>if c=91 then [32,c,32] else [c]).flatMap λc=>if c=93 then [32,c,32] else [c]).flatMap (λc=>if c=44 then [32,c,32] else [c])=hR l:=by
 rw[List.flatMap_assoc,List.flatMap_assoc];unfold hR
 congr 1
 funext c
 by_cases h1:c=91
 ·subst h1;rfl
 ·by_cases h2:c=93
  ·subst h2;rfl
  ·by_cases h3:c=44
   ·subst h3;rfl
   ·have hb:¬ brk c=true:=by rw[rH];omega
    simp [h1,h2,h3,hb]
theorem D8(y:Str):chL (eB y)=32::(chL y++[32]):=by
 unfold eB;rw[cE,cE,cE];have e:chL (" ":Str)=[32]:=by rw[a8];rfl
 have e0:chL Str.empty=[]:=rfl;rw[e,e0];rfl
open PySem.StrLaws in
theorem mY{x y:Str}(hy:1<=y.length):chL (e9 x y)=replL (chL y) (32::(chL y++[32])) (chL x):=by have:=replace_list (x:=x) (y:=y) (z:=eB y) hy;unfold e9;rw[<- D8];exact this
open PySem.StrLaws in
theorem mZ(x:Str):chL (dL x)=replL [45,62] [32,45,62,32] (hR (chL x)):=by
 have s1:chL ("[":Str)=[91]:=by rw[a8];rfl
 have s2:chL ("]":Str)=[93]:=by rw[a8];rfl
 have s3:chL (",":Str)=[44]:=by rw[a8];rfl
 have s4:chL ("->":Str)=[45,62]:=by rw[a8];rfl
 show chL (e9 (e9 (e9 (e9 x "[") "]") ",") "->")=_;rw[mY (by decide),mY (by decide),mY (by decide),mY (by decide),s1,s2,s3,s4];simp only[aY,bR];rw[lH,lH,lH,Kl]
def sgP(x:Str):List Wrd:=wsG [] (chL (dL x))
def sgL(x:Str):List Wrd:=aF [] (chL x)
theorem JX{x:Str}(h:arr (chL x)=false):sgP x=sgL x:=by unfold sgP sgL;rw[mZ,AU _ (by rw[rB];exact h),qf]
theorem JW{x:Str}(h:arr (chL x)=true):[45,62]∈sgP x/\∃ w∈sgL x,62∈w:=by refine⟨?_,Cf _ _ h⟩;unfold sgP;rw[mZ];exact CG _ _ (aP _) (by rw[rB];exact h) []
theorem uK:∀(l acc:List Nat),(TL.spl [32] 0 acc l).filter (λw=>!w.isEmpty)=wsG acc l
 | [],acc=>by
  rw[TL.spl_nil];cases acc <;> simp [wsG,flu]
 | c::r,acc=>by
  by_cases h:c=32
  ·subst h;rw[TL.spl_hit rfl];simp only[wsG,if_pos rfl,az,aN,List.filter_cons];rw[<- uK r []];cases acc <;> simp [flu]
  ·rw[TL.spl_miss (by simp [TL.pre,h]),uK r];simp only[wsG,if_neg h]
theorem Ko (x:Str):((Txt.split x " ").map chL).filter (λw=>!w.isEmpty)=wsG [] (chL x):=by
 have h:=TL.split_spl x " " (by show chL (" ":Str)≠[];rw[a8];simp) (by
  have e:Builtin.Str.strKind (" ":Str)=1:=by decide +kernel
  rw[e];unfold Builtin.Str.strKind
  split
  ·omega
  ·split <;> omega)
 have e:TL.tl (" ":Str)=[32]:=by show chL (" ":Str)=[32];rw[a8];rfl
 rw[e] at h;have h2:(Txt.split x " ").map chL=TL.spl [32] 0 [] (chL x):=h;rw[h2,uK]
end
abbrev drK:List Key:=[.inr "great",.inr "cells",.inr "rest",.inr "turn"]
structure Dr(g t:Nat)(M:Me):Prop where
 ex:∃(gs cells:List Int)(rest turn:Int),M[g]?=some (.lst (gs.map Tr.int))/\M[g+1]?=some (.dct drK [.cell g,.lst (cells.map Tr.int),.int rest,.int turn])/\0<=turn/\turn<=t/\cells.length<=63/\0<=rest/\∀ x∈gs,0<=x
structure bN(g t:Nat)(M M':Me):Prop where
 dr:Dr g t M'
 len:M'.length=M.length
 other:∀ i,i≠g->i≠g+1->M'[i]?=M[i]?
def cZ:Sf:=⟨λds M Q _=>∃ g t n,ds=[.cell (g+1),.int n]/\Dr g t M/\t < 2 ^ 40/\0 < n/\n < 1073741824/\∀ r M',0<=r->r < n->bN g (t+1) M M'->Q (.int r) M',
 λh _ ⟨g,t,n,a,b,c,d,e,q⟩=>⟨g,t,n,a,b,c,d,e,λr M' h1 h2 h3=>h _ _ (q r M' h1 h2 h3)⟩⟩
section
variable {a b c d x:Tr}
theorem FZ:fL drK [a,b,c,d] (.inr "great")=some a:=by rfl
theorem FY:fL drK [a,b,c,d] (.inr "cells")=some b:=by rfl
theorem F4:fL drK [a,b,c,d] (.inr "rest")=some c:=by rfl
theorem F5:fL drK [a,b,c,d] (.inr "turn")=some d:=by rfl
theorem JT:eA drK [a,b,c,d] (.inr "rest") x=(drK,[a,b,x,d]):=by rfl
theorem JU:eA drK [a,b,c,d] (.inr "turn") x=(drK,[a,b,c,x]):=by rfl
theorem xc:drK.Nodup:=by decide
theorem xb:drK.length < big:=by decide
end
theorem nk{M:Me}{k:Nat}{ks:List Key}{ds:List Tr}{x:Str}{d:Tr}(h:M[k]?=some (.dct ks ds))(e:fL ks ds (.inr x)=some d):dj M (.cell k) (.str x)=some d:=by simp only[dj,jd,gn,h,bD];exact e
theorem xa{M:Me}{k:Nat}{ks:List Key}{ds ds':List Tr}{x:Str}{d:Tr}(h:M[k]?=some (.dct ks ds))(n:ks.Nodup)(l:ks.length < big)(e:eA ks ds (.inr x) d=(ks,ds')):kC M (.cell k) (.str x) d=some (M.set k (.dct ks ds')):=by simp only[kC,gn,h];rw[if_pos ⟨n,l⟩,e]
theorem fJ{M:Me}{i j:Int}:eqT M (.int i) (.int j)=some (.bl (decide (i=j))):=by simp only[eqT,eqB,fi,pyd,SeqAt.shaped,dO,if_true,bF,PyData.eqv];rfl
theorem zm:∀ gs:List Int,dJ (gs.map Tr.int)=some (gs.map PyData.int)
 | []=>rfl
 | g::r=>by simp only[aO,dJ,pyd,zm r]
theorem Hg(gs:List Int):SeqAt.shaped (.list (gs.map PyData.int))=true:=by
 have h1:∀ l:List Int,PyData.canLayAll0 (l.map PyData.int)=true:=λl=>by
  induction l with
  | nil=>rfl
  | cons g r ih=>simp only[aO,PyData.canLayAll0,PyData.canLay0,ih,dO]
 have h2:∀ l:List Int,PyData.depthAll (l.map PyData.int)=0:=λl=>by
  induction l with
  | nil=>rfl
  | cons g r ih=>simp only[aO,PyData.depthAll,PyData.depth,ih];rfl
 simp only[SeqAt.shaped,PyData.canLay0,PyData.depth,h1,h2]
 decide
theorem H7{M:Me}{k:Nat}{gs:List Int}(h:M[k]?=some (.lst (gs.map Tr.int))):neT M (.cell k) (.lst [])=some (.bl (!gs.isEmpty)):=by
 simp only[neT,eqB,fi,h,pyd,zm,bF,dJ];rw[Hg];cases gs with
 | nil=>rfl
 | cons g r=>rfl
def dA(g:Nat)(gs cells:List Int)(rest turn:Int)(M:Me):Prop:=M[g]?=some (.lst (gs.map Tr.int))/\M[g+1]?=some (.dct drK [.cell g,.lst (cells.map Tr.int),.int rest,.int turn])
theorem dA.set{g:Nat}{gs cells:List Int}{rest turn:Int}{M:Me}(h:dA g gs cells rest turn M)(r' t':Int):dA g gs cells r' t' (M.set (g+1) (.dct drK [.cell g,.lst (cells.map Tr.int),.int r',.int t'])):=by have hl:=(bL.mp h.2).1;exact⟨by rw[eQ (by omega)];exact h.1,by rw[fE hl]⟩
theorem dA.pop{g:Nat}{x:Int}{gs cells:List Int}{rest turn:Int}{M:Me}(h:dA g (x::gs) cells rest turn M):lA M (.cell g) [.int 0]=some (.int x,M.set g (.lst (gs.map Tr.int)))/\dA g gs cells rest turn (M.set g (.lst (gs.map Tr.int))):=by have hl:=(bL.mp h.1).1;refine⟨?_,by rw[fE hl],by rw[eQ (by omega)];exact h.2⟩;simp only[lA,h.1];rfl
structure cK(g:Nat)(M M':Me):Prop where
 len:M'.length=M.length
 other:∀ i,i≠g->i≠g+1->M'[i]?=M[i]?
theorem cK.refl(g:Nat)(M:Me):cK g M M:=⟨rfl,λ_ _ _=>rfl⟩
theorem cK.trans{g:Nat}{M M1 M2:Me}(a:cK g M M1)(b:cK g M1 M2):cK g M M2:=⟨b.len.trans a.len,λi h1 h2=>(b.other i h1 h2).trans (a.other i h1 h2)⟩
theorem cK.setD{g:Nat}{M:Me}{c:Ce}:cK g M (M.set (g+1) c):=⟨by simp,λi _ h=>by rw[eQ (Ne.symm h)]⟩
theorem cK.setG{g:Nat}{M:Me}{c:Ce}:cK g M (M.set g c):=⟨by simp,λi h _=>by rw[eQ (Ne.symm h)]⟩
theorem dA.get{g:Nat}{gs cells:List Int}{rest turn:Int}{M:Me}(h:dA g gs cells rest turn M) :
  dj M (.cell (g+1)) (.str "great")=some (.cell g)/\dj M (.cell (g+1)) (.str "cells")=some (.lst (cells.map Tr.int))/\dj M (.cell (g+1)) (.str "rest")=some (.int rest)/\dj M (.cell (g+1)) (.str "turn")=some (.int turn) :=
 ⟨nk h.2 FZ,nk h.2 FY,nk h.2 F4,nk h.2 F5⟩
theorem dA.putR {g:Nat} {gs cells:List Int} {rest turn:Int} {M:Me} (h:dA g gs cells rest turn M) (x:Int):kC M (.cell (g+1)) (.str "rest") (.int x)=some (M.set (g+1) (.dct drK [.cell g,.lst (cells.map Tr.int),.int x,.int turn])):=xa h.2 xc xb JT
theorem dA.putT {g:Nat} {gs cells:List Int} {rest turn:Int} {M:Me} (h:dA g gs cells rest turn M) (x:Int):kC M (.cell (g+1)) (.str "turn") (.int x)=some (M.set (g+1) (.dct drK [.cell g,.lst (cells.map Tr.int),.int rest,.int x])):=xa h.2 xc xb JU
section
variable {g:Nat}{n:Int}{x2 x3 x4 x5:Option Tr}
abbrev ρT(g:Nat)(n:Int)(x2 x3 x4 x5:Option Tr):En:=[some (.cell (g+1)),some (.int n),x2,x3,x4,x5]
theorem Ky{F:Fin}{gs cells:List Int}{rest turn:Int}{M:Me}(h:dA g gs cells rest turn M)(hg:∀ x∈gs,0<=x)(hr:0<=rest)
  (k:∀ gs' rest' M',dA g gs' cells rest' turn M'->cK g M M'->(∀ x∈gs',0<=x)->0<=rest'->F.nx (ρT g n x2 x3 x4 x5) M'):pA.f F (ρT g n x2 x3 x4 x5) M:=by
 obtain⟨e1,e2,e3,e4⟩:=h.get;have triv:F.nx (ρT g n x2 x3 x4 x5) M:=k gs rest M h (cK.refl g M) hg hr;simp only[pA,GT,dQ,am,F3,aa,dC,aE,e3,au,fJ,aL]
 by_cases h0:rest=0
 ·simp only[h0,decide_true,if_true,e1,aI,ae,aN,eS,true_and,H7 h.1];cases gs with
  | nil=>simpa using triv
  | cons x gs =>
   obtain⟨p1,p2⟩:=h.pop;simp only[List.isEmpty_cons,dX,if_true,iH,gl,ac,aa,F3,dC,ae,aE,e1,au,bj,h.1,aar,true_and,p1,p2.putR];refine k gs x _ (p2.set x turn) (cK.setG.trans cK.setD) (λy hy=>hg y (aZ _ hy)) (hg x (a6 ..))
 ·simpa only [h0,decide_false,bd,if_false] using triv
theorem kg{M:Me}{i j:Int}(h:g9 i=true∨g9 j=true):bT M (.int i) (.int j)=some (.int (i * j)):=by
 simp only[bT];rw[if_pos (by rcases h with h|h <;> simp [h])]
theorem J1{i:Int}(h0:0<=i)(h1:i < 2 ^ 64):g9 i=true:=by unfold g9;simp only[ax,decide_eq_true_eq];omega
theorem sT{M:Me}{i j:Int}(h:0 < j):jv M (.int i) (.int j)=some (.int (i % j)):=by simp only[jv];rw[if_pos h]
theorem Kz{F:Fin}{gs cells:List Int}{rest turn:Int}{M:Me}{t:Nat}(h:dA g gs cells rest turn M)(hr:0<=rest)(h0:0<=turn)(ht:turn<=t)(hb:t < 2 ^ 40)(hc:cells.length<=63)
  (k:∀ rest' turn' M' x3 x4 x5,dA g gs cells rest' turn' M'->cK g M M'->0<=rest'->0<=turn'->turn'<=(t+1:Nat)->F.nx (ρT g n x2 x3 x4 x5) M'):lG.f F (ρT g n x2 x3 x4 x5) M:=by
 obtain⟨e1,e2,e3,e4⟩:=h.get;simp only[lG,GT,am,F3,aa,dC,aE,e3,au,fJ,aL]
 by_cases hz:rest=0
 ·simp only[hz,decide_true,if_true];have h1:=h.set rest (turn+1);simp only[Av,aj,Aw,iH,F3,aa,dC,aE,e4,au,aq,h.putT,Ax,aC,h1.get,aB,ac,ae];rw[kg (.inl (by decide))];simp only[au,bx,cO,bj,bF,aq,br,cj,bC,bE]
  -- the loop over the cells
  simp only[Ay,ez,c7,F3,aa,dC,aE,h1.get,au,iw];have hm0:(0:Int)<=7919 * (turn+1)+(cells.length:Nat)/\7919 * (turn+1)+(cells.length:Nat) < 2 ^ 63:=by omega
  generalize hM1:(M.set (g+1) (.dct drK [.cell g,.lst (cells.map Tr.int),.int rest,.int (turn+1)]))=Mz at h1 ⊢;have b1:cK g M Mz:=by rw[<- hM1];exact cK.setD
  generalize 7919 * (turn+1)+((cells.length:Nat):Int)=m0 at hm0 ⊢;refine jj (λ_ ρ M'=>Mz=M'/\∃ m x4 x5,ρ=ρT g n x2 (some (.int m)) x4 x5/\0<=m/\m < 2 ^ 63) _ 0 _ _ ⟨rfl,m0,x4,x5,rfl,hm0⟩ ?_ ?_
  ·rintro i x ρ M' hx ⟨rfl,m,y4,y5,rfl,h2,h3⟩;rw[gB] at hx;obtain⟨c,_,rfl⟩:=bz.mp hx;refine⟨_,rfl,?_⟩;simp only[aC,F3,aB,ac,ae,aa,dC,bC,bE,bB,aE];rw[kg (.inr (by decide))];simp only[au,aq,dk];rw[sT (by decide)];simp only[br,bC,bE];refine⟨trivial,_,_,_,rfl,Int.emod_nonneg _ (by decide),?_⟩;have:=Int.emod_lt_of_pos (m * 48271+c+11) (b:=2147483647) (by decide);omega
  ·rintro ρ M' ⟨rfl,m,y4,y5,rfl,h2,h3⟩;simp only[Az,ez,gQ,ac,ae,dC];refine⟨by decide,?_⟩;refine jj (λ_ ρ M'=>Mz=M'/\∃ m x4 x5,ρ=ρT g n x2 (some (.int m)) x4 x5/\0<=m/\m < 2 ^ 63) _ 0 _ _ ⟨rfl,m,y4,y5,rfl,h2,h3⟩ ?_ ?_
   ·rintro i x ρ M' hx ⟨rfl,m,y4,y5,rfl,h2,h3⟩;refine⟨_,rfl,?_⟩;simp only[aC,F3,aB,ac,ae,aa,dC,bC,bE,bB,aE];rw[kg (.inr (J1 h2 (by omega))),kg (.inl (by decide))];simp only[au,aq,dk];rw[sT (by decide)];simp only[br,bC,bE];refine⟨trivial,_,_,_,rfl,Int.emod_nonneg _ (by decide),?_⟩;have:=Int.emod_lt_of_pos (m * m+16807 * m+13) (b:=2305843009213693951) (by decide);omega
   ·rintro ρ M' ⟨rfl,m,y4,y5,rfl,h2,h3⟩;simp only[aa,dC,bB,aE,au,h1.putR];exact k m (turn+1) _ _ _ _ (h1.set m (turn+1)) (b1.trans cK.setD) h2 (by omega) (by omega)
 ·simp only[hz,decide_false,bd,if_false];exact k rest turn M x3 x4 x5 h (cK.refl g M) hr h0 (by omega)
end
theorem GN:Go 2 qY Au cZ:=λds M Q E hl h=>by
 obtain⟨g,t,n,rfl,⟨gs,cells,rest,turn,hg,hd,ht0,ht,hc,hr,hgs⟩,hb,hn,hn2,q⟩:=h;have h:dA g gs cells rest turn M:=⟨hg,hd⟩
 show (aj pA (aj lG (aj kE (aj kF (ao (aa 2)))))).f (ap M.length Q E) (ρT g n none none none none) M;refine aA (Ky (x2:=none) (x3:=none) (x4:=none) (x5:=none) h hgs hr λgs1 rest1 M1 h1 b1 hg1 hr1=>?_);show lG.f { ap M.length Q E with nx:=(aj kE (aj kF (ao (aa 2)))).f (ap M.length Q E) } (ρT g n none none none none) M1;refine @Kz g n none none none none { ap M.length Q E with nx:=(aj kE (aj kF (ao (aa 2)))).f (ap M.length Q E) } gs1 cells rest1 turn M1 t h1 hr1 ht0 ht hb hc λrest2 turn2 M2 y3 y4 y5 h2 b2 hr2 ht2 ht3=>?_;show (aj kE (aj kF (ao (aa 2)))).f (ap M.length Q E) (ρT g n none y3 y4 y5) M2;simp only[aj,kE,aC,F3,aB,ac,ae,aa,dC,aE,bB,h2.get,au,dk];rw[sT hn];simp only[br,bC,bE,kF,iH,F3,aa,dC,aE,bB,h2.get,au,nr];rw[if_pos ⟨hn,hn2⟩];simp only[h2.putR,ao,aa,aE,bB];have h3:=h2.set (rest2 / n) turn2;have b3:cK g M (M2.set (g+1) (.dct drK [.cell g,.lst (cells.map Tr.int),.int (rest2 / n),.int turn2])):=(b1.trans b2).trans cK.setD;exact .inl (q _ _ (Int.emod_nonneg _ (by omega)) (Int.emod_lt_of_pos _ hn) ⟨⟨gs1,cells,rest2 / n,turn2,h3.1,h3.2,ht2,ht3,hc,Int.ediv_nonneg hr2 (by omega),hg1⟩,b3.len,b3.other⟩)
theorem Dr.mono{g t t':Nat}{M:Me}(h:Dr g t M)(l:t<=t'):Dr g t' M:=by obtain⟨gs,cells,rest,turn,a,b,c,d,e⟩:=h.ex;exact⟨gs,cells,rest,turn,a,b,c,by omega,e⟩
theorem bN.mono{g t t':Nat}{M M':Me}(h:bN g t M M')(l:t<=t'):bN g t' M M':=⟨h.dr.mono l,h.len,h.other⟩
theorem bN.trans{g t t':Nat}{M M1 M2:Me}(a:bN g t M M1)(b:bN g t' M1 M2):bN g t' M M2:=⟨b.dr,b.len.trans a.len,λi h1 h2=>(b.other i h1 h2).trans (a.other i h1 h2)⟩
theorem bN.refl{g t:Nat}{M:Me}(h:Dr g t M):bN g t M M:=⟨h,rfl,λ_ _ _=>rfl⟩
def eK:Tr->Option (List Tr)
 | .lst xs=>some xs
 | .tup xs=>some xs
 | .str z=>if z.length<=big then some (fA z) else none
 | _=>none
theorem nQ{n:Nat}{i:Int}(h0:0<=i)(h1:i < n):ixN n i=some i.toNat:=by unfold ixN;rw[if_pos h0,if_pos h1]
theorem rC{α:Type}{xs:List α}{i:Int}(h0:0<=i)(h1:i < xs.length):∃ x∈xs,atI xs i=some x:=by
 unfold atI;rw[nQ h0 h1,bD];have:i.toNat < xs.length:=by omega
 exact⟨xs[i.toNat],List.getElem_mem this,eE this⟩
theorem Jb{M:Me}{s:Tr}{xs:List Tr}(h:eK s=some xs):bx M [s]=some (.int xs.length,M):=by
 cases s with
 | lst ys=>simp only[eK,Option.some.injEq] at h;subst h;rfl
 | tup ys=>simp only[eK,Option.some.injEq] at h;subst h;rfl
 | str z =>
  simp only[eK] at h
  split at h
  ·rename_i hl;cases h;simp only[bx];rw[if_pos hl,fA,cj,Array.length_toList];rfl
  ·cases h
 | _=>simp [eK] at h
theorem zd{M:Me}{s:Tr}{xs:List Tr}{r:Int}(h:eK s=some xs)(h0:0<=r)(h1:r < xs.length):∃ x∈xs,L4 M s (.int r)=some x:=by
 cases s with
 | lst ys=>simp only[eK,Option.some.injEq] at h;subst h;exact rC h0 h1
 | tup ys=>simp only[eK,Option.some.injEq] at h;subst h;exact rC h0 h1
 | str z =>
  simp only[eK] at h
  split at h
  ·rename_i hl;cases h;rw[fA,cj] at h1;obtain⟨c,hc,e⟩:=rC (xs:=z.cps.toList) h0 h1;refine⟨.str ⟨#[c]⟩,cJ.mpr ⟨c,hc,rfl⟩,?_⟩;simp only[L4];rw[if_pos hl,e];rfl
  ·cases h
 | _=>simp [eK] at h
def fW:Sf:=⟨λds M Q _=>∃ g t s xs,ds=[.cell (g+1),s]/\eK s=some xs/\0 < xs.length/\xs.length < 1073741824/\Dr g t M/\t < 2 ^ 40/\∀ x∈xs,∀ M',bN g (t+1) M M'->Q x M',
 λh _ ⟨g,t,s,xs,a,b,c,d,e,f,q⟩=>⟨g,t,s,xs,a,b,c,d,e,f,λx hx M' h3=>h _ _ (q x hx M' h3)⟩⟩
theorem Gz:Go 2 qT (o9 cZ) fW:=λds M Q E hl h=>by
 obtain⟨g,t,s,xs,rfl,hs,h0,h1,hd,ht,q⟩:=h;show (o9 cZ).f (ap M.length Q E) [some (.cell (g+1)),some s] M;simp only[o9,ao,F3,GE,ac,ae,aB,aa,bB,aE,Jb hs,au,bq,az,aN,true_and];refine⟨g,t,xs.length,rfl,hd,ht,by omega,by omega,λr M' a b c=>?_⟩;obtain⟨x,hx,e⟩:=zd (M:=M') hs a b;rw[e];exact .inl (q x hx M' c)
def jt(w:Str):Prop:=∀ c∈w.cps.toList,97<=c/\c<=122
def eU:Tr->Prop
 | .non=>True
 | .int i=>i.natAbs < 10 ^ 40
 | .str w=>jt w/\1<=w.length/\w.length<=8
 | _=>False
def pZ:Sf:=⟨λds M Q _=>∃ g t most,ds=[.cell (g+1),.int most]/\2<=most/\most<=100/\Dr g t M/\t+200 < 2 ^ 40/\∀ w M',jt w->1<=w.length->(w.length:Int)<=most->bN g (t+200) M M'->Q (.str w) M',
 λh _ ⟨g,t,m,a,b,c,d,e,q⟩=>⟨g,t,m,a,b,c,d,e,λw M' h1 h2 h3 h4=>h _ _ (q w M' h1 h2 h3 h4)⟩⟩
def jD:Sf:=⟨λds M Q _=>∃ g t,ds=[.cell (g+1)]/\Dr g t M/\t+300 < 2 ^ 40/\∀ a M',eU a->bN g (t+300) M M'->Q a M',
 λh _ ⟨g,t,a,b,c,q⟩=>⟨g,t,a,b,c,λw M' h1 h2=>h _ _ (q w M' h1 h2)⟩⟩
theorem Je{M:Me}{i j:Int}(h:0<=j/\j<=1000000/\i.natAbs < 2 ^ 64):fv M (.int i) (.int j)=some (.int (i ^ j.toNat)):=by simp only[fv];rw[if_pos h]
theorem HL:jt "a":=by unfold jt;decide
theorem HM:jt "b":=by unfold jt;decide
theorem F6:Go 1 qO (oW cZ pZ) jD:=λds M Q E hl h=>by
 obtain⟨g,t,rfl,hd,ht,q⟩:=h;show (oW cZ pZ).f (ap M.length Q E) [some (.cell (g+1)),none] M;simp only[oW,aj,zF,aC,GE,ac,ae,aa,dC,aE,bq,az,aN,true_and];refine⟨g,t,12,rfl,hd,by omega,by decide,by decide,λr M' r0 r1 d1=>?_⟩;simp only[br,au,bC,bE,zG,GT,am,F3,aa,dC,aE,bB,ltT,c5,aL]
 by_cases h10:r < 10
 ·simp only[h10,decide_true,if_true,ao,F3,aI,ac,ae,eV,dC,aa,aE,bB,az,aN];refine⟨by decide,?_⟩;obtain⟨x,hx,e⟩:=zd (M:=M') (s:=.lst [.non,.int 0,.int 1,.str "a",.str "b",.int 0,.int 1,.str "a",.int (-1),.int 2]) rfl r0 h10;rw[e];refine .inl (q x M' ?_ (d1.mono (by omega)));simp only[aM,cR,or_false] at hx;rcases hx with rfl|rfl|rfl|rfl|rfl|rfl|rfl|rfl|rfl|rfl <;> simp only[eU] <;> first|trivial|decide|exact⟨HL,by decide,by decide⟩|exact⟨HM,by decide,by decide⟩
 ·simp only[h10,decide_false,bd,if_false,zH,GT,am,F3,aa,dC,aE,bB,fJ,au,aL]
  by_cases h11:r=10
  ·simp only[h11,decide_true,if_true,ao,GE,ac,ae,aa,dC,aE,bq,az,aN,true_and];exact⟨g,t+1,8,rfl,by decide,by decide,d1.dr,by omega,λw M2 a b c d=>.inl (q _ M2 ⟨a,b,by omega⟩ ((d1.trans d).mono (by omega)))⟩
  ·simp only[h11,decide_false,bd,if_false,zI,ao,F3,GE,ac,ae,aa,dC,aE,bq,az,aN,true_and];refine⟨g,t+1,2,rfl,d1.dr,by omega,by decide,by decide,λr2 M2 a0 a1 d2=>?_⟩;dsimp only;rw[kg (.inl (by decide))];simp only[au,dN];rw[Je (by decide)];simp only[au,dN];refine⟨g,t+1+1,3,rfl,d2.dr,by omega,by decide,by decide,λr3 M3 c0 c1 d3=>?_⟩;dsimp only;rw[kg (.inl (by unfold g9;simp only[ax,decide_eq_true_eq];omega))];refine .inl (q _ M3 ?_ (((d1.trans d2).trans d3).mono (by omega)));simp only[eU];have e40:(10:Int) ^ (Int.toNat 40)=10 ^ 40:=rfl;have hr2:r2=0∨r2=1:=by omega
   rcases hr2 with rfl|rfl
   ·simp only[Int.mul_zero,Int.sub_zero,Int.one_mul];omega
   ·simp only[Int.mul_one];omega
theorem v9{ρ:En}{g:Tg}{te:Rd Tr}{Q:List Tr->Me->Prop}(I:Nat->List Tr->Me->Prop)(xs:List Tr)(n:Nat)(acc:List Tr)(M:Me)(h0:I n acc M)
  (hs:∀(i:Nat)(x:Tr)(acc:List Tr)(M:Me),xs[i]?=some x->I (n+i) acc M->∃ ρ',br g x ρ=some ρ'/\te.f ρ' M (λy M2=>acc.length < big/\I (n+i+1) (acc++[y]) M2) (λ_ _=>False))
  (hn:∀ acc M,I (n+xs.length) acc M->Q acc M):cG g cL te ρ xs acc M Q:=rP I xs n acc M h0 (λi x acc M e h=>by
 obtain⟨ρ',e1,q⟩:=hs i x acc M e h;refine⟨ρ',e1,?_⟩;show (if true=true then te.f ρ' M (λy M2=>acc.length < big/\I (n+i+1) (acc++[y]) M2) (λ_ _=>False) else I (n+i+1) acc M);rw[if_pos rfl];exact q) hn
theorem ya:∀ ws:List Str,(Txt.join ("":Str) ws).cps.toList=(ws.map λw=>w.cps.toList).flatten:=λws=>by
 have h:∀ ws:List Str,(Str.join ("":Str) ws).cps.toList=(ws.map λw=>w.cps.toList).flatten:=by
  intro ws
  induction ws with
  | nil=>rfl
  | cons x r ih =>
   cases r with
   | nil=>simp [Str.join]
   | cons y s =>
    have e:(Str.join ("":Str) (x::y::s)).cps.toList=x.cps.toList++((("":Str)).cps.toList++(Str.join ("":Str) (y::s)).cps.toList):=by show ((x++("":Str))++Str.join ("":Str) (y::s)).cps.toList=_;show ((x.cps++(("":Str)).cps)++(Str.join ("":Str) (y::s)).cps).toList=_;simp
    rw[e,ih];rfl
 unfold Txt.join;rw[StrLaws.glued_eq_join];exact h ws
theorem Hn:eK (.str "abcdefghijklmnopqrstuvwxyz")=some (fA "abcdefghijklmnopqrstuvwxyz"):=by simp only[eK];rw[if_pos (by decide)]
theorem Ho:∀ x∈fA "abcdefghijklmnopqrstuvwxyz",∃ c,x=.str ⟨#[c]⟩/\97<=c/\c<=122:=by
 intro x hx;obtain⟨c,hc,rfl⟩:=cJ.mp hx;refine⟨c,rfl,?_⟩;have:∀ c∈(("abcdefghijklmnopqrstuvwxyz":Str)).cps.toList,97<=c/\c<=122:=by decide
 exact this c hc
theorem yk:(fA "abcdefghijklmnopqrstuvwxyz").length=26:=by decide
theorem GU:Go 2 q7 (pD cZ fW) pZ:=λds M Q E hl h=>by
 obtain⟨g,t,most,rfl,hm0,hm1,hd,ht,q⟩:=h;show (pD cZ fW).f (ap M.length Q E) [some (.cell (g+1)),some (.int most),none,none,none] M;simp only[pD,aj,AE,aC,F3,GE,ac,ae,aI,aa,dC,br,au,bC,bE,aE,bB,bq,az,aN,true_and];refine⟨by decide,g,t,_,[.int 1,.int 2,.int most],rfl,rfl,by simp,by simp,hd,by omega,λx hx M1 d1=>?_⟩;have hx2:∃ n:Int,x=.int n/\1<=n/\n<=most:=by
  simp only[aM,cR,or_false] at hx;rcases hx with rfl|rfl|rfl
  ·exact⟨1,rfl,by omega,by omega⟩
  ·exact⟨2,rfl,by omega,by omega⟩
  ·exact⟨most,rfl,by omega,by omega⟩
 obtain⟨n,rfl,n0,n1⟩:=hx2;refine⟨g,t+1,n,rfl,d1.dr,by omega,by omega,by omega,λr M2 r0 r1 d2=>?_⟩;dsimp only;simp only[aq,br,au,bC,bE,AF,ao,jc,dC,bv,gQ,ac,ae,aa,aE,bB,dW];refine⟨by omega,?_⟩;have dr2:bN g (t+1+1) M M2:=d1.trans d2;refine v9 (λi acc M'=>∃ ws:List Str,acc=ws.map Tr.str/\ws.length=i/\(∀ w∈ws,∃ c,w=⟨#[c]⟩/\97<=c/\c<=122)/\bN g (t+2+i) M M') _ 0 [] M2 ⟨[],rfl,rfl,by simp,dr2⟩ ?_ ?_
 ·rintro i x acc M' hx ⟨ws,rfl,hwl,hws,dr⟩;have hi:i < (du 0 (1+r).toNat).length:=(bL.mp hx).1;rw[du,cj,aav] at hi;refine⟨_,rfl,?_⟩;simp only[GE,ac,ae,aa,bC,bE,aE,bB,bq,az,aN,true_and];refine⟨g,t+2+(0+i),_,_,rfl,Hn,by rw[yk];decide,by rw[yk];decide,dr.dr,by omega,λy hy M3 d3=>⟨by rw[cj,hwl];unfold big;omega,?_⟩⟩;obtain⟨c,rfl,c0,c1⟩:=Ho y hy;refine⟨ws++[⟨#[c]⟩],by simp,by rw[bt,hwl];rfl,λw hw=>?_,(dr.trans d3).mono (by omega)⟩;rcases bf.mp hw with hw|hw
  ·exact hws w hw
  ·rw[cB.mp hw];exact⟨c,rfl,c0,c1⟩
 ·rintro acc M' ⟨ws,rfl,hwl,hws,dr⟩;have hlen:(du 0 (1+r).toNat).length=(1+r).toNat:=by rw[du,cj,aav]
  rw[hlen] at hwl dr;have hsum:∀ l:List Str,(∀ w∈l,∃ c,w=⟨#[c]⟩/\97<=c/\c<=122)->(l.map (·.length)).sum=l.length/\(l.map λw=>w.cps.toList).flatten.length=l.length/\∀ c∈(l.map λw=>w.cps.toList).flatten,97<=c/\c<=122:=by
   intro l
   induction l with
   | nil=>intro _;exact⟨rfl,rfl,by simp⟩
   | cons w r ih =>
    intro hl;obtain⟨c,rfl,c0,c1⟩:=hl w (a6 ..);obtain⟨h1,h2,h3⟩:=ih λv hv=>hl v (aZ _ hv);refine⟨?_,?_,?_⟩
    ·rw[aO,List.sum_cons,h1,az];show 1+r.length=r.length+1;omega
    ·rw[aO,aaj,bt,h2,az];show 1+r.length=r.length+1;omega
    ·intro d hd;rw[aO,aaj] at hd;rcases bf.mp hd with hd|hd
     ·have:d=c:=by simpa using hd
      omega
     ·exact h3 d hd
  obtain⟨s1,s2,s3⟩:=hsum ws hws;show au (jn M' (.str "") (.lst (ws.map Tr.str))) _;have ej:jn M' (.str "") (.lst (ws.map Tr.str))=some (.str (Txt.join "" ws)):=by simp only[jn,bj,bD,uN];rw[if_pos];rw[s1];show ws.length+ws.length * 0<=big;unfold big;omega
  rw[ej];have hlen2:(Txt.join ("":Str) ws).length=ws.length:=by show (Txt.join ("":Str) ws).cps.size=_;rw[<- Array.length_toList,ya,s2]
  refine .inl (q _ M' ?_ (by rw[hlen2];omega) (by rw[hlen2];omega) (dr.mono (by omega)));intro c hc;rw[ya] at hc;exact s3 c hc
mutual
def dh:Nat->Tr->Prop
 | 0,d=>eU d
 | n+1,.lst xs=>xs.length<=4/\fZ n xs
 | n+1,d=>eU d
def fZ:Nat->List Tr->Prop
 | _,[]=>True
 | n,d::ds=>dh n d/\fZ n ds
end
theorem Cy:∀{n:Nat}{xs ys:List Tr},fZ n xs->fZ n ys->fZ n (xs++ys)
 | n,[],ys,_,h=>h
 | n,x::xs,ys,h1,h2=>by
  simp only[aY,fZ] at h1 ⊢;exact⟨h1.1,Cy h1.2 h2⟩
theorem C7{xs:List Tr}:¬ eU (.lst xs):=λh=>h
theorem Cu{n:Nat}{a:Tr}(h:eU a):dh n a:=by
 cases n with
 | zero=>simpa only [dh] using h
 | succ n =>
  cases a with
  | lst xs=>exact(C7 h).elim
  | _=>simpa only [dh] using h
def dg(d:Nat):Nat:=400 * 5 ^ d
theorem KL(d:Nat):dg (d+1)=5 * dg d:=by unfold dg;rw[Nat.pow_succ];omega
theorem Co(d:Nat):400<=dg d:=by unfold dg;have:0 < 5 ^ d:=Nat.pow_pos (by decide);omega
def hO(n:Nat):Sf:=⟨λds M Q _=>∃ g t d,ds=[.cell (g+1),.int (d:Nat)]/\d < n/\Dr g t M/\t+dg d < 2 ^ 40/\∀ v M',dh d v->bN g (t+dg d) M M'->Q v M',
 λh _ ⟨g,t,d,a,b,c,e,q⟩=>⟨g,t,d,a,b,c,e,λv M' h1 h2=>h _ _ (q v M' h1 h2)⟩⟩
theorem GP(n:Nat):Go 2 q0 (pC cZ jD (hO n)) (hO (n+1)):=λds M Q E hl h=>by
 obtain⟨g,t,d,rfl,hdn,hd,ht,q⟩:=h;have tv:=Co d;show (pC cZ jD (hO n)).f (ap M.length Q E) [some (.cell (g+1)),some (.int (d:Nat)),none] M;simp only[pC,aj,AC,GT,dF,am,F3,aa,dC,GE,ac,ae,aE,bB,fJ,au,aL,bq,az,aN,true_and]
 by_cases h0:(d:Int)=0
 ·simp only[h0,decide_true,if_true];simp only[ao,aE];exact⟨g,t,rfl,hd,by omega,λa M2 ha d2=>.inl (q a M2 (Cu ha) (d2.mono (by omega)))⟩
 ·simp only[h0,decide_false,bd,if_false];refine⟨g,t,3,rfl,hd,by omega,by decide,by decide,λr M1 r0 r1 d1=>?_⟩;dsimp only;simp only[fJ,au]
  by_cases h1:r=0
  ·simp only[h1,decide_true,if_true];simp only[ao,aE];exact⟨g,t+1,rfl,d1.dr,by omega,λa M2 ha d2=>.inl (q a M2 (Cu ha) ((d1.trans d2).mono (by omega)))⟩
  ·simp only[h1,decide_false,bd,if_false];obtain⟨e,rfl⟩:∃ e,d=e+1:=⟨d - 1,by omega⟩
   have te:=KL e;have pe:=Co e;simp only[AD,ao,bv,gQ,ac,ae,GE,aa,dC,aE,bq,az,aN,true_and];refine⟨g,t+1,_,rfl,d1.dr,by omega,by decide,by decide,λr2 M2 s0 s1 d2=>?_⟩;dsimp only;refine⟨by omega,?_⟩;have hlen:(du 0 r2.toNat).length=r2.toNat:=by rw[du,cj,aav]
   refine v9 (λi acc M'=>acc.length=i/\fZ e acc/\bN g (t+2+i * dg e) M M') _ 0 [] M2 ⟨rfl,by simp only[fZ],(d1.trans d2).mono (by omega)⟩ ?_ ?_
   ·rintro i x acc M' hx ⟨hal,hav,dr⟩;have hi:i < (du 0 r2.toNat).length:=(bL.mp hx).1;rw[hlen] at hi;have hi4:i < 4:=by omega
    have hm:(0+i+1) * dg e=(0+i) * dg e+dg e:=by rw[Nat.add_mul,Nat.one_mul]
    have hb:(0+i) * dg e<=3 * dg e:=aab _ (by omega);refine⟨_,rfl,?_⟩;simp only[F3,GE,ac,ae,aa,dC,dW,bC,bE,aE,bB,dN,au,bq,az,aN,true_and];refine⟨g,_,e,by rw[show ((e+1:Nat):Int) - 1=(e:Nat) by omega],by omega,dr.dr,by omega,λv M3 hv d3=>⟨by rw[hal];unfold big;omega,by rw[bt,hal];rfl,Cy hav (by simp only[fZ];exact⟨hv,trivial⟩),(dr.trans d3).mono (by omega)⟩⟩
   ·rintro acc M' ⟨hal,hav,dr⟩;rw[hlen] at hal dr;have hb:(0+r2.toNat) * dg e<=4 * dg e:=aab _ (by omega);refine .inl (q _ M' ?_ (dr.mono (by omega)));simp only[dh];exact⟨by omega,hav⟩
def mx:Sf:=⟨λds M Q _=>∃ ns:List Int,ds=[.scr ns]/\ns.length<=63/\∀ M',M'.length=M.length+2->(∀ i,i < M.length->M'[i]?=M[i]?)->Dr M.length 0 M'->Q (.cell (M.length+1)) M',
 λh _ ⟨ns,a,b,q⟩=>⟨ns,a,b,λM' h1 h2 h3=>h _ _ (q M' h1 h2 h3)⟩⟩
theorem Ga:Go 1 qQ oY mx:=λds M Q E hl h=>by
 obtain⟨ns,rfl,hn,q⟩:=h;show oY.f (ap M.length Q E) [some (.scr ns),none,none] M;simp only[oY,aj,zT,aC,bv,c7,aa,aE,iw,au];refine k8 (λd=>match d with
  | .int i=>.int (if i < 0 then -i else i)
  | d=>d) M _ [] (by rw[cj,aN];unfold big;omega) ?_ ?_
 ·intro x hx;obtain⟨i,_,rfl⟩:=cJ.mp hx;refine⟨_,rfl,λQ' hq=>?_⟩;simp only[aB,ac,ae,aa,dW,bC,bE,bB,aE,jR,au];exact hq
 ·have e0:([]:List Tr)++(ns.map Tr.int).map (λd=>match d with
    | .int i=>.int (if i < 0 then -i else i)
    | d=>d)=(ns.map λi=>if i < 0 then -i else i).map Tr.int:=by
   rw[bR,gG,gG];rfl
  rw[e0];have hc:(ns.map λi=>if i < 0 then -i else i).length<=63:=by rw[cj];exact hn
  generalize (ns.map λi=>if i < 0 then -i else i)=cells at hc ⊢;show (br (.nm 1) (.lst (cells.map Tr.int)) [some (.scr ns),none,none] |> λo=>au o λρ'=>uc.f (ap M.length Q E) ρ' M);simp only[br,au,bC,bE,uc,ao,rS,j0,dC,aa,bB,aE,bv,c7,iw];refine rP (λi acc M'=>M'=M/\∃ gs:List Int,acc=gs.map Tr.int/\gs.length<=i/\∀ x∈gs,0<=x) _ 0 [] M ⟨rfl,[],rfl,aP _,λ_ h=>nomatch h⟩ ?_ ?_
  ·rintro i x acc M' hx ⟨rfl,gs,rfl,hgl,hg⟩;have hi:i < cells.length:=by
    have:=(bL.mp hx).1;simpa using this
   rw[gB] at hx;obtain⟨c,_,rfl⟩:=bz.mp hx;refine⟨_,rfl,?_⟩;simp only[am,F3,aa,dC,dW,bC,bE,bB,aE,fv,geT,c5,dN,au];have e1:(0:Int)<=18/\(18:Int)<=1000000/\(10:Int).natAbs < 2 ^ 64:=by decide
   simp only[if_pos e1,au]
   by_cases hc2:(10:Int) ^ (18:Int).toNat<=c
   ·simp only[hc2,decide_true,if_true];refine⟨by rw[cj];unfold big;omega,trivial,gs++[c - 10 ^ (18:Int).toNat],by rw[i3];rfl,by rw[bt,cA];omega,λy hy=>?_⟩;rcases bf.mp hy with h1|h1
    ·exact hg y h1
    ·rw[cB.mp h1];omega
   ·simp only[hc2,decide_false,bd,if_false];exact⟨trivial,gs,rfl,by omega,hg⟩
  ·rintro acc M' ⟨rfl,gs,rfl,hgl,hg⟩;simp only[dS,if_true,kd,gn,bD,bF,au,aO,h9,bt,az,aN];refine⟨⟨by decide,by decide⟩,?_⟩;refine .inl ?_;refine q _ (by simp) (λi hi=>by rw[cb,eD hi]) ⟨gs,cells,0,0,?_,?_,by omega,by omega,hc,by omega,hg⟩
   ·rw[cb,fD (aP _)];simp
   ·rw[cb,fD (Nat.le_succ _)];simp only[Nat.succ_eq_add_one,Nat.add_sub_cancel_left];rfl
def uu:List Nat:=[97,98,99,100,101,102,103,104,105,106,107,108,109,110,111,112,113,114,115,116,117,118,119,120,121,122]
theorem Hm:da.cps.toList=uu:=by decide +kernel
theorem vJ{a:Tr}(h:a7 a=true):a9 a=0:=by
 cases a <;> simp only[a7] at h <;> first|(cases h;done)|simp only[a9]
theorem yN:∀{ds:List Tr},(∀ d∈ds,IR d=true)->bg ds=true
 | [],_=>by simp only[bg]
 | d::ds,h=>by
  simp only[bg,ax];exact⟨h d (a6 ..),yN λx hx=>h x (aZ _ hx)⟩
theorem wV:∀{ds:List Tr}{n:Nat},(∀ d∈ds,a9 d<=n)->c8 ds<=n
 | [],n,_=>by simp [c8]
 | d::ds,n,h=>by
  simp only[c8];have h1:=h d (a6 ..);have h2:=wV λx hx=>h x (aZ _ hx);omega
theorem mS{a:Tr}(h:eU a):IR a=true/\a7 a=true:=by
 cases a with
 | non=>exact⟨rfl,rfl⟩
 | int i =>
  simp only[eU] at h;refine⟨?_,rfl⟩;simp only[IR,et,decide_eq_true_eq];have e:((10 ^ 40:Nat):Int)=10 ^ 40:=by decide
  split <;> omega
 | str w =>
  obtain⟨h1,h2,h3⟩:=h;refine⟨?_,rfl⟩;simp only[IR,bK,ax,decide_eq_true_eq];refine⟨⟨h2,h3⟩,?_⟩;rw[b7];intro c hc;have hc2:=h1 c hc;have e:da.cps.toList=uu:=Hm;rw[e];refine decide_eq_true ?_;unfold uu;simp only[aM,cR,or_false];omega
 | _=>exact h.elim
def okB(d s:Nat)(v:Tr):Prop:=IR v=true/\a9 v<=d/\szV v<=s
theorem okB.mono{d s d' s':Nat}{v:Tr}(h:okB d s v)(h1:d<=d')(h2:s<=s'):okB d' s' v:=⟨h.1,gH h.2.1 h1,gH h.2.2 h2⟩
theorem B5:∀{ds:List Tr}{s:Nat},(∀ d∈ds,szV d<=s)->cp ds<=ds.length * (s+2)
 | [],s,_=>by simp [cp]
 | d::ds,s,h=>by
  have h1:=h d (a6 ..);have h2:=B5 λx hx=>h x (aZ _ hx);simp only[cp,az];rw[Nat.add_mul,Nat.one_mul];omega
theorem Ir{d s:Nat}{xs:List Tr}(h:∀ v∈xs,okB d s v)(hl:xs.length<=100000):okB (d+1) (2+xs.length * (s+2)) (.lst xs):=by
 refine⟨?_,?_,?_⟩
 ·simp only[IR,ax,decide_eq_true_eq];exact⟨hl,yN λv hv=>(h v hv).1⟩
 ·simp only[a9];have:=wV λv hv=>(h v hv).2.1;omega
 ·simp only[szV];have:=B5 λv hv=>(h v hv).2.2;omega
theorem mT{a:Tr}(h:IR a=true)(hA:a7 a=true):okB 0 100 a:=by
 refine⟨h,by rw[vJ hA];exact aP _,?_⟩;cases a with
 | lst _=>simp [a7] at hA
 | _=>simp only[szV];omega
def szB:Nat->Nat
 | 0=>100
 | n+1=>2+4 * (szB n+2)
theorem uP(n:Nat):100<=szB n:=by
 induction n with
 | zero=>exact aP _
 | succ n ih=>simp only[szB];omega
theorem va(n:Nat):∀(vs:List Tr),fZ n vs->∀ v∈vs,dh n v
 | [],_=>λ_ h=>nomatch h
 | v::vs,h=>by
  simp only[fZ] at h;intro w hw;rcases aM.mp hw with e|e
  ·subst e;exact h.1
  ·exact va n vs h.2 w e
theorem Cv:∀(n:Nat)(v:Tr),dh n v->okB n (szB n) v
 | 0,v,h=>by
  have:=mS (a:=v) (by simpa only [dh] using h);exact(mT this.1 this.2)
 | n+1,v,h=>by
  cases v with
  | lst xs =>
   simp only[dh] at h;have h2:∀ v∈xs,okB n (szB n) v:=λv hv=>Cv n v (va n xs h.2 v hv);refine(Ir h2 (by omega)).mono (aP _) ?_;simp only[szB];have:=aab (szB n+2) h.1;omega
  | non=>exact(mT (a:=.non) rfl rfl).mono (eS _) (uP _)
  | int i =>
   have:=mS (a:=.int i) (by simpa only [dh] using h);exact(mT this.1 this.2).mono (eS _) (uP _)
  | str i =>
   have:=mS (a:=.str i) (by simpa only [dh] using h);exact(mT this.1 this.2).mono (eS _) (uP _)
  | _=>simp [dh,eU] at h
theorem Hr:∀ c∈da.cps.toList,c∈kA:=by decide +kernel
theorem Jd{w:Str}(h:bK w=true):lz w=true/\w.length<=8:=by unfold bK at h;simp only[ax,decide_eq_true_eq] at h;refine⟨b7.mpr λc hc=>?_,h.1.2⟩;have:=b7.mp h.2 c hc;exact decide_eq_true (Hr c (of_decide_eq_true this))
theorem aU(w:Str):(chL w).length=w.length:=by simp [chL,Str.length]
theorem KM{w:Str}:(txt (.str w)).length=w.length+2:=by rw[txt];simp only[aY,az,bt,aU,aN]
theorem Cp{a:Tr}(h:IR a=true/\a7 a=true):(txt a).length<=50/\reT a=true/\dpt a=0:=by
 obtain⟨h,h'⟩:=h;cases a with
 | non=>exact⟨by rw[txt];decide,rfl,rfl⟩
 | int i =>
  have hi:et i=true:=by simpa only [IR] using h
  refine⟨?_,by simp only[reT];exact decide_eq_true (sR hi),rfl⟩;rw[txt,aU];exact yg hi
 | str w =>
  have:=Jd (show bK w=true by simpa only [IR] using h);refine⟨?_,by simp only[reT];exact this.1,rfl⟩;rw[KM];omega
 | lst _=>simp [a7] at h'
 | _=>simp [IR] at h
def fh:List Tr->Nat
 | []=>0
 | d::ds=>(txt d).length+2+fh ds
theorem uU:∀(ds:List Tr)(c:Nat),(tl ds c).length=fh ds+1
 | [],c=>by rw[tl];rfl
 | d::ds,c=>by
  rw[hU];simp only[az,bt,uU ds c,fh];omega
mutual
theorem p9:∀ d:Tr,IR d=true->reT d=true/\(txt d).length<=szV d/\dpt d<=a9 d
 | .lst xs,h=>by
  obtain⟨h1,h2,h3⟩:=Cq xs (dH h).2;refine⟨by simpa only [reT] using h1,?_,by simp only[dpt,a9];omega⟩;cases xs with
  | nil=>rw[txt];simp only[szV];exact Nat.le_add_right _ _
  | cons x xs =>
   rw[txt];simp only[fh] at h2;simp only[az,bt,uU,szV];omega
 | .non,h=>⟨rfl,by rw[txt];simp only[szV];decide,aP _⟩
 | .int i,h=>by
  obtain⟨a,b,c⟩:=Cp (a:=.int i) ⟨h,rfl⟩;exact⟨b,by simp only[szV];omega,by rw[c];omega⟩
 | .str i,h=>by
  obtain⟨a,b,c⟩:=Cp (a:=.str i) ⟨h,rfl⟩;exact⟨b,by simp only[szV];omega,by rw[c];omega⟩
 | .bl _,h=>by simp [IR] at h
 | .tup _,h=>by simp [IR] at h
 | .dct _ _,h=>by simp [IR] at h
 | .ins _ _,h=>by simp [IR] at h
 | .exc _ _,h=>by simp [IR] at h
 | .cell _,h=>by simp [IR] at h
 | .scr _,h=>by simp [IR] at h
 | .dkf _ _,h=>by simp [IR] at h
theorem Cq:∀ ds:List Tr,bg ds=true->b9 ds=true/\fh ds<=cp ds/\je ds<=c8 ds
 | [],_=>⟨rfl,aP _,aP _⟩
 | d::ds,h=>by
  simp only[bg,ax] at h;obtain⟨a1,a2,a3⟩:=p9 d h.1;obtain⟨b1,b2,b3⟩:=Cq ds h.2;refine⟨by simp only[b9,a1,b1,dO],by simp only[fh,cp];omega,by simp only[je,c8];omega⟩
end
theorem uj{d:Tr}{n s:Nat}(h:okB n s d)(hn:n<=100)(hs:s<=big):∃ w,PyData.strOk w=true/\chL w=txt d/\∀ M,ca M [d]=some (.str w,M):=by obtain⟨a,b,c⟩:=p9 d h.1;exact JF a (by have:=h.2.2;omega) (by have:=h.2.1;omega)
theorem H8{M:Me}{a b:Str}(ha:PyData.strOk a=true)(hb:PyData.strOk b=true):neT M (.str a) (.str b)=some (.bl (!decide (a=b))):=by
 have h:=jg (M:=M) ha hb;simp only[eqT,neT] at h ⊢;cases e:eqB M (.str a) (.str b) with
 | none=>rw[e] at h;cases h
 | some c =>
  rw[e] at h;simp only[bF,Option.some.injEq,Tr.bl.injEq] at h;rw[<- h];rfl
theorem kh{M:Me}{a:Str}(ha:PyData.strOk a=true):neT M (.str a) (.str a)=some (.bl false):=by rw[H8 ha ha,decide_eq_true rfl];rfl
theorem ve{t:Rd Tr}{ρ:En}{M:Me}{Q:Bool->Me->Prop}{E:TK}(h:t.f ρ M (λd M1=>au (cQ M1 d) λb=>Q b M1) E):(bp t).f ρ M Q E:=h
theorem zn:∀ gs:List Str,dJ (gs.map Tr.str)=some (gs.map PyData.str)
 | []=>rfl
 | g::r=>by simp only[aO,dJ,pyd,zn r]
theorem Hh{gs:List Str}(h:∀ g∈gs,PyData.strOk g=true):SeqAt.shaped (.list (gs.map PyData.str))=true:=by
 have h1:∀ l:List Str,(∀ g∈l,PyData.strOk g=true)->PyData.canLayAll0 (l.map PyData.str)=true:=λl hl=>by
  induction l with
  | nil=>rfl
  | cons g r ih=>simp only[aO,PyData.canLayAll0,PyData.canLay0,hl g (a6 ..),ih λz hz=>hl z (aZ _ hz),dO]
 have h2:∀ l:List Str,PyData.depthAll (l.map PyData.str)=0:=λl=>by
  induction l with
  | nil=>rfl
  | cons g r ih=>simp only[aO,PyData.depthAll,PyData.depth,ih];rfl
 simp only[SeqAt.shaped,PyData.canLay0,PyData.depth,h1 gs h,h2]
 decide
theorem m6{α:Type}{g:Tg}{te:Rd Tr}{ρ:En}{Q:List Tr->Me->Prop}(em:α->Tr)(φ:α->Tr)(M:Me):∀(xs:List α)(acc:List Tr),acc.length+xs.length<=big ->
  (∀ x∈xs,∃ ρ',br g (em x) ρ=some ρ'/\∀ Q':TK,Q' (φ x) M->te.f ρ' M Q' λ_ _=>False)->Q (acc++xs.map φ) M->cG g cL te ρ (xs.map em) acc M Q
 | [],acc,_,_,q=>by
  show Q acc M;simpa using q
 | x::r,acc,hl,h,q=>by
  obtain⟨ρ',e,k⟩:=h x (a6 ..);rw[az] at hl;refine aJ e ?_;show (if true=true then te.f ρ' M (λy M2=>acc.length < big/\cG g cL te ρ (r.map em) (acc++[y]) M2 Q) (λ_ _=>False) else cG g cL te ρ (r.map em) acc M Q);rw[if_pos rfl];refine k _ ⟨by omega,m6 em φ M r (acc++[φ x]) (by rw[bt,cA];omega) (λy hy=>h y (aZ _ hy)) ?_⟩;simpa using q
theorem cc.imp{g:Bool}{P:Program}{w:World}{K:Frg}{mg:Str->Option Value}{base:Heap}{CX:CXT}{k:Nat}{f:Addr}{fd:FuncData}{ps:List Str}{sp sp':Sp}(F:cc g P w K mg base CX k f fd ps sp)(h:∀ vs H Q E,sp' vs H Q E->sp vs H Q E):cc g P w K mg base CX k f fd ps sp' :=
 ⟨λvs H Q E z=>F.len vs H Q E (h vs H Q E z),λA outer s H args us vs Q E hr hg e0 hb r hsp=>F.run A outer s H args us vs Q E hr hg e0 hb r (h vs H Q E hsp)⟩
theorem Ht{K:Frg}{sp sp':Sf}{n:Nat}(h:∀ ds M Q E,sp'.f ds M Q E->sp.f ds M Q E):∀ vs H Q E,liftF K sp' n vs H Q E->liftF K sp n vs H Q E:=λvs H Q E ⟨a,ds,M,S,o,r,q⟩=>⟨a,ds,M,S,o,r,h _ _ _ _ q⟩
theorem Fn.imp{g:Bool}{P:Program}{w:World}{K:Frg}{mg:Str->Option Value}{base:Heap}{x:Str}{k n:Nat}{dds:List Tr}{sp sp':Sf}(F:Fn g P w K mg base x k n dds sp)(h:∀ ds M Q E,sp'.f ds M Q E->sp.f ds M Q E):Fn g P w K mg base x k n dds sp':=by obtain⟨f,fd,ps,ds,dvs,F1,r⟩:=F.ex;exact⟨f,fd,ps,ds,dvs,F1.imp (Ht h),r⟩
mutual
def bu:Tr->Bool
 | .non=>true
 | .bl _=>true
 | .int _=>true
 | .str w=>decide (w.length<=1000000)
 | .lst xs=>decide (xs.length<=1000000)&&ii xs
 | .tup _=>true
 | .dct _ _=>true
 | .ins c _=>decide (c < 7)
 | _=>false
def ii:List Tr->Bool
 | []=>true
 | d::ds=>bu d&&ii ds
end
theorem vG:∀{ds:List Tr}{d:Tr},ii ds=true->d∈ds->bu d=true
 | d::ds,x,h,m=>by
  simp only[ii,ax] at h;rcases aM.mp m with e|e
  ·subst e;exact h.1
  ·exact vG h.2 e
def tyA:Tr->TyG
 | .non=>.b "NoneType"
 | .bl _=>.b "bool"
 | .int _=>.b "int"
 | .str _=>.b "str"
 | .tup _=>.b "tuple"
 | .dct _ _=>.b "dict"
 | .ins c _=>.own c
 | _=>.b "list"
def CLs(cl:List Nat)(d:Tr):Prop:=∀ c xs,d=.ins c xs->c∈cl
theorem KO{M:Me}{d:Tr}(h:bu d=true):tyG M d=some (tyA d):=by
 cases d <;> first|rfl|simp [bu] at h
theorem KN{cl:List Nat}{d:Tr}(hc:CLs cl d)(h:bu d=true):tyA d∈cP cl:=by
 cases d with
 | ins c xs=>simp [tyA,cP,hc c xs rfl]
 | _=>first|(simp [tyA,cP];done)|simp [bu] at h
theorem mG{cl:List Nat}{cs:List TyG}{i:Nat}{ρ:En}{d:Tr}{M:Me}{Q E:TK}(e:ρ[i]?=some (some d))(h:bu d=true)(hc:CLs cl d)(q:Q (.bl (cs.any (isa (tyA d)))) M):(bY cl cs (aa i)).f ρ M Q E:=by show (aa i).f ρ M (λd M1=>au (tyG M1 d) λg=>g∈cP cl/\Q (.bl (cs.any (isa g))) M1) E;refine bV e ?_;exact aJ (KO h) ⟨KN hc h,q⟩
theorem vd{cl:List Nat}{cs:List TyG}{i:Nat}{ρ:En}{d:Tr}{M:Me}{Q:Bool->Me->Prop}{E:TK}(e:ρ[i]?=some (some d))(h:bu d=true)(hc:CLs cl d)(q:Q (cs.any (isa (tyA d))) M):(bp (bY cl cs (aa i))).f ρ M Q E :=
 ve (mG e h hc (by simp only[cQ,au];exact q))
def aX:Tr->Bool
 | .str w=>bK w
 | _=>false
def aS:Tr->Bool
 | .int i=>et i
 | _=>false
def aK:Tr->Bool
 | .non=>true
 | d=>aS d||aX d
def jG(cl:List Nat):Sf:=sp1 (λd=>bu d=true/\CLs cl d) λd=>.bl (aX d)
def pQ(cl:List Nat):Sf:=sp1 (λd=>bu d=true/\CLs cl d) λd=>.bl (aS d)
def kL(cl:List Nat):Sf:=sp1 (λd=>bu d=true/\CLs cl d) λd=>.bl (aK d)
theorem Gi(cl:List Nat):Go 1 qL (oR cl) (jG cl):=λds M Q E hl h=>by
 obtain⟨d,rfl,⟨hd,hc⟩,q⟩:=h;show (oR cl).f (ap M.length Q E) [some d,none] M;simp only[oR,ao,c6];refine mG (i:=0) rfl hd hc ?_;cases d with
 | str w =>
  have hw:w.length<=1000000:=by simpa [bu] using hd
  rw[show ([TyG.b "str"].any (isa (tyA (.str w))))=true from (by decide:([TyG.b "str"].any (isa (.b "str")))=true)];simp only[m8,dC,aB,ac,ae,aa,aE,bx,if_pos (show w.length<=big by unfold big;omega),au,leT,c5];have q':Q (.bl (bK w)) M:=q
  by_cases h1:1<=w.length
  ·have e2:decide ((1:Int)<=(w.length:Nat))=true:=by simp;omega
   rw[e2];dsimp only
   by_cases h2:w.length<=8
   ·have e3:decide (((w.length:Nat):Int)<=8)=true:=by simp;omega
    simp only[e3,bv,dG,aa,aE,au];have hs:w.cps.size=w.length:=rfl;have key:bK w=w.cps.toList.all λc=>decide (c∈da.cps.toList):=by unfold bK;rw[decide_eq_true h1,decide_eq_true h2];rfl
    refine m6 (λc:Nat=>Tr.str ⟨#[c]⟩) (λc=>.bl (decide (c∈da.cps.toList))) M w.cps.toList [] (by simp only[aN,Array.length_toList];unfold big;omega) ?_ ?_
    ·intro c _;refine⟨_,rfl,λQ' hq=>?_⟩;simp only[F3,aa,dC,dW,bC,bE,bB,aE,xN,au];exact hq
    ·have e:(w.cps.toList.map λc=>Tr.bl (decide (c∈da.cps.toList)))=(w.cps.toList.map λc=>decide (c∈da.cps.toList)).map Tr.bl:=by rw[gG];rfl
     unfold dS;simp only[bd,if_false,bR,e,d8,bj,bD,rG,bF,au];have e4:((w.cps.toList.map λc=>decide (c∈da.cps.toList)).all id)=bK w:=by rw[key,List.all_map];rfl
     rw[e4];exact .inl q'
   ·have e3:decide (((w.length:Nat):Int)<=8)=false:=by simp;omega
    simp only[e3];have:bK w=false:=by unfold bK;rw[decide_eq_false h2];simp
    rw[this] at q';exact .inl q'
  ·have e2:decide ((1:Int)<=(w.length:Nat))=false:=by simp;omega
   rw[e2];have:bK w=false:=by unfold bK;rw[decide_eq_false h1];simp
   rw[this] at q';exact .inl q'
 | non=>exact .inl q
 | bl _=>exact .inl q
 | int _=>exact .inl q
 | lst _=>exact .inl q
 | tup _=>exact .inl q
 | dct _ _=>exact .inl q
 | ins c xs =>
  rw[show ([TyG.b "str"].any (isa (tyA (.ins c xs))))=false by simp [tyA,isa]];exact .inl q
 | _=>simp [bu] at hd
theorem Ge(cl:List Nat):Go 1 qI (oO cl) (pQ cl):=λds M Q E hl h=>by
 obtain⟨d,rfl,⟨hd,hc⟩,q⟩:=h;show (oO cl).f (ap M.length Q E) [some d] M;simp only[oO,ao,c6,jZ];refine mG (i:=0) rfl hd hc ?_;cases d with
 | int i =>
  rw[show ([TyG.b "int"].any (isa (tyA (.int i))))=true from (by decide:([TyG.b "int"].any (isa (.b "int")))=true)];dsimp only;refine mG (i:=0) rfl hd hc ?_;rw[show ([TyG.b "bool"].any (isa (tyA (.int i))))=false from (by decide:([TyG.b "bool"].any (isa (.b "int")))=false)];simp only[cQ,au,dX,F3,aB,ac,ae,aa,dC,aE,jR,fv,ltT,c5];rw[if_pos (by decide)];exact .inl q
 | bl b =>
  rw[show ([TyG.b "int"].any (isa (tyA (.bl b))))=true from (by decide:([TyG.b "int"].any (isa (.b "bool")))=true)];dsimp only;refine mG (i:=0) rfl hd hc ?_;rw[show ([TyG.b "bool"].any (isa (tyA (.bl b))))=true from (by decide:([TyG.b "bool"].any (isa (.b "bool")))=true)];simp only[cQ,au,dw];exact .inl q
 | non=>exact .inl q
 | str _=>exact .inl q
 | lst _=>exact .inl q
 | tup _=>exact .inl q
 | dct _ _=>exact .inl q
 | ins c xs =>
  rw[show ([TyG.b "int"].any (isa (tyA (.ins c xs))))=false by simp [tyA,isa]];exact .inl q
 | _=>simp [bu] at hd
theorem Gc(cl:List Nat):Go 1 qH (oN (pQ cl) (jG cl)) (kL cl):=λds M Q E hl h=>by
 obtain⟨d,rfl,⟨hd,hc⟩,q⟩:=h;show (oN (pQ cl) (jG cl)).f (ap M.length Q E) [some d] M;have q':Q (.bl (aK d)) M:=q;simp only[oN,ao,nc,F3,aa,dC,aE,fk,au]
 by_cases hn:d=.non
 ·subst hn;exact .inl q'
 ·have e:isNone d=false:=by cases d <;> first|rfl|exact absurd rfl hn
  have e2:aK d=(aS d||aX d):=by cases d <;> first|rfl|exact absurd rfl hn
  rw[e2] at q';simp only[e,GE,ac,ae,aa,aE,bq,az,aN,true_and];refine⟨d,rfl,⟨hd,hc⟩,?_⟩;dsimp only;cases hi:aS d with
  | true =>
   rw[hi,Bool.true_or] at q';exact .inl q'
  | false =>
   rw[hi,Bool.false_or] at q';exact⟨d,rfl,⟨hd,hc⟩,.inl q'⟩
mutual
def cF(cl:List Nat):Tr->Bool
 | .ins c _=>decide (c∈cl)
 | .lst xs=>gM cl xs
 | _=>true
def gM(cl:List Nat):List Tr->Bool
 | []=>true
 | d::ds=>cF cl d&&gM cl ds
end
theorem rN{cl:List Nat}{d:Tr}(h:cF cl d=true):CLs cl d:=λc xs e=>by
 subst e;simpa [cF] using h
theorem v7{cl:List Nat}:∀{ds:List Tr}{d:Tr},gM cl ds=true->d∈ds->cF cl d=true
 | d::ds,x,h,m=>by
  simp only[gM,ax] at h;rcases aM.mp m with e|e
  ·subst e;exact h.1
  ·exact v7 h.2 e
mutual
def aD:Nat->Tr->Bool
 | n,.lst xs=>decide (0 < n)&&eP (n - 1) xs
 | _,d=>aK d
def eP:Nat->List Tr->Bool
 | _,[]=>true
 | n,d::ds=>aD n d&&eP n ds
end
theorem qb(n:Nat):∀ ds:List Tr,eP n ds=ds.all (aD n)
 | []=>by simp [eP]
 | d::ds=>by simp only[eP,List.all_cons,qb n ds]
def hL(cl:List Nat)(n:Nat):Sf:=⟨λds M Q _=>∃ d,∃ k:Nat,ds=[d,.int (k:Nat)]/\bu d=true/\cF cl d=true/\k < n/\Q (.bl (aD k d)) M,λh _ ⟨d,k,a,b,c,e,q⟩=>⟨d,k,a,b,c,e,h _ _ q⟩⟩
theorem GM(cl:List Nat)(n:Nat):Go 2 rf (pI cl (kL cl) (hL cl n)) (hL cl (n+1)):=λds M Q E hl h=>by
 obtain⟨d,k,rfl,hd,hc,hk,q⟩:=h;show (pI cl (kL cl) (hL cl n)).f (ap M.length Q E) [some d,some (.int (k:Nat)),none] M;have hcs:=rN hc;simp only[pI,aj,AL,GT,cH];refine vd (i:=0) rfl hd hcs ?_;have other:(∀ xs,d≠.lst xs)->([TyG.b "list"].any (isa (tyA d)))=false->(ao (GE (kL cl) [] 1 (ac (aa 0) ae))).f { ap M.length Q E with nx:=(uf cl (kL cl) (hL cl n)).f (ap M.length Q E) } [some d,some (.int (k:Nat)),none] M:=λhne _=>by
  simp only[ao,GE,ac,ae,aa,aE,bq,az,aN,true_and];refine⟨d,rfl,⟨hd,hcs⟩,.inl ?_⟩;have e:aD k d=aK d:=by cases d <;> first|(simp only[aD];done)|exact absurd rfl (hne _)
  rw[e] at q;exact q
 cases d with
 | lst xs =>
  have hlen:xs.length<=1000000:=by simp only[bu,ax,decide_eq_true_eq] at hd;exact hd.1
  have hxs:ii xs=true:=by simp only[bu,ax,decide_eq_true_eq] at hd;exact hd.2
  have hcx:gM cl xs=true:=by simpa only [cF] using hc
  rw[show ([TyG.b "list"].any (isa (tyA (.lst xs))))=true from (by decide:([TyG.b "list"].any (isa (.b "list")))=true)];simp only[dw,bd,if_false,aL];simp only[uf,ao,c6,F3,dC,aa,aE,bB,gtT,c5,au];simp only[aD] at q
  by_cases h0:0 < k
  ·have e1:decide ((0:Int) < (k:Nat))=true:=by simp;omega
   rw[e1];rw[decide_eq_true h0,aaw,qb] at q;simp only[aB,ac,ae,bv,c7,aa,aE,iw,au,dW,bC,bE];have ex:xs=xs.map id:=(List.map_id xs).symm;rw[show cG (.nm 2) cL=cG (.nm 2) cL from rfl];have key:=m6 (g:=.nm 2) (te:=GE (hL cl n) [] 2 (ac (aa 2) (ac (F3 dN (aa 1) (dC (.int 1))) ae))) (ρ:=[some (.lst xs),some (.int (k:Nat)),none]) (Q:=λds M2=>dS false ds M2 λd M3=>au (d8 M3 [d]) λz=>(ap M.length Q E).rt z.1 z.2) id (λd=>.bl (aD (k - 1) d)) M xs [] (by rw[aN];unfold big;omega) ?_ ?_
   ·rw[List.map_id] at key;exact key
   ·intro x hx;refine⟨_,rfl,λQ' hq=>?_⟩;simp only[F3,GE,ac,ae,aa,dC,bC,bE,bB,aE,dN,au,bq,az,aN,true_and,id];exact⟨x,k - 1,by rw[show ((k:Nat):Int) - 1=((k - 1:Nat):Int) by omega],vG hxs hx,v7 hcx hx,by omega,hq⟩
   ·have e:(xs.map λd=>Tr.bl (aD (k - 1) d))=(xs.map (aD (k - 1))).map Tr.bl:=by rw[gG];rfl
    unfold dS;simp only[bd,if_false,bR,e,d8,bj,bD,rG,bF,au];have e4:((xs.map (aD (k - 1))).all id)=xs.all (aD (k - 1)):=by rw[List.all_map];rfl
    rw[e4];exact .inl q
  ·have e1:decide ((0:Int) < (k:Nat))=false:=by simp;omega
   rw[e1];rw[decide_eq_false h0,Bool.false_and] at q;exact .inl q
 | non=>exact other (λxs e=>nomatch e) rfl
 | bl _=>exact other (λxs e=>nomatch e) rfl
 | int _=>exact other (λxs e=>nomatch e) rfl
 | str _=>exact other (λxs e=>nomatch e) rfl
 | tup _=>exact other (λxs e=>nomatch e) rfl
 | dct _ _=>exact other (λxs e=>nomatch e) rfl
 | ins c xs =>
  have e:([TyG.b "list"].any (isa (tyA (.ins c xs))))=false:=by simp [tyA,isa]
  rw[e];exact other (λxs e=>nomatch e) e
 | _=>simp [bu] at hd
def jF(cl:List Nat):Sf:=sp1 (λd=>bu d=true/\cF cl d=true) λd=>.bl (aD 60 d)
theorem Gg(cl:List Nat):Go 1 qK (oQ (hL cl 61)) (jF cl):=λds M Q E hl h=>by
 obtain⟨d,rfl,⟨hd,hc⟩,q⟩:=h;show (oQ (hL cl 61)).f (ap M.length Q E) [some d] M;simp only[oQ,ao,GE,ac,ae,aa,dC,aE,bq,az,aN,true_and];exact⟨d,60,rfl,hd,hc,by omega,.inl q⟩
def jJ(cl:List Nat):Sf:=⟨λds M Q E=>∃ d,ds=[d]/\bu d=true/\cF cl d=true/\if aD 60 d=true then Q .non M else E (.exc 0 []) M,λh h' ⟨d,a,b,c,q⟩=>⟨d,a,b,c,by
 by_cases e:aD 60 d=true
 ·rw[if_pos e] at q ⊢;exact h _ _ q
 ·rw[if_neg e] at q ⊢;exact h' _ _ q⟩⟩
theorem Gv(cl:List Nat):Go 1 q8 (pE (jF cl)) (jJ cl):=λds M Q E hl h=>by
 obtain⟨d,rfl,hd,hc,q⟩:=h;show (pE (jF cl)).f (ap M.length Q E) [some d] M;simp only[pE,GT,cH];refine ve ?_;simp only[GE,ac,ae,aa,aE,bq,az,aN,true_and];refine⟨d,rfl,⟨hd,hc⟩,?_⟩;simp only[cQ,au];cases e:aD 60 d with
 | true =>
  rw[if_pos e] at q;simp only[dw,bd,if_false,aL];exact .inl q
 | false =>
  rw[if_neg (by simp [e])] at q;simp only[dX,if_true,um];exact .inl q
def Ex1(t:Rd Tr)(ρ:En)(M:Me)(d:Tr):Prop:=∀ Q E:TK,Q d M->t.f ρ M Q E
def ExL(u:Rd (List Tr))(ρ:En)(M:Me)(ds:List Tr):Prop:=∀(Q:List Tr->Me->Prop)(E:TK),Q ds M->u.f ρ M Q E
def Rz(t:Rd Tr)(ρ:En)(M:Me)(e:Tr):Prop:=∀ Q E:TK,E e M->t.f ρ M Q E
section
variable {t a b:Rd Tr}{u:Rd (List Tr)}{ρ:En}{M:Me}{d e z:Tr}{ds fs:List Tr}{c n i k:Nat}{sp:Sf}{w:Str}{x:Int}
theorem ExL.nil:ExL ae ρ M []:=λ_ _ q=>q
theorem ExL.cons(h:Ex1 t ρ M d)(r:ExL u ρ M ds):ExL (ac t u) ρ M (d::ds):=λ_ _ q=>h _ _ (r _ _ q)
theorem Ex1.cst:Ex1 (dC d) ρ M d:=λ_ _ q=>q
theorem Ex1.v(h:ρ[i]?=some (some d)):Ex1 (aa i) ρ M d:=λ_ _ q=>bV h q
theorem Ex1.lst(r:ExL u ρ M ds)(h:ds.length<=big):Ex1 (aI u) ρ M (.lst ds):=λ_ _ q=>r _ _ ⟨h,q⟩
theorem Ex1.tup(r:ExL u ρ M ds)(h:ds.length<=big):Ex1 (fH u) ρ M (.tup ds):=λ_ _ q=>r _ _ ⟨h,q⟩
theorem Ex1.empty:Ex1 Ed ρ M (.dct [] []):=λ_ _ q=>q
theorem Ex1.op{f:F2}(h:Ex1 a ρ M d)(h':Ex1 b ρ M e)(ef:f M d e=some z):Ex1 (F3 f a b) ρ M z:=λ_ _ q=>h _ _ (h' _ _ (aJ ef q))
theorem Ex1.call{f:FA}(r:ExL u ρ M ds)(ef:f M ds=some (z,M)):Ex1 (aB f u) ρ M z:=λ_ _ q=>r _ _ (aJ ef q)
theorem Ex1.fn(r:ExL u ρ M ds)(hn:ds.length=n)(h:∀ Q E:TK,Q z M->sp.f ds M Q E):Ex1 (GE sp [] n u) ρ M z:=λQ E q=>by
 simp only[GE];refine r _ _ ?_;rw[bq];exact⟨hn,h _ _ q⟩
theorem Ex1.meth(h:Ex1 t ρ M (.ins c fs))(r:ExL u ρ M ds)(hn:ds.length+1=n)(hs:∀ Q E:TK,Q z M->sp.f (.ins c fs::ds) M Q E):Ex1 (m9 c sp n t u) ρ M z:=λQ E q=>by
 simp only[m9];exact h _ _ ⟨⟨_,rfl⟩,r _ _ ⟨hn,hs _ _ q⟩⟩
theorem Rz.fn(r:ExL u ρ M ds)(hn:ds.length=n)(h:∀ Q E:TK,E e M->sp.f ds M Q E):Rz (GE sp [] n u) ρ M e:=λQ E q=>by
 simp only[GE];refine r _ _ ?_;rw[bq];exact⟨hn,h _ _ q⟩
theorem Rz.meth(h:Ex1 t ρ M (.ins c fs))(r:ExL u ρ M ds)(hn:ds.length+1=n)(hs:∀ Q E:TK,E e M->sp.f (.ins c fs::ds) M Q E):Rz (m9 c sp n t u) ρ M e:=λQ E q=>by
 simp only[m9];exact h _ _ ⟨⟨_,rfl⟩,r _ _ ⟨hn,hs _ _ q⟩⟩
theorem Ex1.drop{F:Fin}(h:Ex1 t ρ M d)(q:F.nx ρ M):(cX t).f F ρ M:=by simp only[cX];exact h _ _ q
theorem Ex1.asg{F:Fin}(h:Ex1 t ρ M d)(q:F.nx (ρ.set i (some d)) M):(aC (.nm i) t).f F ρ M:=by simp only[aC];exact h _ _ q
theorem Ex1.ret{F:Fin}(h:Ex1 t ρ M d)(q:F.rt d M):(ao t).f F ρ M:=by simp only[ao];exact h _ _ q
theorem Ex1.test{Q:Bool->Me->Prop}{E:TK}{v:Bool}(h:Ex1 t ρ M (.bl v))(q:Q v M):(am t).f ρ M Q E:=by simp only[am];exact h _ _ q
end
theorem m5{α:Type}{g:Tg}{tt:Rd Bool}{te:Rd Tr}{ρ:En}{Q:List Tr->Me->Prop}(em φ:α->Tr)(b:α->Bool)(M:Me):∀(xs:List α)(acc:List Tr),acc.length+xs.length<=big ->
  (∀ x∈xs,∃ ρ',br g (em x) ρ=some ρ'/\(∀ Q':Bool->Me->Prop,Q' (b x) M->tt.f ρ' M Q' λ_ _=>False)/\∀ Q':TK,Q' (φ x) M->te.f ρ' M Q' λ_ _=>False)->Q (acc++(xs.filter b).map φ) M->cG g tt te ρ (xs.map em) acc M Q
 | [],acc,_,_,q=>by
  show Q acc M;simpa using q
 | x::r,acc,hl,h,q=>by
  obtain⟨ρ',e,k1,k2⟩:=h x (a6 ..);rw[az] at hl;refine aJ e ?_;show tt.f ρ' M (λb M1=>if b=true then te.f ρ' M1 (λy M2=>acc.length < big/\cG g tt te ρ (r.map em) (acc++[y]) M2 Q) (λ_ _=>False) else cG g tt te ρ (r.map em) acc M1 Q) λ_ _=>False;refine k1 _ ?_;cases hb:b x with
  | true =>
   rw[if_pos rfl];refine k2 _ ⟨by omega,m5 em φ b M r _ (by rw[bt,cA];omega) (λy hy=>h y (aZ _ hy)) ?_⟩;rw[List.filter_cons_of_pos hb] at q;simpa using q
  | false =>
   rw[if_neg (by simp)];refine m5 em φ b M r acc (by omega) (λy hy=>h y (aZ _ hy)) ?_;rw[List.filter_cons_of_neg (by simp [hb])] at q;exact q
def Tb(t:Rd Bool)(ρ:En)(M:Me)(b:Bool):Prop:=∀(Q:Bool->Me->Prop)(E:TK),Q b M->t.f ρ M Q E
section
variable {t e:Rd Tr}{c a b:Rd Bool}{ρ:En}{M:Me}{d:Tr}{x y:Bool}{F:Fin}{u v:Sr}
theorem Tb.of(h:Ex1 t ρ M (.bl x)):Tb (am t) ρ M x:=λQ E q=>h.test q
theorem Tb.tru(h:Ex1 t ρ M d)(hb:cQ M d=some x):Tb (bp t) ρ M x:=λQ E q=>by
 simp only[bp];exact h _ _ (aJ hb q)
theorem Tb.not(h:Tb a ρ M x):Tb (cH a) ρ M (!x):=λQ E q=>by
 simp only[cH];exact h _ _ q
theorem Tb.and(h:Tb a ρ M x)(h':x=true->Tb b ρ M y):Tb (dQ a b) ρ M (x&&y):=λQ E q=>by
 simp only[dQ];refine h _ _ ?_;cases x with
 | true=>rw[if_pos rfl];exact h' rfl _ _ q
 | false=>rw[if_neg (by simp)];exact q
theorem Tb.or(h:Tb a ρ M x)(h':x=false->Tb b ρ M y):Tb (dF a b) ρ M (x||y):=λQ E q=>by
 simp only[dF];refine h _ _ ?_;cases x with
 | true=>rw[if_pos rfl];exact q
 | false=>rw[if_neg (by simp)];exact h' rfl _ _ q
theorem Tb.if_(h:Tb c ρ M x)(h1:x=true->u.f F ρ M)(h0:x=false->v.f F ρ M):(GT c u v).f F ρ M:=by
 simp only[GT];refine h _ _ ?_;cases x with
 | true=>rw[if_pos rfl];exact h1 rfl
 | false=>rw[if_neg (by simp)];exact h0 rfl
theorem Ex1.ite{t e:Rd Tr}(h:Tb c ρ M x)(h1:x=true->Ex1 t ρ M d)(h0:x=false->Ex1 e ρ M d):Ex1 (dIf c t e) ρ M d:=λQ E q=>by
 simp only[dIf];refine h _ _ ?_;cases x with
 | true=>rw[if_pos rfl];exact h1 rfl _ _ q
 | false=>rw[if_neg (by simp)];exact h0 rfl _ _ q
theorem Ex1.lcf{α:Type}{vs:List Nat}{g:Tg}{xs:List α}(em φ:α->Tr)(p:α->Bool)(h:Ex1 t ρ M (.lst (xs.map em)))(hl:xs.length<=big)(he:∀ x∈xs,∃ ρ',br g (em x) (dW ρ vs)=some ρ'/\Tb c ρ' M (p x)/\Ex1 e ρ' M (φ x)):Ex1 (bv false vs (c7 t) g c e) ρ M (.lst ((xs.filter p).map φ)):=λQ E q=>by
 simp only[bv,c7];refine h _ _ ?_;refine aJ (z:=xs.map em) rfl ?_;refine m5 em φ p M xs [] (by simpa using hl) (λx hx=>?_) ?_
 ·obtain⟨ρ',e1,e2,e3⟩:=he x hx;exact⟨ρ',e1,λQ' hq=>e2 _ _ hq,λQ' hq=>e3 _ _ hq⟩
 ·simp only[dS,bd,if_false,bR];exact q
theorem bU(h:F.nx ρ M):aL.f F ρ M:=h
end
def sOf(l:List Nat):Str:=⟨l.toArray⟩
theorem bH(l:List Nat):chL (sOf l)=l:=rfl
theorem iI(x:Str):sOf (chL x)=x:=by unfold sOf chL;simp
def cf(c:Nat):Bool:=decide (48<=c)&&decide (c<=57)
def fY(w:List Nat):Int:=(PySem.intText? (sOf w)).getD 0
def eY(w:List Nat):List Nat:=(w.drop 1).take (w.length - 2)
def bP(w:List Nat):List Nat:=if w.take 1=[45] then w.drop 1 else w
def aQ(w:List Nat):Option Tr :=
 if w=[78,111,110,101] then some .non
 else if w.take 1=[39] then (if 2 < w.length/\w.getLast?=some 39/\bK (sOf (eY w))=true then some (.str (sOf (eY w))) else none)
 else if bP w=[]∨40 < (bP w).length∨(bP w).all cf=false then none
 else if (bP w).take 1≠[48]∨w=[48] then some (.int (fY w)) else none
theorem vY:chL ("None":Str)=[78,111,110,101]:=by rw[a8];rfl
theorem kY:chL ("'":Str)=[39]:=by rw[a8];rfl
theorem D6:chL ("-":Str)=[45]:=by rw[a8];rfl
theorem m4:chL ("0":Str)=[48]:=by rw[a8];rfl
theorem kX:chL ("":Str)=[]:=by rw[a8];rfl
theorem p5{x y:Str}:x=y↔chL x=chL y:=⟨λh=>by rw[h],jV⟩
theorem ff{x:Str}:PyData.strOk x=true↔∀ c∈chL x,c < 0x110000:=by unfold PyData.strOk chL;rw[Array.all_eq_true'];simp [Array.mem_toList_iff]
theorem jL{x y:Str}(h:PyData.strOk x=true)(s:∀ c∈chL y,c∈chL x):PyData.strOk y=true:=ff.mpr λc hc=>ff.mp h c (s c hc)
theorem gO(x:Str)(lo hi:Option Int):chL (cutS x lo hi)=((chL x).drop (HT.sIx x.length 0 lo)).take (HT.sIx x.length x.length hi - HT.sIx x.length 0 lo):=rfl
theorem m7(x:Str):chL (cutS x none (some 1))=(chL x).take 1:=by
 rw[gO];have e:HT.sIx x.length x.length (some 1)=min 1 x.length:=HT.sIx_nat _ _ 1;rw[e,HT.sIx_none,iY];have:=aU x
 by_cases h:x.length=0
 ·have:chL x=[]:=gE.mp (by omega);rw[this];simp
 ·rw[show min 1 x.length - 0=1 by omega]
theorem rR(x:Str):chL (cutS x (some 1) none)=(chL x).drop 1:=by
 rw[gO];have e:HT.sIx x.length 0 (some 1)=min 1 x.length:=HT.sIx_nat _ _ 1;rw[e,HT.sIx_none];have:=aU x
 by_cases h:x.length=0
 ·have:chL x=[]:=gE.mp (by omega);rw[this];simp
 ·rw[show min 1 x.length=1 by omega,List.take_of_length_le (by rw[dY];omega)]
theorem wc(x:Str)(h:2<=x.length):chL (cutS x (some 1) (some (-1)))=eY (chL x):=by
 rw[gO];have e:HT.sIx x.length 0 (some 1)=min 1 x.length:=HT.sIx_nat _ _ 1;have e2:HT.sIx x.length x.length (some (-1))=x.length - 1:=by show (if (-1:Int) < 0 then ((-1:Int)+(x.length:Int)).toNat else min (-1:Int).toNat x.length)=_;rw[if_pos (by decide)];omega
 rw[e,e2,show min 1 x.length=1 by omega];unfold eY;rw[aU,show x.length - 1 - 1=x.length - 2 by omega]
theorem Ex1.sl1{ρ:En}{M:Me}{t l h:Rd Tr}{x:Str}{i j:Int}(h0:Ex1 t ρ M (.str x))(h1:Ex1 l ρ M (.int i))(h2:Ex1 h ρ M (.int j))(hl:x.length<=big):Ex1 (dSl t (ay (some l)) (ay (some h))) ρ M (.str (cutS x (some i) (some j))):=λQ E q=>by
 simp only[dSl,ay];refine h0 _ _ (h1 _ _ (h2 _ _ (aJ (z:=.str (cutS x (some i) (some j))) ?_ q)));simp only[slF,if_pos hl]
theorem Ex1.slTr{ρ:En}{M:Me}{t h:Rd Tr}{x:Str}{j:Int}(h0:Ex1 t ρ M (.str x))(h2:Ex1 h ρ M (.int j))(hl:x.length<=big):Ex1 (dSl t (ay none) (ay (some h))) ρ M (.str (cutS x none (some j))):=λQ E q=>by
 simp only[dSl,ay];refine h0 _ _ (h2 _ _ (aJ (z:=.str (cutS x none (some j))) ?_ q));simp only[slF,if_pos hl]
theorem Ex1.slFr{ρ:En}{M:Me}{t h:Rd Tr}{x:Str}{j:Int}(h0:Ex1 t ρ M (.str x))(h2:Ex1 h ρ M (.int j))(hl:x.length<=big):Ex1 (dSl t (ay (some h)) (ay none)) ρ M (.str (cutS x (some j) none)):=λQ E q=>by
 simp only[dSl,ay];refine h0 _ _ (h2 _ _ (aJ (z:=.str (cutS x (some j) none)) ?_ q));simp only[slF,if_pos hl]
theorem Ex1.negI{a:Rd Tr}{ρ:En}{M:Me}{j:Int}(h:Ex1 a ρ M (.int j)):Ex1 (eV a) ρ M (.int (-j)):=λQ E q=>h _ _ q
theorem Ex1.eqS{ρ:En}{M:Me}{a b:Rd Tr}{x y:Str}(h1:Ex1 a ρ M (.str x))(h2:Ex1 b ρ M (.str y))(hx:PyData.strOk x=true)(hy:PyData.strOk y=true):Ex1 (F3 eqT a b) ρ M (.bl (decide (chL x=chL y))) :=
 .op h1 h2 (by rw[jg hx hy];congr 2;exact decide_eq_decide.mpr p5)
theorem yC{M:Me}{a b:Str}(ha:PyData.strOk a=true)(hb:PyData.strOk b=true):neT M (.str a) (.str b)=some (.bl (!decide (a=b))):=by have h:=jg (M:=M) ha hb;simp only[eqT,bz] at h;obtain⟨z,h,e⟩:=h;simp only[neT,h,bF];cases e;rfl
theorem Ex1.neS{ρ:En}{M:Me}{a b:Rd Tr}{x y:Str}(h1:Ex1 a ρ M (.str x))(h2:Ex1 b ρ M (.str y))(hx:PyData.strOk x=true)(hy:PyData.strOk y=true):Ex1 (F3 neT a b) ρ M (.bl (!decide (chL x=chL y))) :=
 .op h1 h2 (by rw[yC hx hy];congr 3;exact decide_eq_decide.mpr p5)
theorem db:PyData.strOk "None"=true/\PyData.strOk "'"=true/\PyData.strOk "-"=true/\PyData.strOk "0"=true/\PyData.strOk ""=true:=⟨by decide +kernel,by decide +kernel,by decide +kernel,by decide +kernel,by decide +kernel⟩
theorem Ex1.lenS{ρ:En}{M:Me}{a:Rd Tr}{x:Str}(h:Ex1 a ρ M (.str x))(hl:x.length<=big):Ex1 (aB bx (ac a ae)) ρ M (.int (x.length:Nat)):=.call (.cons h .nil) (by simp only[bx,if_pos hl])
theorem xM {M:Me} {c:Nat}:inT M (.str ⟨#[c]⟩) (.str "0123456789")=some (.bl (cf c)):=by
 have e:inT M (.str ⟨#[c]⟩) (.str "0123456789")=some (.bl (decide (c∈("0123456789":Str).cps.toList))):=rfl;rw[e]
 congr 2
 have s:("0123456789":Str).cps.toList=[48,49,50,51,52,53,54,55,56,57]:=by show chL _=_;rw[a8];rfl
 rw[s];unfold cf
 by_cases h:48<=c/\c<=57
 ·rw[decide_eq_true h.1,decide_eq_true h.2];refine decide_eq_true ?_;have:c=48∨c=49∨c=50∨c=51∨c=52∨c=53∨c=54∨c=55∨c=56∨c=57:=by omega
  simpa using this
 ·rw[show (decide (48<=c)&&decide (c<=57))=false by simp;omega];refine decide_eq_false λhm=>h ?_;simp only[aM,cR,or_false] at hm;omega
theorem Ie {M:Me} {c:Nat}:gU M (.str ⟨#[c]⟩) (.str "0123456789")=some (.bl (!cf c)):=by have h:=xM (M:=M) (c:=c);simp only[inT,bz] at h;obtain⟨z,h,e⟩:=h;simp only[gU,h,bF];cases e;rfl
theorem Ig {M:Me} {c:Nat}:gU M (.str ⟨#[c]⟩) (.str "abcdefghijklmnopqrstuvwxyz")=some (.bl (!decide (c∈da.cps.toList))):=by have h:=xN (M:=M) (c:=c);simp only[inT,bz] at h;obtain⟨z,h,e⟩:=h;simp only[gU,h,bF];cases e;rfl
theorem Ex1.lcS{ρ:En}{M:Me}{t e:Rd Tr}{x:Str}{vs:List Nat}{j:Nat}(φ:Nat->Tr)(h:Ex1 t ρ M (.str x))(hl:x.length<=big)(he:∀ c,∃ ρ',br (.nm j) (.str ⟨#[c]⟩) (dW ρ vs)=some ρ'/\Ex1 e ρ' M (φ c)):Ex1 (bv false vs (dG t) (.nm j) cL e) ρ M (.lst ((chL x).map φ)):=λQ E q=>by
 simp only[bv,dG];refine h _ _ ?_;dsimp only;refine m6 (λc:Nat=>Tr.str ⟨#[c]⟩) φ M x.cps.toList [] (by have:=aU x;unfold chL at this;simp only[aN];omega) (λc _=>?_) ?_
 ·obtain⟨ρ',e1,e2⟩:=he c;exact⟨ρ',e1,λQ' hq=>e2 _ _ hq⟩
 ·simp only[dS,bd,if_false,bR];exact q
theorem Ex1.lcSf{ρ:En}{M:Me}{t e:Rd Tr}{c:Rd Bool}{x:Str}{vs:List Nat}{j:Nat}(p:Nat->Bool)(φ:Nat->Tr)(h:Ex1 t ρ M (.str x))(hl:x.length<=big)(he:∀ c',∃ ρ',br (.nm j) (.str ⟨#[c']⟩) (dW ρ vs)=some ρ'/\Tb c ρ' M (p c')/\Ex1 e ρ' M (φ c')):Ex1 (bv false vs (dG t) (.nm j) c e) ρ M (.lst (((chL x).filter p).map φ)):=λQ E q=>by
 simp only[bv,dG];refine h _ _ ?_;dsimp only;refine m5 (λc:Nat=>Tr.str ⟨#[c]⟩) φ p M x.cps.toList [] (by have:=aU x;unfold chL at this;simp only[aN];omega) (λc _=>?_) ?_
 ·obtain⟨ρ',e1,e2,e3⟩:=he c;exact⟨ρ',e1,λQ' hq=>e2 _ _ hq,λQ' hq=>e3 _ _ hq⟩
 ·simp only[dS,bd,if_false,bR];exact q
def oL:Option Tr->Tr
 | none=>.lst []
 | some a=>.lst [a]
theorem xR{w:List Nat}(h1:bP w≠[])(h2:(bP w).length<=40)(h3:(bP w).all cf=true):PySem.intText? (sOf w)=some (fY w):=by
 have hd:PySem.NumText.AllDigits (bP w):=λc hc=>by
  have:=b7.mp h3 c hc;simpa [cf] using this
 have key:∃ n,PySem.intText? (sOf w)=some n:=by
  unfold bP at h1 h2 hd
  by_cases h45:w.take 1=[45]
  ·rw[if_pos h45] at h1 h2 hd;obtain⟨c,r,rfl⟩:∃ c r,w=c::r:=by cases w with|nil=>simp at h45|cons c r=>exact⟨c,r,rfl⟩
   simp only[ia,ib,List.cons.injEq,and_true] at h45;subst h45;simp only[List.drop_succ_cons,iY] at h1 h2 hd;refine⟨_,PySem.intText_neg (x:=sOf (45::r)) (cs:=r) (bH _) hd h1 ?_⟩;rw[<- aU,bH,az];omega
  ·rw[if_neg h45] at h1 h2 hd;refine⟨_,PySem.intText_digits (x:=sOf w) (by show PySem.NumText.AllDigits (chL (sOf w));rw[bH];exact hd) (by show chL (sOf w)≠[];rw[bH];exact h1) ?_⟩;rw[<- aU,bH];omega
 obtain⟨n,hn⟩:=key;rw[hn];unfold fY;rw[hn];rfl
theorem sJ{M:Me}{x:Str}{i:Nat}{c:Nat}(hl:x.length<=big)(h:(chL x)[i]?=some c):L4 M (.str x) (.int (i:Nat))=some (.str ⟨#[c]⟩):=by have hi:=(bL.mp h).1;simp only[L4,if_pos hl,atI];have e:x.cps.toList=chL x:=rfl;rw[e,nQ (by omega) (by omega),bD,Int.toNat_natCast,h];rfl
theorem x0{M:Me}{x:Str}{c:Nat}(hl:x.length<=big)(h:(chL x).getLast?=some c):L4 M (.str x) (.int (-1))=some (.str ⟨#[c]⟩):=by
 have hne:chL x≠[]:=λe=>by rw[e] at h;cases h
 have hp:0 < (chL x).length:=aaq.mpr hne;simp only[L4,if_pos hl,atI];have e:x.cps.toList=chL x:=rfl;have en:ixN (chL x).length (-1)=some ((chL x).length - 1):=by
  unfold ixN;rw[if_neg (by decide)]
  first
  | (rw[if_pos (by omega)];congr 1;omega)
  | (split <;> simp <;> omega)
 rw[e,en,bD];rw[List.getLast?_eq_getElem?] at h;rw[h];rfl
theorem iE{c:Nat}:chL (⟨#[c]⟩:Str)=[c]:=rfl
theorem mB{w:List Nat}{c:Nat}:w.take 1=[c]↔w[0]?=some c:=by cases w <;> simp
theorem kq{x:Str}{c:Nat}(h:PyData.strOk x=true)(hc:c∈chL x):PyData.strOk (⟨#[c]⟩:Str)=true:=jL h λd hd=>by
 rw[iE,cB] at hd;subst hd;exact hc
theorem C6{M:Me}(l:List Bool):d8 M [.lst (l.map Tr.bl)]=some (.bl (l.all id),M):=by simp only[d8,bj,bD,rG,bF]
theorem C5{M:Me}(l:List Nat):d8 M [.lst (l.map λc=>Tr.bl (cf c))]=some (.bl (l.all cf),M):=by
 have e:(l.map λc=>Tr.bl (cf c))=(l.map cf).map Tr.bl:=by rw[gG];rfl
 rw[e,C6,List.all_map];rfl
def cY:Sf:=⟨λds M Q _=>∃ x:Str,ds=[.str x]/\PyData.strOk x=true/\x.length<=900000/\Q (oL (aQ (chL x))) M,λh _ ⟨x,a,b,c,q⟩=>⟨x,a,b,c,h _ _ q⟩⟩
theorem xl {x:Str} (hx:PyData.strOk x=true) (hl:x.length<=big) {ρ:En} {M:Me} (e:ρ[0]?=some (some (.str x))):∃ y:Str,chL y=bP (chL x)/\PyData.strOk y=true/\y.length<=x.length/\Ex1 (dIf (am (F3 eqT (dSl (aa 0) (ay none) (ay (some (dC (.int 1))))) (dC (.str "-")))) (dSl (aa 0) (ay (some (dC (.int 1)))) (ay none)) (aa 0)) ρ M (.str y):=by
 have hf:PyData.strOk (cutS x none (some 1))=true:=jL hx λc hc=>by rw[m7] at hc;exact aaa hc
 have t:Tb (am (F3 eqT (dSl (aa 0) (ay none) (ay (some (dC (.int 1))))) (dC (.str "-")))) ρ M (decide ((chL x).take 1=[45])):=by have:=Tb.of (Ex1.eqS (ρ:=ρ) (M:=M) (.slTr (.v e) .cst hl) (.cst (d:=.str "-")) hf db.2.2.1);rw[m7,D6] at this;exact this
 by_cases h:(chL x).take 1=[45]
 ·refine⟨cutS x (some 1) none,by rw[rR];unfold bP;rw[if_pos h],jL hx λc hc=>by rw[rR] at hc;exact aao hc,?_,.ite t (λ_=>.slFr (.v e) .cst hl) (λz=>absurd h (of_decide_eq_false z))⟩;rw[<- aU,<- aU,rR,dY];omega
 ·exact⟨x,by unfold bP;rw[if_neg h],hx,aP _,.ite t (λz=>absurd (of_decide_eq_true z) h) (λ_=>.v e)⟩
theorem F8{cl:List Nat}:Go 1 qF (oK (jG cl)) cY:=λds M Q E hl h=>by
 obtain⟨x,rfl,hx,hxl,q⟩:=h;have hbig:x.length<=big:=by unfold big;omega
 have q':(ap M.length Q E).rt (oL (aQ (chL x))) M:=.inl q;show (oK (jG cl)).f (ap M.length Q E) [some (.str x),none,none] M;generalize ap M.length Q E=F at q' ⊢;simp only[oK];refine aA ?_;simp only[zx];have t1:=Tb.of (Ex1.eqS (ρ:=[some (.str x),none,none]) (M:=M) (.v (i:=0) rfl) (.cst (d:=.str "None")) hx db.1);rw[vY] at t1;refine Tb.if_ t1 (λz=>?_) (λz=>bU ?_)
 ·have e:=of_decide_eq_true z;refine Ex1.ret (d:=.lst [.non]) (.lst (.cons .cst .nil) (by decide)) ?_;unfold aQ at q';rw[if_pos e] at q';exact q'
 have n1:chL x≠[78,111,110,101]:=of_decide_eq_false z;dsimp only;refine aA ?_;simp only[zy]
 -- a word
 have tl:Tb (am (F3 gtT (aB bx (ac (aa 0) ae)) (dC (.int 2)))) [some (.str x),none,none] M (decide (2 < x.length)):=.of (.op (.lenS (.v (i:=0) rfl) hbig) .cst (by simp only[gtT,c5];congr 2;exact decide_eq_decide.mpr (by omega)));have lst:∀ c,(chL x).getLast?=some c->Ex1 (F3 eqT (F3 L4 (aa 0) (eV (dC (.int 1)))) (dC (.str "'"))) [some (.str x),none,none] M (.bl (decide ([c]=[39]))):=λc hc=>by
  have:=Ex1.eqS (.op (.v (i:=0) rfl) (.negI .cst) (x0 (M:=M) hbig hc)) (.cst (d:=.str "'")) (kq hx (List.mem_of_getLast? hc)) db.2.1 (ρ:=[some (.str x),none,none]);rw[kY,iE] at this;exact this
 have fst0:∀ c,(chL x)[0]?=some c->Ex1 (F3 eqT (F3 L4 (aa 0) (dC (.int 0))) (dC (.str "'"))) [some (.str x),none,none] M (.bl (decide ([c]=[39]))):=λc hc=>by
  have:=Ex1.eqS (.op (.v (i:=0) rfl) .cst (sJ (M:=M) (i:=0) hbig hc)) (.cst (d:=.str "'")) (kq hx (f7 hc)) db.2.1 (ρ:=[some (.str x),none,none]);rw[kY,iE] at this;exact this
 have test:Tb (dQ (am (F3 gtT (aB bx (ac (aa 0) ae)) (dC (.int 2)))) (dQ (am (F3 eqT (F3 L4 (aa 0) (dC (.int 0))) (dC (.str "'")))) (am (F3 eqT (F3 L4 (aa 0) (eV (dC (.int 1)))) (dC (.str "'")))))) [some (.str x),none,none] M
   (decide (2 < x.length)&&(decide ((chL x)[0]?=some 39)&&decide ((chL x).getLast?=some 39))):=by
  refine Tb.and tl λh2=>?_;have h2:=of_decide_eq_true h2;have hln:=aU x;have hne:chL x≠[]:=λe=>by rw[e] at hln;simp at hln;omega
  obtain⟨c,hc⟩:∃ c,(chL x)[0]?=some c:=⟨_,eE (by omega)⟩
  obtain⟨d,hd⟩:∃ d,(chL x).getLast?=some d:=⟨_,List.getLast?_eq_getLast hne⟩
  have e1:=Tb.of (fst0 c hc);have e2:=Tb.of (lst d hd);rw[hc,hd];have a1:decide ([c]=[39])=decide (some c=some 39):=decide_eq_decide.mpr (by simp);have a2:decide ([d]=[39])=decide (some d=some 39):=decide_eq_decide.mpr (by simp);rw[a1] at e1;rw[a2] at e2;exact .and e1 λ_=>e2
 refine Tb.if_ test (λz=>?_) (λz=>bU ?_)
 ·simp only[ax,decide_eq_true_eq] at z;obtain⟨z1,z2,z3⟩:=z;have hin:=wc x (by omega);have hsub:∀ c∈chL (cutS x (some 1) (some (-1))),c∈chL x:=λc hc=>by rw[hin] at hc;unfold eY at hc;exact aao (aaa hc)
  have hil:(cutS x (some 1) (some (-1))).length<=x.length:=by rw[<- aU,<- aU,hin];unfold eY;rw[gF,dY];omega
  have ein:cutS x (some 1) (some (-1))=sOf (eY (chL x)):=by rw[<- hin,iI]
  have sl:Ex1 (dSl (aa 0) (ay (some (dC (.int 1)))) (ay (some (eV (dC (.int 1)))))) [some (.str x),none,none] M (.str (cutS x (some 1) (some (-1)))):=.sl1 (.v (i:=0) rfl) .cst (.negI .cst) hbig;have tw:Tb (bp (GE (jG cl) [] 1 (ac (dSl (aa 0) (ay (some (dC (.int 1)))) (ay (some (eV (dC (.int 1)))))) ae))) [some (.str x),none,none] M (bK (cutS x (some 1) (some (-1)))) :=
   .tru (.fn (.cons sl .nil) rfl λQ' E' q'=>⟨_,rfl,⟨by simp only[bu];exact decide_eq_true (by omega),λc xs e=>nomatch e⟩,q'⟩) rfl
  refine Ex1.ret (d:=oL (aQ (chL x))) (.ite tw (λhw=>?_) (λhw=>?_)) q'
  ·have e:oL (aQ (chL x))=.lst [.str (cutS x (some 1) (some (-1)))]:=by
    unfold aQ;rw[if_neg n1,if_pos (mB.mpr z2),if_pos ⟨by rw[aU];exact z1,z3,by rw[<- ein];exact hw⟩,<- ein];rfl
   rw[e];exact .lst (.cons sl .nil) (by show 1<=big;decide)
  ·have e:oL (aQ (chL x))=.lst []:=by
    unfold aQ;rw[if_neg n1,if_pos (mB.mpr z2),if_neg (λk=>by rw[<- ein] at k;rw[k.2.2] at hw;cases hw)];rfl
   rw[e];exact .lst .nil (by decide)
 dsimp only;refine aA ?_;simp only[zz];obtain⟨y,y1,y2,y3,y4⟩:=xl hx hbig (ρ:=[some (.str x),none,none]) (M:=M) rfl;have ybig:y.length<=big:=by omega
 refine Ex1.asg y4 ?_;simp only[bC,bE];refine aA ?_;simp only[zA]
 -- no quoted word from here on: what begins with a quote has no figures
 have quo:(chL x).take 1=[39]->aQ (chL x)=none/\(bP (chL x)).all cf=false:=λh39=>by
  have hz:¬ (2 < (chL x).length/\(chL x).getLast?=some 39/\bK (sOf (eY (chL x)))=true):=λk=>by
   have z2:=z;rw[decide_eq_true (by rw[<- aU];exact k.1),decide_eq_true (mB.mp h39),decide_eq_true k.2.1] at z2;cases z2
  refine⟨by unfold aQ;rw[if_neg n1,if_pos h39,if_neg hz],?_⟩;obtain⟨r,hr⟩:∃ r,chL x=39::r:=by
   cases e:chL x with
   | nil=>rw[e] at h39;simp at h39
   | cons c r=>rw[e] at h39;simp only[ia,ib,List.cons.injEq,and_true] at h39;exact⟨r,by rw[h39]⟩
  rw[hr];rfl
 have ev:Ex1 (aa 1) [some (.str x),some (.str y),none] M (.str y):=.v (i:=1) rfl;have t4a:=Tb.of (Ex1.eqS (ρ:=[some (.str x),some (.str y),none]) (M:=M) ev (.cst (d:=.str "")) y2 db.2.2.2.2);rw[kX,y1] at t4a;have t4b:Tb (am (F3 gtT (aB bx (ac (aa 1) ae)) (dC (.int 40)))) [some (.str x),some (.str y),none] M (decide (40 < (bP (chL x)).length)):=.of (.op (.lenS ev ybig) .cst (by simp only[gtT,c5];congr 2;exact decide_eq_decide.mpr (by rw[<- y1,aU];omega)));have t4c:Tb (cH (bp (aB d8 (ac (bv false [2] (dG (aa 1)) (.nm 2) cL (F3 inT (aa 2) (dC (.str "0123456789")))) ae)))) [some (.str x),some (.str y),none] M (!((bP (chL x)).all cf)):=by refine .not (.tru (.call (.cons (.lcS (λc=>.bl (cf c)) ev ybig λc=>⟨[some (.str x),some (.str y),some (.str ⟨#[c]⟩)],rfl,.op (.v (i:=2) rfl) .cst xM⟩) .nil) (C5 _)) ?_);rw[y1];rfl
 refine Tb.if_ (.or t4a λ_=>.or t4b λ_=>t4c) (λz4=>?_) (λz4=>bU ?_)
 ·refine Ex1.ret (d:=oL (aQ (chL x))) ?_ q';have e:aQ (chL x)=none:=by
   by_cases h39:(chL x).take 1=[39]
   ·exact(quo h39).1
   ·unfold aQ;rw[if_neg n1,if_neg h39,if_pos];simp only[gA,decide_eq_true_eq,aam] at z4;exact z4
  rw[e];exact .lst .nil (by decide)
 dsimp only;simp only[zB];simp only[hZ,decide_eq_false_iff_not,aas] at z4;obtain⟨f1,f2,f3⟩:=z4;have h39:(chL x).take 1≠[39]:=λk=>by have:=(quo k).2;rw[f3] at this;cases this
 obtain⟨c,hc⟩:∃ c,(chL y)[0]?=some c:=by rw[y1];exact⟨_,eE (aaq.mpr f1)⟩
 have t5a:=Tb.of (Ex1.neS (ρ:=[some (.str x),some (.str y),none]) (M:=M) (.op ev .cst (sJ (i:=0) ybig hc)) (.cst (d:=.str "0")) (kq y2 (f7 hc)) db.2.2.2.1);rw[m4,iE] at t5a;have t5b:=Tb.of (Ex1.eqS (ρ:=[some (.str x),some (.str y),none]) (M:=M) (.v (i:=0) rfl) (.cst (d:=.str "0")) hx db.2.2.2.1);rw[m4] at t5b;have hc0:([c]=[48])↔(bP (chL x)).take 1=[48]:=by rw[<- y1,mB,hc];simp
 have vint:dk M [.str x]=some (.int (fY (chL x)),M):=by
  have:=xR f1 (by omega) f3;rw[iI] at this;have hl640:x.length<=640:=by
   rw[<- aU];have:(chL x).length<=(bP (chL x)).length+1:=by
    unfold bP
    split
    ·rw[dY];omega
    ·omega
   omega
  simp only[dk,if_pos hl640,this,bF]
 refine Ex1.ret (d:=oL (aQ (chL x))) (.ite (.or t5a λ_=>t5b) (λz5=>?_) (λz5=>?_)) q'
 ·have e:oL (aQ (chL x))=.lst [.int (fY (chL x))]:=by
   unfold aQ;rw[if_neg n1,if_neg h39,if_neg (λk=>?_),if_pos]
   ·rfl
   ·simp only[gA,aam,decide_eq_false_iff_not,decide_eq_true_eq] at z5;exact z5.imp (λk1 k2=>k1 (hc0.mpr k2)) id
   ·rcases k with k|k|k
    ·exact f1 k
    ·exact f2 k
    ·rw[f3] at k;cases k
  rw[e];exact .lst (.cons (.call (.cons (.v (i:=0) rfl) .nil) vint) .nil) (by show 1<=big;decide)
 ·have e:oL (aQ (chL x))=.lst []:=by
   unfold aQ;rw[if_neg n1,if_neg h39,if_neg (λk=>?_),if_neg]
   ·rfl
   ·simp only[hZ,aas,decide_eq_true_eq,decide_eq_false_iff_not] at z5;exact λk=>k.elim (λk1=>k1 (hc0.mp z5.1)) z5.2
   ·rcases k with k|k|k
    ·exact f1 k
    ·exact f2 k
    ·rw[f3] at k;cases k
  rw[e];exact .lst .nil (by decide)
theorem lg{M:Me}(l:List Str)(h:∀ x∈l,PyData.strOk x=true):eqT M (.lst (l.map Tr.str)) (.lst [])=some (.bl l.isEmpty):=by have h1:=Hh h;have h0:SeqAt.shaped (.list [])=true:=rfl;simp only[eqT,eqB,fi,pyd,zn,dJ,bF,h1,h0,dO,if_true];cases l <;> rfl
theorem H9{M:Me}(l:List Str)(h:∀ x∈l,PyData.strOk x=true):neT M (.lst (l.map Tr.str)) (.lst [])=some (.bl (!l.isEmpty)):=by have h:=lg (M:=M) l h;simp only[eqT,bz] at h;obtain⟨z,h,e⟩:=h;simp only[neT,h,bF];cases e;rfl
theorem xm{α:Type}(p:α->Bool)(l:List α):(l.filter λx=>!p x).isEmpty=l.all p:=by
 induction l with
 | nil=>rfl
 | cons x r ih =>
  rw[List.all_cons];cases hx:p x with
  | true=>rw[List.filter_cons_of_neg (by simp [hx]),ih,aaw]
  | false=>rw[List.filter_cons_of_pos (by simp [hx])];rfl
theorem Ex1.andV{ρ:En}{M:Me}{a b:Rd Tr}{x y:Bool}(h:Ex1 a ρ M (.bl x))(h':x=true->Ex1 b ρ M (.bl y)):Ex1 (c6 a b) ρ M (.bl (x&&y)):=by
 cases x with
 | true=>exact λQ E q=>h _ _ (by rw[aaw] at q;exact h' rfl _ _ q)
 | false=>exact λQ E q=>h _ _ q
theorem yF{ρ:En}{M:Me}{t e:Rd Tr}{c:Rd Bool}{x:Str}{vs:List Nat}{j:Nat}(p:Nat->Bool)(hx:PyData.strOk x=true)(h:Ex1 t ρ M (.str x))(hl:x.length<=big)(he:∀ c',∃ ρ',br (.nm j) (.str ⟨#[c']⟩) (dW ρ vs)=some ρ'/\Tb c ρ' M (!p c')/\Ex1 e ρ' M (.str ⟨#[c']⟩)) :
  (∀ v,v=(chL x).all p->Ex1 (F3 eqT (bv false vs (dG t) (.nm j) c e) (aI ae)) ρ M (.bl v))/\(∀ v,v=!(chL x).all p->Ex1 (F3 neT (bv false vs (dG t) (.nm j) c e) (aI ae)) ρ M (.bl v)):=by
 have hc:=Ex1.lcSf (λc=>!p c) (λc=>Tr.str ⟨#[c]⟩) h hl he;have e1:((chL x).filter λc=>!p c).map (λc=>Tr.str ⟨#[c]⟩)=(((chL x).filter λc=>!p c).map λc=>(⟨#[c]⟩:Str)).map Tr.str:=by rw[gG];rfl
 have ho:∀ y∈((chL x).filter λc=>!p c).map (λc=>(⟨#[c]⟩:Str)),PyData.strOk y=true:=λy hy=>by
  obtain⟨c,hc,rfl⟩:=cJ.mp hy;exact kq hx (List.mem_filter.mp hc).1
 rw[e1] at hc;refine⟨λv hv=>.op hc (.lst .nil (by decide)) ?_,λv hv=>.op hc (.lst .nil (by decide)) ?_⟩
 ·rw[lg _ ho,List.isEmpty_map,xm,hv]
 ·rw[H9 _ ho,List.isEmpty_map,xm,hv]
theorem F7:Go 1 qP oX cY:=λds M Q E hl h=>by
 obtain⟨x,rfl,hx,hxl,q⟩:=h;have hbig:x.length<=big:=by unfold big;omega
 have q':(ap M.length Q E).rt (oL (aQ (chL x))) M:=.inl q;show oX.f (ap M.length Q E) [some (.str x),none,none,none,none,none,none] M;generalize ap M.length Q E=F at q' ⊢;simp only[oX];refine aA ?_;show (ub).f { F with nx:=_ } [some (.str x),none,none,none,none,none,none] M;simp only[ub,aC,fH,ac,ae,dC];refine⟨by show 2<=big;decide,?_⟩;refine aJ (z:=[some (.str x),none,some (.str "abcdefghijklmnopqrstuvwxyz"),some (.str "0123456789"),none,none,none]) rfl ?_;refine aA ?_;simp only[zJ];generalize hρ:[some (Tr.str x),none,some (.str "abcdefghijklmnopqrstuvwxyz"),some (.str "0123456789"),none,none,none]=ρ;have v0:ρ[0]?=some (some (.str x)):=by rw[<- hρ];rfl
 have t1:=Tb.of (Ex1.eqS (ρ:=ρ) (M:=M) (.v (i:=0) v0) (.cst (d:=.str "None")) hx db.1);rw[vY] at t1;refine Tb.if_ t1 (λz=>?_) (λz=>bU ?_)
 ·have e:=of_decide_eq_true z;refine Ex1.ret (d:=.lst [.non]) (.lst (.cons .cst .nil) (by decide)) ?_;unfold aQ at q';rw[if_pos e] at q';exact q'
 have n1:chL x≠[78,111,110,101]:=of_decide_eq_false z;dsimp only;refine aA ?_;simp only[zK];have hf:PyData.strOk (cutS x none (some 1))=true:=jL hx λc hc=>by rw[m7] at hc;exact aaa hc
 have t3:=Tb.of (Ex1.eqS (ρ:=ρ) (M:=M) (.slTr (.v (i:=0) v0) .cst hbig) (.cst (d:=.str "'")) hf db.2.1);rw[m7,kY] at t3;refine Tb.if_ t3 (λz3=>?_) (λz3=>bU ?_)
 ·have h39:=of_decide_eq_true z3;subst hρ;have hne:chL x≠[]:=λe=>by rw[e] at h39;cases h39
  have hpos:=aaq.mpr hne;simp only[zL];refine aA ?_;simp only[zM];generalize hy:cutS x (some 1) (some (-1))=y;refine Ex1.asg (d:=.str y) (by rw[<- hy];exact .sl1 (.v (i:=0) rfl) .cst (.negI .cst) hbig) ?_;simp only[bC,bE];refine aA ?_;simp only[zN];have hin:2 < x.length->chL y=eY (chL x):=λh=>by rw[<- hy];exact wc x (by omega)
  have hyl:y.length<=x.length:=by rw[<- hy,<- aU,<- aU,gO,gF,dY];omega
  have hyo:PyData.strOk y=true:=by rw[<- hy];exact jL hx λc hc=>by rw[gO] at hc;exact aao (aaa hc)
  obtain⟨d,hd⟩:∃ d,(chL x).getLast?=some d:=⟨_,List.getLast?_eq_getLast hne⟩
  refine Ex1.asg (d:=.bl (decide (2 < x.length)&&(decide ((chL x).getLast?=some 39)&&decide (y.length < 9)))) ?_ ?_
  ·refine .andV (.op (.lenS (.v (i:=0) rfl) hbig) .cst (by simp only[gtT,c5];congr 2;exact decide_eq_decide.mpr (by omega))) λ_=>.andV ?_ λ_=>.op (.lenS (.v (i:=4) rfl) (by omega)) .cst (by simp only[ltT,c5];congr 2;exact decide_eq_decide.mpr (by omega));have:=Ex1.eqS (.op (.v (i:=0) rfl) (.negI .cst) (x0 (M:=M) hbig hd)) (.cst (d:=.str "'")) (kq hx (List.mem_of_getLast? hd)) db.2.1 (ρ:=[some (.str x),none,some (.str "abcdefghijklmnopqrstuvwxyz"),some (.str "0123456789"),some (.str y),none,none]);rw[kY,iE] at this;rw[hd];have a2:decide ([d]=[39])=decide (some d=some 39):=decide_eq_decide.mpr (by simp);rw[a2] at this;exact this
  simp only[bC,bE];generalize hg:(decide (2 < x.length)&&(decide ((chL x).getLast?=some 39)&&decide (y.length < 9)))=g;simp only[zO];have tn:=(yF (M:=M) (vs:=[6]) (j:=6) (e:=aa 6) (c:=am (F3 gU (aa 6) (aa 2))) (t:=aa 4) (λc=>decide (c∈da.cps.toList)) hyo (ρ:=[some (.str x),none,some (.str "abcdefghijklmnopqrstuvwxyz"),some (.str "0123456789"),some (.str y),some (.bl g),none]) (.v (i:=4) rfl) (by omega) λc=>⟨_,rfl,.of (.op (.v (i:=6) rfl) (.v (i:=2) rfl) Ig),.v (i:=6) rfl⟩).1 _ rfl;refine Ex1.ret (d:=oL (aQ (chL x))) (.ite (.and (.tru (.v (i:=5) rfl) rfl) λ_=>.of tn) (λz=>?_) (λz=>?_)) q'
  ·simp only[<- hg,ax,decide_eq_true_eq] at z;obtain⟨⟨z1,z2,z3⟩,z4⟩:=z;have hw:bK (sOf (eY (chL x)))=true:=by
    rw[<- hin z1,iI];unfold bK;have hyp:1<=y.length:=by rw[<- aU,hin z1];unfold eY;rw[gF,dY];have:=aU x;omega
    simp only[ax,decide_eq_true_eq];refine⟨⟨hyp,by omega⟩,?_⟩
    first
    | exact z4
    | simpa [chL] using z4
   have e:oL (aQ (chL x))=.lst [.str y]:=by unfold aQ;rw[if_neg n1,if_pos h39,if_pos ⟨by rw[aU];exact z1,z2,hw⟩,<- hin z1,iI];rfl
   rw[e];exact .lst (.cons (.v (i:=4) rfl) .nil) (by show 1<=big;decide)
  ·have e:oL (aQ (chL x))=.lst []:=by
    unfold aQ;rw[if_neg n1,if_pos h39,if_neg λk=>?_]
    ·rfl
    ·obtain⟨k1,k2,k3⟩:=k;rw[aU] at k1;rw[<- hin k1,iI] at k3;unfold bK at k3;simp only[ax,decide_eq_true_eq] at k3;obtain⟨⟨k3,k4⟩,k5⟩:=k3;rw[<- hg,decide_eq_true k1,decide_eq_true k2,decide_eq_true (show y.length < 9 by omega)] at z;simp only[Bool.and_true,aaw] at z;have:(chL y).all (λc=>decide (c∈da.cps.toList))=true:=by
      first
      | exact k5
      | simpa [chL] using k5
     rw[this] at z;cases z
   rw[e];exact .lst .nil (by decide)
 have h39:(chL x).take 1≠[39]:=of_decide_eq_false z3;dsimp only;refine aA ?_;simp only[zP];obtain⟨y,y1,y2,y3,y4⟩:=xl hx hbig (ρ:=ρ) (M:=M) v0;have ybig:y.length<=big:=by omega
 refine Ex1.asg y4 ?_;rw[<- hρ];simp only[bC,bE];refine aA ?_;simp only[zQ];generalize hρ2:[some (Tr.str x),some (.str y),some (.str "abcdefghijklmnopqrstuvwxyz"),some (.str "0123456789"),none,none,none]=ρ2;have w0:ρ2[0]?=some (some (.str x)):=by rw[<- hρ2];rfl
 have w1:ρ2[1]?=some (some (.str y)):=by rw[<- hρ2];rfl
 have ev:Ex1 (aa 1) ρ2 M (.str y):=.v (i:=1) w1;have t4a:=Tb.of (Ex1.eqS (ρ:=ρ2) (M:=M) ev (.cst (d:=.str "")) y2 db.2.2.2.2);rw[kX,y1] at t4a;have t4b:Tb (am (F3 gtT (aB bx (ac (aa 1) ae)) (dC (.int 40)))) ρ2 M (decide (40 < (bP (chL x)).length)):=.of (.op (.lenS ev ybig) .cst (by simp only[gtT,c5];congr 2;exact decide_eq_decide.mpr (by rw[<- y1,aU];omega)));have t4c:=Tb.of ((yF (M:=M) (vs:=[6]) (j:=6) (e:=aa 6) (c:=am (F3 gU (aa 6) (aa 3))) (t:=aa 1) cf y2 (ρ:=ρ2) ev ybig λc=>by
  subst hρ2;exact⟨_,rfl,.of (.op (.v (i:=6) rfl) (.v (i:=3) rfl) Ie),.v (i:=6) rfl⟩).2 (!((bP (chL x)).all cf)) (by rw[y1]))
 refine Tb.if_ (.or t4a λ_=>.or t4b λ_=>t4c) (λz4=>?_) (λz4=>bU ?_)
 ·refine Ex1.ret (d:=oL (aQ (chL x))) ?_ q';have e:aQ (chL x)=none:=by
   unfold aQ;rw[if_neg n1,if_neg h39,if_pos];simp only[gA,decide_eq_true_eq,aam] at z4;exact z4
  rw[e];exact .lst .nil (by decide)
 dsimp only;simp only[zS];simp only[hZ,decide_eq_false_iff_not,aas] at z4;obtain⟨f1,f2,f3⟩:=z4;obtain⟨c,hc⟩:∃ c,(chL y)[0]?=some c:=by rw[y1];exact⟨_,eE (aaq.mpr f1)⟩
 have t5a:=Tb.of (Ex1.neS (ρ:=ρ2) (M:=M) (.op ev .cst (sJ (i:=0) ybig hc)) (.cst (d:=.str "0")) (kq y2 (f7 hc)) db.2.2.2.1);rw[m4,iE] at t5a;have t5b:=Tb.of (Ex1.eqS (ρ:=ρ2) (M:=M) (.v (i:=0) w0) (.cst (d:=.str "0")) hx db.2.2.2.1);rw[m4] at t5b;have hc0:([c]=[48])↔(bP (chL x)).take 1=[48]:=by rw[<- y1,mB,hc];simp
 have vint:dk M [.str x]=some (.int (fY (chL x)),M):=by
  have:=xR f1 (by omega) f3;rw[iI] at this;have hl640:x.length<=640:=by
   rw[<- aU];have:(chL x).length<=(bP (chL x)).length+1:=by
    unfold bP
    split
    ·rw[dY];omega
    ·omega
   omega
  simp only[dk,if_pos hl640,this,bF]
 refine Ex1.ret (d:=oL (aQ (chL x))) (.ite (.or t5b λ_=>t5a) (λz5=>?_) (λz5=>?_)) q'
 ·have e:oL (aQ (chL x))=.lst [.int (fY (chL x))]:=by
   unfold aQ;rw[if_neg n1,if_neg h39,if_neg (λk=>?_),if_pos]
   ·rfl
   ·simp only[gA,aam,decide_eq_false_iff_not,decide_eq_true_eq] at z5;exact z5.symm.imp (λk1 k2=>k1 (hc0.mpr k2)) id
   ·rcases k with k|k|k
    ·exact f1 k
    ·exact f2 k
    ·rw[f3] at k;cases k
  rw[e];exact .lst (.cons (.call (.cons (.v (i:=0) w0) .nil) vint) .nil) (by show 1<=big;decide)
 ·have e:oL (aQ (chL x))=.lst []:=by
   unfold aQ;rw[if_neg n1,if_neg h39,if_neg (λk=>?_),if_neg]
   ·rfl
   ·simp only[hZ,aas,decide_eq_true_eq,decide_eq_false_iff_not] at z5;exact λk=>k.elim (λk1=>k1 (hc0.mp z5.2)) z5.1
   ·rcases k with k|k|k
    ·exact f1 k
    ·exact f2 k
    ·rw[f3] at k;cases k
  rw[e];exact .lst .nil (by decide)
theorem xh:∀(l:List Nat)(a:Nat),(∀ c∈l,cf c=true)->l.foldl (λacc c=>acc * 10+(c - 48)) a < (a+1) * 10 ^ l.length
 | [],a,_=>by simp
 | c::r,a,h=>by
  rw[aat,az];have hc:=h c (a6 ..);simp only[cf,ax,decide_eq_true_eq] at hc;have:=xh r (a * 10+(c - 48)) λd hd=>h d (aZ _ hd);refine aae this ?_;have h2:a * 10+(c - 48)+1<=(a+1) * 10:=by omega
  calc (a * 10+(c - 48)+1) * 10 ^ r.length<=((a+1) * 10) * 10 ^ r.length:=aab _ h2
   _=(a+1) * 10 ^ (r.length+1):=by rw[Nat.pow_succ,Nat.mul_assoc,Nat.mul_comm 10]
theorem w4:∀(k n:Nat),n < 10 ^ k->0 < k->(gb 10 n).length<=k
 | 0,_,_,h=>absurd h (Nat.lt_irrefl 0)
 | k+1,n,h,_=>by
  by_cases h10:n < 10
  ·rw[Nat.toDigits_of_lt_base h10];simp
  ·rw[Nat.toDigits_of_base_le (by decide) (by omega),bt,cA];rw[Nat.pow_succ] at h;have h1:n / 10 < 10 ^ k:=Nat.div_lt_of_lt_mul (by omega);have:0 < k:=by
    cases k with
    | zero=>simp at h1;omega
    | succ k=>omega
   have:=w4 k (n / 10) h1 this;omega
theorem dch:∀ n,n < 10->cf (aax n).toNat=true/\((aax n).toNat=48->n=0):=by decide
theorem sj:∀(k n:Nat),n<=k->∃ c r,(gb 10 n).map Char.toNat=c::r/\(c=48->n=0)/\∀ d∈c::r,cf d=true
 | 0,n,h=>by
  have:n=0:=by omega
  subst this;exact⟨48,[],by decide,λ_=>rfl,by decide⟩
 | k+1,n,h=>by
  by_cases h10:n < 10
  ·rw[Nat.toDigits_of_lt_base h10];exact⟨_,[],rfl,(dch n h10).2,λd hd=>by rw[cB] at hd;subst hd;exact(dch n h10).1⟩
  ·rw[Nat.toDigits_of_base_le (by decide) (by omega)];obtain⟨c,r,e,h1,h2⟩:=sj k (n / 10) (by omega);refine⟨c,r++[(aax (n % 10)).toNat],by rw[i3,e];rfl,λhc=>by have:=h1 hc;omega,λd hd=>?_⟩;rw[<- aY,bf] at hd;rcases hd with hd|hd
   ·exact h2 d hd
   ·rw[cB] at hd;subst hd;exact(dch _ (Nat.mod_lt _ (by decide))).1
theorem AV(n:Nat):(dy n).toList=gb 10 n:=by unfold dy;simp
def dgs(n:Nat):List Nat:=(gb 10 n).map Char.toNat
theorem D7(n:Nat):chL (Str.ofString (dy n))=dgs n:=by rw[a8,AV];rfl
theorem wZ(n:Nat):NumText.digitsVal (dgs n)=n:=by have h:=sk n;unfold NumText.digitsVal dgs;rw[List.foldl_map];exact h
theorem kQ(i:Int):txt (.int i)=if i < 0 then 45::dgs i.natAbs else dgs i.natAbs:=by
 rw[txt];cases i with
 | ofNat n =>
  rw[jw,D7,if_neg (by show ¬ ((n:Int) < 0);omega)];rfl
 | negSucc n =>
  rw[ki,if_pos (by omega),a8];rw[String.toList_append,i3];show [45]++_=_;rw[AV];rfl
theorem nJ{i:Int}:et i=true↔i.natAbs < 10 ^ 40:=by
 unfold et;rw[decide_eq_true_eq]
 split <;> omega
theorem nl{n:Nat}(h:n < 10 ^ 40):dgs n≠[]/\(dgs n).length<=40/\(dgs n).all cf=true/\((dgs n).take 1=[48]->n=0)/\(dgs n).take 1≠[45]/\(dgs n).take 1≠[39]:=by
 obtain⟨c,r,e,h1,h2⟩:=sj n n (aP _);have hl:=w4 40 n h (by decide);have e':dgs n=c::r:=e;have hc:=h2 c (a6 ..);simp only[cf,ax,decide_eq_true_eq] at hc;refine⟨by rw[e'];simp,by unfold dgs;rw[cj];exact hl,by rw[e'];exact b7.mpr h2,?_,?_,?_⟩
 ·rw[e'];simp only[ia,ib,List.cons.injEq,and_true];exact h1
 ·rw[e'];simp only[ia,ib,ne_eq,List.cons.injEq,and_true];omega
 ·rw[e'];simp only[ia,ib,ne_eq,List.cons.injEq,and_true];omega
theorem Fp{i:Int}(h:et i=true):bP (txt (.int i))=dgs i.natAbs:=by
 have f:=nl (nJ.mp h);rw[kQ];unfold bP
 split
 ·simp
 ·rw[if_neg f.2.2.2.2.1]
theorem KY{i:Int}(h:et i=true):fY (txt (.int i))=i:=by
 have hn:=nJ.mp h;have f:=nl hn;have ad:NumText.AllDigits (dgs i.natAbs):=λc hc=>by
  have:=b7.mp f.2.2.1 c hc;simpa [cf] using this
 unfold fY;rw[kQ]
 split
 ·rw[PySem.intText_neg (x:=sOf (45::dgs i.natAbs)) (cs:=dgs i.natAbs) rfl ad f.1 (by rw[<- aU,bH,az];omega),wZ];show -((i.natAbs:Nat):Int)=i;omega
 ·rw[PySem.intText_digits (x:=sOf (dgs i.natAbs)) ad f.1 (by rw[<- aU,bH];omega)];show ((NumText.digitsVal (dgs i.natAbs):Nat):Int)=i;rw[wZ];omega
theorem xO(l:List Nat):eY (39::l++[39])=l:=by unfold eY;rw[aY,List.drop_succ_cons,iY,az,bt,cA];rw[show l.length+1+1 - 2=l.length by omega,List.take_left]
theorem im{a:Tr}(h:aK a=true):aQ (txt a)=some a:=by
 cases a with
 | non=>rw[txt];rfl
 | str w =>
  have hw:bK w=true:=by simpa [aK,aS,aX] using h
  rw[txt];unfold aQ;have hp:1<=w.length:=by unfold bK at hw;simp only[ax,decide_eq_true_eq] at hw;omega
  rw[if_neg (by simp),if_pos (by simp),xO,iI,if_pos ⟨by simp only[bt,az,aN];have:=aU w;omega,by rw[List.getLast?_append];rfl,hw⟩]
 | int i =>
  have hi:et i=true:=by simpa [aK,aS,aX] using h
  have f:=nl (nJ.mp hi);have e:=Fp hi;have hv:=KY hi;unfold aQ;rw[e,hv];have n39:(txt (.int i)).take 1≠[39]:=by
   rw[kQ]
   split
   ·simp
   ·exact f.2.2.2.2.2
  have nN:txt (.int i)≠[78,111,110,101]:=λk=>by
   rw[k] at e;have:(dgs i.natAbs).all cf=true:=f.2.2.1;rw[<- e] at this;exact absurd this (by decide)
  rw[if_neg nN,if_neg n39,if_neg (λk=>by
   rcases k with k|k|k
   ·exact f.1 k
   ·exact absurd f.2.1 (by omega)
   ·rw[f.2.2.1] at k;cases k),if_pos]
  by_cases h0:(dgs i.natAbs).take 1=[48]
  ·have h0:=f.2.2.2.1 h0;refine .inr ?_;rw[kQ,if_neg (by omega),h0]
   decide
  ·exact .inl h0
 | _=>simp [aK,aS,aX] at h
theorem fG{w:List Nat}{a:Tr}(h:aQ w=some a):aK a=true/\62∉w/\w≠[91]/\w≠[93]/\w≠[44]:=by
 unfold aQ at h
 split at h
 ·rename_i e;cases h;subst e;exact⟨rfl,by decide,by decide,by decide,by decide⟩
 ·split at h
  ·rename_i h39
   split at h
   ·rename_i k;obtain⟨k1,k2,k3⟩:=k;cases h;refine⟨by simpa [aK,aS,aX] using k3,?_,?_,?_,?_⟩
    ·intro h62;obtain⟨r,rfl⟩:∃ r,w=39::r:=by
      cases w with
      | nil=>simp at h39
      | cons c r=>simp only[ia,ib,List.cons.injEq,and_true] at h39;exact⟨r,by rw[h39]⟩
     have hr:r≠[]:=λe=>by rw[e] at k1;simp at k1
     obtain⟨m,c,rfl⟩:∃ m c,r=m++[c]:=⟨r.dropLast,r.getLast hr,(List.dropLast_concat_getLast hr).symm⟩
     rw[<- aY,List.getLast?_append] at k2;simp only[List.getLast?_singleton,Option.some_or,Option.some.injEq] at k2;subst k2;rw[show 39::(m++[39])=39::m++[39] from rfl,xO] at k3;unfold bK at k3;simp only[ax] at k3;have ha:=k3.2;have hm:62∈m:=by simpa using h62
     have:(chL (sOf m)).all (λc=>decide (c∈da.cps.toList))=true:=by
      first
      | exact ha
      | simpa [chL] using ha
     rw[bH] at this;have:=of_decide_eq_true (b7.mp this 62 hm);exact absurd this (by decide +kernel)
    ·rintro rfl;exact absurd h39 (by decide)
    ·rintro rfl;exact absurd h39 (by decide)
    ·rintro rfl;exact absurd h39 (by decide)
   ·cases h
  ·split at h
   ·cases h
   ·rename_i k;simp only[not_or,Bool.not_eq_false] at k;obtain⟨k1,k2,k3⟩:=k;have nd:∀ c,c∈w->c≠45->cf c=true:=λc hc h45=>by
     unfold bP at k3
     split at k3
     ·rename_i t;cases w with
      | nil=>simp at hc
      | cons x r =>
       simp only[ia,ib,List.cons.injEq,and_true] at t;subst t;exact b7.mp k3 c ((aM.mp hc).resolve_left h45)
     ·exact b7.mp k3 c hc
    split at h
    ·cases h;refine⟨?_,λhm=>absurd (nd 62 hm (by decide)) (by decide),?_,?_,?_⟩
     ·have:et (fY w)=true:=by
       rw[nJ];have ad:NumText.AllDigits (bP w):=λc hc=>by
        have:=b7.mp k3 c hc;simpa [cf] using this
       have hv:NumText.digitsVal (bP w) < 10 ^ 40:=by have:=xh (bP w) 0 (b7.mp k3);unfold NumText.digitsVal;refine aae this ?_;rw[Nat.zero_add,Nat.one_mul];exact Nat.pow_le_pow_right (by decide) (by omega)
       unfold bP at k1 k2 ad hv;unfold fY
       by_cases t:w.take 1=[45]
       ·rw[if_pos t] at k1 k2 ad hv;obtain⟨r,rfl⟩:∃ r,w=45::r:=by
         cases w with
         | nil=>simp at t
         | cons c r=>simp only[ia,ib,List.cons.injEq,and_true] at t;exact⟨r,by rw[t]⟩
        simp only[List.drop_succ_cons,iY] at k1 k2 ad hv;rw[PySem.intText_neg (x:=sOf (45::r)) (cs:=r) rfl ad k1 (by rw[<- aU,bH,az];omega)];show (-((NumText.digitsVal r:Nat):Int)).natAbs < _;rw[Int.natAbs_neg,Int.natAbs_natCast];exact hv
       ·rw[if_neg t] at k1 k2 ad hv;rw[PySem.intText_digits (x:=sOf w) ad k1 (by rw[<- aU,bH];omega)];show (((NumText.digitsVal w:Nat):Int)).natAbs < _;rw[Int.natAbs_natCast];exact hv
      simpa [aK,aS,aX] using this
     ·rintro rfl;exact absurd (nd 91 (by simp) (by decide)) (by decide)
     ·rintro rfl;exact absurd (nd 93 (by simp) (by decide)) (by decide)
     ·rintro rfl;exact absurd (nd 44 (by simp) (by decide)) (by decide)
    ·cases h
def pr:Nat->Nat->Option (List Tr)->List Wrd->Option (Tr × List Wrd)
 | 0,_,_,_=>none
 | _+1,_,_,[]=>none
 | n+1,d,none,w::r=>if w=[91] then (if d=0 then none else pr n (d - 1) (some []) r) else (aQ w).map λa=>(a,r)
 | n+1,d,some acc,w::r=>if w=[93] then some (.lst acc,r) else if acc.isEmpty=true then (pr n d none (w::r)).bind λz=>pr n d (some (acc++[z.1])) z.2 else if w=[44] then (pr n d none r).bind λz=>pr n d (some (acc++[z.1])) z.2 else none
def eM(md:Option (List Tr))(ts:List Wrd):Nat:=2 * ts.length+(if md.isSome then 1 else 0)
theorem gr:∀(n d:Nat)(md:Option (List Tr))(ts:List Wrd)(z:Tr × List Wrd),pr n d md ts=some z->z.2.length < ts.length
 | 0,_,_,_,_,h=>by simp [pr] at h
 | _+1,_,none,[],_,h=>by simp [pr] at h
 | _+1,_,some _,[],_,h=>by simp [pr] at h
 | n+1,d,none,w::r,z,h=>by
  simp only[pr] at h
  split at h
  ·split at h
   ·cases h
   ·have:=gr n _ _ _ _ h;simp only[az];omega
  ·obtain⟨a,_,e⟩:=bz.mp h;rw[<- e];simp
 | n+1,d,some acc,w::r,z,h=>by
  simp only[pr] at h
  split at h
  ·cases h;simp
  ·split at h
   ·obtain⟨y,h1,h2⟩:=cn.mp h;have:=gr n _ _ _ _ h1;have:=gr n _ _ _ _ h2;omega
   ·split at h
    ·obtain⟨y,h1,h2⟩:=cn.mp h;have:=gr n _ _ _ _ h1;have:=gr n _ _ _ _ h2;simp only[az];omega
    ·cases h
theorem kB:∀(n m d:Nat)(md:Option (List Tr))(ts:List Wrd),eM md ts<=n->eM md ts<=m->pr n d md ts=pr m d md ts
 | 0,m,d,md,ts,h,h'=>by
  unfold eM at h;cases md with
  | some a=>simp at h
  | none =>
   have:ts=[]:=gE.mp (by simp only[aaf] at h;omega);subst this;cases m <;> rfl
 | n+1,0,d,md,ts,h,h'=>by
  unfold eM at h';cases md with
  | some a=>simp at h'
  | none =>
   have:ts=[]:=gE.mp (by simp only[aaf] at h';omega);subst this;rfl
 | n+1,m+1,d,md,[],_,_=>by cases md <;> rfl
 | n+1,m+1,d,none,w::r,h,h'=>by
  simp only[eM,aaf,az,bd,if_false] at h h';simp only[pr]
  split
  ·split
   ·rfl
   ·refine kB n m _ _ _ ?_ ?_ <;> (simp only[eM,aar,if_true];omega)
  ·rfl
 | n+1,m+1,d,some acc,w::r,h,h'=>by
  simp only[eM,aar,az,if_true] at h h';simp only[pr]
  split
  ·rfl
  ·split
   ·rw[kB n m d none (w::r) (by simp only[eM,aaf,az,bd,if_false];omega) (by simp only[eM,aaf,az,bd,if_false];omega)];refine Option.bind_congr λz hz=>?_;have:=gr _ _ _ _ _ hz;simp only[az] at this;refine kB n m _ _ _ ?_ ?_ <;> (simp only[eM,aar,if_true];omega)
   ·split
    ·rw[kB n m d none r (by simp only[eM,aaf,bd,if_false];omega) (by simp only[eM,aaf,bd,if_false];omega)];refine Option.bind_congr λz hz=>?_;have:=gr _ _ _ _ _ hz;refine kB n m _ _ _ ?_ ?_ <;> (simp only[eM,aar,if_true];omega)
    ·rfl
def PR(d:Nat)(md:Option (List Tr))(ts:List Wrd):Option (Tr × List Wrd):=pr (2 * ts.length+1) d md ts
theorem jP{n d:Nat}{md:Option (List Tr)}{ts:List Wrd}(h:2 * ts.length+1<=n):pr n d md ts=PR d md ts:=by refine kB _ _ _ _ _ ?_ ?_ <;> (unfold eM;split <;> omega)
theorem dP(d:Nat)(md:Option (List Tr)):PR d md []=none:=by cases md <;> rfl
theorem eT(d:Nat)(w:Wrd)(r:List Wrd):PR d none (w::r)=if w=[91] then (if d=0 then none else PR (d - 1) (some []) r) else (aQ w).map λa=>(a,r):=by unfold PR;rw[az,show 2 * (r.length+1)+1=(2 * r.length+2)+1 by omega];simp only[pr];rw[jP (by omega)];rfl
theorem Jf(n d:Nat)(acc:List Tr)(w:Wrd)(r:List Wrd):pr (n+1) d (some acc) (w::r)=if w=[93] then some (.lst acc,r) else if acc.isEmpty=true then (pr n d none (w::r)).bind λz=>pr n d (some (acc++[z.1])) z.2 else if w=[44] then (pr n d none r).bind λz=>pr n d (some (acc++[z.1])) z.2 else none:=by
 conv=>lhs;rw[pr]
theorem d0(d:Nat)(acc:List Tr)(w:Wrd)(r:List Wrd):PR d (some acc) (w::r)=if w=[93] then some (.lst acc,r) else if acc.isEmpty=true then (PR d none (w::r)).bind λz=>PR d (some (acc++[z.1])) z.2 else if w=[44] then (PR d none r).bind λz=>PR d (some (acc++[z.1])) z.2 else none:=by
 have e:PR d (some acc) (w::r)=pr ((2 * r.length+3)+1) d (some acc) (w::r):=(jP (by rw[az];omega)).symm;rw[e,Jf,jP (by rw[az];omega),jP (by omega)];have b1:((PR d none (w::r)).bind λz=>pr (2 * r.length+3) d (some (acc++[z.1])) z.2)=(PR d none (w::r)).bind λz=>PR d (some (acc++[z.1])) z.2:=by refine Option.bind_congr λz hz=>?_;have:=gr _ _ _ _ _ hz;rw[az] at this;exact jP (by omega)
 have b2:((PR d none r).bind λz=>pr (2 * r.length+3) d (some (acc++[z.1])) z.2)=(PR d none r).bind λz=>PR d (some (acc++[z.1])) z.2:=by refine Option.bind_congr λz hz=>?_;have:=gr _ _ _ _ _ hz;exact jP (by omega)
 rw[b1,b2]
theorem gJ{d:Nat}{md:Option (List Tr)}{ts:List Wrd}{z:Tr × List Wrd}(h:PR d md ts=some z):z.2.length < ts.length:=gr _ _ _ _ _ h
theorem sN{P:List Wrd->Prop}(h:∀ ts,(∀ us,us.length < ts.length->P us)->P ts)(ts:List Wrd):P ts:=by
 have:∀ n,∀ ts:List Wrd,ts.length<=n->P ts:=λn=>by
  induction n with
  | zero=>exact λts hl=>h ts λus hu=>by omega
  | succ n ih=>exact λts hl=>h ts λus hu=>ih us (by omega)
 exact this _ ts (aP _)
def okW(w:Wrd):Prop:=w=[91]∨w=[93]∨w=[44]∨(aQ w).isSome=true
theorem yP{w:Wrd}(h:okW w):62∉w:=by
 rcases h with rfl|rfl|rfl|h
 ·decide
 ·decide
 ·decide
 ·obtain⟨a,h⟩:=Option.isSome_iff_exists.mp h;exact(fG h).2.1
theorem kU:∀(ts:List Wrd)(d:Nat),(∀ z,PR d none ts=some z->∃ u,ts=u++z.2/\∀ w∈u,okW w)/\(∀ acc z,PR d (some acc) ts=some z->(∃ u,ts=u++z.2/\∀ w∈u,okW w)/\∃ more,z.1=.lst (acc++more)) :=
 sN λts ih=>by
  intro d;have A:∀ z,PR d none ts=some z->∃ u,ts=u++z.2/\∀ w∈u,okW w:=λz h=>by
   cases ts with
   | nil=>rw[dP] at h;cases h
   | cons w r =>
    rw[eT] at h
    split at h
    ·rename_i hw
     split at h
     ·cases h
     ·obtain⟨⟨u,e,hu⟩,_⟩:=(ih r (by simp) (d - 1)).2 _ _ h;refine⟨w::u,by rw[e];rfl,λx hx=>?_⟩;rcases aM.mp hx with rfl|hx
      ·exact .inl hw
      ·exact hu x hx
    ·obtain⟨a,ha,e⟩:=bz.mp h;subst e;refine⟨[w],rfl,λx hx=>?_⟩;rw[cB] at hx;subst hx;exact .inr (.inr (.inr (by rw[ha];rfl)))
  refine⟨A,λacc z h=>?_⟩;cases ts with
  | nil=>rw[dP] at h;cases h
  | cons w r =>
   rw[d0] at h
   split at h
   ·rename_i hw;cases h;refine⟨⟨[w],rfl,λx hx=>?_⟩,[],by simp⟩;rw[cB] at hx;subst hx;exact .inr (.inl hw)
   ·split at h
    ·obtain⟨y,h1,h2⟩:=cn.mp h;obtain⟨u,e1,hu⟩:=A y h1;obtain⟨⟨u2,e2,hu2⟩,more,e3⟩:=(ih y.2 (gJ h1) d).2 _ _ h2;refine⟨⟨u++u2,by rw[e1,e2,cb],λx hx=>(bf.mp hx).elim (hu x) (hu2 x)⟩,y.1::more,by rw[e3,cb];rfl⟩
    ·split at h
     ·rename_i hw;obtain⟨y,h1,h2⟩:=cn.mp h;obtain⟨u,e1,hu⟩:=(ih r (by simp) d).1 y h1;obtain⟨⟨u2,e2,hu2⟩,more,e3⟩:=(ih y.2 (by have:=gJ h1;rw[az];omega) d).2 _ _ h2;refine⟨⟨w::(u++u2),by rw[e1,e2,aY,cb],λx hx=>?_⟩,y.1::more,by rw[e3,cb];rfl⟩;rcases aM.mp hx with rfl|hx
      ·exact .inr (.inr (.inl hw))
      ·exact(bf.mp hx).elim (hu x) (hu2 x)
     ·cases h
theorem KW{k:Nat}{a:Tr}(h:aK a=true):aD k a=true:=by
 cases a with
 | lst xs=>simp [aK,aS,aX] at h
 | _=>simpa only [aD] using h
theorem u9{k:Nat}{xs:List Tr}:aD (k+1) (.lst xs)=xs.all (aD k):=by simp only[aD,Nat.add_sub_cancel,qb];simp
def keep(p:Tr->Bool)(o:Option (Tr × List Wrd)):Option (Tr × List Wrd):=o.bind λz=>if p z.1=true then some z else none
theorem yb{p:Tr->Bool}{o:Option (Tr × List Wrd)}(h:∀ z,o=some z->p z.1=true):keep p o=o:=by
 cases o with
 | none=>rfl
 | some z=>simp only[keep,bD,if_pos (h z rfl)]
theorem Hb{p:Tr->Bool}{o:Option (Tr × List Wrd)}(h:∀ z,o=some z->p z.1=false):keep p o=none:=by
 cases o with
 | none=>rfl
 | some z=>simp only[keep,bD,h z rfl];rfl
theorem vt:∀(ts:List Wrd)(d D:Nat),d<=D->PR d none ts=keep (aD d) (PR D none ts)/\∀ acc:List Tr,acc.all (aD d)=true->PR d (some acc) ts=keep (aD (d+1)) (PR D (some acc) ts) :=
 sN λts ih=>by
  intro d D hd;cases ts with
  | nil=>exact⟨by rw[dP,dP];rfl,λacc _=>by rw[dP,dP];rfl⟩
  | cons w r =>
   have A:PR d none (w::r)=keep (aD d) (PR D none (w::r)):=by
    rw[eT,eT]
    by_cases hw:w=[91]
    ·rw[if_pos hw,if_pos hw]
     by_cases h0:d=0
     ·rw[if_pos h0];refine(Hb λz hz=>?_).symm
      split at hz
      ·cases hz
      ·obtain⟨_,more,e⟩:=(kU r (D - 1)).2 _ _ hz;rw[e,h0];rfl
     ·rw[if_neg h0,if_neg (by omega)];have:=(ih r (by simp) (d - 1) (D - 1) (by omega)).2 [] rfl;rw[this,Nat.sub_add_cancel (by omega)]
    ·rw[if_neg hw,if_neg hw];refine(yb λz hz=>?_).symm;obtain⟨a,ha,e⟩:=bz.mp hz;subst e;exact KW (fG ha).1
   have step:∀ (ts':List Wrd) (acc:List Tr),PR d none ts'=keep (aD d) (PR D none ts')->(∀ z,PR D none ts'=some z->z.2.length < (w::r).length)->acc.all (aD d)=true->((PR d none ts').bind λz=>PR d (some (acc++[z.1])) z.2)=keep (aD (d+1)) ((PR D none ts').bind λz=>PR D (some (acc++[z.1])) z.2):=λts' acc hA hs hacc=>by
    rw[hA];cases hz:PR D none ts' with
    | none=>rfl
    | some z =>
     have hl:=hs z hz;simp only[keep,bD]
     by_cases hv:aD d z.1=true
     ·rw[if_pos hv,bD];exact(ih z.2 hl d D hd).2 (acc++[z.1]) (by rw[List.all_append,hacc];simp [hv])
     ·rw[if_neg hv,Option.bind_none];cases hy:PR D (some (acc++[z.1])) z.2 with
      | none=>rfl
      | some y =>
       obtain⟨_,more,e⟩:=(kU z.2 D).2 _ _ hy;rw[bD,if_neg];rw[e,u9,cb,List.all_append];simp [hv]
   refine⟨A,λacc hacc=>?_⟩;rw[d0,d0]
   by_cases hw:w=[93]
   ·rw[if_pos hw,if_pos hw];exact(yb λz hz=>by cases hz;rw[u9];exact hacc).symm
   ·rw[if_neg hw,if_neg hw]
    by_cases he:acc.isEmpty=true
    ·rw[if_pos he,if_pos he];exact step _ _ A (λz hz=>gJ hz) hacc
    ·rw[if_neg he,if_neg he]
     by_cases h44:w=[44]
     ·rw[if_pos h44,if_pos h44];exact step _ _ (ih r (by simp) d D hd).1 (λz hz=>by have:=gJ hz;rw[az];omega) hacc
     ·rw[if_neg h44,if_neg h44];rfl
def rdP(x:Str):Option Tr:=match PR 100 none (sgP x) with
 | some (v,[])=>if aD 60 v=true then some v else none
 | _=>none
def rdL(x:Str):Option Tr:=match PR 60 none (sgL x) with
 | some (v,[])=>some v
 | _=>none
theorem AR(x:Str):rdP x=rdL x:=by
 cases ha:arr (chL x) with
 | false =>
  unfold rdP rdL;rw[JX ha,(vt (sgL x) 60 100 (by decide)).1];cases PR 100 none (sgL x) with
  | none=>rfl
  | some z =>
   obtain⟨v,r⟩:=z;simp only[keep,bD]
   by_cases hv:aD 60 v=true
   ·rw[if_pos hv];cases r with
    | nil=>exact if_pos hv
    | cons w r=>rfl
   ·rw[if_neg hv];cases r with
    | nil=>exact if_neg hv
    | cons w r=>rfl
 | true =>
  obtain⟨h1,w,h2,h3⟩:=JW ha;have e1:rdP x=none:=by
   unfold rdP
   split
   ·rename_i v hz;obtain⟨u,e,hu⟩:=(kU (sgP x) 100).1 _ hz;rw[bq] at e;exact absurd (by decide) (yP (hu _ (e ▸ h1)))
   ·rfl
  have e2:rdL x=none:=by
   unfold rdL
   split
   ·rename_i v hz;obtain⟨u,e,hu⟩:=(kU (sgL x) 60).1 _ hz;rw[bq] at e;exact absurd h3 (yP (hu _ (e ▸ h2)))
   ·rfl
  rw[e1,e2]
mutual
def tks:Tr->List Wrd
 | .lst xs=>[91]::tkF xs
 | .non=>[txt .non]
 | .int i=>[txt (.int i)]
 | .str w=>[txt (.str w)]
 | _=>[]
def tkF:List Tr->List Wrd
 | []=>[[93]]
 | d::ds=>tks d++tkT ds
def tkT:List Tr->List Wrd
 | []=>[[93]]
 | d::ds=>[44]::(tks d++tkT ds)
end
theorem Cc{a:Tr}(h:aK a=true):tks a=[txt a]:=by
 cases a with
 | non=>rw[tks]
 | int i=>rw[tks]
 | str i=>rw[tks]
 | _=>simp [aK,aS,aX] at h
theorem KD{k:Nat}{a:Tr}(h:aD k a=true):∃ w r,tks a=w::r/\w≠[93]/\w≠[44]:=by
 cases a with
 | lst xs=>exact⟨[91],tkF xs,by rw[tks],by decide,by decide⟩
 | non=>exact⟨_,[],by rw[tks],(fG (im (a:=.non) rfl)).2.2.2.1,(fG (im (a:=.non) rfl)).2.2.2.2⟩
 | int i=>simp only[aD] at h;exact⟨_,[],by rw[tks],(fG (im h)).2.2.2.1,(fG (im h)).2.2.2.2⟩
 | str i=>simp only[aD] at h;exact⟨_,[],by rw[tks],(fG (im h)).2.2.2.1,(fG (im h)).2.2.2.2⟩
 | _=>simp [aD,aK,aS,aX] at h
theorem rn{d:Nat}{a:Tr}(h:aK a=true)(r:List Wrd):PR d none (tks a++r)=some (a,r):=by rw[Cc h];show PR d none (txt a::r)=_;rw[eT,if_neg (fG (im h)).2.2.1,im h];rfl
mutual
theorem ro:∀(v:Tr)(d:Nat)(r:List Wrd),aD d v=true->PR d none (tks v++r)=some (v,r)
 | .lst xs,d,r,h=>by
  rw[tks,aY,eT,if_pos rfl];cases d with
  | zero=>simp [aD] at h
  | succ d =>
   rw[if_neg (Nat.succ_ne_zero d),Nat.add_sub_cancel];rw[u9] at h;cases xs with
   | nil=>rw[tkF];rfl
   | cons x ds =>
    rw[List.all_cons,ax] at h;obtain⟨w,r',e,n93,_⟩:=KD h.1;have e2:tkF (x::ds)++r=tks x++(tkT ds++r):=by rw[tkF,cb]
    have hx:=ro x d (tkT ds++r) h.1;rw[e2];rw[e] at hx ⊢;rw[aY] at hx ⊢;rw[d0,if_neg n93,if_pos (show ([]:List Tr).isEmpty=true from rfl),hx,bD];exact vx ds d [x] r (by simp) (by rw[qb];exact h.2)
 | .non,d,r,h=>rn rfl r
 | .int i,d,r,h=>rn (by simpa only [aD] using h) r
 | .str i,d,r,h=>rn (by simpa only [aD] using h) r
 | .bl _,d,r,h=>by simp [aD,aK,aS,aX] at h
 | .tup _,d,r,h=>by simp [aD,aK,aS,aX] at h
 | .dct _ _,d,r,h=>by simp [aD,aK,aS,aX] at h
 | .ins _ _,d,r,h=>by simp [aD,aK,aS,aX] at h
 | .exc _ _,d,r,h=>by simp [aD,aK,aS,aX] at h
 | .cell _,d,r,h=>by simp [aD,aK,aS,aX] at h
 | .scr _,d,r,h=>by simp [aD,aK,aS,aX] at h
 | .dkf _ _,d,r,h=>by simp [aD,aK,aS,aX] at h
theorem vx:∀(ds:List Tr)(d:Nat)(acc:List Tr)(r:List Wrd),acc≠[]->eP d ds=true->PR d (some acc) (tkT ds++r)=some (.lst (acc++ds),r)
 | [],d,acc,r,_,_=>by rw[tkT,bq];exact(d0 d acc [93] r).trans (if_pos rfl)
 | x::ds,d,acc,r,ha,h=>by
  simp only[eP,ax] at h;rw[tkT,aY,d0,if_neg (by decide),if_neg (by cases acc <;> simp_all),if_pos rfl,cb,ro x d (tkT ds++r) h.1,bD];have:=vx ds d (acc++[x]) r (by simp) h.2;rw[cb] at this;exact this
end
def uz(l:List Nat):Prop:=∀ c∈l,c≠32/\brk c=false
theorem Cj:∀(l:List Nat)(now:Wrd)(r:List Nat),uz l->aF now (l++r)=aF (now++l) r
 | [],now,r,_=>by simp
 | c::l,now,r,h=>by
  obtain⟨h1,h2⟩:=h c (a6 ..);rw[aY];simp only[aF];rw[if_neg h1,if_neg (by rw[h2];decide),Cj l _ r λd hd=>h d (aZ _ hd),cb];rfl
theorem wY(n:Nat):uz (dgs n):=λc hc=>by
 obtain⟨k,r,e,_,h⟩:=sj n n (aP _);have:=h c (by rw[<- e];exact hc);simp only[cf,ax,decide_eq_true_eq] at this;refine⟨by omega,?_⟩;have:¬ brk c=true:=λhb=>by rcases rH.mp hb with e|e|e <;> omega
 simpa using this
theorem Hl{c:Nat}(h:c∈da.cps.toList):97<=c/\c<=122:=by
 have e:da.cps.toList=[97,98,99,100,101,102,103,104,105,106,107,108,109,110,111,112,113,114,115,116,117,118,119,120,121,122]:=by decide +kernel
 rw[e] at h;simp only[aM,cR,or_false] at h;omega
theorem C8{a:Tr}(h:aK a=true):uz (txt a)/\txt a≠[]:=by
 cases a with
 | non=>rw[txt];exact⟨λc hc=>by simp only[aM,cR,or_false] at hc;rcases hc with rfl|rfl|rfl|rfl <;> decide,by simp⟩
 | int i =>
  refine⟨?_,xQ i⟩;rw[kQ]
  split
  ·intro c hc;rcases aM.mp hc with rfl|hc
   ·decide
   ·exact wY _ c hc
  ·exact wY _
 | str w =>
  have hw:bK w=true:=by simpa [aK,aS,aX] using h
  rw[txt];refine⟨λc hc=>?_,by simp⟩;have hc:c=39∨c∈chL w:=by
   simp only[aY,aM,bf,cR,or_false] at hc;rcases hc with h|h|h
   ·exact .inl h
   ·exact .inr h
   ·exact .inl h
  rcases hc with rfl|hc
  ·decide
  ·unfold bK at hw;simp only[ax] at hw;have hl:c∈da.cps.toList:=by
    have:=hw.2;have:(chL w).all (λc=>decide (c∈da.cps.toList))=true:=by
     first
     | exact this
     | simpa [chL] using this
    exact of_decide_eq_true (b7.mp this c hc)
   have:=Hl hl;refine⟨by omega,?_⟩;have:¬ brk c=true:=λhb=>by rcases rH.mp hb with e|e|e <;> omega
   simpa using this
 | _=>simp [aK,aS,aX] at h
def RC(toks:List Wrd)(spot rows:Nat):Ce:=.ins 7 [.lst (toks.map λw=>Tr.str (sOf w)),.int (spot:Nat),.int (rows:Nat)]
structure ie(toks:List Wrd):Prop where
 len:toks.length<=900000
 ok:∀ w∈toks,PyData.strOk (sOf w)=true/\w.length<=900000
def nxt(toks:List Wrd)(spot:Nat):Wrd:=toks.getD spot []
theorem yG{toks:List Wrd}{s:Nat}(h:s < toks.length):nxt toks s∈toks:=by unfold nxt;rw[f6,eE h];exact List.getElem_mem h
theorem lp{toks:List Wrd}{s:Nat}(h:toks.length<=s):nxt toks s=[]:=by unfold nxt;rw[f6,aac h];rfl
theorem lm{toks:List Wrd}(h:ie toks)(s:Nat):PyData.strOk (sOf (nxt toks s))=true/\(nxt toks s).length<=900000:=by
 by_cases hs:s < toks.length
 ·exact h.ok _ (yG hs)
 ·rw[lp (by omega)];exact⟨by decide +kernel,by decide⟩
theorem jf{toks:List Wrd}{s:Nat}{w:Wrd}{r:List Wrd}(h:toks.drop s=w::r):nxt toks s=w/\toks.drop (s+1)=r/\s < toks.length/\r.length+(s+1)=toks.length:=by
 have hl:=congrArg List.length h;rw[dY,az] at hl;have hs:s < toks.length:=by omega
 rw[aal hs] at h;obtain⟨h1,h2⟩:=List.cons.inj h;refine⟨?_,h2,hs,by omega⟩;unfold nxt;rw[f6,eE hs];exact h1
theorem js(w:List Nat):(sOf w).length=w.length:=by rw[<- aU,bH]
def eH:Tr:=.exc 9 [.int 0]
theorem gy{c n k:Nat}{sp:Sf}{t:Rd Tr}{u:Rd (List Tr)}{ρ:En}{M:Me}{Q E:TK}{ds fs:List Tr}(h:Ex1 t ρ M (.cell k))(hk:M[k]?=some (.ins c fs))(r:ExL u ρ M ds)(hn:ds.length+1=n)(hs:sp.f (.cell k::ds) M Q E):(cr c sp n t u).f ρ M Q E:=by simp only[cr];exact h _ _ ⟨⟨_,by simp only[iX,hk];rfl⟩,r _ _ ⟨hn,hs⟩⟩
theorem Ex1.fldC{alts:List (Nat × Nat)}{t:Rd Tr}{ρ:En}{M:Me}{k c i:Nat}{fs:List Tr}{d:Tr}(h:Ex1 t ρ M (.cell k))(hk:M[k]?=some (.ins c fs))(hl:alts.lookup c=some i)(hf:fs[i]?=some d):Ex1 (eI alts t) ρ M d:=λQ E q=>by
 simp only[eI];exact h _ _ (aJ (by simp only[sC,iX,hk,bD,hl,hf]) q)
theorem yi{M:Me}{l:List Wrd}(h:l.length<=900000):bx M [.lst (l.map λw=>Tr.str (sOf w))]=some (.int (l.length:Nat),M):=by simp only[bx,cO,bj,bD,bF,cj]
theorem ug{toks:List Wrd}{spot rows:Nat}{M:Me}{k:Nat}(h:M[k]?=some (RC toks spot rows))(n:Int)(f:Int->Int->Int) :
  (∀ s:Nat,f spot n=s->jU eo M (.cell k) (λa=>f a n)=some (M.set k (RC toks s rows)))/\(∀ r:Nat,f rows n=r->jU eX M (.cell k) (λa=>f a n)=some (M.set k (RC toks spot r))):=by
 unfold RC at h;refine⟨λs hs=>?_,λs hs=>?_⟩
 ·simp only[jU,h,eo,i0,bD];show some (M.set k (.ins 7 [_,.int (f spot n),_]))=_;rw[hs];rfl
 ·simp only[jU,h,eX,i0,bD];show some (M.set k (.ins 7 [_,_,.int (f rows n)]))=_;rw[hs];rfl
def pW:Sf:=⟨λds M Q _=>∃(k:Nat)(toks:List Wrd),ds=[.cell k,.lst (toks.map λw=>Tr.str (sOf w))]/\M[k]?=some (.ins 7 [])/\Q .non (M.set k (RC toks 0 0)),λh _ ⟨k,t,a,b,q⟩=>⟨k,t,a,b,h _ _ q⟩⟩
theorem ke{M:Me}{k:Nat}{c:Ce}(h:M[k]?=some c):k < M.length:=(bL.mp h).1
theorem nE{M:Me}{k:Nat}{c:Ce}(h:k < M.length):(M.set k c)[k]?=some c:=by rw[fE h]
theorem GD:Go 2 qz oE pW:=λds M Q E hl h=>by
 obtain⟨k,toks,rfl,hk,q⟩:=h;have q':(ap M.length Q E).nx [some (.cell k),some (.lst (toks.map λw=>Tr.str (sOf w)))] (M.set k (RC toks 0 0)):=.inl q;show oE.f (ap M.length Q E) [some (.cell k),some (.lst (toks.map λw=>Tr.str (sOf w)))] M;generalize ap M.length Q E=F at q' ⊢;have hlt:=ke hk;simp only[oE];refine aA ?_;simp only[lL,aa,dC,bB,aE];refine aJ (z:=M.set k (.ins 7 [.lst (toks.map λw=>Tr.str (sOf w))])) (by simp only[lB,hk,fK,i0,bD];rfl) ?_;refine aA ?_;refine aJ (z:=M.set k (.ins 7 [.lst (toks.map λw=>Tr.str (sOf w)),.int 0])) (by simp only[lB,nE hlt,eo,i0,bD,i6];rfl) ?_;exact aJ (z:=M.set k (RC toks 0 0)) (by simp only[lB,nE hlt,eX,i0,bD,i6];rfl) q'
def cy:Sf:=⟨λds M Q _=>∃(k:Nat)(toks:List Wrd)(spot rows:Nat),ds=[.cell k]/\M[k]?=some (RC toks spot rows)/\ie toks/\Q (.str (sOf (nxt toks spot))) M,λh _ ⟨k,t,s,r,a,b,c,q⟩=>⟨k,t,s,r,a,b,c,h _ _ q⟩⟩
theorem Gy:Go 1 qD oI cy:=λds M Q E hl h=>by
 obtain⟨k,toks,spot,rows,rfl,hk,ok,q⟩:=h;have q':(ap M.length Q E).rt (.str (sOf (nxt toks spot))) M:=.inl q;show oI.f (ap M.length Q E) [some (.cell k)] M;generalize ap M.length Q E=F at q' ⊢;have v:Ex1 (aa 0) [some (Tr.cell k)] M (.cell k):=.v (i:=0) rfl;have e1:Ex1 (eI fK (aa 0)) [some (Tr.cell k)] M (.lst (toks.map λw=>Tr.str (sOf w))):=.fldC v hk rfl rfl;have e2:Ex1 (eI eo (aa 0)) [some (Tr.cell k)] M (.int (spot:Nat)):=.fldC v hk rfl rfl;have t:Tb (am (F3 ltT (eI eo (aa 0)) (aB bx (ac (eI fK (aa 0)) ae)))) [some (Tr.cell k)] M (decide (spot < toks.length)):=.of (.op e2 (.call (.cons e1 .nil) (yi ok.len)) (by simp only[ltT,c5];congr 2;exact decide_eq_decide.mpr (by omega)));simp only[oI];refine Ex1.ret (d:=.str (sOf (nxt toks spot))) (.ite t (λz=>?_) (λz=>?_)) q'
 ·have hs:=of_decide_eq_true z;refine .op e1 e2 ?_;simp only[L4,cO,bj,bD,atI];rw[cj,nQ (by omega) (by omega),bD,Int.toNat_natCast,gB,eE hs];unfold nxt;rw[f6,eE hs];rfl
 ·rw[lp (by have:=of_decide_eq_false z;omega)];exact .cst
def jK:Sf:=⟨λds M Q _=>∃(k:Nat)(toks:List Wrd)(spot rows:Nat),ds=[.cell k]/\M[k]?=some (RC toks spot rows)/\ie toks/\Q (.str (sOf (nxt toks spot))) (M.set k (RC toks (spot+1) rows)),λh _ ⟨k,t,s,r,a,b,c,q⟩=>⟨k,t,s,r,a,b,c,h _ _ q⟩⟩
theorem GG:Go 1 qE (oJ cy) jK:=λds M Q E hl h=>by
 obtain⟨k,toks,spot,rows,rfl,hk,ok,q⟩:=h;have q':(ap M.length Q E).rt (.str (sOf (nxt toks spot))) (M.set k (RC toks (spot+1) rows)):=.inl q;show (oJ cy).f (ap M.length Q E) [some (.cell k),none] M;generalize ap M.length Q E=F at q' ⊢;simp only[oJ];refine aA ?_;simp only[aC];refine gy (.v (i:=0) rfl) hk .nil rfl ⟨k,toks,spot,rows,rfl,hk,ok,?_⟩;refine aJ (z:=[some (.cell k),some (.str (sOf (nxt toks spot)))]) rfl ?_;refine aA ?_;simp only[jB,aa,aE];refine aJ ((ug hk 1 λa b=>a+b).1 (spot+1) (by omega)) ?_;exact Ex1.ret (.v (i:=1) rfl) q'
def hI:Sf:=⟨λds M Q E=>∃(k:Nat)(toks:List Wrd)(spot rows:Nat)(y:Str),ds=[.cell k,.str y]/\M[k]?=some (RC toks spot rows)/\ie toks/\PyData.strOk y=true/\(nxt toks spot=chL y->Q .non (M.set k (RC toks (spot+1) rows)))/\(nxt toks spot≠chL y->E eH (M.set k (RC toks (spot+1) rows))),λh h' ⟨k,t,s,r,y,a,b,c,d,q1,q2⟩=>⟨k,t,s,r,y,a,b,c,d,λz=>h _ _ (q1 z),λz=>h' _ _ (q2 z)⟩⟩
theorem GF:Go 2 qB (oG jK) hI:=λds M Q E hl h=>by
 obtain⟨k,toks,spot,rows,y,rfl,hk,ok,hy,q1,q2⟩:=h;show (oG jK).f (ap M.length Q E) [some (.cell k),some (.str y)] M;have n1:∀ ρ,nxt toks spot=chL y->(ap M.length Q E).nx ρ (M.set k (RC toks (spot+1) rows)):=λρ z=>.inl (q1 z);have n2:∀ ρ,nxt toks spot≠chL y->(ap M.length Q E).er ρ eH (M.set k (RC toks (spot+1) rows)):=λρ z=>.inl (q2 z);generalize ap M.length Q E=F at n1 n2 ⊢;simp only[oG,GT,am,F3];refine gy (.v (i:=0) rfl) hk .nil rfl ⟨k,toks,spot,rows,rfl,hk,ok,?_⟩;simp only[aa,bB,aE,au];rw[yC (lm ok spot).1 hy];simp only
 by_cases e:nxt toks spot=chL y
 ·rw[decide_eq_true (p5.mpr (by rw[bH];exact e))];exact n1 _ e
 ·rw[decide_eq_false λz=>e (by have:=p5.mp z;rw[bH] at this;exact this)];simp only[dX,if_true,fQ,ac,dC,ae];exact⟨⟨rfl,rfl⟩,n2 _ e⟩
theorem Ex1.methC{c n k:Nat}{sp:Sf}{t:Rd Tr}{u:Rd (List Tr)}{ρ:En}{M:Me}{ds fs:List Tr}{z:Tr}(h:Ex1 t ρ M (.cell k))(hk:M[k]?=some (.ins c fs))(r:ExL u ρ M ds)(hn:ds.length+1=n)(hs:∀ Q E:TK,Q z M->sp.f (.cell k::ds) M Q E):Ex1 (cr c sp n t u) ρ M z:=λQ E q=>gy h hk r hn (hs Q E q)
theorem EV{M:Me}{o:Option Tr}(h:∀ a,o=some a->aK a=true):eqT M (oL o) (.lst [])=some (.bl o.isNone):=by
 have h0:SeqAt.shaped (.list [])=true:=rfl;cases o with
 | none=>exact lg [] (by simp)
 | some a =>
  have ha:=h a rfl;cases a with
  | non=>rfl
  | int i=>rfl
  | str w =>
   have hw:bK w=true:=by simpa [aK,aS,aX] using ha
   exact lg [w] λx hx=>by rw[cB] at hx;subst hx;exact mz hw
  | _=>simp [aK,aS,aX] at ha
theorem C0{d:Nat}{ts:List Wrd}{z:Tr × List Wrd}(h:PR d none ts=some z):aD d z.1=true:=by
 have e:=(vt ts d d (aP _)).1;rw[h] at e;simp only[keep,bD] at e
 split at e
 ·assumption
 ·cases e
mutual
theorem rF(n:Nat):∀(d:Tr)(k:Nat),aD k d=true->bo n d
 | .lst xs,k,h=>by
  simp only[bo];simp only[aD,ax] at h;exact vO n xs _ h.2
 | .non,k,h=>by simp only[bo]
 | .int i,k,h=>by simp only[bo]
 | .str i,k,h=>by simp only[bo]
 | .bl _,k,h=>by simp [aD,aK,aS,aX] at h
 | .tup _,k,h=>by simp [aD,aK,aS,aX] at h
 | .dct _ _,k,h=>by simp [aD,aK,aS,aX] at h
 | .ins _ _,k,h=>by simp [aD,aK,aS,aX] at h
 | .exc _ _,k,h=>by simp [aD,aK,aS,aX] at h
 | .cell _,k,h=>by simp [aD,aK,aS,aX] at h
 | .scr _,k,h=>by simp [aD,aK,aS,aX] at h
 | .dkf _ _,k,h=>by simp [aD,aK,aS,aX] at h
theorem vO(n:Nat):∀(ds:List Tr)(k:Nat),eP k ds=true->bS n ds
 | [],k,h=>by simp only[bS]
 | d::ds,k,h=>by
  simp only[eP,ax] at h;simp only[bS];exact⟨rF n d k h.1,vO n ds k h.2⟩
end
theorem vN(n:Nat):∀ l:List Wrd,bS n (l.map λw=>Tr.str (sOf w))
 | []=>by simp only[h9,bS]
 | w::l=>by simp only[aO,bS,bo,true_and];exact vN n l
theorem vM(n:Nat)(toks:List Wrd)(s r:Nat):ee n (RC toks s r):=by simp only[RC,ee,bS,bo,and_self,and_true];exact vN n toks
theorem xg{M N:Me}{k:Nat}{c:Ce}{r:Tr}{Q:Me->Prop}(hC:∀ c∈M,ee M.length c)(hc:ee M.length c)(hb:bo M.length r)(q:Q (M.set k c)):lf M.length r (M.set k c++N) Q:=by
 refine .inr ⟨M.length,aP _,⟨hb,λj d hj hd=>?_⟩,?_⟩
 ·rw[eD (by rw[eF];exact hj)] at hd;rcases List.mem_or_eq_of_mem_set (f7 hd) with h|h
  ·exact hC d h
  ·rw[h];exact hc
 ·have:(M.set k c++N).take M.length=M.set k c:=by
   rw[List.take_append_of_le_length (by rw[eF];exact aP _),List.take_of_length_le (by rw[eF];exact aP _)]
  rw[this];exact q
def PQ(k:Nat)(toks:List Wrd)(spot rows:Nat)(M:Me)(Q E:TK):Prop :=
 (∀ v s,PR (100 - rows) none (toks.drop spot)=some (v,toks.drop s)->s<=toks.length->Q v (M.set k (RC toks s rows)))/\(PR (100 - rows) none (toks.drop spot)=none->∀ s r,E eH (M.set k (RC toks s r)))
theorem PQ.mono{k:Nat}{toks:List Wrd}{spot rows:Nat}{M:Me}{Q Q' E E':TK}(h:∀ d M,Q d M->Q' d M)(h':∀ d M,E d M->E' d M)(p:PQ k toks spot rows M Q E):PQ k toks spot rows M Q' E':=⟨λv s e hs=>h _ _ (p.1 v s e hs),λe s r=>h' _ _ (p.2 e s r)⟩
def fC(n:Nat):Sf:=⟨λds M Q E=>∃(k:Nat)(toks:List Wrd)(spot rows:Nat),ds=[.cell k]/\M[k]?=some (RC toks spot rows)/\ie toks/\rows<=100/\100 - rows < n/\PQ k toks spot rows M Q E,λh h' ⟨k,t,s,r,a,b,c,d,e,q⟩=>⟨k,t,s,r,a,b,c,d,e,q.mono h h'⟩⟩
def jI(n:Nat):Sf:=⟨λds M Q E=>∃(k:Nat)(toks:List Wrd)(spot rows:Nat),ds=[.cell k]/\M[k]?=some (RC toks spot rows)/\ie toks/\rows<=100/\nxt toks spot=[91]/\100 - rows < n/\PQ k toks spot rows M Q E,λh h' ⟨k,t,s,r,a,b,c,d,e,f,q⟩=>⟨k,t,s,r,a,b,c,d,e,f,q.mono h h'⟩⟩
theorem gV:PyData.strOk "["=true/\PyData.strOk "]"=true/\PyData.strOk ","=true:=⟨by decide +kernel,by decide +kernel,by decide +kernel⟩
theorem jW:chL ("[":Str)=[91]:=by rw[a8];rfl
theorem kZ:chL ("]":Str)=[93]:=by rw[a8];rfl
theorem rL:chL (",":Str)=[44]:=by rw[a8];rfl
theorem iu{toks:List Wrd}{s:Nat}{w:Wrd}(hw:w≠[])(h:nxt toks s=w):toks.drop s=w::toks.drop (s+1)/\s < toks.length:=by
 by_cases hs:s < toks.length
 ·refine⟨?_,hs⟩;rw[aal hs];have:toks[s]=w:=by
   rw[<- h];unfold nxt;rw[f6,eE hs];rfl
  rw[this]
 ·rw[lp (by omega)] at h;exact absurd h.symm hw
theorem Gx{n:Nat}{cl:List Nat}:Go 1 qC (oH cy (jI n) cY jK) (fC n):=λds M Q E hl h=>by
 obtain⟨k,toks,spot,rows,rfl,hk,ok,hr,hn,q⟩:=h;have q':PQ k toks spot rows M (ap M.length Q E).rt ((ap M.length Q E).er []):=q.mono (λd M h=>.inl h) (λd M h=>.inl h);have qe:(ap M.length Q E).er=λ_=>(ap M.length Q E).er []:=rfl;show (oH cy (jI n) cY jK).f (ap M.length Q E) [some (.cell k),none] M;generalize ap M.length Q E=F at q' qe ⊢;have hlt:=ke hk;simp only[oH];refine aA ?_;have ok1:=lm ok spot;simp only[zu];have t1:Tb (am (F3 eqT (cr 7 cy 1 (aa 0) ae) (dC (.str "[")))) [some (.cell k),none] M (decide (nxt toks spot=[91])):=by have:=Tb.of (Ex1.eqS (ρ:=[some (.cell k),none]) (M:=M) (.methC (z:=.str (sOf (nxt toks spot))) (n:=1) (c:=7) (sp:=cy) (.v (i:=0) rfl) hk .nil rfl λQ E q=>⟨k,toks,spot,rows,rfl,hk,ok,q⟩) (.cst (d:=.str "[")) ok1.1 gV.1);rw[bH,jW] at this;exact this
 refine Tb.if_ t1 (λz=>?_) (λz=>bU ?_)
 ·have e91:=of_decide_eq_true z;simp only[ao];refine gy (.v (i:=0) rfl) hk .nil rfl ⟨k,toks,spot,rows,rfl,hk,ok,hr,e91,hn,?_⟩;rw[qe];exact q'
 ·have e91:nxt toks spot≠[91]:=of_decide_eq_false z;dsimp only;refine aA ?_;simp only[zv,aC,GE,ac,ae];refine gy (.v (i:=0) rfl) hk (λQ E q=>q) rfl ⟨k,toks,spot,rows,rfl,hk,ok,?_⟩;refine⟨rfl,sOf (nxt toks spot),rfl,ok1.1,by rw[js];exact ok1.2,?_⟩;refine aJ (z:=[some (.cell k),some (oL (aQ (chL (sOf (nxt toks spot)))))]) rfl ?_;rw[bH];refine aA ?_;have hat:∀ a,aQ (nxt toks spot)=some a->aK a=true:=λa ha=>(fG ha).1;simp only[zw];refine Tb.if_ (x:=(aQ (nxt toks spot)).isNone) (.of (.op (.v (i:=1) rfl) (.lst .nil (by decide)) (EV hat))) (λz=>?_) (λz=>bU ?_)
  ·simp only[fQ,ac,dC,ae];refine⟨⟨rfl,rfl⟩,?_⟩;rw[qe];refine q'.2 ?_ _ _;cases hd:toks.drop spot with
   | nil=>exact dP _ _
   | cons w r =>
    obtain⟨e1,e2,e3,e4⟩:=jf hd;rw[eT,if_neg (by rw[<- e1];exact e91),<- e1,Option.isNone_iff_eq_none.mp z];rfl
  ·obtain⟨a,ha⟩:=Option.isSome_iff_exists.mp (show (aQ (nxt toks spot)).isSome=true by
    cases e:aQ (nxt toks spot) with
    | none=>rw[e] at z;cases z
    | some a=>rfl)
   have hne:nxt toks spot≠[]:=λe=>by rw[e] at ha;cases ha
   obtain⟨e1,e2⟩:=iu hne rfl;rw[ha];dsimp only;refine Ex1.ret (d:=a) ?h1 ?_
   ·exact .op (d:=.lst [a]) (e:=.int 0) (.v rfl) .cst rfl
   refine q'.1 a (spot+1) ?_ (by omega);rw[e1,eT,if_neg e91,ha];rfl
section
variable {M:Me}{k:Nat}{c c':Ce}{N:Me}
theorem nG(h:k < M.length):(M.set k c++N)[k]?=some c:=by rw[eD (by rw[eF];exact h),fE h]
theorem kI(h:k < M.length):(M.set k c++N).set k c'=M.set k c'++N:=by rw[List.set_append_left _ _ (by rw[eF];exact h),i6]
theorem nB:(M.set k c++[c'])[M.length]?=some c':=by rw[fD (by rw[eF];exact aP _),eF,Nat.sub_self];rfl
theorem BM{x:Ce}:(M.set k c++[c']).set M.length x=M.set k c++[x]:=by rw[List.set_append_right _ _ (by rw[eF];exact aP _),eF,Nat.sub_self];rfl
end
theorem HY{M:Me}{j:Nat}{xs:List Tr}(h:M[j]?=some (.lst xs)):fN M (.cell j) (.lst [])=some (.bl (!xs.isEmpty)):=by simp only[fN,bj,h,bF]
theorem xJ{n rows:Nat}{toks:List Wrd}{M:Me}{k:Nat}(hk:k < M.length)(ok:ie toks)(hr:rows<=100)(hn:100 - rows < n){F:Fin}:∀(m:Nat)(acc:List Tr)(spot:Nat),toks.length - spot < m->spot<=toks.length->acc.length+(toks.length - spot)<=900000 ->
  (∀ s xs,PR (100 - rows) (some acc) (toks.drop spot)=some (.lst xs,toks.drop (s+1))->nxt toks s=[93]->s < toks.length->F.nx [some (.cell k),some (.cell M.length)] (M.set k (RC toks s rows)++[.lst xs])) ->
  (PR (100 - rows) (some acc) (toks.drop spot)=none->∀ s r xs,F.er [some (.cell k),some (.cell M.length)] eH (M.set k (RC toks s r)++[.lst xs])) ->
  cI (am (F3 neT (cr 7 cy 1 (aa 0) ae) (dC (.str "]")))) (lD hI cy (fC n)) m F [some (.cell k),some (.cell M.length)] (M.set k (RC toks spot rows)++[.lst acc])
 | 0,acc,spot,h,_,_,_,_=>absurd h (f9 _)
 | m+1,acc,spot,hm,hs,ha,hnx,her=>by
  have ok1:=lm ok spot;have hget:(M.set k (RC toks spot rows)++[.lst acc])[k]?=some (RC toks spot rows):=nG hk;have hgl:(M.set k (RC toks spot rows)++[Ce.lst acc])[M.length]?=some (.lst acc):=nB;have t1:Tb (am (F3 neT (cr 7 cy 1 (aa 0) ae) (dC (.str "]")))) [some (.cell k),some (.cell M.length)] (M.set k (RC toks spot rows)++[.lst acc]) (!decide (nxt toks spot=[93])):=by have:=Tb.of (Ex1.neS (ρ:=[some (.cell k),some (.cell M.length)]) (M:=M.set k (RC toks spot rows)++[.lst acc]) (.methC (z:=.str (sOf (nxt toks spot))) (n:=1) (c:=7) (sp:=cy) (.v (i:=0) rfl) hget .nil rfl λQ E q=>⟨k,toks,spot,rows,rfl,hget,ok,q⟩) (.cst (d:=.str "]")) ok1.1 gV.2.1);rw[bH,kZ] at this;exact this
  refine t1 _ _ ?_
  by_cases e93:nxt toks spot=[93]
  ·rw[decide_eq_true e93];simp only[dw,bd,if_false];obtain⟨d1,d2⟩:=iu (by simp) e93;exact hnx spot acc (by rw[d1,d0,if_pos rfl]) e93 d2
  ·rw[decide_eq_false e93];simp only[dX,if_true]
   -- the value and what follows
   have key:∀ s1,s1=spot∨s1=spot+1->s1<=toks.length->PR (100 - rows) (some acc) (toks.drop spot)=(PR (100 - rows) none (toks.drop s1)).bind (λz=>PR (100 - rows) (some (acc++[z.1])) z.2) ->
     (tL hI cy (fC n)).f { F with nx:=cI (am (F3 neT (cr 7 cy 1 (aa 0) ae) (dC (.str "]")))) (lD hI cy (fC n)) m F,ct:=cI (am (F3 neT (cr 7 cy 1 (aa 0) ae) (dC (.str "]")))) (lD hI cy (fC n)) m F,bk:=F.nx } [some (.cell k),some (.cell M.length)] (M.set k (RC toks s1 rows)++[.lst acc]):=by
    intro s1 hs1 hs1l hb;have hget1:(M.set k (RC toks s1 rows)++[.lst acc])[k]?=some (RC toks s1 rows):=nG hk;have hgl1:(M.set k (RC toks s1 rows)++[Ce.lst acc])[M.length]?=some (.lst acc):=nB;simp only[tL,cX,gl,ac,ae];refine bV rfl ⟨by simp only[bj,hgl1];rfl,?_⟩;refine gy (.v (i:=0) rfl) hget1 (λQ E q=>q) rfl ⟨k,toks,s1,rows,rfl,hget1,ok,hr,hn,λv s2 e hs2=>?_,λe s r=>?_⟩
    ·rw[kI hk];have hsh:=gJ e;simp only[dY] at hsh;refine aJ (z:=(.non,M.set k (RC toks s2 rows)++[.lst (acc++[v])])) ?_ ?_
     ·simp only[ij];rw[nB];simp only;rw[if_pos (by unfold big;omega),BM]
     ·have e2:PR (100 - rows) (some acc) (toks.drop spot)=PR (100 - rows) (some (acc++[v])) (toks.drop s2):=by rw[hb,e];rfl
      refine xJ hk ok hr hn m (acc++[v]) s2 (by omega) hs2 (by rw[bt,cA];omega) (λs xs z=>hnx s xs (e2.trans z)) (λz=>her (e2.trans z))
    ·rw[kI hk];exact her (by rw[hb,e];rfl) s r acc
   simp only[lD];refine aA ?_;simp only[zs];refine Tb.if_ (x:=!acc.isEmpty) (.of (.op (.v (i:=1) rfl) (.lst .nil (by decide)) (HY hgl))) (λz=>?_) (λz=>bU ?_)
   ·simp only[cX];refine gy (.v (i:=0) rfl) hget (.cons .cst .nil) rfl ⟨k,toks,spot,rows,",",rfl,hget,ok,gV.2.2,λe=>?_,λe=>?_⟩
    ·rw[rL] at e;obtain⟨d1,d2⟩:=iu (by simp) e;rw[kI hk];refine key (spot+1) (.inr rfl) (by omega) ?_;rw[d1,d0,if_neg (by decide),if_neg (by simpa using z),if_pos rfl]
    ·rw[rL] at e;rw[kI hk];refine her ?_ _ _ _;cases hd:toks.drop spot with
     | nil=>exact dP _ _
     | cons w r =>
      obtain⟨e1,_,_,_⟩:=jf hd;rw[d0,if_neg (by rw[<- e1];exact e93),if_neg (by simpa using z),if_neg (by rw[<- e1];exact e)]
   ·dsimp only;refine key spot (.inl rfl) hs ?_;cases hd:toks.drop spot with
    | nil=>rw[dP,dP];rfl
    | cons w r =>
     obtain⟨e1,_,_,_⟩:=jf hd;rw[d0,if_neg (by rw[<- e1];exact e93),if_pos (by simpa using z)]
theorem Gn{n:Nat}(ds:List Tr)(M:Me)(Q E:TK)(hl:ds.length=1)(hC:∀ c∈M,ee M.length c)(h:(jI (n+1)).f ds M Q E):(oF hI cy (fC n)).f (ap M.length Q E) (df qA ds) M:=by
 obtain⟨k,toks,spot,rows,rfl,hk,ok,hr,h91,hn,q⟩:=h;show (oF hI cy (fC n)).f (ap M.length Q E) [some (.cell k),none] M;have hlt:=ke hk;obtain⟨d1,d2⟩:=iu (by simp) h91;have qr:∀ v s X,PR (100 - rows) none (toks.drop spot)=some (v,toks.drop s)->s<=toks.length->(ap M.length Q E).rt v (M.set k (RC toks s rows)++X):=λv s X e hs=>xg hC (vM _ _ _ _) (rF _ _ _ (C0 e)) (q.1 v s e hs);have qe:∀ s r X ρ,PR (100 - rows) none (toks.drop spot)=none->(ap M.length Q E).er ρ eH (M.set k (RC toks s r)++X):=λs r X ρ e=>xg hC (vM _ _ _ _) (by simp only[eH,bo,bS,and_self]) (q.2 e s r);generalize ap M.length Q E=F at qr qe ⊢;simp only[oF];refine aA ?_;simp only[zo,cX];refine gy (.v (i:=0) rfl) hk (.cons .cst .nil) rfl ⟨k,toks,spot,rows,"[",rfl,hk,ok,gV.1,λe=>?_,λe=>absurd (by rw[jW];exact h91) e⟩;refine aA ?_;simp only[jB,aa,aE];refine aJ ((ug (nE hlt) 1 λa b=>a+b).2 (rows+1) (by omega)) ?_;rw[i6];refine aA ?_;simp only[zp];have hget:(M.set k (RC toks (spot+1) (rows+1)))[k]?=some (RC toks (spot+1) (rows+1)):=nE hlt;have t1:Tb (am (F3 gtT (eI eX (aa 0)) (dC (.int 100)))) [some (.cell k),none] (M.set k (RC toks (spot+1) (rows+1))) (decide (100 < rows+1)):=.of (.op (.fldC (.v (i:=0) rfl) hget rfl rfl) .cst (by simp only[gtT,c5];congr 2;exact decide_eq_decide.mpr (by omega)));refine Tb.if_ t1 (λz=>?_) (λz=>bU ?_)
 ·have z:=of_decide_eq_true z;simp only[fQ,ac,dC,ae];refine⟨⟨rfl,rfl⟩,?_⟩;have:=qe (spot+1) (rows+1) [] [some (.cell k),none] (by rw[d1,eT,if_pos rfl,if_pos (by omega)]);rw[bq] at this;exact this
 ·have z:rows+1<=100:=by have:=of_decide_eq_false z;omega
  have e0:PR (100 - rows) none (toks.drop spot)=PR (100 - (rows+1)) (some []) (toks.drop (spot+1)):=by rw[d1,eT,if_pos rfl,if_neg (by omega)];rfl
  dsimp only;refine aA ?_;simp only[aC,lc,ae];refine⟨by show 0<=big;exact eS _,?_⟩;rw[eF];refine aJ (z:=[some (.cell k),some (.cell M.length)]) rfl ?_;refine aA ?_;simp only[zr,lM];refine⟨toks.length - (spot+1)+1,xJ hlt ok z (by omega) _ [] (spot+1) (Nat.lt_succ_self _) d2 (by have:=ok.len;simp only[aN];omega) (λs xs e e93 hs=>?_) (λe s r xs=>qe s r _ _ (e0.trans e))⟩;dsimp only;refine aA ?_;simp only[zt,cX];have hg2:(M.set k (RC toks s (rows+1))++[.lst xs])[k]?=some (RC toks s (rows+1)):=nG hlt;refine gy (.v (i:=0) rfl) hg2 (.cons .cst .nil) rfl ⟨k,toks,s,rows+1,"]",rfl,hg2,ok,gV.2.1,λe1=>?_,λe1=>absurd (by rw[kZ];exact e93) e1⟩;rw[kI hlt];refine aA ?_;simp only[jB,aa,aE];refine aJ ((ug (nG hlt) 1 λa b=>a - b).2 rows (by omega)) ?_;rw[kI hlt];simp only[ao,rV,aa,bB,aE];refine aJ (z:=(.lst xs,M.set k (RC toks (s+1) rows)++[.dead])) ?_ ?_
  ·simp only[nv];rw[nB];simp only;rw[BM]
  ·exact qr _ (s+1) _ (e0.trans e) hs
section
def cnt(l:List Nat):Nat:=(l.filter λc=>decide (c≠32)).length
theorem gN(c:Nat)(l:List Nat):cnt (c::l)=(if c=32 then 0 else 1)+cnt l:=by
 unfold cnt;rw[List.filter_cons]
 by_cases h:c=32
 ·rw[if_neg (by simp [h]),if_pos h];omega
 ·rw[if_pos (by simp [h]),if_neg h,az];omega
theorem v8(l:List Nat):cnt l<=l.length:=List.length_filter_le _ _
theorem rO(a b:List Nat):cnt (a++b)=cnt a+cnt b:=by unfold cnt;rw[List.filter_append,bt]
def wl(ts:List Wrd):Nat:=(ts.map List.length).sum
theorem vg(a b:List Wrd):wl (a++b)=wl a+wl b:=by unfold wl;rw[i3,List.sum_append]
theorem vh(a:Wrd)(b:List Wrd):wl (a::b)=a.length+wl b:=by unfold wl;rw[aO,List.sum_cons]
theorem mH(now:Wrd):wl (flu now)=now.length:=by
 unfold flu
 split
 ·rename_i h;rw[h];rfl
 ·simp [wl]
theorem vi:∀(l:List Nat)(now:Wrd),wl (wsG now l)=now.length+cnt l
 | [],now=>by simp only[wsG,mH];rfl
 | c::r,now=>by
  simp only[wsG,gN]
  split
  ·rw[vg,mH,vi r []];simp
  ·rw[vi r,bt,cA];omega
theorem p8:∀(l:List Nat)(now:Wrd),wl (aF now l)=now.length+cnt l
 | [],now=>by simp only[aF,mH];rfl
 | c::r,now=>by
  simp only[aF,gN]
  split
  ·rw[vg,mH,p8 r []];simp
  ·split
   ·rw[vg,mH,vh,p8 r []];simp
   ·rw[p8 r,bt,cA];omega
theorem lh{now w:Wrd}(h:w∈flu now):w=now/\w≠[]:=by
 unfold flu at h
 split at h
 ·cases h
 ·rw[cB] at h;exact⟨h,by rw[h];assumption⟩
theorem qd:∀(l:List Nat)(now:Wrd),∀ w∈wsG now l,w≠[]/\∀ c∈w,c∈now∨c∈l
 | [],now,w,h=>by
  simp only[wsG] at h;obtain⟨h1,h2⟩:=lh h;exact⟨h2,λc hc=>.inl (h1 ▸ hc)⟩
 | c::r,now,w,h=>by
  simp only[wsG] at h
  split at h
  ·rcases bf.mp h with h|h
   ·obtain⟨h1,h2⟩:=lh h;exact⟨h2,λc hc=>.inl (h1 ▸ hc)⟩
   ·obtain⟨h1,h2⟩:=qd r [] w h;exact⟨h1,λd hd=>.inr (aZ _ ((h2 d hd).resolve_left (by simp)))⟩
  ·obtain⟨h1,h2⟩:=qd r _ w h;refine⟨h1,λd hd=>?_⟩;rcases h2 d hd with e|e
   ·rcases bf.mp e with e|e
    ·exact .inl e
    ·rw[cB] at e;rw[e];exact .inr (a6 ..)
   ·exact .inr (aZ _ e)
theorem mC:∀(l:List Nat)(now:Wrd),∀ w∈aF now l,w≠[]/\∀ c∈w,c∈now∨c∈l
 | [],now,w,h=>by
  simp only[aF] at h;obtain⟨h1,h2⟩:=lh h;exact⟨h2,λc hc=>.inl (h1 ▸ hc)⟩
 | c::r,now,w,h=>by
  simp only[aF] at h
  split at h
  ·rcases bf.mp h with h|h
   ·obtain⟨h1,h2⟩:=lh h;exact⟨h2,λc hc=>.inl (h1 ▸ hc)⟩
   ·obtain⟨h1,h2⟩:=mC r [] w h;exact⟨h1,λd hd=>.inr (aZ _ ((h2 d hd).resolve_left (by simp)))⟩
  ·split at h
   ·rcases bf.mp h with h|h
    ·obtain⟨h1,h2⟩:=lh h;exact⟨h2,λc hc=>.inl (h1 ▸ hc)⟩
    ·rcases aM.mp h with h|h
     ·subst h;exact⟨by simp,λd hd=>by rw[cB] at hd;subst hd;exact .inr (a6 ..)⟩
     ·obtain⟨h1,h2⟩:=mC r [] w h;exact⟨h1,λd hd=>.inr (aZ _ ((h2 d hd).resolve_left (by simp)))⟩
   ·obtain⟨h1,h2⟩:=mC r _ w h;refine⟨h1,λd hd=>?_⟩;rcases h2 d hd with e|e
    ·rcases bf.mp e with e|e
     ·exact .inl e
     ·rw[cB] at e;rw[e];exact .inr (a6 ..)
    ·exact .inr (aZ _ e)
theorem Lb{ts:List Wrd}(h:∀ w∈ts,w≠[]):ts.length<=wl ts:=by
 induction ts with
 | nil=>simp [wl]
 | cons w r ih =>
  rw[vh,az];have:=aaq.mpr (h w (a6 ..));have:=ih λw hw=>h w (aZ _ hw);omega
theorem Lc{ts:List Wrd}{w:Wrd}(h:w∈ts):w.length<=wl ts:=by
 induction ts with
 | nil=>cases h
 | cons x r ih =>
  rw[vh];rcases aM.mp h with e|e
  ·rw[e];omega
  ·have:=ih e;omega
open PySem.StrLaws in
theorem pN:∀(n:Nat)(l:List Nat),l.length<=n->cnt (replL [45,62] [32,45,62,32] l)=cnt l/\∀ c∈replL [45,62] [32,45,62,32] l,c∈l∨c∈[32,45,62]
 | n,[],_=>by rw[replL_nil];exact⟨rfl,λc h=>nomatch h⟩
 | 0,c::r,hl=>by simp at hl
 | n+1,c::r,hl=>by
  by_cases hh:(c::r).take ([45,62]:List Nat).length=[45,62]
  ·rw[replL_hit (by simp) hh];obtain⟨h1,h2⟩:=pN n ((c::r).drop ([45,62]:List Nat).length) (by rw[dY];simp at hl ⊢;omega);refine⟨?_,λd hd=>?_⟩
   ·rw[rO,h1]
    conv=>rhs;rw[<- List.take_append_drop ([45,62]:List Nat).length (c::r),hh,rO]
    rfl
   ·rcases bf.mp hd with hd|hd
    ·simp only[aM,cR,or_false] at hd ⊢;rcases hd with h|h|h|h <;> simp [h]
    ·exact(h2 d hd).imp aao id
  ·rw[replL_miss hh];obtain⟨h1,h2⟩:=pN n r (by simp at hl;omega);refine⟨by rw[gN,gN,h1],λd hd=>?_⟩;rcases aM.mp hd with hd|hd
   ·rw[hd];exact .inl (a6 ..)
   ·exact(h2 d hd).imp (aZ _) id
theorem uH:∀ l:List Nat,cnt (hR l)=cnt l/\∀ c∈hR l,c∈l∨c=32
 | []=>⟨rfl,λc h=>nomatch h⟩
 | c::r=>by
  obtain⟨h1,h2⟩:=uH r;rw[p0];refine⟨?_,λd hd=>?_⟩
  ·rw[rO,gN c r,h1]
   split
   ·rw[gN,gN,gN];simp [cnt]
   ·rw[gN];simp [cnt]
  ·rcases bf.mp hd with hd|hd
   ·split at hd
    ·simp only[aM,cR,or_false] at hd;rcases hd with h|h|h
     ·exact .inr h
     ·rw[h];exact .inl (a6 ..)
     ·exact .inr h
    ·rw[cB] at hd;rw[hd];exact .inl (a6 ..)
   ·exact(h2 d hd).imp (aZ _) id
structure Sgs(n:Nat)(ts:List Wrd):Prop where
 len:ts.length<=n
 ne:∀ w∈ts,w≠[]
 ok:∀ w∈ts,PyData.strOk (sOf w)=true
 wd:∀ w∈ts,w.length<=n
theorem Sgs.tk{n:Nat}{ts:List Wrd}(h:Sgs n ts)(hn:n<=900000):ie ts:=⟨by have:=h.len;omega,λw hw=>⟨h.ok w hw,by have:=h.wd w hw;omega⟩⟩
theorem Sgs.of{n:Nat}{ts:List Wrd}(h1:wl ts<=n)(h2:∀ w∈ts,w≠[])(h3:∀ w∈ts,∀ c∈w,c < 0x110000):Sgs n ts :=
 ⟨gH (Lb h2) h1,h2,λw hw=>ff.mpr (h3 w hw),λw hw=>gH (Lc hw) h1⟩
theorem B0{x:Str}(hx:PyData.strOk x=true):PyData.strOk (dL x)=true:=by
 rw[ff,mZ];intro c hc;rcases (pN _ _ (aP _)).2 c hc with h|h
 ·rcases (uH _).2 c h with h|h
  ·exact ff.mp hx c h
  ·rw[h];decide
 ·simp only[aM,cR,or_false] at h;rcases h with h|h|h <;> (rw[h];decide)
theorem BN{x:Str}{n:Nat}(hx:PyData.strOk x=true)(hl:x.length<=n):Sgs n (sgP x):=by
 refine .of ?_ (λw hw=>(qd _ _ w hw).1) λw hw c hc=>?_
 ·unfold sgP;rw[vi,mZ,(pN _ _ (aP _)).1,(uH _).1,aN,Nat.zero_add];exact gH (v8 _) (by rw[aU];exact hl)
 ·have:=(qd _ _ w hw).2 c hc;exact ff.mp (B0 hx) c (this.resolve_left (by simp))
theorem JV{x:Str}{n:Nat}(hx:PyData.strOk x=true)(hl:x.length<=n):Sgs n (sgL x):=by
 refine .of ?_ (λw hw=>(mC _ _ w hw).1) λw hw c hc=>?_
 ·unfold sgL;rw[p8,aN,Nat.zero_add];exact gH (v8 _) (by rw[aU];exact hl)
 ·have:=(mC _ _ w hw).2 c hc;exact ff.mp hx c (this.resolve_left (by simp))
theorem uJ:∀(l acc:List Nat),(∀ w∈TL.spl [32] 0 acc l,∀ c∈w,c∈acc∨c∈l)/\(TL.spl [32] 0 acc l).length<=l.length+1
 | [],acc=>by
  rw[TL.spl_nil];exact⟨λw hw c hc=>by rw[cB] at hw;rw[hw] at hc;exact .inl hc,aP _⟩
 | c::r,acc=>by
  by_cases h:c=32
  ·subst h;rw[TL.spl_hit rfl];obtain⟨h1,h2⟩:=uJ r [];refine⟨λw hw d hd=>?_,by simp only[az];exact Nat.succ_le_succ h2⟩;rcases aM.mp hw with e|hw
   ·rw[e] at hd;exact .inl hd
   ·exact .inr (aZ _ ((h1 w hw d hd).resolve_left (by simp)))
  ·rw[TL.spl_miss (by simp [TL.pre,h])];obtain⟨h1,h2⟩:=uJ r (acc++[c]);refine⟨λw hw d hd=>?_,by rw[az];omega⟩;rcases h1 w hw d hd with e|e
   ·rcases bf.mp e with e|e
    ·exact .inl e
    ·rw[cB] at e;rw[e];exact .inr (a6 ..)
   ·exact .inr (aZ _ e)
theorem Km (x:Str):(∀ w∈Txt.split x " ",∀ c∈chL w,c∈chL x)/\(Txt.split x " ").length<=x.length+1:=by
 have h:=TL.split_spl x " " (by show chL (" ":Str)≠[];rw[a8];simp) (by
  have e:Builtin.Str.strKind (" ":Str)=1:=by decide +kernel
  rw[e];unfold Builtin.Str.strKind
  split
  ·omega
  ·split <;> omega)
 have e:TL.tl (" ":Str)=[32]:=by show chL (" ":Str)=[32];rw[a8];rfl
 rw[e] at h;have h2:(Txt.split x " ").map chL=TL.spl [32] 0 [] (chL x):=h;obtain⟨h3,h4⟩:=uJ (chL x) [];rw[<- h2] at h3 h4;refine⟨λw hw c hc=>(h3 (chL w) (List.mem_map_of_mem hw) c hc).resolve_left (by simp),?_⟩;rw[cj,aU] at h4;exact h4
theorem Kn (x:Str):((Txt.split (dL x) " ").filter λw=>!decide (chL w=[])).map Tr.str=(sgP x).map λw=>Tr.str (sOf w):=by
 unfold sgP;rw[<- Ko,List.filter_map,gG];have e:(λw:Str=>!decide (chL w=[]))=((λw=>!List.isEmpty w) ∘ chL):=funext λw=>by
  show _=!(chL w).isEmpty;cases chL w <;> rfl
 rw[e];refine List.map_congr_left λw _=>?_;show Tr.str w=Tr.str (sOf (chL w));rw[iI]
def pX:Sf:=⟨λds M Q _=>∃ x:Str,ds=[.str x]/\PyData.strOk x=true/\x.length<=50000/\Q (.lst ((sgP x).map λw=>Tr.str (sOf w))) M,λh _ ⟨x,a,b,c,q⟩=>⟨x,a,b,c,h _ _ q⟩⟩
theorem JB{x:Str}(h:x.length<=50000):(dL x).length<=16000319:=by
 have:=uh h 4 (aP _);have e:jr 4=16000319:=by decide
 rw[e] at this;exact this
theorem GJ:Go 1 re pH pX:=λds M Q E hl h=>by
 obtain⟨x,rfl,hx,hxl,q⟩:=h;have q':(ap M.length Q E).rt (.lst ((sgP x).map λw=>Tr.str (sOf w))) M:=.inl q;show pH.f (ap M.length Q E) [some (.str x),none] M;generalize ap M.length Q E=F at q' ⊢;simp only[pH];refine aA ?_;simp only[uo];refine⟨x,rfl,hxl,?_⟩;simp only[bC,bE,AK];have hl4:=JB hxl;have ho:=B0 hx;obtain⟨s1,s2⟩:=Km (dL x);have hsp:Ex1 (ng (aa 0) (dC (.str " "))) [some (.str (dL x)),some (.str "->")] M (.lst ((Txt.split (dL x) " ").map Tr.str)):=λQ E q=>by
  simp only[ng];refine bV rfl ⟨_,rfl,⟨_,rfl,by decide +kernel,by unfold big;omega,q⟩⟩
 have hc:=Ex1.lcf (M:=M) (vs:=[1]) (g:=.nm 1) (c:=am (F3 neT (aa 1) (dC (.str "")))) (e:=aa 1) (ρ:=[some (.str (dL x)),some (.str "->")]) Tr.str Tr.str (λw=>!decide (chL w=[])) hsp (by unfold big;omega) λw hw=>⟨[some (.str (dL x)),some (.str w)],rfl,by
  have:=Tb.of (Ex1.neS (ρ:=[some (.str (dL x)),some (.str w)]) (M:=M) (.v (i:=1) rfl) (.cst (d:=.str "")) (jL ho (s1 w hw)) db.2.2.2.2);rw[kX] at this;exact this,.v (i:=1) rfl⟩
 rw[Kn] at hc;exact Ex1.ret hc q'
end
theorem vK{a:Tr}(h:aK a=true):IR a=true/\szV a=100:=by
 cases a with
 | non=>exact⟨by simp only[IR],by simp only[szV]⟩
 | int i=>exact⟨by simpa [IR,aK,aS,aX] using h,by simp only[szV]⟩
 | str i=>exact⟨by simpa [IR,aK,aS,aX] using h,by simp only[szV]⟩
 | _=>simp [aK,aS,aX] at h
theorem Iz{a b:List Tr}:bg (a++b)=(bg a&&bg b):=by
 induction a with
 | nil=>simp [bg]
 | cons x r ih=>simp only[aY,bg,ih,Bool.and_assoc]
theorem B4:∀(a b:List Tr),cp (a++b)=cp a+cp b
 | [],b=>by simp [cp]
 | d::a,b=>by simp only[aY,cp,B4 a b];omega
theorem vw:∀(ts:List Wrd),ts.length<=100000->∀ d:Nat,(∀ z,PR d none ts=some z->IR z.1=true/\szV z.1+2+104 * z.2.length<=104 * ts.length)/\(∀ acc z,bg acc=true->acc.length+ts.length<=100000->PR d (some acc) ts=some z->IR z.1=true/\szV z.1+104 * z.2.length+104<=2+cp acc+104 * ts.length) :=
 sN λts ih=>by
  intro hts d;have A:∀ z,PR d none ts=some z->IR z.1=true/\szV z.1+2+104 * z.2.length<=104 * ts.length:=λz h=>by
   cases ts with
   | nil=>rw[dP] at h;cases h
   | cons w r =>
    rw[eT] at h;simp only[az] at hts ⊢
    split at h
    ·split at h
     ·cases h
     ·obtain⟨h1,h2⟩:=(ih r (by simp) (by omega) (d - 1)).2 [] z rfl (by simp only[aN];omega) h;simp only[cp] at h2;exact⟨h1,by omega⟩
    ·obtain⟨a,ha,e⟩:=bz.mp h;subst e;obtain⟨h1,h2⟩:=vK (fG ha).1;exact⟨h1,by rw[h2];dsimp only;omega⟩
  refine⟨A,λacc z ha hl h=>?_⟩;have step:∀ y:Tr × List Wrd,IR y.1=true->szV y.1+2+104 * y.2.length<=104 * ts.length->y.2.length < ts.length->PR d (some (acc++[y.1])) y.2=some z->IR z.1=true/\szV z.1+104 * z.2.length+104<=2+cp acc+104 * ts.length:=λy h1 h2 h3 h4=>by
   obtain⟨k1,k2⟩:=(ih y.2 h3 (by omega) d).2 (acc++[y.1]) z (by rw[Iz,ha];simp [bg,h1]) (by rw[bt,cA];omega) h4;rw[B4] at k2;simp only[cp] at k2;exact⟨k1,by omega⟩
  cases ts with
  | nil=>rw[dP] at h;cases h
  | cons w r =>
   rw[d0] at h
   split at h
   ·cases h;simp only[az] at hl hts ⊢;simp only[IR,szV];exact⟨by rw[ha,decide_eq_true (by omega)];rfl,by omega⟩
   ·split at h
    ·obtain⟨y,h1,h2⟩:=cn.mp h;obtain⟨k1,k2⟩:=A y h1;exact step y k1 k2 (gJ h1) h2
    ·split at h
     ·obtain⟨y,h1,h2⟩:=cn.mp h;simp only[az] at hts;obtain⟨k1,k2⟩:=(ih r (by simp) (by omega) d).1 y h1;have:=gJ h1;exact step y k1 (by simp only[az];omega) (by simp only[az];omega) h2
     ·cases h
mutual
theorem mR(cl:List Nat):∀ d:Tr,IR d=true->bu d=true/\cF cl d=true
 | .lst xs,h=>by
  simp only[IR,ax,decide_eq_true_eq] at h;obtain⟨h1,h2⟩:=vH cl xs h.2;simp only[bu,cF,h1,h2,Bool.and_true,and_true];exact decide_eq_true (by omega)
 | .non,h=>⟨by simp only[bu],by simp only[cF]⟩
 | .int i,h=>⟨by simp only[bu],by simp only[cF]⟩
 | .str w,h=>by
  simp only[IR] at h;have:=sP h;exact⟨by simp only[bu];exact decide_eq_true (by omega),by simp only[cF]⟩
 | .bl _,h=>by simp [IR] at h
 | .tup _,h=>by simp [IR] at h
 | .dct _ _,h=>by simp [IR] at h
 | .ins _ _,h=>by simp [IR] at h
 | .exc _ _,h=>by simp [IR] at h
 | .cell _,h=>by simp [IR] at h
 | .scr _,h=>by simp [IR] at h
 | .dkf _ _,h=>by simp [IR] at h
theorem vH(cl:List Nat):∀ ds:List Tr,bg ds=true->ii ds=true/\gM cl ds=true
 | [],_=>⟨by simp only[ii],by simp only[gM]⟩
 | d::ds,h=>by
  simp only[bg,ax] at h;obtain⟨h1,h2⟩:=mR cl d h.1;obtain⟨h3,h4⟩:=vH cl ds h.2;simp only[ii,gM,h1,h2,h3,h4,dO,and_self]
end
mutual
theorem wW:∀(d:Tr)(k:Nat),aD k d=true->a9 d<=k
 | .lst xs,k,h=>by
  simp only[aD,ax,decide_eq_true_eq] at h;have:=wX xs _ h.2;simp only[a9];omega
 | .non,k,h=>by simp only[a9];omega
 | .int i,k,h=>by simp only[a9];omega
 | .str w,k,h=>by simp only[a9];omega
 | .bl _,k,h=>by simp [aD,aK,aS,aX] at h
 | .tup _,k,h=>by simp [aD,aK,aS,aX] at h
 | .dct _ _,k,h=>by simp [aD,aK,aS,aX] at h
 | .ins _ _,k,h=>by simp [aD,aK,aS,aX] at h
 | .exc _ _,k,h=>by simp [aD,aK,aS,aX] at h
 | .cell _,k,h=>by simp [aD,aK,aS,aX] at h
 | .scr _,k,h=>by simp [aD,aK,aS,aX] at h
 | .dkf _ _,k,h=>by simp [aD,aK,aS,aX] at h
theorem wX:∀(ds:List Tr)(k:Nat),eP k ds=true->c8 ds<=k
 | [],k,_=>by simp only[c8];omega
 | d::ds,k,h=>by
  simp only[eP,ax] at h;have h1:=wW d k h.1;have h2:=wX ds k h.2;simp only[c8];omega
theorem qa:∀(d:Tr)(k:Nat),IR d=true->a9 d<=k->aD k d=true
 | .lst xs,k,h,hk=>by
  simp only[IR,ax] at h;simp only[a9] at hk;simp only[aD,ax,decide_eq_true_eq];exact⟨by omega,Ct xs _ h.2 (by omega)⟩
 | .non,k,h,hk=>by simp only[aD];rfl
 | .int i,k,h,hk=>by simpa [aD,aK,aS,aX,IR] using h
 | .str w,k,h,hk=>by simpa [aD,aK,aS,aX,IR] using h
 | .bl _,k,h,hk=>by simp [IR] at h
 | .tup _,k,h,hk=>by simp [IR] at h
 | .dct _ _,k,h,hk=>by simp [IR] at h
 | .ins _ _,k,h,hk=>by simp [IR] at h
 | .exc _ _,k,h,hk=>by simp [IR] at h
 | .cell _,k,h,hk=>by simp [IR] at h
 | .scr _,k,h,hk=>by simp [IR] at h
 | .dkf _ _,k,h,hk=>by simp [IR] at h
theorem Ct:∀(ds:List Tr)(k:Nat),bg ds=true->c8 ds<=k->eP k ds=true
 | [],k,_,_=>by simp only[eP]
 | d::ds,k,h,hk=>by
  simp only[bg,ax] at h;simp only[c8] at hk;simp only[eP,qa d k h.1 (by omega),Ct ds k h.2 (by omega),dO]
end
def rdV:Tr->Option Tr
 | .str x=>rdP x
 | _=>none
theorem Jt{x:Str}{v:Tr}(h:rdP x=some v):PR 100 none (sgP x)=some (v,[])/\aD 60 v=true:=by
 unfold rdP at h
 split at h
 ·rename_i e
  split at h
  ·cases h;exact⟨e,by assumption⟩
  ·cases h
 ·cases h
theorem Ju{x:Str}{v:Tr}(hx:PyData.strOk x=true)(hl:x.length<=50000)(h:rdP x=some v):okB 60 5200000 v:=by obtain⟨h1,h2⟩:=Jt h;have hs:=BN hx hl;obtain⟨a,b⟩:=(vw (sgP x) (by have:=hs.len;omega) 100).1 _ h1;refine⟨a,wW _ _ h2,?_⟩;have:=hs.len;simp only[aN] at b;show szV v<=_;omega
def eO(cl:List Nat):Sf:=⟨λds M Q E=>∃ d,ds=[d]/\bu d=true/\cF cl d=true/\(∀ x,d=.str x->PyData.strOk x=true/\x.length<=50000)/\(∀ v,rdV d=some v->Q v M)/\(rdV d=none->E eH M),λh h' ⟨d,a,b,c,e,q1,q2⟩=>⟨d,a,b,c,e,λv z=>h _ _ (q1 v z),λz=>h' _ _ (q2 z)⟩⟩
theorem so{M:Me}{c:Ce}{r:Tr}{Q:Me->Prop}(hC:∀ c∈M,ee M.length c)(hb:bo M.length r)(q:Q M):lf M.length r (M++[c]) Q:=by
 refine .inr ⟨M.length,aP _,⟨hb,λk d hk hd=>?_⟩,?_⟩
 ·rw[eD hk] at hd;exact hC d (f7 hd)
 ·rw[List.take_left];exact q
theorem jq{M:Me}{c:Ce}:(M++[c])[M.length]?=some c:=by simp
theorem nR{M:Me}{c d:Ce}:(M++[c]).set M.length d=M++[d]:=by rw[List.set_append_right _ _ (aP _),Nat.sub_self];rfl
theorem GA(cl:List Nat)(ds:List Tr)(M:Me)(Q E:TK)(hl:ds.length=1)(hC:∀ c∈M,ee M.length c)(h:(eO cl).f ds M Q E):(pF cl pW pX (fC 101) cy (jF cl)).f (ap M.length Q E) (df q9 ds) M:=by
 obtain⟨d,rfl,ha,hc,hd,q1,q2⟩:=h;show (pF cl pW pX (fC 101) cy (jF cl)).f (ap M.length Q E) [some d,none,none] M;have n1:∀ v X,rdV d=some v->IR v=true->(ap M.length Q E).rt v (M++[X]):=λv X e o=>so hC (rF _ _ _ (qa v _ o (aP _))) (q1 v e);have n2:∀ ρ X,rdV d=none->(ap M.length Q E).er ρ eH (M++[X]):=λρ X e=>so hC (by simp only[eH,bo,bS,and_self]) (q2 e);have n3:∀ ρ,rdV d=none->(ap M.length Q E).er ρ eH M:=λρ e=>.inl (q2 e);generalize ap M.length Q E=F at n1 n2 n3 ⊢;simp only[pF];refine aA ?_;simp only[AG,GT,cH];refine vd (i:=0) rfl ha (rN hc) ?_
 by_cases hs:∃ x,d=.str x
 case neg =>
  have e:([TyG.b "str"].any (isa (tyA d)))=false:=by
   cases d <;> first|(exact absurd ⟨_,rfl⟩ hs)|(simp [tyA,isa];done)|simp [bu] at ha
  rw[e];simp only[dX,if_true,fQ,ac,dC,ae];refine⟨⟨rfl,rfl⟩,n3 _ ?_⟩;cases d <;> first|rfl|exact absurd ⟨_,rfl⟩ hs
 obtain⟨x,rfl⟩:=hs;obtain⟨hx,hxl⟩:=hd x rfl;have hsg:=BN hx hxl;have ok:=hsg.tk (by decide);have e:([TyG.b "str"].any (isa (tyA (.str x))))=true:=by simp [tyA,isa]
 rw[e];simp only[dw,bd,if_false];refine bU ?_;dsimp only;refine aA ?_;simp only[AH,aC,rX,GE,ac,ae];refine bV rfl ⟨rfl,x,rfl,hx,hxl,rfl,?_⟩;refine⟨M.length,sgP x,rfl,jq,rfl,?_⟩;rw[nR];refine aJ (z:=[some (.str x),some (.cell M.length),none]) rfl ?_;refine aA ?_;simp only[aC];refine gy (.v (i:=1) rfl) jq .nil rfl ⟨M.length,sgP x,0,0,rfl,jq,ok,by decide,by decide,λv s e hs=>?_,λe s r=>?_⟩
 ·rw[iY] at e;rw[nR];refine aJ (z:=[some (.str x),some (.cell M.length),some v]) rfl ?_;refine aA ?_;simp only[AI];obtain⟨o1,o2⟩:=(vw (sgP x) (by have:=hsg.len;omega) 100).1 _ e;obtain⟨a1,a2⟩:=mR cl v o1;have hk:=jq (M:=M) (c:=RC (sgP x) s 0);have t1:=Tb.of (Ex1.neS (ρ:=[some (.str x),some (.cell M.length),some v]) (M:=M++[RC (sgP x) s 0]) (.methC (z:=.str (sOf (nxt (sgP x) s))) (n:=1) (c:=7) (sp:=cy) (.v (i:=1) rfl) hk .nil rfl λQ E q=>⟨M.length,sgP x,s,0,rfl,hk,ok,q⟩) (.cst (d:=.str "")) (lm ok s).1 db.2.2.2.2);rw[bH,kX] at t1;have t2:Tb (cH (bp (GE (jF cl) [] 1 (ac (aa 2) ae)))) [some (.str x),some (.cell M.length),some v] (M++[RC (sgP x) s 0]) (!aD 60 v):=.not (.tru (.fn (.cons (.v (i:=2) rfl) .nil) rfl λQ' E' q'=>⟨_,rfl,⟨a1,a2⟩,q'⟩) rfl);have hnx:nxt (sgP x) s=[]↔(sgP x).drop s=[]:=by
   refine⟨λh=>?_,λh=>lp (List.drop_eq_nil_iff.mp h)⟩;cases hdr:(sgP x).drop s with
   | nil=>rfl
   | cons w r =>
    obtain⟨h1,_,h3,_⟩:=jf hdr;exact absurd h (hsg.ne _ (yG h3))
  refine Tb.if_ (.or t1 λ_=>t2) (λz=>?_) (λz=>bU ?_)
  ·simp only[fQ,ac,dC,ae];refine⟨⟨rfl,rfl⟩,n2 _ _ ?_⟩;show rdP x=none;unfold rdP;rw[e];simp only[gA,aam,decide_eq_false_iff_not] at z;cases hdr:(sgP x).drop s with
   | nil =>
    rcases z with z|z
    ·exact absurd (hnx.mpr hdr) z
    ·dsimp only;rw[z];rfl
   | cons w r=>rfl
  ·simp only[hZ,aas,decide_eq_true_eq] at z;dsimp only;simp only[ao];refine bV (d:=v) rfl (n1 v _ ?_ o1);show rdP x=some v;unfold rdP;rw[e,hnx.mp z.1];exact if_pos z.2
 ·rw[iY] at e;rw[nR];refine n2 _ _ ?_;show rdP x=none;unfold rdP;rw[e]
def aW(ts:List Wrd):Tr:=.lst (ts.map λw=>Tr.str (sOf w))
theorem G0 {M:Me} {c:Nat}:inT M (.str ⟨#[c]⟩) (.str " [],")=some (.bl (decide (c=32)||brk c)):=by
 have e:inT M (.str ⟨#[c]⟩) (.str " [],")=some (.bl (decide (c∈(" [],":Str).cps.toList))):=rfl;rw[e]
 congr 2
 have s:(" [],":Str).cps.toList=[32,91,93,44]:=by show chL _=_;rw[a8];rfl
 rw[s];simp only[brk]
 by_cases h:c=32∨c=91∨c=93∨c=44
 ·rcases h with rfl|rfl|rfl|rfl <;> decide
 ·simp only[not_or] at h;obtain⟨h1,h2,h3,h4⟩:=h;simp [h1,h2,h3,h4]
theorem k7:chL (" ":Str)=[32]:=by rw[a8];rfl
theorem yA{M:Me}{d:Tr}(b:Bool):bT M (.lst [d]) (.int (if b then 1 else 0))=some (.lst (if b then [d] else [])):=by cases b <;> rfl
theorem uL(a b:List Wrd):aq M (aW a) (aW b)=if a.length+b.length<=big then some (aW (a++b)) else none:=by simp only[aq,aW,bj,cj,i3]
def stp(em:List Wrd)(cu:Wrd)(c:Nat):List Wrd × Wrd:=if c=32 then (em++flu cu,[]) else if brk c=true then (em++flu cu++[[c]],[]) else (em,cu++[c])
theorem BP{x:Str}{M:Me}{F:Fin}{c:Nat}{em:List Wrd}{cu:Wrd}(hcu:PyData.strOk (sOf cu)=true)(hc:c < 0x110000)(hl:em.length<=900000)(hl2:cu.length<=900000)
  (hn:F.nx [some (.str x),some (.str ⟨#[c]⟩),some (aW (stp em cu c).1),some (.str (sOf (stp em cu c).2))] M) :
  (GT (am (F3 inT (aa 1) (dC (.str " [],")))) (pq) (aC (.nm 3) (F3 aq (aa 3) (aa 1)))).f F [some (.str x),some (.str ⟨#[c]⟩),some (aW em),some (.str (sOf cu))] M:=by
 have hc1:PyData.strOk (⟨#[c]⟩:Str)=true:=ff.mpr λd hd=>by
  have:d∈[c]:=hd;rw[cB] at this;rw[this];exact hc
 have t:Tb (am (F3 inT (aa 1) (dC (.str " [],")))) [some (.str x),some (.str ⟨#[c]⟩),some (aW em),some (.str (sOf cu))] M (decide (c=32)||brk c):=.of (.op (.v (i:=1) rfl) .cst G0);refine Tb.if_ t (λz=>?_) (λz=>?_)
 ·simp only[pq];refine aA ?_;simp only[Aq];have e1:Ex1 (F3 neT (aa 3) (dC (.str ""))) [some (.str x),some (.str ⟨#[c]⟩),some (aW em),some (.str (sOf cu))] M (.bl (!decide (cu=[]))):=by
   have:=Ex1.neS (ρ:=[some (.str x),some (.str ⟨#[c]⟩),some (aW em),some (.str (sOf cu))]) (M:=M) (.v (i:=3) rfl) (.cst (d:=.str "")) hcu db.2.2.2.2;rw[bH,kX] at this;exact this
  have e2:Ex1 (F3 neT (aa 1) (dC (.str " "))) [some (.str x),some (.str ⟨#[c]⟩),some (aW em),some (.str (sOf cu))] M (.bl (!decide (c=32))):=by have:=Ex1.neS (ρ:=[some (.str x),some (.str ⟨#[c]⟩),some (aW em),some (.str (sOf cu))]) (M:=M) (.v (i:=1) rfl) (.cst (d:=.str " ")) hc1 (by decide +kernel);rw[iE,k7] at this;have a:decide ([c]=[32])=decide (c=32):=decide_eq_decide.mpr (by simp);rw[a] at this;exact this
  have l1:flu cu=if (!decide (cu=[]))=true then [cu] else []:=by unfold flu;by_cases h:cu=[] <;> simp [h]
  have m1:Ex1 (F3 bT (aI (ac (aa 3) ae)) (aB dk (ac (F3 neT (aa 3) (dC (.str ""))) ae))) [some (.str x),some (.str ⟨#[c]⟩),some (aW em),some (.str (sOf cu))] M (aW (flu cu)):=by refine .op (.lst (.cons (.v (i:=3) rfl) .nil) (by show 1<=big;decide)) (.call (.cons e1 .nil) rfl) ?_;rw[yA,l1];cases (!decide (cu=[])) <;> rfl
  have m2:Ex1 (F3 bT (aI (ac (aa 1) ae)) (aB dk (ac (F3 neT (aa 1) (dC (.str " "))) ae))) [some (.str x),some (.str ⟨#[c]⟩),some (aW em),some (.str (sOf cu))] M (aW (if (!decide (c=32))=true then [[c]] else [])):=by refine .op (.lst (.cons (.v (i:=1) rfl) .nil) (by show 1<=big;decide)) (.call (.cons e2 .nil) rfl) ?_;rw[yA];cases (!decide (c=32)) <;> rfl
  have hf1:(flu cu).length<=1:=by unfold flu;split <;> simp
  have hf2:(if (!decide (c=32))=true then [[c]] else []).length<=1:=by split <;> simp
  have e5:(stp em cu c).1=em++flu cu++(if (!decide (c=32))=true then [[c]] else [])/\(stp em cu c).2=[]:=by
   unfold stp
   by_cases h:c=32
   ·rw[if_pos h];simp [h]
   ·rw[if_neg h,if_pos (by simpa [h] using z)];simp [h]
  refine Ex1.asg (d:=aW ((stp em cu c).1)) ?_ ?_
  ·rw[e5.1];refine .op (.op (.v (i:=2) rfl) m1 (z:=aW (em++flu cu)) ?_) m2 ?_
   ·rw[uL,if_pos (by unfold big;omega)]
   ·rw[uL,if_pos (by rw[bt];unfold big;omega)]
  simp only[bC,bE];refine Ex1.asg (d:=.str "") .cst ?_;simp only[bC,bE];have e6:sOf (stp em cu c).2=("":Str):=by rw[e5.2];rfl
  rw[e6] at hn;exact hn
 ·have e5:stp em cu c=(em,cu++[c]):=by
   simp only[hZ,decide_eq_false_iff_not] at z;unfold stp;rw[if_neg z.1,if_neg (by rw[z.2];decide)]
  rw[e5] at hn;refine Ex1.asg (d:=.str (sOf (cu++[c]))) (.op (.v (i:=3) rfl) (.v (i:=1) rfl) ?_) hn;simp only[aq];rw[if_pos (by rw[js];show cu.length+1<=big;unfold big;omega)]
  congr 2
  exact jV (by rw[cE,bH,bH,iE])
theorem BO{x:Str}{M:Me}{F:Fin}:∀(l:List Nat)(em:List Wrd)(cu:Wrd)(ρ1:Option Tr),(∀ c∈l,c < 0x110000)->PyData.strOk (sOf cu)=true->em.length+2 * l.length<=500000->cu.length+l.length<=500000 ->
  (∀ ρ1',F.nx [some (.str x),ρ1',some (aW (em++aF cu l)),some (.str "")] M) ->
  ck (.nm 1) (GT (am (F3 inT (aa 1) (dC (.str " [],")))) (pq) (aC (.nm 3) (F3 aq (aa 3) (aa 1)))) (((l++[32]).map λc=>Tr.str ⟨#[c]⟩)) F [some (.str x),ρ1,some (aW em),some (.str (sOf cu))] M
 | [],em,cu,ρ1,_,hcu,h1,h2,hn=>by
  simp only[bR,aO,h9,ck];refine aJ (z:=[some (.str x),some (.str ⟨#[32]⟩),some (aW em),some (.str (sOf cu))]) rfl ?_;simp only[aN] at h1 h2;refine BP hcu (by decide) (by omega) (by omega) ?_;exact hn _
 | c::l,em,cu,ρ1,hc,hcu,h1,h2,hn=>by
  simp only[aY,aO,ck];refine aJ (z:=[some (.str x),some (.str ⟨#[c]⟩),some (aW em),some (.str (sOf cu))]) rfl ?_;simp only[az] at h1 h2;have hc0:=hc c (a6 ..);refine BP hcu hc0 (by omega) (by omega) ?_;have hf1:(flu cu).length<=1:=by unfold flu;split <;> simp
  have e:(stp em cu c).1++aF (stp em cu c).2 l=em++aF cu (c::l):=by
   unfold stp;simp only[aF]
   by_cases h:c=32
   ·rw[if_pos h,if_pos h];simp
   ·rw[if_neg h,if_neg h]
    by_cases hb:brk c=true
    ·rw[if_pos hb,if_pos hb];simp
    ·rw[if_neg hb,if_neg hb]
  refine BO l (stp em cu c).1 (stp em cu c).2 _ (λd hd=>hc d (aZ _ hd)) ?_ ?_ ?_ (by rw[e];exact hn)
  ·unfold stp
   split
   ·exact db.2.2.2.2
   ·split
    ·exact db.2.2.2.2
    ·refine ff.mpr λd hd=>?_;rw[bH] at hd;rcases bf.mp hd with hd|hd
     ·exact ff.mp hcu d (by rw[bH];exact hd)
     ·rw[cB] at hd;rw[hd];exact hc0
  ·unfold stp
   split
   ·rw[bt];omega
   ·split
    ·simp only[bt,cA];omega
    ·dsimp only;omega
  ·unfold stp
   split
   ·simp only[aN];omega
   ·split
    ·simp only[aN];omega
    ·simp only[bt,cA];omega
def pU:Sf:=⟨λds M Q _=>∃ x:Str,ds=[.str x]/\PyData.strOk x=true/\x.length<=50000/\Q (aW (sgL x)) M,λh _ ⟨x,a,b,c,q⟩=>⟨x,a,b,c,h _ _ q⟩⟩
theorem Gq:Go 1 qW pp pU:=λds M Q E hl h=>by
 obtain⟨x,rfl,hx,hxl,q⟩:=h;have q':(ap M.length Q E).rt (aW (sgL x)) M:=.inl q;show pp.f (ap M.length Q E) [some (.str x),none,none,none] M;generalize ap M.length Q E=F at q' ⊢;simp only[pp];refine aA ?_;simp only[Ao,eN,ac,aI,ae,dC];refine⟨eS _,?_⟩;refine aJ (z:=[some (.str x),none,some (.lst []),some (.str "")]) rfl ?_;refine aA ?_;have hs:Ex1 (F3 aq (aa 0) (dC (.str " "))) [some (.str x),none,some (.lst []),some (.str "")] M (.str (x++" ")):=.op (.v (i:=0) rfl) .cst (by
  simp only[aq];rw[if_pos (by have e:(" ":Str).length=1:=rfl;rw[e];unfold big;omega)])
 simp only[Ap,ez,dG];refine hs _ _ ?_;have e:fA (x++" ")=(chL x++[32]).map λc=>Tr.str ⟨#[c]⟩:=by
  have:chL (x++(" ":Str))=chL x++[32]:=by rw[cE,k7]
  rw[<- this];rfl
 dsimp only;rw[e];have hlen:=aU x;refine BO (x:=x) (chL x) [] [] none (λc hc=>ff.mp hx c hc) db.2.2.2.2 (by simp only[aN];omega) (by simp only[aN];omega) λρ1'=>?_;dsimp only;simp only[ao];exact bV rfl q'
def cW(room:Nat)(toks:List Wrd)(at_:Nat):Tr:=match PR room none (toks.drop at_) with
 | some (v,r)=>.tup [v,.int ((toks.length - r.length:Nat):Int)]
 | none=>.non
theorem CZ{d a:Nat}{toks:List Wrd}{z:Tr × List Wrd}(h:PR d none (toks.drop a)=some z)(ha:a<=toks.length):z.2=toks.drop (toks.length - z.2.length)/\a < toks.length - z.2.length:=by
 obtain⟨u,e,_⟩:=(kU _ d).1 _ h;have hs:=gJ h;have hl:=congrArg List.length e;rw[dY,bt] at hl;rw[dY] at hs;refine⟨?_,by omega⟩;have e2:(toks.drop a).drop u.length=z.2:=by rw[e,List.drop_left]
 rw[List.drop_drop] at e2;rw[<- show a+u.length=toks.length - z.2.length by omega];exact e2.symm
def dM(n:Nat):Sf:=⟨λds M Q _=>∃(toks:List Wrd)(at_ room:Nat),ds=[aW toks,.int (at_:Nat),.int (room:Nat)]/\Sgs 50000 toks/\at_<=toks.length/\room < n/\(room=0->nxt toks at_≠[91])/\Q (cW room toks at_) M,λh _ ⟨t,a,r,e,b,c,d,f,q⟩=>⟨t,a,r,e,b,c,d,f,h _ _ q⟩⟩
theorem oa {toks:List Wrd} (hs:Sgs 50000 toks) {at_:Nat} (ha:at_<=toks.length) {ρ:En} {M:Me} (e0:ρ[0]?=some (some (aW toks))) (e1:ρ[1]?=some (some (.int (at_:Nat)))):Ex1 (F3 L4 (F3 aq (aa 0) (F3 bT (aI (ac (dC (.str "")) ae)) (F3 aq (aa 1) (dC (.int 1))))) (aa 1)) ρ M (.str (sOf (nxt toks at_))):=by
 have hl:=hs.len;have e:(bW (at_+1) [Tr.str ""]).flatten=(bW (at_+1) ([]:Wrd)).map λw=>Tr.str (sOf w):=by
  rw[List.map_replicate];generalize at_+1=n
  induction n with
  | zero=>rfl
  | succ n ih=>rw[i4,i4,aaj,ih];rfl
 have m:Ex1 (F3 bT (aI (ac (dC (.str "")) ae)) (F3 aq (aa 1) (dC (.int 1)))) ρ M (aW (bW (at_+1) [])):=by
  refine .op (.lst (.cons .cst .nil) (by show 1<=big;decide)) (.op (.v e1) .cst rfl) ?_;simp only[bT,bj];have h1:((at_:Int)+1).toNat=at_+1:=by omega
  rw[if_pos (by
   simp only[ax,decide_eq_true_eq,cA,h1];refine⟨⟨by omega,by omega⟩,by unfold big;omega⟩),h1,e]
  rfl
 have a:Ex1 (F3 aq (aa 0) (F3 bT (aI (ac (dC (.str "")) ae)) (F3 aq (aa 1) (dC (.int 1))))) ρ M (aW (toks++bW (at_+1) [])):=by refine .op (.v e0) m ?_;rw[uL,if_pos (by rw[iZ];unfold big;omega)]
 refine .op a (.v e1) ?_;have hlt:at_ < (toks++bW (at_+1) ([]:Wrd)).length:=by rw[bt,iZ];omega
 simp only[L4,aW,cO,bj,bD,atI];rw[nQ (by omega) (by rw[cj];omega),bD,Int.toNat_natCast,gB,eE hlt];simp only[bF]
 congr 3
 unfold nxt;rw[f6]
 by_cases h:at_ < toks.length
 ·rw[List.getElem_append_left h,eE h];rfl
 ·rw[List.getElem_append_right (by omega),aac (by omega),List.getElem_replicate];rfl
theorem Sgs.nx{n:Nat}{toks:List Wrd}(h:Sgs n toks)(hn:n<=900000)(s:Nat):PyData.strOk (sOf (nxt toks s))=true/\(nxt toks s).length<=900000:=lm (h.tk hn) s
theorem sV{M:Me}{xs:List Tr}:fN M (.lst xs) (.lst [])=some (.bl (!xs.isEmpty)):=by simp only[fN,bj,bF]
theorem nM{M:Me}{d:Tr}:fk M d .non=some (.bl (isNone d)):=by simp only[fk]
theorem Hs{n room at_:Nat}{toks:List Wrd}{M:Me}{F:Fin}{s3 acc i5:Option Tr}{K:Sr}(hs:Sgs 50000 toks)(ha:at_<=toks.length)(hn:room < n+1)(hr:1<=room)
  (hk:K.f F [some (aW toks),some (.int (at_:Nat)),some (.int (room:Nat)),s3,acc,some (cW (room - 1) toks at_)] M) :
  (aj (o8 cY (dM n)) (aj (lE cY (dM n)) K)).f F [some (aW toks),some (.int (at_:Nat)),some (.int (room:Nat)),s3,acc,i5] M:=by
 refine aA ?_;simp only[o8];have t1:∀ i5',Tb (am (F3 gtT (aa 2) (dC (.int 1)))) [some (aW toks),some (.int (at_:Nat)),some (.int (room:Nat)),s3,acc,i5'] M (decide (1 < room)):=λi5'=>.of (.op (.v (i:=2) rfl) .cst (by simp only[gtT,c5];congr 2;exact decide_eq_decide.mpr (by omega)));have t2:∀ i5',Tb (am (F3 eqT (aa 2) (dC (.int 1)))) [some (aW toks),some (.int (at_:Nat)),some (.int (room:Nat)),s3,acc,i5'] M (decide (room=1)):=λi5'=>.of (.op (.v (i:=2) rfl) .cst (by rw[fJ];congr 2;exact decide_eq_decide.mpr (by omega)))
 by_cases h1:1 < room
 ·refine Ex1.asg (d:=cW (room - 1) toks at_) (.ite (t1 i5) (λ_=>.fn (.cons (.v (i:=0) rfl) (.cons (.v (i:=1) rfl) (.cons (.op (.v (i:=2) rfl) .cst (z:=.int ((room - 1:Nat):Int)) (by simp only[dN];congr 2;omega)) .nil))) rfl λQ E q=>⟨toks,at_,room - 1,rfl,hs,ha,by omega,λz=>by omega,q⟩) (λz=>absurd h1 (of_decide_eq_false z))) ?_;simp only[bC,bE];refine aA ?_;simp only[lE];refine Tb.if_ (.and (.of (.op (.v (i:=5) rfl) .cst nM)) λ_=>t2 _) (λz=>?_) (λz=>bU hk);rw[decide_eq_false (by omega),Bool.and_false] at z;cases z
 ·have h1:room=1:=by omega
  subst h1;refine Ex1.asg (d:=.non) (.ite (t1 i5) (λz=>absurd (of_decide_eq_true z) (by omega)) (λ_=>.cst)) ?_;simp only[bC,bE];refine aA ?_;simp only[lE];refine Tb.if_ (.and (.of (.op (.v (i:=5) rfl) .cst nM)) λ_=>t2 _) (λz=>?_) (λz=>by cases z);have t3:=Tb.of (Ex1.neS (ρ:=[some (aW toks),some (.int (at_:Nat)),some (.int ((1:Nat):Int)),s3,acc,some .non]) (M:=M) (oa hs ha rfl rfl) (.cst (d:=.str "[")) (hs.nx (by decide) at_).1 gV.1);rw[bH,jW] at t3;refine Ex1.asg (d:=cW 0 toks at_) (.ite t3 (λz=>.fn (.cons (.v (i:=0) rfl) (.cons (.v (i:=1) rfl) (.cons (.cst (d:=.int 0)) .nil))) rfl λQ E q=>⟨toks,at_,0,rfl,hs,ha,by omega,λ_=>by simpa using z,q⟩) (λz=>?_)) hk;have e91:nxt toks at_=[91]:=by simpa using z
  obtain⟨d1,_⟩:=iu (by simp) e91;have:cW 0 toks at_=.non:=by unfold cW;rw[d1,eT,if_pos rfl,if_pos rfl]
  rw[this];exact .cst
theorem yl{n room:Nat}{toks:List Wrd}{M:Me}{F:Fin}{s3:Option Tr}(hs:Sgs 50000 toks)(hr:1<=room)(hn:room < n+1):∀(m:Nat)(acc:List Tr)(at_:Nat)(i5:Option Tr),toks.length - at_ < m->at_<=toks.length->acc.length+(toks.length - at_)<=100000 ->
  (∀ s xs i5',PR (room - 1) (some acc) (toks.drop at_)=some (.lst xs,toks.drop (s+1))->s < toks.length->F.nx [some (aW toks),some (.int (s:Nat)),some (.int (room:Nat)),s3,some (.lst xs),i5'] M) ->
  (PR (room - 1) (some acc) (toks.drop at_)=none->F.rt .non M) ->
  cI (am (F3 neT (F3 L4 (F3 aq (aa 0) (F3 bT (aI (ac (dC (.str "")) ae)) (F3 aq (aa 1) (dC (.int 1))))) (aa 1)) (dC (.str "]")))) (kD cY (dM n)) m F [some (aW toks),some (.int (at_:Nat)),some (.int (room:Nat)),s3,some (.lst acc),i5] M
 | 0,acc,at_,i5,h,_,_,_,_=>absurd h (f9 _)
 | m+1,acc,at_,i5,hm,ha,hl,hnx,hrt=>by
  have t1:=Tb.of (Ex1.neS (ρ:=[some (aW toks),some (.int (at_:Nat)),some (.int (room:Nat)),s3,some (.lst acc),i5]) (M:=M) (oa hs ha rfl rfl) (.cst (d:=.str "]")) (hs.nx (by decide) at_).1 gV.2.1);rw[bH,kZ] at t1;refine t1 _ _ ?_
  by_cases e93:nxt toks at_=[93]
  ·rw[decide_eq_true e93];simp only[dw,bd,if_false];obtain⟨d1,d2⟩:=iu (by simp) e93;exact hnx at_ acc _ (by rw[d1,d0,if_pos rfl]) d2
  ·rw[decide_eq_false e93];simp only[dX,if_true];generalize hF:({ F with nx:=cI (am (F3 neT (F3 L4 (F3 aq (aa 0) (F3 bT (aI (ac (dC (.str "")) ae)) (F3 aq (aa 1) (dC (.int 1))))) (aa 1)) (dC (.str "]")))) (kD cY (dM n)) m F,ct:=cI (am (F3 neT (F3 L4 (F3 aq (aa 0) (F3 bT (aI (ac (dC (.str "")) ae)) (F3 aq (aa 1) (dC (.int 1))))) (aa 1)) (dC (.str "]")))) (kD cY (dM n)) m F,bk:=F.nx }:Fin)=F';have fnx:F'.nx=cI (am (F3 neT (F3 L4 (F3 aq (aa 0) (F3 bT (aI (ac (dC (.str "")) ae)) (F3 aq (aa 1) (dC (.int 1))))) (aa 1)) (dC (.str "]")))) (kD cY (dM n)) m F:=by rw[<- hF]
   have frt:F'.rt=F.rt:=by rw[<- hF]
   have key:∀ a1,a1=at_∨a1=at_+1->a1<=toks.length->PR (room - 1) (some acc) (toks.drop at_)=(PR (room - 1) none (toks.drop a1)).bind (λz=>PR (room - 1) (some (acc++[z.1])) z.2) ->
     (aj (o8 cY (dM n)) (aj (lE cY (dM n)) (aj (ud cY (dM n)) (ue cY (dM n))))).f F' [some (aW toks),some (.int (a1:Nat)),some (.int (room:Nat)),s3,some (.lst acc),i5] M:=by
    intro a1 h1 h2 hb;refine Hs hs h2 hn hr ?_;refine aA ?_;simp only[ud];refine Tb.if_ (.of (.op (.v (i:=5) rfl) .cst nM)) (λz=>?_) (λz=>bU ?_)
    ·refine Ex1.ret (d:=.non) .cst ?_;show F'.rt .non M;rw[frt];refine hrt ?_;rw[hb];unfold cW at z;cases hp:PR (room - 1) none (toks.drop a1) with
     | none=>rfl
     | some y=>rw[hp] at z;cases z
    ·unfold cW at z ⊢;cases hp:PR (room - 1) none (toks.drop a1) with
     | none=>rw[hp] at z;cases z
     | some y =>
      obtain⟨v,r⟩:=y;obtain⟨p1,p2⟩:=CZ hp h2;dsimp only at p1 p2;dsimp only;simp only[ue,eN,ac,ae];have ev:Ex1 (F3 aq (aa 4) (aI (ac (F3 L4 (aa 5) (dC (.int 0))) ae))) [some (aW toks),some (.int (a1:Nat)),some (.int (room:Nat)),s3,some (.lst acc),some (.tup [v,.int ((toks.length - r.length:Nat):Int)])] M (.lst (acc++[v])):=by refine .op (.v (i:=4) rfl) (.lst (.cons (.op (.v (i:=5) rfl) .cst rfl) .nil) (by show 1<=big;decide)) ?_;simp only[aq,bj];rw[if_pos (by rw[cA];unfold big;omega)]
      refine ev _ _ ?_;refine(Ex1.op (f:=L4) (z:=.int ((toks.length - r.length:Nat):Int)) (.v (i:=5) rfl) .cst rfl) _ _ ?_;refine aJ (z:=[some (aW toks),some (.int ((toks.length - r.length:Nat):Int)),some (.int (room:Nat)),s3,some (.lst (acc++[v])),some (.tup [v,.int ((toks.length - r.length:Nat):Int)])]) rfl ?_;rw[fnx];have e2:PR (room - 1) (some acc) (toks.drop at_)=PR (room - 1) (some (acc++[v])) (toks.drop (toks.length - r.length)):=by rw[hb,hp,bD,<- p1]
      exact yl hs hr hn m (acc++[v]) _ _ (by omega) (by omega) (by rw[bt,cA];omega) (λs xs i5' z=>hnx s xs i5' (e2.trans z)) (λz=>hrt (e2.trans z))
   simp only[kD];refine aA ?_;simp only[Ae];refine Tb.if_ (x:=!acc.isEmpty) (.of (.op (.v (i:=4) rfl) (.lst .nil (by decide)) sV)) (λz=>?_) (λz=>bU ?_)
   ·simp only[Af];refine aA ?_;simp only[Ag];have t2:=Tb.of (Ex1.neS (ρ:=[some (aW toks),some (.int (at_:Nat)),some (.int (room:Nat)),s3,some (.lst acc),i5]) (M:=M) (oa hs ha rfl rfl) (.cst (d:=.str ",")) (hs.nx (by decide) at_).1 gV.2.2);rw[bH,rL] at t2;refine Tb.if_ t2 (λz2=>?_) (λz2=>bU ?_)
    ·refine Ex1.ret (d:=.non) .cst ?_;show F'.rt .non M;rw[frt];refine hrt ?_;have e44:nxt toks at_≠[44]:=by simpa using z2
     cases hd:toks.drop at_ with
     | nil=>exact dP _ _
     | cons w r =>
      obtain⟨e1,_,_,_⟩:=jf hd;rw[d0,if_neg (by rw[<- e1];exact e93),if_neg (by simpa using z),if_neg (by rw[<- e1];exact e44)]
    ·have e44:nxt toks at_=[44]:=by simpa using z2
     obtain⟨d1,d2⟩:=iu (by simp) e44;dsimp only;refine Ex1.asg (d:=.int ((at_+1:Nat):Int)) (.op (f:=aq) (d:=.int (at_:Nat)) (e:=.int 1) (.v (i:=1) rfl) .cst (by simp only[aq];congr 2)) ?_;refine key (at_+1) (.inr rfl) (by omega) ?_;rw[d1,d0,if_neg (by decide),if_neg (by simpa using z),if_pos rfl]
   ·refine key at_ (.inl rfl) ha ?_;cases hd:toks.drop at_ with
    | nil=>rw[dP,dP];rfl
    | cons w r =>
     obtain⟨e1,_,_,_⟩:=jf hd;rw[d0,if_neg (by rw[<- e1];exact e93),if_pos (by simpa using z)]
theorem Gm{n:Nat}:Go 3 qS (o7 cY (dM n)) (dM (n+1)):=λds M Q E hl h=>by
 obtain⟨toks,at_,room,rfl,hs,ha,hn,hr,q⟩:=h;have q':(ap M.length Q E).rt (cW room toks at_) M:=.inl q;show (o7 cY (dM n)).f (ap M.length Q E) [some (aW toks),some (.int (at_:Nat)),some (.int (room:Nat)),none,none,none] M;generalize ap M.length Q E=F at q' ⊢;simp only[o7];refine aA ?_;simp only[z7];have hnx:=hs.nx (by decide) at_;refine Ex1.asg (oa hs ha rfl rfl) ?_;simp only[bC,bE];refine aA ?_;simp only[z8];have t1:=Tb.of (Ex1.neS (ρ:=[some (aW toks),some (.int (at_:Nat)),some (.int (room:Nat)),some (.str (sOf (nxt toks at_))),none,none]) (M:=M) (.v (i:=3) rfl) (.cst (d:=.str "[")) hnx.1 gV.1);rw[bH,jW] at t1;refine Tb.if_ t1 (λz=>?_) (λz=>bU ?_)
 ·have e91:nxt toks at_≠[91]:=by simpa using z
  simp only[z9];refine aA ?_;simp only[Aa];refine Ex1.asg (d:=oL (aQ (nxt toks at_))) (.fn (.cons (.v (i:=3) rfl) .nil) rfl λQ E q=>⟨_,rfl,hnx.1,by rw[js];exact hnx.2,by rw[bH];exact q⟩) ?_;simp only[bC,bE,Ab];have hf:cW room toks at_=match aQ (nxt toks at_) with|some a=>.tup [a,.int ((at_+1:Nat):Int)]|none=>.non:=by
   unfold cW;cases hd:toks.drop at_ with
   | nil =>
    rw[dP,lp (List.drop_eq_nil_iff.mp hd)];rfl
   | cons w r =>
    obtain⟨e1,e2,e3,e4⟩:=jf hd;rw[eT,if_neg (by rw[<- e1];exact e91),<- e1];cases aQ (nxt toks at_) with
    | none=>rfl
    | some a=>simp only[bF];congr 4;omega
  rw[hf] at q';cases hat:aQ (nxt toks at_) with
  | none =>
   rw[hat] at q';refine Ex1.ret (d:=.non) (.ite (x:=false) (.of (.op (.v (i:=4) rfl) (.lst .nil (by decide)) sV)) (λz=>by cases z) (λ_=>.cst)) q'
  | some a =>
   rw[hat] at q';refine Ex1.ret (d:=.tup [a,.int ((at_+1:Nat):Int)]) (.ite (x:=true) (.of (.op (.v (i:=4) rfl) (.lst .nil (by decide)) sV)) (λ_=>.tup (.cons (.op (.v (i:=4) rfl) .cst rfl) (.cons (.op (.v (i:=1) rfl) .cst (by simp only[aq];congr 2)) .nil)) (by show 2<=big;decide)) (λz=>by cases z)) q'
 ·have e91:nxt toks at_=[91]:=by simpa using z
  obtain⟨d1,d2⟩:=iu (by simp) e91;have hr1:1<=room:=by
   by_cases h0:room=0
   ·exact absurd e91 (hr h0)
   ·omega
  have ef:PR room none (toks.drop at_)=PR (room - 1) (some []) (toks.drop (at_+1)):=by rw[d1,eT,if_pos rfl,if_neg (by omega)]
  dsimp only;refine aA ?_;simp only[Ac,eN,ac,ae,aI];refine⟨eS _,?_⟩;refine(Ex1.op (f:=aq) (z:=.int ((at_+1:Nat):Int)) (.v (i:=1) rfl) .cst (by simp only[aq];congr 2)) _ _ ?_;refine aJ (z:=[some (aW toks),some (.int ((at_+1:Nat):Int)),some (.int (room:Nat)),some (.str (sOf (nxt toks at_))),some (.lst []),none]) rfl ?_;refine aA ?_;simp only[Ad,lM];refine⟨toks.length - (at_+1)+1,yl hs hr1 hn _ [] (at_+1) none (Nat.lt_succ_self _) (by omega) (by have:=hs.len;simp only[aN];omega) (λs xs i5' e hs1=>?_) (λe=>?_)⟩
  ·simp only[Ah];refine Ex1.ret (d:=.tup [.lst xs,.int ((s+1:Nat):Int)]) (.tup (.cons (.v (i:=4) rfl) (.cons (.op (.v (i:=1) rfl) .cst (by simp only[aq];congr 2)) .nil)) (by show 2<=big;decide)) ?_;have:cW room toks at_=.tup [.lst xs,.int ((s+1:Nat):Int)]:=by
    unfold cW;rw[ef,e];simp only[dY]
    congr 4
    omega
   rw[this] at q';exact q'
  ·have:cW room toks at_=.non:=by
    unfold cW;rw[ef,e]
   rw[this] at q';exact q'
def iQ(cl:List Nat):Sf:=⟨λds M Q _=>∃ d,ds=[d]/\bu d=true/\cF cl d=true/\(∀ x,d=.str x->PyData.strOk x=true/\x.length<=50000)/\Q (oL (rdV d)) M,λh _ ⟨d,a,b,c,e,q⟩=>⟨d,a,b,c,e,h _ _ q⟩⟩
theorem Gp(cl:List Nat):Go 1 qU (pd cl pU (dM 61)) (iQ cl):=λds M Q E hl h=>by
 obtain⟨d,rfl,ha,hc,hd,q⟩:=h;have q':(ap M.length Q E).rt (oL (rdV d)) M:=.inl q;show (pd cl pU (dM 61)).f (ap M.length Q E) [some d,none,none] M;generalize ap M.length Q E=F at q' ⊢;simp only[pd];refine aA ?_;simp only[Ai,GT,cH];refine vd (i:=0) rfl ha (rN hc) ?_
 by_cases hs:∃ x,d=.str x
 case neg =>
  have e:([TyG.b "str"].any (isa (tyA d)))=false:=by
   cases d <;> first|(exact absurd ⟨_,rfl⟩ hs)|(simp [tyA,isa];done)|simp [bu] at ha
  rw[e];simp only[dX,if_true];have e2:rdV d=none:=by cases d <;> first|rfl|exact absurd ⟨_,rfl⟩ hs
  rw[e2] at q';exact Ex1.ret (d:=.lst []) (.lst .nil (by decide)) q'
 obtain⟨x,rfl⟩:=hs;obtain⟨hx,hxl⟩:=hd x rfl;have hsg:=JV hx hxl;have e:([TyG.b "str"].any (isa (tyA (.str x))))=true:=by simp [tyA,isa]
 rw[e];simp only[dw,bd,if_false];refine bU ?_;dsimp only;refine aA ?_;refine Ex1.asg (d:=aW (sgL x)) (.fn (.cons (.v (i:=0) rfl) .nil) rfl λQ E q=>⟨x,rfl,hx,hxl,q⟩) ?_;simp only[bC,bE];refine aA ?_;simp only[Aj];refine Ex1.asg (d:=cW 60 (sgL x) 0) (.fn (.cons (.v (i:=1) rfl) (.cons (.cst (d:=.int 0)) (.cons (.cst (d:=.int 60)) .nil))) rfl λQ E q=>⟨sgL x,0,60,rfl,hsg,eS _,by decide,λz=>(by cases z),q⟩) ?_;simp only[bC,bE,Ak];have er:rdV (.str x)=rdL x:=AR x;rw[er] at q';have hlen:bx M [aW (sgL x)]=some (.int ((sgL x).length:Nat),M):=yi (by have:=hsg.len;omega);have notN:∀ d:Tr,kn M d .non=some (.bl (!isNone d)):=λd=>by simp only[kn]
 have hle:=hsg.len;cases hp:PR 60 none (sgL x) with
 | none =>
  have h1:cW 60 (sgL x) 0=.non:=by unfold cW;rw[iY,hp]
  have h2:rdL x=none:=by unfold rdL;rw[hp]
  rw[h1];rw[h2] at q';exact Ex1.ret (d:=.lst []) (.ite (x:=false) (.and (x:=false) (y:=false) (.of (.op (.v (i:=2) rfl) .cst (notN _))) (λz=>by cases z)) (λz=>by cases z) (λ_=>.lst .nil (by decide))) q'
 | some y =>
  obtain⟨v,r⟩:=y;have h1:cW 60 (sgL x) 0=.tup [v,.int (((sgL x).length - r.length:Nat):Int)]:=by unfold cW;rw[iY,hp]
  have hsh:=gJ hp;dsimp only at hsh;have t:Tb (dQ (am (F3 kn (aa 2) (dC .non))) (am (F3 eqT (F3 L4 (aa 2) (dC (.int 1))) (aB bx (ac (aa 1) ae))))) [some (.str x),some (aW (sgL x)),some (.tup [v,.int (((sgL x).length - r.length:Nat):Int)])] M (true&&decide (r=[])) :=
   .and (.of (.op (.v (i:=2) rfl) .cst (notN _))) λ_=>.of (.op (.op (.v (i:=2) rfl) .cst rfl) (.call (.cons (.v (i:=1) rfl) .nil) hlen) (by
    rw[fJ]
    congr 2
    refine decide_eq_decide.mpr ⟨λz=>gE.mp (by omega),λz=>by rw[z,aN];omega⟩))
  rw[h1];have h2:rdL x=if r=[] then some v else none:=by
   unfold rdL;rw[hp];cases r with
   | nil=>rfl
   | cons w r=>rfl
  rw[h2] at q'
  by_cases hr:r=[]
  ·rw[if_pos hr] at q';exact Ex1.ret (d:=.lst [v]) (.ite t (λ_=>.lst (.cons (.op (.v (i:=2) rfl) .cst rfl) .nil) (by show 1<=big;decide)) (λz=>by rw[decide_eq_true hr] at z;cases z)) q'
  ·rw[if_neg hr] at q';exact Ex1.ret (d:=.lst []) (.ite t (λz=>by rw[decide_eq_false hr] at z;cases z) (λ_=>.lst .nil (by decide))) q'
theorem tq{a:Tr}(h:IR a=true)(hA:a7 a=true):aK a=true:=by
 cases a with
 | non=>rfl
 | int i=>simpa [IR,aK,aS,aX] using h
 | str i=>simpa [IR,aK,aS,aX] using h
 | lst xs=>simp [a7] at hA
 | _=>simp [IR] at h
theorem rK{a:Tr}(h:IR a=true)(hA:a7 a=true):chL (jT a)=txt a:=by
 cases a with
 | non=>show chL ("None":Str)=_;rw[a8,txt];rfl
 | int i=>rw[txt];rfl
 | str w =>
  show chL (Str.empty++"'"++w++"'")=_;rw[cE,cE,cE,kY,txt];rfl
 | lst xs=>simp [a7] at hA
 | _=>simp [IR] at h
theorem vX:∀ (t:Str) (ts:List Str),chL (Str.join ", " (t::ts))=chL t++ts.flatMap λu=>44::32::chL u
 | t,[]=>by simp [Str.join]
 | t,u::ts=>by
  have e:Str.join ", " (t::u::ts)=t++", "++Str.join ", " (u::ts):=rfl;have c:chL (", ":Str)=[44,32]:=by rw[a8];rfl
  rw[e,cE,cE,vX u ts,c,aan,cb];rfl
mutual
theorem ja:∀ d:Tr,IR d=true->chL (aG d)=txt d
 | .lst xs,h=>by
  have hl:=vZ xs (dH h).2;simp only[aG];rw[cE,cE,jo,jW,kZ];cases xs with
  | nil =>
   rw[txt];simp only[cz];rfl
  | cons x r =>
   simp only[cz] at hl ⊢;simp only[aO,List.cons.injEq] at hl;rw[vX,hl.1,txt,kO,sB hl.2];simp
 | .non,h=>by simp only[aG];exact rK h rfl
 | .int i,h=>by simp only[aG];exact rK h rfl
 | .str i,h=>by simp only[aG];exact rK h rfl
 | .bl _,h=>by simp [IR] at h
 | .tup _,h=>by simp [IR] at h
 | .dct _ _,h=>by simp [IR] at h
 | .ins _ _,h=>by simp [IR] at h
 | .exc _ _,h=>by simp [IR] at h
 | .cell _,h=>by simp [IR] at h
 | .scr _,h=>by simp [IR] at h
 | .dkf _ _,h=>by simp [IR] at h
theorem vZ:∀ ds:List Tr,bg ds=true->(cz ds).map chL=ds.map txt
 | [],_=>by simp [cz]
 | d::ds,h=>by
  simp only[bg,ax] at h;simp only[cz,aO,ja d h.1,vZ ds h.2]
end
def dl(r:List Nat):Prop:=r=[]∨∃ c t,r=c::t/\(c=32∨brk c=true)
theorem KF{a:Wrd}(ha:a≠[]){r:List Nat}(h:dl r):aF a r=a::aF [] r:=by
 have f0:flu ([]:Wrd)=[]:=rfl;have fa:flu a=[a]:=by unfold flu;rw[if_neg ha]
 rcases h with rfl|⟨c,t,rfl,h⟩
 ·simp only[aF,f0,fa]
 ·simp only[aF,f0,fa]
  by_cases h32:c=32
  ·rw[if_pos h32,if_pos h32];rfl
  ·rw[if_neg h32,if_neg h32,if_pos (h.resolve_left h32),if_pos (h.resolve_left h32)];rfl
theorem kP{c:Nat}(h:brk c=true)(r:List Nat):aF [] (c::r)=[c]::aF [] r:=by
 have h32:c≠32:=by rintro rfl;simp [brk] at h
 simp only[aF,if_neg h32,if_pos h];rfl
theorem Ck(r:List Nat):aF [] (32::r)=aF [] r:=by simp only[aF,if_pos];rfl
theorem w8(ds:List Tr)(r:List Nat):dl (tl ds 93++r):=by
 cases ds with
 | nil=>rw[tl];exact .inr ⟨93,r,rfl,.inr (by decide)⟩
 | cons d ds=>rw[hU];exact .inr ⟨44,_,rfl,.inr (by decide)⟩
theorem uV{a:Tr}(h:aK a=true){r:List Nat}(hr:dl r):aF [] (txt a++r)=tks a++aF [] r:=by obtain⟨h1,h2⟩:=C8 h;rw[Cj _ _ _ h1,bR,KF h2 hr,Cc h];rfl
mutual
theorem uW:∀(v:Tr),IR v=true->∀ r,dl r->aF [] (txt v++r)=tks v++aF [] r
 | .lst [],h,r,hr=>by
  rw[txt,tks,tkF];show aF [] (91::93::r)=_;rw[kP (by decide),kP (by decide)];rfl
 | .lst (x::ds),h,r,hr=>by
  have h2:=(dH h).2;simp only[bg,ax] at h2;rw[txt,tks,tkF,aY,kP (by decide),cb,uW x h2.1 _ (w8 ds r),Cm ds h2.2 r hr];simp
 | .non,h,r,hr=>uV rfl hr
 | .int i,h,r,hr=>uV (tq h rfl) hr
 | .str i,h,r,hr=>uV (tq h rfl) hr
 | .bl _,h,r,hr=>by simp [IR] at h
 | .tup _,h,r,hr=>by simp [IR] at h
 | .dct _ _,h,r,hr=>by simp [IR] at h
 | .ins _ _,h,r,hr=>by simp [IR] at h
 | .exc _ _,h,r,hr=>by simp [IR] at h
 | .cell _,h,r,hr=>by simp [IR] at h
 | .scr _,h,r,hr=>by simp [IR] at h
 | .dkf _ _,h,r,hr=>by simp [IR] at h
theorem Cm:∀(ds:List Tr),bg ds=true->∀ r,dl r->aF [] (tl ds 93++r)=tkT ds++aF [] r
 | [],_,r,hr=>by
  rw[tl,tkT];show aF [] (93::r)=_;rw[kP (by decide)];rfl
 | x::ds,h,r,hr=>by
  simp only[bg,ax] at h;rw[hU,tkT,aY,aY,kP (by decide),Ck,cb,uW x h.1 _ (w8 ds r),Cm ds h.2 r hr];simp
end
theorem AO{x:Str}{v:Tr}(hv:IR v=true)(hd:a9 v<=60)(hx:aF [] (chL x)=aF [] (txt v)):rdP x=some v:=by rw[AR];have e:=uW v hv [] (.inl rfl);rw[bq] at e;have e0:aF [] []=([]:List Wrd):=rfl;rw[e0,bq] at e;have p:=ro v 60 [] (qa v 60 hv hd);rw[bq] at p;unfold rdL sgL;rw[hx,e,p]
theorem AS{v:Tr}(hv:IR v=true)(hd:a9 v<=60):rdP (aG v)=some v:=AO hv hd (by rw[ja v hv])
theorem p7(n:Nat)(r:List Nat):aF [] (bW n 32++r)=aF [] r:=by
 induction n with
 | zero=>rfl
 | succ n ih=>rw[i4,aY,Ck,ih]
theorem Cg{c:Nat}(hc:brk c=true)(i j:Nat)(m:List Nat):∀(l:List Nat)(now:Wrd),aF now (l++(bW i 32++(c::(bW j 32++m))))=aF now (l++c::m)
 | [],now=>by
  have h32:c≠32:=by rintro rfl;simp [brk] at hc
  have e:∀ X,aF now (c::X)=flu now++[c]::aF [] X:=λX=>by simp only[aF,if_neg h32,if_pos hc]
  rw[bR,bR,e];cases i with
  | zero=>rw[List.replicate_zero,bR,e,p7]
  | succ i =>
   rw[i4,aY];have e2:∀ X,aF now (32::X)=flu now++aF [] X:=λX=>by simp only[aF,if_pos]
   rw[e2,p7,kP hc,p7]
 | d::l,now=>by
  rw[aY,aY];simp only[aF,Cg hc i j m l]
theorem Cb{a b:Tr}(ha:IR a=true)(hb:IR b=true):aG a=aG b↔a=b:=by refine⟨λh=>?_,λh=>by rw[h]⟩;have h2:=congrArg chL h;rw[ja a ha,ja b hb] at h2;have:=iW a b [] [] (p9 a ha).1 (p9 b hb).1 (.inl rfl) (.inl rfl) (by rw[h2]);exact this.1
theorem JP{v:Tr}:bZ .non v=true↔v=.non:=by cases v <;> simp [bZ]
theorem JO{i:Int}{v:Tr}:bZ (.int i) v=true↔v=.int i:=by cases v <;> simp [bZ];exact eq_comm
theorem JQ{i:Str}{v:Tr}:bZ (.str i) v=true↔v=.str i:=by cases v <;> simp [bZ];exact eq_comm
mutual
theorem ut:∀{a b:Tr},IR a=true->IR b=true->(bZ a b=true↔a=b)
 | .non,b,_,_=>by rw[JP];exact⟨λh=>h.symm,λh=>h.symm⟩
 | .int i,b,_,_=>by rw[JO];exact⟨λh=>h.symm,λh=>h.symm⟩
 | .str w,b,_,_=>by rw[JQ];exact⟨λh=>h.symm,λh=>h.symm⟩
 | .lst xs,b,ha,hb=>by
  cases b with
  | lst ys =>
   simp only[bZ,Tr.lst.injEq];exact A3 (dH ha).2 (dH hb).2
  | _=>simp [bZ]
 | .bl _,b,ha,_=>by simp [IR] at ha
 | .tup _,b,ha,_=>by simp [IR] at ha
 | .dct _ _,b,ha,_=>by simp [IR] at ha
 | .dkf _ _,b,ha,_=>by simp [IR] at ha
 | .ins _ _,b,ha,_=>by simp [IR] at ha
 | .exc _ _,b,ha,_=>by simp [IR] at ha
 | .cell _,b,ha,_=>by simp [IR] at ha
 | .scr _,b,ha,_=>by simp [IR] at ha
theorem A3:∀{a b:List Tr},bg a=true->bg b=true->(fR a b=true↔a=b)
 | [],[],_,_=>by simp [fR]
 | [],_::_,_,_=>by simp [fR]
 | _::_,[],_,_=>by simp [fR]
 | x::xs,y::ys,ha,hb=>by
  simp only[bg,ax] at ha hb;simp only[fR,ax,List.cons.injEq];rw[ut ha.1 hb.1,A3 ha.2 hb.2]
end
def jE:Sf:=sp1 (λd=>IR d=true/\a7 d=true) λd=>.str (jT d)
theorem F9(cl:List Nat):Go 1 qG (oM cl) jE:=λds M Q E hl h=>by
 obtain⟨d,rfl,⟨hd,hA⟩,q⟩:=h;show (oM cl).f (ap M.length Q E) [some d] M;obtain⟨g,eg,hg⟩:=mE (M:=M) (cl:=cl) hd;simp only[oM,ao,dIf,bp,bY,aa,aE,eg,au];refine⟨hg,?_⟩;rw[nO hd eg];cases d with
 | str w =>
  have hw:w.length<=8:=by have:=hd;simp only[IR,bK,ax,decide_eq_true_eq] at this;exact this.1.2
  have e:decide (dn (.str w)="word")=true:=(by decide:decide (("word":Str)="word")=true)
  simp only[e,cQ,au,if_true,rW,dJs,dC,rT,aa,aE,sD,if_pos (show w.length<=big by unfold big;omega)];have l1:(Str.empty++"'":Str).length=1:=by decide
  have la:∀ a b:Str,(a++b).length=a.length+b.length:=λa b=>PySem.Str.length_append a b;refine⟨by rw[l1];decide,by rw[la,l1];unfold big;omega,by rw[la,la,l1];have:("'":Str).length=1:=(by decide);unfold big;omega,.inl q⟩
 | int i =>
  have e:decide (dn (.int i)="word")=false:=(by decide:decide (("int":Str)="word")=false)
  simp only[e,cQ,au,bd,if_false,aB,ac,ae,aa,aE,iT,if_pos (sR hd)];exact .inl q
 | non =>
  have e:decide (dn .non="word")=false:=(by decide:decide (("none":Str)="word")=false)
  simp only[e,cQ,au,bd,if_false,aB,ac,ae,aa,aE,iT];exact .inl q
 | lst xs=>simp [a7] at hA
 | _=>simp [IR] at hd
def fX(n:Nat):Sf:=sp1 (λd=>IR d=true/\a9 d < n/\szV d<=big) λd=>.str (aG d)
theorem GO(cl:List Nat)(n:Nat):Go 1 rg (pJ cl jE (fX n)) (fX (n+1)):=λds M Q E hl h=>by
 obtain⟨d,rfl,⟨hd,hn,hz⟩,q⟩:=h;show (pJ cl jE (fX n)).f (ap M.length Q E) [some d,none] M;simp only[pJ,aj,AM,GT,cH];refine kR rfl hd ?_;have atoms:a7 d=true->(ao (GE jE [] 1 (ac (aa 0) ae))).f (ap M.length Q E) [some d,none] M:=λhA=>by
  simp only[ao,GE,ac,ae,aa,aE,bq,az,aN,true_and];refine⟨d,rfl,⟨hd,hA⟩,.inl ?_⟩;have e:aG d=jT d:=by
   cases d with
   | lst xs=>simp [a7] at hA
   | _=>simp only[aG]
  have q':Q (.str (aG d)) M:=q;rw[e] at q';exact q'
 cases d with
 | lst xs =>
  simp only[a7,dX,dw,bd,if_false,aL];simp only[AN,ao,F3,dC,jc,bv,c7,aa,aE,iw,au];simp only[a9] at hn;simp only[szV] at hz;refine k8 (λd=>.str (aG d)) M _ [] ?_ ?_ ?_
  ·have:=(dH hd).1;rw[aN];unfold big;omega
  ·intro x hx;have hx2:=nj hx;have hx3:=uQ hx;refine⟨_,rfl,λQ' hq=>?_⟩;simp only[GE,ac,ae,aa,dW,bC,bE,bB,aE,bq,az,aN,true_and];exact⟨x,rfl,⟨oo hd hx,by omega,by omega⟩,hq⟩
  ·have e1:(xs.map λd=>Tr.str (aG d))=(cz xs).map Tr.str:=by rw[uS,gG];rfl
   have h1:=nS xs (dH hd).2;have h2:∀ l:List Str,(l.map (·.length)).sum+l.length * 2=(l.map λw=>w.length+2).sum:=λl=>by
    induction l with
    | nil=>rfl
    | cons x r ih=>simp only[aO,List.sum_cons,az];omega
   have h3:=h2 (cz xs);have h4:=sO (cz xs);have eL:((", ":String):Str).length=2:=by decide
   have e5:("[":Str).length=1:=by decide
   have e6:("]":Str).length=1:=by decide
   unfold dS;simp only[bd,if_false,bR,e1,jn,bj,bD,uN];rw[if_pos (by rw[eL];omega)];simp only[aq,jo];rw[if_pos (by omega)];dsimp only;rw[if_pos (by rw[eZ];omega)];refine .inl ?_;have q':Q (.str (aG (.lst xs))) M:=q;simp only[aG,jo] at q';exact q'
 | non=>simp only[a7,dX,dw,if_true];exact atoms rfl
 | int i=>simp only[a7,dX,dw,if_true];exact atoms rfl
 | str i=>simp only[a7,dX,dw,if_true];exact atoms rfl
 | _=>simp [IR] at hd
def gx:Sf:=sp1 (λd=>IR d=true/\a9 d<=60/\szV d<=big) λd=>.str (aG d)
theorem sW{cl:List Nat}{d:Tr}(hd:IR d=true)(hk:a9 d<=60){M:Me}{Q E:TK}(q:Q .non M):(jJ cl).f [d] M Q E:=⟨d,rfl,(mR cl d hd).1,(mR cl d hd).2,by rw[if_pos (qa d 60 hd hk)];exact q⟩
theorem GQ(cl:List Nat):Go 1 rh (pK (jJ cl) (fX 61)) gx:=λds M Q E hl h=>by
 obtain⟨d,rfl,⟨hd,hk,hz⟩,q⟩:=h;show (pK (jJ cl) (fX 61)).f (ap M.length Q E) [some d] M;simp only[pK,aj,cX,ao,GE,ac,ae,aa,aE,bq,az,aN,true_and];exact sW hd hk ⟨d,rfl,⟨hd,by omega,hz⟩,.inl q⟩
def iS:Sf:=sp2 (λa b=>IR a=true/\IR b=true/\a9 a<=60/\a9 b<=60) λa b=>.bl (bZ a b)
theorem GH(cl:List Nat):Go 2 rb (pG (jJ cl) (fB 61)) iS:=λds M Q E hl h=>by
 obtain⟨a,b,rfl,⟨ha,hb,ka,kb⟩,q⟩:=h;show (pG (jJ cl) (fB 61)).f (ap M.length Q E) [some a,some b] M;simp only[pG,aj,cX,AJ,ao,GE,ac,ae,aa,bB,aE,bq,az,aN,true_and];exact sW ha ka (sW hb kb ⟨a,b,rfl,⟨ha,hb,by omega⟩,.inl q⟩)
def fU(n:Nat):Sf:=sp1 (λd=>IR d=true/\a9 d < n/\szV d<=big) λd=>.str (aG d)
theorem Gu(cl:List Nat)(n:Nat):Go 1 qZ (pB cl (fU n)) (fU (n+1)):=λds M Q E hl h=>by
 obtain⟨d,rfl,⟨hd,hn,hz⟩,q⟩:=h;show (pB cl (fU n)).f (ap M.length Q E) [some d,none] M;simp only[pB,aj,AA,GT];refine kR rfl hd ?_;have e5:("[":Str).length=1:=by decide
 have e6:("]":Str).length=1:=by decide
 cases hA:a7 d with
 | false =>
  cases d <;> simp only[a7] at hA <;> first|(cases hA;done)|skip
  rename_i xs;simp only[dX,if_true];simp only[ao,F3,dC,jc,bv,c7,aa,aE,iw,au];simp only[a9] at hn;simp only[szV] at hz;refine k8 (λd=>.str (aG d)) M _ [] ?_ ?_ ?_
  ·have:=(dH hd).1;rw[aN];unfold big;omega
  ·intro x hx;have hx2:=nj hx;have hx3:=uQ hx;refine⟨_,rfl,λQ' hq=>?_⟩;simp only[GE,ac,ae,aa,dW,bC,bE,bB,aE,bq,az,aN,true_and];exact⟨x,rfl,⟨oo hd hx,by omega,by omega⟩,hq⟩
  ·have e1:(xs.map λd=>Tr.str (aG d))=(cz xs).map Tr.str:=by rw[uS,gG];rfl
   have h1:=nS xs (dH hd).2;have h2:∀ l:List Str,(l.map (·.length)).sum+l.length * 2=(l.map λw=>w.length+2).sum:=λl=>by
    induction l with
    | nil=>rfl
    | cons x r ih=>simp only[aO,List.sum_cons,az];omega
   have h3:=h2 (cz xs);have h4:=sO (cz xs);have eL:((", ":String):Str).length=2:=by decide
   unfold dS;simp only[bd,if_false,bR,e1,jn,bj,bD,uN];rw[if_pos (by rw[eL];omega)];simp only[aq,jo];rw[if_pos (by omega)];dsimp only;rw[if_pos (by rw[eZ];omega)];refine .inl ?_;have q':Q (.str (aG (.lst xs))) M:=q;simp only[aG,jo] at q';exact q'
 | true =>
  simp only[dw,bd,if_false,aL];have e:aG d=jT d:=by
   cases d with
   | lst xs=>simp [a7] at hA
   | _=>simp only[aG]
  have q':Q (.str (aG d)) M:=q;rw[e] at q';obtain⟨g,eg,hg⟩:=mE (M:=M) (cl:=cl) hd;simp only[AB,ao,dIf,bp,bY,aa,aE,eg,au];refine⟨hg,?_⟩;rw[nO hd eg];cases d with
  | str w =>
   have hw:=sP (w:=w) (by simpa only [IR] using hd);have e:decide (dn (.str w)="word")=true:=(by decide:decide (("word":Str)="word")=true)
   have l1:("'":Str).length=1:=by decide
   simp only[e,cQ,au,if_true,F3,dC,aa,aE,aq];rw[if_pos (by rw[l1];unfold big;omega)];dsimp only;rw[if_pos (by rw[eZ,l1];unfold big;omega)];exact .inl q'
  | int i =>
   have e:decide (dn (.int i)="word")=false:=(by decide:decide (("int":Str)="word")=false)
   simp only[e,cQ,au,bd,if_false,aB,ac,ae,aa,aE,iT,if_pos (sR hd)];exact .inl q'
  | non =>
   have e:decide (dn .non="word")=false:=(by decide:decide (("none":Str)="word")=false)
   simp only[e,cQ,au,bd,if_false,aB,ac,ae,aa,aE,iT];exact .inl q'
  | lst xs=>simp [a7] at hA
  | _=>simp [IR] at hd
theorem G2 {M:Me} {c:Nat}:inT M (.str ⟨#[c]⟩) (.str "[],")=some (.bl (brk c)):=by
 have e:inT M (.str ⟨#[c]⟩) (.str "[],")=some (.bl (decide (c∈("[],":Str).cps.toList))):=rfl;rw[e]
 congr 2
 have s:("[],":Str).cps.toList=[91,93,44]:=by show chL _=_;rw[a8];rfl
 rw[s];simp only[brk]
 by_cases h:c=91∨c=93∨c=44
 ·rcases h with rfl|rfl|rfl <;> decide
 ·simp only[not_or] at h;obtain⟨h2,h3,h4⟩:=h;simp [h2,h3,h4]
theorem mQ{M:Me}{a b:List Nat}(h:a.length+b.length<=big):aq M (.str (sOf a)) (.str (sOf b))=some (.str (sOf (a++b))):=by
 simp only[aq];rw[if_pos (by rw[js,js];exact h)]
 congr 2
 exact jV (by rw[cE,bH,bH,bH])
theorem kf{M:Me}{x:Str}{c:Nat}{r:Int}(hx:chL x=[c])(h0:0<=r)(h1:r<=100000):dR M (.str x) (.int r)=some (.str (sOf (bW r.toNat c))):=by
 simp only[dR];have hl:x.length=1:=by rw[<- aU,hx];rfl
 rw[if_pos ⟨h0,by omega,by rw[hl];unfold big;omega⟩]
 congr 2
 refine jV ?_;rw[bH];show (bW r.toNat (chL x)).flatten=_;rw[hx];generalize r.toNat=n
 induction n with
 | zero=>rfl
 | succ n ih=>rw[i4,i4,aaj,ih];rfl
theorem kS{ρ:En}{M:Me}{Q E:TK}{i g t:Nat}{n:Int}{e:Rd Tr}(hi:ρ[i]?=some (some (.cell (g+1))))(he:Ex1 e ρ M (.int n))(hd:Dr g t M)(ht:t < 2 ^ 40)(h0:0 < n)(h1:n < 1073741824)
  (q:∀ r M',0<=r->r < n->bN g (t+1) M M'->Q (.int r) M'):(GE cZ [] 2 (ac (aa i) (ac e ae))).f ρ M Q E:=by
 simp only[GE];exact(ExL.cons (.v hi) (.cons he .nil)) _ _ ⟨rfl,g,t,n,rfl,hd,ht,h0,h1,q⟩
theorem K2{ρ:En}{M:Me}{Q E:TK}{i g t:Nat}{s:Tr}{xs:List Tr}{e:Rd Tr}(hi:ρ[i]?=some (some (.cell (g+1))))(he:Ex1 e ρ M s)(hs:eK s=some xs)(h0:0 < xs.length)(h1:xs.length < 1073741824)(hd:Dr g t M)(ht:t < 2 ^ 40)
  (q:∀ x∈xs,∀ M',bN g (t+1) M M'->Q x M'):(GE fW [] 2 (ac (aa i) (ac e ae))).f ρ M Q E:=by
 simp only[GE];exact(ExL.cons (.v hi) (.cons he .nil)) _ _ ⟨rfl,g,t,s,xs,rfl,hs,h0,h1,hd,ht,q⟩
def okL(l:List Nat):Prop:=∀ c∈l,c < 0x110000
theorem ol{a b:List Nat}(ha:okL a)(hb:okL b):okL (a++b):=λc hc=>(bf.mp hc).elim (ha c) (hb c)
theorem om{n c:Nat}(h:c < 0x110000):okL (bW n c):=λd hd=>by rw[(List.mem_replicate.mp hd).2];exact h
theorem yM{l:List Nat}(h:okL l):PyData.strOk (sOf l)=true:=ff.mpr h
abbrev BR:Sr:=(GT (am (F3 inT (aa 3) (dC (.str "[],")))) (aC (.nm 2) (F3 aq (F3 aq (F3 aq (aa 2) (F3 dR (dC (.str " ")) (GE cZ [] 2 (ac (aa 0) (ac (dC (.int 2)) ae))))) (aa 3)) (F3 dR (dC (.str " ")) (GE cZ [] 2 (ac (aa 0) (ac (dC (.int 3)) ae)))))) (aC (.nm 2) (F3 aq (aa 2) (aa 3))))
theorem BV{x:Str}{F:Fin}{g:Nat}:∀(l p f:List Nat)(t:Nat)(M:Me)(ρ3:Option Tr),okL l->okL f->f.length<=4 * p.length+1->p.length+l.length<=100000->(∀ m,aF [] (f++m)=aF [] (p++m))->Dr g t M->t+2 * l.length < 2 ^ 40 ->
  (∀ f' M' ρ3',okL f'->f'.length<=4 * (p++l).length+1->(∀ m,aF [] (f'++m)=aF [] ((p++l)++m))->bN g (t+2 * l.length) M M'->F.nx [some (.cell (g+1)),some (.str x),some (.str (sOf f')),ρ3'] M') ->
  ck (.nm 3) BR (l.map λc=>Tr.str ⟨#[c]⟩) F [some (.cell (g+1)),some (.str x),some (.str (sOf f)),ρ3] M
 | [],p,f,t,M,ρ3,_,hf,h1,_,h2,hd,_,hn=>by
  simp only[h9,ck];rw[bq] at hn;exact hn f M ρ3 hf h1 h2 (.refl hd)
 | c::l,p,f,t,M,ρ3,hl,hf,h1,hpl,h2,hd,ht,hn=>by
  simp only[aO,ck];refine aJ (z:=[some (.cell (g+1)),some (.str x),some (.str (sOf f)),some (.str ⟨#[c]⟩)]) rfl ?_;have hc:=hl c (a6 ..);have hl':okL l:=λd hd=>hl d (aZ _ hd);simp only[az] at ht hpl;have hpc:(p++[c])++l=p++c::l:=by rw[cb];rfl
  have next:∀ f' M1 t1,okL f'->f'.length<=f.length+4->(∀ m,aF [] (f'++m)=aF [] ((p++[c])++m))->bN g t1 M M1->t1<=t+2->ck (.nm 3) BR (l.map λc=>Tr.str ⟨#[c]⟩) F [some (.cell (g+1)),some (.str x),some (.str (sOf f')),some (.str ⟨#[c]⟩)] M1:=λf' M1 t1 k1 k2 k3 k4 k5=>by
   refine BV l (p++[c]) f' (t+2) M1 _ hl' k1 (by rw[bt,cA];omega) (by rw[bt,cA];omega) k3 (k4.dr.mono k5) (by omega) λf'' M' ρ3' j1 j2 j3 j4=>?_;rw[hpc] at j2 j3;exact hn f'' M' ρ3' j1 j2 j3 ((bN.trans k4 j4).mono (by rw[az];omega))
  refine Tb.if_ (x:=brk c) (.of (.op (.v (i:=3) rfl) .cst G2)) (λz=>?_) (λz=>?_)
  ·simp only[aC,F3];refine bV rfl ?_;simp only[dC];refine kS rfl .cst hd (by omega) (by decide) (by decide) λr M1 r0 r1 d1=>?_;refine aJ (kf k7 r0 (by omega)) ?_;refine aJ (mQ (by rw[iZ];unfold big;omega)) ?_;refine bV rfl ?_;have es:(⟨#[c]⟩:Str)=sOf [c]:=rfl;rw[es];refine aJ (mQ (by rw[bt,iZ,cA];unfold big;omega)) ?_;refine kS rfl .cst d1.dr (by omega) (by decide) (by decide) λr' M2 r0' r1' d2=>?_;refine aJ (kf k7 r0' (by omega)) ?_;refine aJ (mQ (by simp only[bt,iZ,cA];unfold big;omega)) ?_;refine aJ (z:=[some (.cell (g+1)),some (.str x),some (.str (sOf (f++bW r.toNat 32++[c]++bW r'.toNat 32))),some (.str (sOf [c]))]) rfl ?_;refine next _ M2 (t+1+1) ?_ ?_ ?_ (d1.trans d2) (by omega)
   ·exact ol (ol (ol hf (om (by decide))) (λd hd=>by rw[cB] at hd;rw[hd];exact hc)) (om (by decide))
   ·simp only[bt,iZ,cA];omega
   ·intro m;have e1:f++bW r.toNat 32++[c]++bW r'.toNat 32++m=f++(bW r.toNat 32++(c::(bW r'.toNat 32++m))):=by simp
    rw[e1,Cg z,h2,cb];rfl
  ·simp only[aC,F3];refine bV rfl (bV rfl ?_);have es:(⟨#[c]⟩:Str)=sOf [c]:=rfl;rw[es];refine aJ (mQ (by rw[cA];unfold big;omega)) ?_;refine aJ (z:=[some (.cell (g+1)),some (.str x),some (.str (sOf (f++[c]))),some (.str (sOf [c]))]) rfl ?_;refine next _ M t ?_ ?_ ?_ (.refl hd) (by omega)
   ·exact ol hf λd hd=>by rw[cB] at hd;rw[hd];exact hc
   ·rw[bt,cA];omega
   ·intro m;rw[cb,h2,cb]
def kM:Sf:=⟨λds M Q _=>∃(g t:Nat)(x:Str),ds=[.cell (g+1),.str x]/\PyData.strOk x=true/\x.length<=50000/\Dr g t M/\t+2 * x.length+1 < 2 ^ 40/\∀(y:Str) M',PyData.strOk y=true->y.length<=4 * x.length+1->aF [] (chL y)=aF [] (chL x)->bN g (t+2 * x.length+1) M M'->Q (.str y) M',λh _ ⟨g,t,x,a,b,c,d,e,q⟩=>⟨g,t,x,a,b,c,d,e,λy M' h1 h2 h3 h4=>h _ _ (q y M' h1 h2 h3 h4)⟩⟩
theorem GL:Go 2 qX (pw cZ) kM:=λds M Q E hl h=>by
 obtain⟨g,t,x,rfl,hx,hxl,hd,ht,q⟩:=h;have q':∀(y:Str) M',PyData.strOk y=true->y.length<=4 * x.length+1->aF [] (chL y)=aF [] (chL x)->bN g (t+2 * x.length+1) M M'->(ap M.length Q E).rt (.str y) M':=λy M' h1 h2 h3 h4=>.inl (q y M' h1 h2 h3 h4);show (pw cZ).f (ap M.length Q E) [some (.cell (g+1)),some (.str x),none,none] M;generalize ap M.length Q E=F at q' ⊢;simp only[pw];refine aA ?_;simp only[Ar,aC,F3,dC];refine kS rfl .cst hd (by omega) (by decide) (by decide) λr M1 r0 r1 d1=>?_;refine aJ (kf k7 r0 (by omega)) ?_;refine aJ (z:=[some (.cell (g+1)),some (.str x),some (.str (sOf (bW r.toNat 32))),none]) rfl ?_;refine aA ?_;simp only[As,ez,dG];refine bV rfl ?_;dsimp only;have hlen:=aU x;refine BV (x:=x) (chL x) [] (bW r.toNat 32) (t+1) M1 none (λc hc=>ff.mp hx c hc) (om (by decide)) (by rw[iZ,aN];omega) (by rw[aN];omega) (λm=>by rw[p7];rfl) d1.dr (by omega) λf' M' ρ3' k1 k2 k3 k4=>?_;simp only[ao];refine bV rfl ?_;rw[bR] at k2 k3;have k3':=k3 [];rw[bq,bq] at k3';exact q' _ _ (yM k1) (by rw[js,<- hlen];exact k2) (by rw[bH];exact k3') ((d1.trans k4).mono (by omega))
def StN(n:Nat)(x:Str):Prop:=PyData.strOk x=true/\x.length<=n
theorem StN.app{a b:Nat}{x y:Str}(hx:StN a x)(hy:StN b y):StN (a+b) (x++y):=⟨iU hx.1 hy.1,by rw[eZ];have:=hx.2;have:=hy.2;omega⟩
theorem StN.mono{a b:Nat}{x:Str}(h:StN a x)(l:a<=b):StN b x:=⟨h.1,gH h.2 l⟩
theorem gP{x:Str}{n:Nat}(h:StN n x)(lo hi:Option Int):StN n (cutS x lo hi):=by
 refine⟨jL h.1 λc hc=>?_,?_⟩
 ·rw[gO] at hc;exact aao (aaa hc)
 ·rw[<- aU,gO,gF,dY,aU];have:=h.2;omega
theorem Ec{x:Str}{n:Nat}(h:StN n x)(k:Nat):StN n (cutS x none (some (k:Int))++cutS x (some (k:Int)) none):=by refine⟨iU (gP h _ _).1 (gP h _ _).1,?_⟩;rw[eZ,<- aU,<- aU,gO,gO,gF,gF,dY,dY,aU,HT.sIx_nat,HT.sIx_nat,HT.sIx_none,HT.sIx_none];have:=h.2;omega
theorem Ex1.addSt{ρ:En}{M:Me}{a b:Rd Tr}{x y:Str}{m n:Nat}(h1:Ex1 a ρ M (.str x))(h2:Ex1 b ρ M (.str y))(hx:StN m x)(hy:StN n y)(hl:m+n<=500000):Ex1 (F3 aq a b) ρ M (.str (x++y)):=.op h1 h2 (by
 simp only[aq];rw[if_pos (by have:=hx.2;have:=hy.2;unfold big;omega)])
def kK:Sf:=⟨λds M Q _=>∃(g t:Nat)(x:Str),ds=[.cell (g+1),.str x]/\PyData.strOk x=true/\x.length<=50000/\Dr g t M/\t+4 < 2 ^ 40/\∀(y:Str) M',PyData.strOk y=true->y.length<=2 * x.length+39->bN g (t+4) M M'->Q (.str y) M',λh _ ⟨g,t,x,a,b,c,d,e,q⟩=>⟨g,t,x,a,b,c,d,e,λy M' h1 h2 h3=>h _ _ (q y M' h1 h2 h3)⟩⟩
def mU:List Tr:=[.str "[",.str "]",.str ",",.str " ",.str "'",.str "-",.str "0",.str "1",.str "a",.str "A",.str "None",.str "+",.str "_",.str "\n",.str (sOf (bW 39 57))]
theorem DR:∀ z∈mU,∃ w,z=.str w/\StN 39 w:=by
 intro z hz;unfold mU at hz;simp only[aM,cR,or_false] at hz;rcases hz with h|h|h|h|h|h|h|h|h|h|h|h|h|h|h
 all_goals exact⟨_,h,by decide +kernel,by decide +kernel⟩
theorem Gb:Go 2 qR (oZ cZ fW) kK:=λds M Q E hl h=>by
 obtain⟨g,t,x,rfl,hx,hxl,hd,ht,q⟩:=h;have q':∀(y:Str) M',StN (2 * x.length+39) y->bN g (t+4) M M'->(ap M.length Q E).rt (.str y) M':=λy M' h1 h3=>.inl (q y M' h1.1 h1.2 h3);show (oZ cZ fW).f (ap M.length Q E) [some (.cell (g+1)),some (.str x),none,none,none,none,none,none] M;generalize ap M.length Q E=F at q' ⊢;have hbig:x.length<=big:=by unfold big;omega
 have hX:StN x.length x:=⟨hx,aP _⟩
 have hlen:∀{ρ:En}{M:Me},ρ[1]?=some (some (.str x))->Ex1 (F3 aq (aB bx (ac (aa 1) ae)) (dC (.int 1))) ρ M (.int ((x.length+1:Nat):Int)):=λh=>.op (.lenS (.v h) hbig) .cst (by simp only[aq];congr 2);simp only[oZ];refine aA ?_;simp only[zU,eN,ac,ae];refine kS rfl (hlen rfl) hd (by omega) (by omega) (by omega) λat_ M1 a0 a1 d1=>?_;refine kS rfl .cst d1.dr (by omega) (by decide) (by decide) λway M2 w0 w1 d2=>?_;refine aJ (z:=[some (.cell (g+1)),some (.str x),none,none,some (.int at_),some (.int way),none,none]) rfl ?_;refine aA ?_;simp only[zV,aC];refine K2 (s:=.lst mU) (xs:=mU) rfl (.lst (.cons .cst (.cons .cst (.cons .cst (.cons .cst (.cons .cst (.cons .cst (.cons .cst (.cons .cst (.cons .cst (.cons .cst (.cons .cst (.cons .cst (.cons .cst (.cons .cst (.cons (.op .cst .cst (kf (c:=57) (by rw[a8];rfl) (by decide) (by decide))) .nil))))))))))))))) (by show 15<=big;decide)) rfl (by decide) (by decide) d2.dr (by omega) λz hz M3 d3=>?_;obtain⟨w,rfl,hw⟩:=DR z hz;have D3:bN g (t+3) M M3:=(d1.trans d2).trans d3;refine aJ (z:=[some (.cell (g+1)),some (.str x),some (.str w),none,some (.int at_),some (.int way),none,none]) rfl ?_;refine aA ?_;generalize hρ:[some (Tr.cell (g+1)),some (.str x),some (.str w),none,some (.int at_),some (.int way),none,none]=ρ;have v1:ρ[1]?=some (some (.str x)):=by rw[<- hρ];rfl
 have v2:ρ[2]?=some (some (.str w)):=by rw[<- hρ];rfl
 have v4:ρ[4]?=some (some (.int at_)):=by rw[<- hρ];rfl
 have v5:ρ[5]?=some (some (.int way)):=by rw[<- hρ];rfl
 have c1:Ex1 (dSl (aa 1) (ay none) (ay (some (aa 4)))) ρ M3 (.str (cutS x none (some at_))):=.slTr (.v v1) (.v v4) hbig;have c2:Ex1 (dSl (aa 1) (ay (some (aa 4))) (ay none)) ρ M3 (.str (cutS x (some at_) none)):=.slFr (.v v1) (.v v4) hbig;have c3:Ex1 (dSl (aa 1) (ay (some (F3 aq (aa 4) (dC (.int 1))))) (ay none)) ρ M3 (.str (cutS x (some (at_+1)) none)):=.slFr (.v v1) (.op (.v v4) .cst rfl) hbig;have o1:=gP hX none (some at_);have o2:=gP hX (some at_) none;have o3:=gP hX (some (at_+1)) none;simp only[zW];refine Tb.if_ (x:=decide (way < 2)) (.of (.op (.v v5) .cst rfl)) (λz=>?_) (λz=>bU ?_)
 ·exact Ex1.ret (.addSt (.addSt c1 (.v v2) o1 hw (by omega)) c2 (o1.app hw) o2 (by omega)) (q' _ _ (((o1.app hw).app o2).mono (by omega)) (D3.mono (by omega)))
 dsimp only;refine aA ?_;simp only[zX];refine Tb.if_ (x:=decide (way=2)) (.of (.op (.v v5) .cst (by rw[fJ]))) (λz=>?_) (λz=>bU ?_)
 ·exact Ex1.ret (.addSt c1 c3 o1 o3 (by omega)) (q' _ _ ((o1.app o3).mono (by omega)) (D3.mono (by omega)))
 dsimp only;refine aA ?_;simp only[zY];refine Tb.if_ (x:=decide (way=3)) (.of (.op (.v v5) .cst (by rw[fJ]))) (λz=>?_) (λz=>bU ?_)
 ·exact Ex1.ret (.addSt (.addSt c1 (.v v2) o1 hw (by omega)) c3 (o1.app hw) o3 (by omega)) (q' _ _ (((o1.app hw).app o3).mono (by omega)) (D3.mono (by omega)))
 dsimp only;refine aA ?_;simp only[zZ,aC];have v0:ρ[0]?=some (some (.cell (g+1))):=by rw[<- hρ];rfl
 refine kS v0 (hlen v1) D3.dr (by omega) (by omega) (by omega) λot M4 b0 b1 d4=>?_;have D4:bN g (t+4) M M4:=D3.trans d4;rw[<- hρ];refine aJ (z:=[some (.cell (g+1)),some (.str x),some (.str w),some (.int ot),some (.int at_),some (.int way),none,none]) rfl ?_;refine aA ?_;simp only[z0,aC];obtain⟨lo,hi,l0,l1,hp⟩:∃ lo hi:Int,0<=lo/\0<=hi/\Ex1 (dIf (am (F3 ltT (aa 4) (aa 3))) (fH (ac (aa 4) (ac (aa 3) ae))) (fH (ac (aa 3) (ac (aa 4) ae)))) [some (.cell (g+1)),some (.str x),some (.str w),some (.int ot),some (.int at_),some (.int way),none,none] M4 (.tup [.int lo,.int hi]):=by
  have t7:Tb (am (F3 ltT (aa 4) (aa 3))) [some (.cell (g+1)),some (.str x),some (.str w),some (.int ot),some (.int at_),some (.int way),none,none] M4 (decide (at_ < ot)):=.of (.op (.v (i:=4) rfl) (.v (i:=3) rfl) rfl)
  by_cases h:at_ < ot
  ·exact⟨at_,ot,a0,b0,.ite t7 (λ_=>.tup (.cons (.v (i:=4) rfl) (.cons (.v (i:=3) rfl) .nil)) (by show 2<=big;decide)) (λz=>absurd h (of_decide_eq_false z))⟩
  ·exact⟨ot,at_,b0,a0,.ite t7 (λz=>absurd (of_decide_eq_true z) h) (λ_=>.tup (.cons (.v (i:=3) rfl) (.cons (.v (i:=4) rfl) .nil)) (by show 2<=big;decide))⟩
 refine hp _ _ ?_;refine aJ (z:=[some (.cell (g+1)),some (.str x),some (.str w),some (.int ot),some (.int at_),some (.int way),some (.int lo),some (.int hi)]) rfl ?_;simp only[z6];generalize hσ:[some (Tr.cell (g+1)),some (.str x),some (.str w),some (.int ot),some (.int at_),some (.int way),some (.int lo),some (.int hi)]=σ;have u1:σ[1]?=some (some (.str x)):=by rw[<- hσ];rfl
 have u5:σ[5]?=some (some (.int way)):=by rw[<- hσ];rfl
 have u6:σ[6]?=some (some (.int lo)):=by rw[<- hσ];rfl
 have u7:σ[7]?=some (some (.int hi)):=by rw[<- hσ];rfl
 have e1:Ex1 (dSl (aa 1) (ay none) (ay (some (aa 7)))) σ M4 (.str (cutS x none (some hi))):=.slTr (.v u1) (.v u7) hbig;have e2:Ex1 (dSl (aa 1) (ay (some (aa 6))) (ay (some (aa 7)))) σ M4 (.str (cutS x (some lo) (some hi))):=.sl1 (.v u1) (.v u6) (.v u7) hbig;have e3:Ex1 (dSl (aa 1) (ay (some (aa 7))) (ay none)) σ M4 (.str (cutS x (some hi) none)):=.slFr (.v u1) (.v u7) hbig;have e4:Ex1 (dSl (aa 1) (ay none) (ay (some (aa 6)))) σ M4 (.str (cutS x none (some lo))):=.slTr (.v u1) (.v u6) hbig;have p1:=gP hX none (some hi);have p2:=gP hX (some lo) (some hi);have p3:=gP hX (some hi) none;have p4:=gP hX none (some lo);have t8:Tb (am (F3 eqT (aa 5) (dC (.int 4)))) σ M4 (decide (way=4)):=.of (.op (.v u5) .cst (by rw[fJ]))
 by_cases h:way=4
 ·have e5:Ex1 (F3 aq (F3 aq (dSl (aa 1) (ay none) (ay (some (aa 7)))) (dSl (aa 1) (ay (some (aa 6))) (ay (some (aa 7))))) (dSl (aa 1) (ay (some (aa 7))) (ay none))) σ M4 (.str (cutS x none (some hi)++cutS x (some lo) (some hi)++cutS x (some hi) none)):=.addSt (.addSt e1 e2 p1 p2 (by omega)) e3 (p1.app p2) p3 (by omega);refine Ex1.ret (.ite t8 (λ_=>e5) (λz=>absurd h (of_decide_eq_false z))) (q' _ _ ⟨((p1.app p2).app p3).1,?_⟩ D4);have h2:=(Ec hX hi.toNat).2;rw[Int.toNat_of_nonneg l1,eZ] at h2;have h3:=p2.2;rw[eZ,eZ];omega
 ·exact Ex1.ret (.ite t8 (λz=>absurd (of_decide_eq_true z) h) (λ_=>.addSt e4 e3 p4 p3 (by omega))) (q' _ _ ((p4.app p3).mono (by omega)) D4)
mutual
theorem Jq:∀ d:Tr,IR d=true->∃ p,pyd d=some p/\p.canLay0=true/\p.depth<=a9 d
 | .lst xs,h=>by
  obtain⟨ps,h1,h2,h3,_⟩:=tK xs (dH h).2;exact⟨.list ps,by simp only[pyd,h1,bF],by simpa only [PyData.canLay0] using h2,by simp only[PyData.depth,a9];omega⟩
 | .non,_=>⟨.none,rfl,rfl,aP _⟩
 | .int i,_=>⟨.int i,rfl,rfl,aP _⟩
 | .str w,h=>⟨.str w,rfl,by simp only[PyData.canLay0];exact mz (by simpa only [IR] using h),aP _⟩
 | .bl _,h=>by simp [IR] at h
 | .tup _,h=>by simp [IR] at h
 | .dct _ _,h=>by simp [IR] at h
 | .ins _ _,h=>by simp [IR] at h
 | .exc _ _,h=>by simp [IR] at h
 | .cell _,h=>by simp [IR] at h
 | .scr _,h=>by simp [IR] at h
 | .dkf _ _,h=>by simp [IR] at h
theorem tK:∀ ds:List Tr,bg ds=true->∃ ps,dJ ds=some ps/\PyData.canLayAll0 ps=true/\PyData.depthAll ps<=c8 ds/\ps.length=ds.length
 | [],_=>⟨[],rfl,rfl,aP _,rfl⟩
 | d::ds,h=>by
  simp only[bg,ax] at h;obtain⟨p,a1,a2,a3⟩:=Jq d h.1;obtain⟨ps,b1,b2,b3,b4⟩:=tK ds h.2;exact⟨p::ps,by simp only[dJ,a1,b1],by simp only[PyData.canLayAll0,a2,b2,dO],by simp only[PyData.depthAll,c8];omega,by simp [b4]⟩
end
theorem EU{M:Me}{xs:List Tr}(h:IR (.lst xs)=true)(hd:a9 (.lst xs)<=62):eqT M (.lst xs) (.lst [])=some (.bl xs.isEmpty):=by
 obtain⟨ps,h1,h2,h3,h4⟩:=tK xs (dH h).2;simp only[a9] at hd;have s1:SeqAt.shaped (.list ps)=true:=by unfold SeqAt.shaped;simp only[PyData.canLay0,h2,aaw,PyData.depth];exact decide_eq_true (by omega)
 have s2:SeqAt.shaped (.list [])=true:=rfl;simp only[eqT,eqB,fi,pyd,h1,dJ,bF,s1,s2,dO,if_true];cases xs with
 | nil=>cases ps with
  | nil=>rfl
  | cons _ _=>simp at h4
 | cons _ _=>cases ps with
  | nil=>simp at h4
  | cons _ _=>rfl
theorem JD{M:Me}{k:Nat}{xs:List Tr}(h:M[k]?=some (.lst xs)):ca M [.cell k]=ca M [.lst xs]:=by simp only[ca,qc,h]
def iR(cl:List Nat):Sf:=⟨λds M Q _=>∃ d,ds=[d]/\bu d=true/\cF cl d=true/\(∀ x,d=.str x->PyData.strOk x=true/\x.length<=50000)/\Q (.bl true) M,λh _ ⟨d,a,b,c,e,q⟩=>⟨d,a,b,c,e,h _ _ q⟩⟩
theorem GB(cl:List Nat)(ds:List Tr)(M:Me)(Q E:TK)(hl:ds.length=1)(hC:∀ c∈M,ee M.length c)(h:(iR cl).f ds M Q E):(ph (iQ cl) (eO cl)).f (ap M.length Q E) (df qV ds) M:=by
 obtain⟨d,rfl,ha,hc,hd,q⟩:=h;show (ph (iQ cl) (eO cl)).f (ap M.length Q E) [some d,none,none,none,none] M;have q':∀ X,(ap M.length Q E).rt (.bl true) (M++[X]):=λX=>so hC (by simp only[bo]) q;generalize ap M.length Q E=F at q' ⊢;simp only[ph];refine aA ?_;simp only[Am,eN,GE,lc,ac,ae,dC];refine bV rfl ⟨rfl,d,rfl,ha,hc,hd,eS _,?_⟩;refine aJ (z:=[some d,none,some (oL (rdV d)),some (.cell M.length),some .non]) rfl ?_;refine aA ?_;simp only[An,uq,cX,gl,GE,ac,ae];refine bV rfl ⟨by simp only[bj,jq];rfl,?_⟩;refine bV rfl ⟨rfl,d,rfl,ha,hc,hd,λv hv=>?_,λhv=>?_⟩
 ·-- a value
  refine aJ (z:=(.non,M++[.lst [v]])) (by simp only[ij,jq];rw[if_pos (by decide),nR];rfl) ?_;obtain⟨x,rfl⟩:∃ x,d=.str x:=by
   cases d with
   | str x=>exact⟨x,rfl⟩
   | _=>cases hv
  obtain⟨hx,hxl⟩:=hd x rfl;obtain⟨o1,o2,o3⟩:=Ju hx hxl hv;have o:okB 61 5200004 (.lst [v]):=⟨by simp only[IR,bg,o1,dO,Bool.and_true];exact decide_eq_true (by simp),by simp only[a9,c8];omega,by simp only[szV,cp];omega⟩
  rw[hv];have e0:=EU (M:=M++[.lst [v]]) o.1 (by have:=o.2.1;omega);obtain⟨w,w1,_,w3⟩:=uj o (by decide) (by decide);show (aj (lF (iQ cl) (eO cl)) (po (iQ cl) (eO cl))).f F [some (.str x),none,some (.lst [v]),some (.cell M.length),some .non] (M++[.lst [v]]);refine aA ?_;simp only[lF];refine Tb.if_ (x:=false) (.of (.op (.v (i:=2) rfl) (.lst .nil (by decide)) e0)) (λz=>by cases z) (λ_=>bU ?_);simp only[po];have r1:Ex1 (aB ca (ac (aa 3) ae)) [some (.str x),none,some (.lst [v]),some (.cell M.length),some .non] (M++[.lst [v]]) (.str w):=.call (.cons (.v (i:=3) rfl) .nil) (by rw[JD jq];exact w3 _);have r2:Ex1 (aB ca (ac (aa 2) ae)) [some (.str x),none,some (.lst [v]),some (.cell M.length),some .non] (M++[.lst [v]]) (.str w):=.call (.cons (.v (i:=2) rfl) .nil) (w3 _);have r3:Ex1 (F3 eqT (aB ca (ac (aa 3) ae)) (aB ca (ac (aa 2) ae))) [some (.str x),none,some (.lst [v]),some (.cell M.length),some .non] (M++[.lst [v]]) (.bl true):=.op r1 r2 (by rw[jg w1 w1,decide_eq_true rfl]);refine Ex1.ret (d:=.bl true) ?_ (q' _);have:=Ex1.andV (x:=true) (y:=true) (.op (f:=fk) (.v (i:=4) rfl) .cst nM) λ_=>r3;exact this
 ·-- none
  refine⟨by decide,by show 1 < 5;decide,?_⟩;have e:eW 9 11=true:=by decide
  rw[if_pos e,hv];show (aj (lF (iQ cl) (eO cl)) (po (iQ cl) (eO cl))).f F [some d,none,some (.lst []),some (.cell M.length),some eH] (M++[.lst []]);refine aA ?_;simp only[lF];have e0:=lg (M:=M++[.lst []]) [] (by simp);refine Tb.if_ (x:=true) (.of (.op (.v (i:=2) rfl) (.lst .nil (by decide)) e0)) (λ_=>?_) (λz=>by cases z);have a1:Ex1 (jb ec 9 (aa 4)) [some d,none,some (.lst []),some (.cell M.length),some eH] (M++[.lst []]) (.bl true):=λQ E q=>by
   simp only[jb];exact bV rfl ⟨by decide,q⟩
  have a2:Ex1 (jZ (jb ec 0 (aa 4))) [some d,none,some (.lst []),some (.cell M.length),some eH] (M++[.lst []]) (.bl true):=λQ E q=>by
   simp only[jZ,jb];exact bV rfl ⟨by decide,q⟩
  have a3:Ex1 (F3 eqT (ni mI (aa 4)) (dC (.int 0))) [some d,none,some (.lst []),some (.cell M.length),some eH] (M++[.lst []]) (.bl true):=.op (d:=.int 0) (λQ E q=>by
   simp only[ni];exact bV rfl (aJ rfl q)) .cst (by rw[fJ,decide_eq_true rfl])
  refine Ex1.ret (d:=.bl true) ?_ (q' _);have:=Ex1.andV (x:=true) (y:=true) a1 λ_=>Ex1.andV (x:=true) (y:=true) a2 λ_=>a3;exact this
def lb:Nat->Nat
 | 0=>41
 | n+1=>2+4 * (lb n+2)
theorem Hi(n:Nat):41<=lb n:=by
 induction n with
 | zero=>exact aP _
 | succ n ih=>simp only[lb];omega
theorem sL{a:Tr}(h:eU a):(txt a).length<=41:=by
 cases a with
 | non=>rw[txt];decide
 | int i =>
  have h:i.natAbs < 10 ^ 40:=h;have:=(nl h).2.1;rw[kQ]
  split
  ·rw[az];omega
  ·omega
 | str w =>
  have h:jt w/\1<=w.length/\w.length<=8:=h;rw[txt];simp only[aY,az,bt,aN,aU];omega
 | _=>exact h.elim
theorem B3{k:Nat}:∀{xs:List Tr},(∀ x∈xs,(txt x).length<=k)->fh xs<=xs.length * (k+2)
 | [],_=>by simp [fh]
 | x::r,h=>by
  have h1:=h x (a6 ..);have h2:=B3 (k:=k) (xs:=r) λy hy=>h y (aZ _ hy);simp only[fh,az,Nat.add_mul,Nat.one_mul];omega
theorem yh(xs:List Tr):(txt (.lst xs)).length<=2+fh xs:=by
 cases xs with
 | nil=>rw[txt];decide
 | cons d ds =>
  rw[txt];simp only[az,bt,uU,fh];omega
theorem yj:∀(n:Nat)(v:Tr),dh n v->(txt v).length<=lb n
 | 0,v,h=>by simp only[dh] at h;exact sL h
 | n+1,v,h=>by
  cases v with
  | lst xs =>
   simp only[dh] at h;have h1:=B3 (k:=lb n) (xs:=xs) λx hx=>yj n x (va n xs h.2 x hx);have h2:=yh xs;have h3:xs.length * (lb n+2)<=4 * (lb n+2):=aab _ h.1;simp only[lb];omega
  | _ =>
   simp only[dh] at h;exact gH (sL h) (Hi _)
structure Vl(v:Tr):Prop where
 ok:IR v=true
 dep:a9 v<=60
 sz:szV v<=1000000
 len:(aG v).length<=2834
theorem Vl.of{n:Nat}{v:Tr}(h:dh n v)(hn:n<=3):Vl v:=by
 obtain⟨h1,h2,h3⟩:=Cv n v h;have hl:=yj n v h;have hz:szB n<=1000000/\lb n<=2834:=by
  have:n=0∨n=1∨n=2∨n=3:=by omega
  rcases this with rfl|rfl|rfl|rfl <;> decide
 exact⟨h1,by omega,by omega,by rw[<- aU,ja v h1];omega⟩
theorem Vl.big{v:Tr}(h:Vl v):szV v<=DL.big:=by have:=h.sz;unfold DL.big;omega
theorem Vl.st{v:Tr}(h:Vl v):StN 2834 (aG v):=⟨uM v h.ok,h.len⟩
theorem Vl.rd{v:Tr}(h:Vl v):rdP (aG v)=some v:=AS h.ok h.dep
section
variable {ρ:En}{M:Me}{e:Rd Tr}{cl:List Nat}{v:Tr}
theorem nq(h:Ex1 e ρ M v)(ho:IR v=true)(hd:a9 v<=60)(hz:szV v<=DL.big):Ex1 (GE gx [] 1 (ac e ae)) ρ M (.str (aG v)):=.fn (.cons h .nil) rfl λQ E q=>⟨v,rfl,⟨ho,hd,hz⟩,q⟩
theorem ss(h:Ex1 e ρ M v)(ho:IR v=true)(hd:a9 v<=60)(hz:szV v<=DL.big):Ex1 (GE (fU 61) [] 1 (ac e ae)) ρ M (.str (aG v)):=.fn (.cons h .nil) rfl λQ E q=>⟨v,rfl,⟨ho,by omega,hz⟩,q⟩
theorem xk{x:Str}{n:Nat}(h:Ex1 e ρ M (.str x))(hx:StN n x)(hn:n<=50000)(hv:rdP x=some v):Ex1 (GE (eO cl) [] 1 (ac e ae)) ρ M v:=.fn (.cons h .nil) rfl λQ E q=>⟨.str x,rfl,by have:=hx.2;simp only[bu];exact decide_eq_true (by omega),by simp only[cF],λy hy=>by cases hy;exact⟨hx.1,by have:=hx.2;omega⟩,λw hw=>by
 have:rdP x=some w:=hw;rw[hv] at this;cases this;exact q,λhw=>by
 have:rdP x=none:=hw;rw[hv] at this;cases this⟩
theorem EW{d:Tr}(h:Ex1 e ρ M d)(ha:bu d=true)(hc:cF cl d=true)(hs:∀ x,d=.str x->StN 50000 x):Ex1 (GE (iR cl) [] 1 (ac e ae)) ρ M (.bl true):=.fn (.cons h .nil) rfl λQ E q=>⟨d,rfl,ha,hc,hs,q⟩
theorem su{x:Str}{n:Nat}(h:Ex1 e ρ M (.str x))(hx:StN n x)(hn:n<=50000):Ex1 (GE (iR cl) [] 1 (ac e ae)) ρ M (.bl true):=EW h (by have:=hx.2;simp only[bu];exact decide_eq_true (by omega)) (by simp only[cF]) λy hy=>by cases hy;exact hx.mono hn
end
theorem CC{ρ:En}{M:Me}{Q E:TK}{i g t:Nat}{d:Nat}{e:Rd Tr}(hi:ρ[i]?=some (some (.cell (g+1))))(he:Ex1 e ρ M (.int (d:Nat)))(hd:Dr g t M)(h4:d < 4)(ht:t+dg d < 2 ^ 40)
  (q:∀ v M',dh d v->bN g (t+dg d) M M'->Q v M'):(GE (hO 4) [] 2 (ac (aa i) (ac e ae))).f ρ M Q E:=by
 simp only[GE];exact(ExL.cons (.v hi) (.cons he .nil)) _ _ ⟨rfl,g,t,d,rfl,h4,hd,ht,q⟩
theorem vc{ρ:En}{M:Me}{Q E:TK}{i g t n:Nat}{x:Str}{e:Rd Tr}(hi:ρ[i]?=some (some (.cell (g+1))))(he:Ex1 e ρ M (.str x))(hx:StN n x)(hn:n<=50000)(hd:Dr g t M)(ht:t+4 < 2 ^ 40)
  (q:∀ y M',StN (2 * n+39) y->bN g (t+4) M M'->Q (.str y) M'):(GE kK [] 2 (ac (aa i) (ac e ae))).f ρ M Q E:=by
 simp only[GE];refine(ExL.cons (.v hi) (.cons he .nil)) _ _ ⟨rfl,g,t,x,rfl,hx.1,by have:=hx.2;omega,hd,ht,λy M' h1 h2 h3=>q y M' ⟨h1,by have:=hx.2;omega⟩ h3⟩
theorem K4{ρ:En}{M:Me}{Q E:TK}{i g t n:Nat}{x:Str}{e:Rd Tr}(hi:ρ[i]?=some (some (.cell (g+1))))(he:Ex1 e ρ M (.str x))(hx:StN n x)(hn:n<=50000)(hd:Dr g t M)(ht:t+2 * n+1 < 2 ^ 40)
  (q:∀ y M',StN (4 * n+1) y->aF [] (chL y)=aF [] (chL x)->bN g (t+2 * n+1) M M'->Q (.str y) M'):(GE kM [] 2 (ac (aa i) (ac e ae))).f ρ M Q E:=by
 simp only[GE];have hl:=hx.2;refine(ExL.cons (.v hi) (.cons he .nil)) _ _ ⟨rfl,g,t,x,rfl,hx.1,by omega,hd,by omega,λy M' h1 h2 h3 h4=>q y M' ⟨h1,by omega⟩ h3 (h4.mono (by omega))⟩
theorem HZ{M:Me}{a b:Bool}:neT M (.bl a) (.bl b)=some (.bl (!decide (a=b))):=by cases a <;> cases b <;> rfl
theorem Dr.appM{g t:Nat}{M:Me}(B:Me)(h:Dr g t M):Dr g t (M++B):=by obtain⟨gs,cells,rest,turn,a,b,r⟩:=h.ex;have l1:=ke a;have l2:=ke b;exact⟨gs,cells,rest,turn,by rw[eD l1];exact a,by rw[eD l2];exact b,r⟩
theorem Dr.setM{g t:Nat}{M:Me}{k:Nat}{c:Ce}(h:Dr g t M)(h1:k≠g)(h2:k≠g+1):Dr g t (M.set k c):=by obtain⟨gs,cells,rest,turn,a,b,r⟩:=h.ex;exact⟨gs,cells,rest,turn,by rw[eQ h1];exact a,by rw[eQ h2];exact b,r⟩
theorem Dr.lt{g t:Nat}{M:Me}(h:Dr g t M):g+1 < M.length:=by obtain⟨gs,cells,rest,turn,a,b,r⟩:=h.ex;exact ke b
mutual
theorem CA:∀ d:Tr,IR d=true->vlT d=true
 | .lst xs,h=>by simp only[vlT];exact CB xs (dH h).2
 | .non,h=>by simp only[vlT,bI]
 | .int i,h=>by simp only[vlT,bI]
 | .str i,h=>by simp only[vlT,bI]
 | .bl _,h=>by simp [IR] at h
 | .tup _,h=>by simp [IR] at h
 | .dct _ _,h=>by simp [IR] at h
 | .ins _ _,h=>by simp [IR] at h
 | .exc _ _,h=>by simp [IR] at h
 | .cell _,h=>by simp [IR] at h
 | .scr _,h=>by simp [IR] at h
 | .dkf _ _,h=>by simp [IR] at h
theorem CB:∀ ds:List Tr,bg ds=true->hY ds=true
 | [],_=>by simp only[hY]
 | d::ds,h=>by
  simp only[bg,ax] at h;simp only[hY,CA d h.1,CB ds h.2,dO]
end
theorem ID{M B:Me}{d v:Tr}(ho:IR v=true)(hv:bG (M++B) d v)(hp:DpL M.length (M++B) (dpW v) d):(a7 v=true/\d=v)∨∃ k xs ts,d=.cell k/\v=.lst ts/\M.length<=k/\(M++B)[k]?=some (.lst xs)/\xs.length=ts.length:=by
 cases v with
 | non=>simp only[bG] at hv;exact .inl ⟨rfl,hv⟩
 | int i=>simp only[bG] at hv;exact .inl ⟨rfl,hv⟩
 | str i=>simp only[bG] at hv;exact .inl ⟨rfl,hv⟩
 | lst ts =>
  refine .inr ?_;simp only[bG] at hv;obtain⟨rs,e,vs⟩:=hv;simp only[dpW,DpL] at hp;rcases hp with hp|⟨k,xs,rfl,h1,h2,_⟩
  ·rcases e with rfl|⟨k,rfl,_⟩ <;> simp [bI] at hp
  ·refine⟨k,xs,ts,rfl,rfl,h1,h2,?_⟩;rcases e with e|⟨k',e,h3⟩
   ·cases e
   ·cases e;rw[h2] at h3;cases h3;exact bX.len vs
 | _=>simp [IR] at ho
abbrev LW(cl:List Nat)(f:List Nat->Sf->Sf->Sf->Sf->Sf->Sf->Sf->Sf->Sf->Sf->Sf->Sf->Sr):Sr:=f cl mx (hO 4) gx (fU 61) iS kM (eO cl) kK (iR cl) fW jD cZ
abbrev ρW(ns:List Int)(x2 x3 x4 x5 x6 x7 x8 x9 x10 x11 x12:Option Tr):En:=[some (.scr ns),some (.cell 1),x2,x3,x4,x5,x6,x7,x8,x9,x10,x11,x12]
section
variable {cl:List Nat}{ns:List Int}{T:Nat}{F:Fin}{M:Me}{x2 x3 x4 x5 x6 x7 x8 x9 x10 x11 x12:Option Tr}{v o:Tr}{y b:Str}{d:Tr}
theorem f_1(hd:Dr 0 T M)(hT:T+200000 < 2 ^ 40)(q:∀ v o M',Vl v->Vl o->Dr 0 (T+100000) M'->F.nx (ρW ns x2 x3 x4 x5 x6 x7 x8 x9 x10 (some v) (some o)) M'):(LW cl tP).f F (ρW ns x2 x3 x4 x5 x6 x7 x8 x9 x10 x11 x12) M:=by
 simp only[LW,tP,eN,ae];have t3:dg 3=50000:=by decide
 have t1:dg 1=2000:=by decide
 simp only[ac];refine CC (g:=0) (d:=3) rfl (.cst (d:=.int 3)) hd (by decide) (by omega) λv M1 h1 d1=>?_;refine CC (g:=0) (d:=1) rfl (.cst (d:=.int 1)) d1.dr (by decide) (by omega) λo M2 h2 d2=>?_;exact aJ (z:=ρW ns x2 x3 x4 x5 x6 x7 x8 x9 x10 (some v) (some o)) rfl (q v o M2 (.of h1 (by decide)) (.of h2 (by decide)) (d2.dr.mono (by omega)))
theorem f_2(hv:Vl v)(q:F.nx (ρW ns x2 x3 x4 (some (.str (aG v))) x6 x7 x8 x9 x10 (some v) (some o)) M):(LW cl tT).f F (ρW ns x2 x3 x4 x5 x6 x7 x8 x9 x10 (some v) (some o)) M:=by simp only[LW,tT];exact Ex1.asg (nq (.v (i:=11) rfl) hv.ok hv.dep hv.big) q
theorem f_3(hv:Vl v)(ho:Vl o)(q:F.nx (ρW ns x2 x3 x4 (some (.str (aG v))) x6 x7 x8 x9 x10 (some v) (some o)) M):(LW cl tU).f F (ρW ns x2 x3 x4 (some (.str (aG v))) x6 x7 x8 x9 x10 (some v) (some o)) M:=by simp only[LW,tU];refine Tb.if_ (x:=false) (.or (x:=false) (y:=false) (.of (.op (.v (i:=5) rfl) (ss (.v (i:=11) rfl) hv.ok hv.dep hv.big) (kh hv.st.1))) λ_=>.of (.op (nq (.v (i:=12) rfl) ho.ok ho.dep ho.big) (ss (.v (i:=12) rfl) ho.ok ho.dep ho.big) (kh ho.st.1))) (λz=>by cases z) (λ_=>bU q)
theorem f_4(hv:Vl v)(ho:Vl o)(q:F.nx (ρW ns x2 x3 x4 (some (.str (aG v))) x6 x7 x8 x9 x10 (some v) (some o)) M):(LW cl tV).f F (ρW ns x2 x3 x4 (some (.str (aG v))) x6 x7 x8 x9 x10 (some v) (some o)) M:=by
 simp only[LW,tV];have e1:Ex1 (F3 eqT (aa 5) (GE gx [] 1 (ac (aa 12) ae))) (ρW ns x2 x3 x4 (some (.str (aG v))) x6 x7 x8 x9 x10 (some v) (some o)) M (.bl (decide (aG v=aG o))):=.op (.v (i:=5) rfl) (nq (.v (i:=12) rfl) ho.ok ho.dep ho.big) (jg hv.st.1 ho.st.1);have e2:Ex1 (GE iS [] 2 (ac (aa 11) (ac (aa 12) ae))) (ρW ns x2 x3 x4 (some (.str (aG v))) x6 x7 x8 x9 x10 (some v) (some o)) M (.bl (bZ v o)):=.fn (.cons (.v (i:=11) rfl) (.cons (.v (i:=12) rfl) .nil)) rfl λQ E q=>⟨v,o,rfl,⟨hv.ok,ho.ok,hv.dep,ho.dep⟩,q⟩
 have e:bZ v o=decide (aG v=aG o):=by
  by_cases h:v=o
  ·rw[decide_eq_true ((Cb hv.ok ho.ok).mpr h)];exact(ut hv.ok ho.ok).mpr h
  ·rw[decide_eq_false λz=>h ((Cb hv.ok ho.ok).mp z)];have:¬ bZ v o=true:=λz=>h ((ut hv.ok ho.ok).mp z);simpa using this
 rw[e] at e2;exact Tb.if_ (x:=false) (.of (.op e1 e2 (by rw[HZ,decide_eq_true rfl];rfl))) (λz=>by cases z) (λ_=>bU q)
theorem f_5(hv:Vl v)(hd:Dr 0 T M)(hT:T+100000 < 2 ^ 40)(q:∀ y M',StN 11337 y->rdP y=some v->Dr 0 (T+6000) M'->F.nx (ρW ns x2 x3 x4 (some (.str (aG v))) (some (.str y)) x7 x8 x9 x10 (some v) (some o)) M'):(LW cl tW).f F (ρW ns x2 x3 x4 (some (.str (aG v))) x6 x7 x8 x9 x10 (some v) (some o)) M:=by simp only[LW,tW,aC];refine K4 (g:=0) rfl (.v (i:=5) rfl) hv.st (by decide) hd (by omega) λy M1 h1 h2 d1=>?_;refine aJ (z:=ρW ns x2 x3 x4 (some (.str (aG v))) (some (.str y)) x7 x8 x9 x10 (some v) (some o)) rfl (q y M1 h1 (AO hv.ok hv.dep ?_) (d1.dr.mono (by omega)));rw[h2,ja v hv.ok]
theorem f_6(hv:Vl v)(hy:StN 11337 y)(hr:rdP y=some v)(hd:Dr 0 T M)(q:∀ d M',bG M' d v->(a7 v=true/\d=v∨∃ k xs,d=.cell k/\1 < k/\M'[k]?=some (.lst xs)/\xs.length<=100000)->Dr 0 T M'->F.nx (ρW ns x2 x3 x4 x5 (some (.str y)) (some d) x8 x9 x10 (some v) (some o)) M'):(LW cl tX).f F (ρW ns x2 x3 x4 x5 (some (.str y)) x7 x8 x9 x10 (some v) (some o)) M:=by
 simp only[LW,tX,aC,nh];refine(ExL.cons (.v (i:=6) rfl) .nil) _ _ ⟨rfl,rfl,.str y,rfl,by have:=hy.2;simp only[bu];exact decide_eq_true (by omega),by simp only[cF],λz hz=>by cases hz;exact⟨hy.1,by have:=hy.2;omega⟩,λw hw=>?_,λhw=>?_⟩
 ·have:rdP y=some w:=hw;rw[hr] at this;cases this;refine⟨CA v hv.ok,λB d h1 h2=>?_⟩;refine aJ (z:=ρW ns x2 x3 x4 x5 (some (.str y)) (some d) x8 x9 x10 (some v) (some o)) rfl (q d _ h1 ?_ (hd.appM B));rcases ID hv.ok h1 h2 with h|⟨k,xs,ts,e1,e2,e3,e4,e5⟩
  ·exact .inl h
  ·refine .inr ⟨k,xs,e1,by have:=hd.lt;omega,e4,?_⟩;have:=(dH (e2 ▸ hv.ok)).1;omega
 ·have:rdP y=none:=hw;rw[hr] at this;cases this
theorem f_7(hv:Vl v)(h1:bG M d v)(q:F.nx (ρW ns x2 x3 x4 (some (.str (aG v))) x6 (some d) x8 x9 x10 (some v) (some o)) M):(LW cl tY).f F (ρW ns x2 x3 x4 (some (.str (aG v))) x6 (some d) x8 x9 x10 (some v) (some o)) M:=by simp only[LW,tY];obtain⟨w,w1,_,w3⟩:=uj (d:=v) (n:=60) (s:=1000000) ⟨hv.ok,hv.dep,hv.sz⟩ (by decide) (by decide);have r1:Ex1 (k9 ca (ac (aa 7) ae)) (ρW ns x2 x3 x4 (some (.str (aG v))) x6 (some d) x8 x9 x10 (some v) (some o)) M (.str w):=λQ E q=>K3 ((ExL.cons (.v (i:=7) rfl) .nil) _ _ ⟨d,v,w,rfl,h1,w3,q⟩);have r2:Ex1 (aB ca (ac (aa 11) ae)) (ρW ns x2 x3 x4 (some (.str (aG v))) x6 (some d) x8 x9 x10 (some v) (some o)) M (.str w):=.call (.cons (.v (i:=11) rfl) .nil) (w3 _);have r3:Ex1 (aB ca (ac (GE (eO cl) [] 1 (ac (aa 5) ae)) ae)) (ρW ns x2 x3 x4 (some (.str (aG v))) x6 (some d) x8 x9 x10 (some v) (some o)) M (.str w):=.call (.cons (xk (.v (i:=5) rfl) hv.st (by decide) hv.rd) .nil) (w3 _);exact Tb.if_ (x:=false) (.or (x:=false) (y:=false) (.of (.op r1 r2 (kh w1))) λ_=>.of (.op r3 r2 (kh w1))) (λz=>by cases z) (λ_=>bU q)
theorem f_8(hv:Vl v)(h2:a7 v=true/\d=v∨∃ k xs,d=.cell k/\1 < k/\M[k]?=some (.lst xs)/\xs.length<=100000)(hd:Dr 0 T M)(q:∀ M',Dr 0 T M'->F.nx (ρW ns x2 x3 x4 x5 x6 (some d) x8 x9 x10 (some v) (some o)) M'):(LW cl tZ).f F (ρW ns x2 x3 x4 x5 x6 (some d) x8 x9 x10 (some v) (some o)) M:=by
 simp only[LW,tZ];rcases h2 with ⟨h2,rfl⟩|⟨k,xs,rfl,hk,hx,hl⟩
 ·have ho:=hv.ok;have t:Tb (bp (bY cl [(.b "list")] (aa 7))) (ρW ns x2 x3 x4 x5 x6 (some d) x8 x9 x10 (some d) (some o)) M false:=λQ E q=>by
   refine kR rfl ho ?_;rw[h2];exact q
  exact Tb.if_ t (λz=>by cases z) (λ_=>bU (q M hd))
 ·have t:Tb (bp (bY cl [(.b "list")] (aa 7))) (ρW ns x2 x3 x4 x5 x6 (some (.cell k)) x8 x9 x10 (some v) (some o)) M true:=λQ E q=>by
   refine ve ?_;simp only[bY];refine bV rfl ?_;refine aJ (z:=.b "list") (by simp only[tyG,hx]) ⟨by simp [cP],?_⟩;have e:([TyG.b "list"].any (isa (.b "list")))=true:=by decide
   rw[e];exact q
  refine Tb.if_ t (λ_=>?_) (λz=>by cases z);simp only[cX,gl,ac,ae,dC];refine bV rfl ⟨by simp only[bj,hx];rfl,?_⟩;refine aJ (z:=(.non,M.set k (.lst (xs++[.str "spoilt"])))) (by simp only[ij,hx];rw[if_pos (by unfold big;omega)]) (q _ (hd.setM (by omega) (by omega)))
theorem f_9(hy:StN 11337 y)(hd:Dr 0 T M)(hT:T+10 < 2 ^ 40)(q:∀ b M',StN 22713 b->Dr 0 (T+4) M'->F.nx (ρW ns x2 x3 x4 x5 (some (.str y)) x7 (some (.str b)) x9 x10 x11 x12) M'):(LW cl t4).f F (ρW ns x2 x3 x4 x5 (some (.str y)) x7 x8 x9 x10 x11 x12) M:=by simp only[LW,t4,aC];refine vc (g:=0) rfl (.v (i:=6) rfl) hy (by decide) hd (by omega) λb M1 h1 d1=>?_;exact aJ (z:=ρW ns x2 x3 x4 x5 (some (.str y)) x7 (some (.str b)) x9 x10 x11 x12) rfl (q b M1 h1 d1.dr)
theorem E4(hv:Vl v)(hy:StN 11337 y)(hb:StN 22713 b)(hd:Dr 0 T M)(hT:T+10 < 2 ^ 40)(q:∀ x9 M',Dr 0 (T+8) M'->F.nx (ρW ns x2 x3 x4 (some (.str (aG v))) (some (.str y)) x7 (some (.str b)) x9 x10 x11 x12) M'):(LW cl tQ).f F (ρW ns x2 x3 x4 (some (.str (aG v))) (some (.str y)) x7 (some (.str b)) x9 x10 x11 x12) M:=by
 simp only[LW,tQ,ez,c7,aI,ac,ae];refine bV rfl (bV rfl (bV rfl ?_));refine vc (g:=0) rfl (.v (i:=8) rfl) hb (by decide) hd (by omega) λb2 M1 h1 d1=>?_;refine vc (g:=0) rfl (.v (i:=5) rfl) hv.st (by decide) d1.dr (by omega) λb3 M2 h2 d2=>?_;refine⟨by show 5<=big;decide,?_⟩;simp only[iw,au];have D:Dr 0 (T+8) M2:=d2.dr.mono (by omega);refine jj (λ_ ρ M'=>M'=M2/\∃ x9,ρ=ρW ns x2 x3 x4 (some (.str (aG v))) (some (.str y)) x7 (some (.str b)) x9 x10 x11 x12) _ 0 _ _ ⟨rfl,x9,rfl⟩ ?_ ?_
 ·rintro i z ρ M' hx ⟨rfl,x9',rfl⟩;obtain⟨s,rfl,hs⟩:∃ s:Str,z=.str s/\StN 45465 s:=by
   have hm:=f7 hx;simp only[aM,cR,or_false] at hm;rcases hm with h|h|h|h|h
   ·exact⟨_,h,hv.st.mono (by decide)⟩
   ·exact⟨_,h,hy.mono (by decide)⟩
   ·exact⟨_,h,hb.mono (by decide)⟩
   ·exact⟨_,h,h1.mono (by decide)⟩
   ·exact⟨_,h,h2.mono (by decide)⟩
  refine⟨_,rfl,?_⟩;refine Tb.if_ (x:=!true) (.not (.tru (su (.v (i:=9) rfl) hs (by decide)) rfl)) (λz=>by cases z) (λ_=>bU ?_);exact⟨rfl,_,rfl⟩
 ·rintro ρ M' ⟨rfl,x9',rfl⟩;exact q _ _ D
def iD:List Tr:=[.non,.int 5,.str "",.str " ",.lst [],.tup [.str "0"],.bl true,.str "-0",.str "00",.str "1 2",.str "[1 2]",.str "[,]",.str "[1,]",.str "'a'b",.str "1->",.str "->"]
theorem Io{cl:List Nat}:∀ z∈iD,bu z=true/\cF cl z=true/\∀ x,z=.str x->StN 50000 x:=by
 intro z hz;unfold iD at hz;simp only[aM,cR,or_false] at hz;rcases hz with h|h|h|h|h|h|h|h|h|h|h|h|h|h|h|h
 all_goals subst h
 all_goals refine⟨by decide +kernel,by simp only[cF,gM],λx e=>?_⟩
 all_goals first|(cases e;done)|(cases e;exact⟨by decide +kernel,by decide +kernel⟩)
theorem E5(q:F.nx (ρW ns x2 x3 x4 x5 x6 x7 x8 x9 (some (.lst iD)) x11 x12) M):(LW cl tR).f F (ρW ns x2 x3 x4 x5 x6 x7 x8 x9 x10 x11 x12) M:=by simp only[LW,tR];refine Ex1.asg (d:=.lst iD) (.lst (.cons .cst (.cons .cst (.cons .cst (.cons .cst (.cons (.lst .nil (by decide)) (.cons (.tup (.cons .cst .nil) (by decide)) (.cons .cst (.cons .cst (.cons .cst (.cons .cst (.cons .cst (.cons .cst (.cons .cst (.cons .cst (.cons .cst (.cons .cst .nil)))))))))))))))) (by show 16<=big;decide)) q
theorem E6(hd:Dr 0 T M)(hT:T+10 < 2 ^ 40)(q:∀ M',Dr 0 (T+1) M'->F.nx (ρW ns x2 x3 x4 x5 x6 x7 x8 x9 (some (.lst iD)) x11 x12) M'):(LW cl tS).f F (ρW ns x2 x3 x4 x5 x6 x7 x8 x9 (some (.lst iD)) x11 x12) M:=by simp only[LW,tS,GT,cH,bp];show (GE (iR cl) [] 1 (ac (GE fW [] 2 (ac (aa 1) (ac (aa 10) ae))) ae)).f _ M _ _;simp only[GE,ac,ae];refine bV rfl (bV rfl ⟨rfl,0,T,.lst iD,iD,rfl,rfl,by decide,by decide,hd,by omega,λz hz M1 d1=>?_⟩);obtain⟨h1,h2,h3⟩:=Io (cl:=cl) z hz;refine⟨rfl,z,rfl,h1,h2,h3,?_⟩;exact q M1 d1.dr
theorem Hf(hd:Dr 0 T M)(hT:T+300000 < 2 ^ 40)(q:∀ x5 x6 x7 x8 x9 x10 x11 x12 M',Dr 0 (T+120000) M'->F.nx (ρW ns x2 x3 x4 x5 x6 x7 x8 x9 x10 x11 x12) M'):(LW cl tO).f F (ρW ns x2 x3 x4 x5 x6 x7 x8 x9 x10 x11 x12) M:=by simp only[LW,tO];refine aA (f_1 (cl:=cl) hd (by omega) λv o M1 hv ho d1=>?_);refine aA (f_2 (cl:=cl) hv ?_);refine aA (f_3 (cl:=cl) hv ho ?_);refine aA (f_4 (cl:=cl) hv ho ?_);refine aA (f_5 (cl:=cl) hv d1 (by omega) λy M2 hy hr d2=>?_);refine aA (f_6 (cl:=cl) hv hy hr d2 λd M3 h1 h2 d3=>?_);refine aA (f_7 (cl:=cl) hv h1 ?_);refine aA (f_8 (cl:=cl) hv h2 d3 λM4 d4=>?_);refine aA (f_9 (cl:=cl) hy d4 (by omega) λb M5 hb d5=>?_);refine aA (E4 (cl:=cl) hv hy hb d5 (by omega) λx9 M6 d6=>?_);refine aA (E5 (cl:=cl) ?_);exact E6 (cl:=cl) d6 (by omega) λM7 d7=>q _ _ _ _ _ _ _ _ M7 (d7.mono (by omega))
end
def e7 (a:Tr) (n:Nat):List Tr:=(bW n [a,.str "a",.lst [.non]]).flatten
theorem HG (a:Tr) (n:Nat):e7 a (n+1)=a::.str "a"::.lst [.non]::e7 a n:=by unfold e7;rw[i4,aaj];rfl
theorem yt{a:Tr}(h:eU a):∀ n,bg (e7 a n)=true/\c8 (e7 a n)<=1/\cp (e7 a n)<=n * 400/\fh (e7 a n)<=n * 56/\(e7 a n).length=3 * n
 | 0=>⟨rfl,eS _,aP _,aP _,rfl⟩
 | n+1=>by
  obtain⟨h1,h2,h3,h4,h5⟩:=yt h n;obtain⟨o1,o2⟩:=mS h;have l1:=sL h;have d1:=vJ o2;have z1:=(vK (tq o1 o2)).2;have wa:IR (.str "a")=true:=by decide +kernel
  have l2:(txt (.str "a")).length=3:=by rw[txt,a8];rfl
  have l3:(txt (.lst [.non])).length=6:=by rw[txt,txt,tl];rfl
  rw[HG];refine⟨?_,?_,?_,?_,?_⟩
  ·simp only[bg,o1,wa,h1,IR,dO,Bool.and_true]
   decide
  ·simp only[c8,a9,d1];omega
  ·simp only[cp,szV,z1];omega
  ·simp only[fh,l2,l3];omega
  ·simp only[az,h5];omega
structure Lg(v:Tr):Prop where
 ok:IR v=true
 dep:a9 v<=60
 sz:szV v<=1000000
 st:StN 50000 (aG v)
theorem Lg.of{a:Tr}(h:eU a){n:Nat}(hn:n<=700):Lg (.lst (e7 a n)):=by
 obtain⟨h1,h2,h3,h4,h5⟩:=yt h n;have ho:IR (.lst (e7 a n))=true:=by simp only[IR,h1,Bool.and_true];exact decide_eq_true (by omega)
 refine⟨ho,by simp only[a9];omega,by simp only[szV];omega,uM _ ho,?_⟩;rw[<- aU,ja _ ho];have:=yh (e7 a n);omega
theorem Lg.big{v:Tr}(h:Lg v):szV v<=DL.big:=by have:=h.sz;unfold DL.big;omega
section
variable {cl:List Nat}{ns:List Int}{T:Nat}{F:Fin}{M:Me}{x2 x3 x4 x5 x6 x7 x8 x9 x10 x11 x12:Option Tr}{v o:Tr}{y b:Str}{d:Tr}
theorem l_3(hd:Dr 0 T M)(hT:T+1000 < 2 ^ 40)(q:∀ v M',Lg v->F.nx (ρW ns x2 (some v) x4 x5 x6 x7 x8 x9 x10 x11 x12) M'):(LW cl t5).f F (ρW ns x2 x3 x4 x5 x6 x7 x8 x9 x10 x11 x12) M:=by
 simp only[LW,t5,aC,F3,aI];simp only[GE,ac,ae,dC];refine bV rfl ⟨rfl,0,T,rfl,hd,by omega,λa M1 ha d1=>?_⟩;refine⟨by decide,by show 3<=big;decide,?_⟩;refine bV rfl ⟨rfl,0,T+300,400,rfl,d1.dr,by omega,by decide,by decide,λr M2 r0 r1 d2=>?_⟩;refine aJ (z:=.int (300+r)) rfl ?_;have e:(300+r).toNat<=700:=by omega
 refine aJ (z:=.lst (e7 a (300+r).toNat)) ?_ ?_
 ·simp only[bT,bj];rw[if_pos]
  ·rfl
  ·simp only[ax,decide_eq_true_eq,az,aN];refine⟨⟨by omega,by omega⟩,by unfold big;omega⟩
 ·exact aJ (z:=ρW ns x2 (some (.lst (e7 a (300+r).toNat))) x4 x5 x6 x7 x8 x9 x10 x11 x12) rfl (q _ M2 (.of ha e))
theorem l_4(hv:Lg v)(q:F.nx (ρW ns x2 (some v) x4 x5 x6 x7 x8 x9 x10 x11 x12) M):(LW cl t9).f F (ρW ns x2 (some v) x4 x5 x6 x7 x8 x9 x10 x11 x12) M:=by simp only[LW,t9];obtain⟨w,w1,_,w3⟩:=uj (d:=v) (n:=60) (s:=1000000) ⟨hv.ok,hv.dep,hv.sz⟩ (by decide) (by decide);have e1:Ex1 (GE gx [] 1 (ac (aa 3) ae)) (ρW ns x2 (some v) x4 x5 x6 x7 x8 x9 x10 x11 x12) M (.str (aG v)):=nq (.v (i:=3) rfl) hv.ok hv.dep hv.big;have e2:Ex1 (GE (fU 61) [] 1 (ac (aa 3) ae)) (ρW ns x2 (some v) x4 x5 x6 x7 x8 x9 x10 x11 x12) M (.str (aG v)):=ss (.v (i:=3) rfl) hv.ok hv.dep hv.big;have r2:Ex1 (aB ca (ac (aa 3) ae)) (ρW ns x2 (some v) x4 x5 x6 x7 x8 x9 x10 x11 x12) M (.str w):=.call (.cons (.v (i:=3) rfl) .nil) (w3 _);have r3:Ex1 (aB ca (ac (GE (eO cl) [] 1 (ac (GE (fU 61) [] 1 (ac (aa 3) ae)) ae)) ae)) (ρW ns x2 (some v) x4 x5 x6 x7 x8 x9 x10 x11 x12) M (.str w):=.call (.cons (xk e2 hv.st (by decide) (AS hv.ok hv.dep)) .nil) (w3 _);exact Tb.if_ (x:=false) (.or (x:=false) (y:=false) (.of (.op e1 e2 (kh hv.st.1))) λ_=>.of (.op r3 r2 (kh w1))) (λz=>by cases z) (λ_=>bU q)
theorem BW{c n:Nat}(hc:c < 0x110000)(hn:n<=100):StN 100 (sOf (bW n c)):=⟨yM (om hc),by rw[js,iZ];exact hn⟩
theorem l_5(q:∀ x4,F.nx (ρW ns x2 x3 x4 x5 x6 x7 x8 x9 x10 x11 x12) M):(LW cl ua).f F (ρW ns x2 x3 x4 x5 x6 x7 x8 x9 x10 x11 x12) M:=by
 simp only[LW,ua,ez,rY,ac,ae,dC];refine⟨by decide,?_⟩;refine jj (λ_ ρ M'=>M'=M/\∃ x4,ρ=ρW ns x2 x3 x4 x5 x6 x7 x8 x9 x10 x11 x12) _ 0 _ _ ⟨rfl,x4,rfl⟩ ?_ ?_
 ·rintro i z ρ M' hx ⟨rfl,x4',rfl⟩;obtain⟨n,rfl,n0,n1⟩:∃ n:Int,z=.int n/\0<=n/\n<=100:=by
   have hm:=f7 hx;simp only[du,cJ,List.mem_range] at hm;obtain⟨j,hj,rfl⟩:=hm;exact⟨_,rfl,by omega,by omega⟩
  refine⟨_,rfl,?_⟩;show (GT _ _ _).f _ (ρW ns x2 x3 (some (.int n)) x5 x6 x7 x8 x9 x10 x11 x12) M';have hn:n.toNat<=100:=by omega
  have m1:Ex1 (F3 dR (dC (.str "[")) (aa 4)) (ρW ns x2 x3 (some (.int n)) x5 x6 x7 x8 x9 x10 x11 x12) M' (.str (sOf (bW n.toNat 91))):=.op .cst (.v (i:=4) rfl) (kf jW n0 (by omega));have m2:Ex1 (F3 dR (dC (.str "]")) (aa 4)) (ρW ns x2 x3 (some (.int n)) x5 x6 x7 x8 x9 x10 x11 x12) M' (.str (sOf (bW n.toNat 93))):=.op .cst (.v (i:=4) rfl) (kf kZ n0 (by omega));have s1:=BW (c:=91) (by decide) hn;have s2:=BW (c:=93) (by decide) hn;have s0:StN 1 ("0":Str):=⟨by decide +kernel,by decide +kernel⟩
  have a1:=Ex1.addSt m1 m2 s1 s2 (by decide);have a2:=Ex1.addSt (Ex1.addSt m1 (.cst (d:=.str "0")) s1 s0 (by decide)) m2 (s1.app s0) s2 (by decide);refine Tb.if_ (x:=false) (.or (x:=!true) (y:=!true) (.not (.tru (su a1 (s1.app s2) (by decide)) rfl)) λ_=>.not (.tru (su a2 ((s1.app s0).app s2) (by decide)) rfl)) (λz=>by cases z) (λ_=>bU ?_);exact⟨rfl,_,rfl⟩
 ·rintro ρ M' ⟨rfl,x4',rfl⟩;exact q _
end
def pT:Sf:=⟨λds M Q _=>∃ ns:List Int,ds=[.scr ns]/\M=[]/\ns.length<=63/\∀ M',Q (.bl true) M',λh _ ⟨ns,a,b,c,q⟩=>⟨ns,a,b,c,λM'=>h _ _ (q M')⟩⟩
theorem Gk{cl:List Nat}(ds:List Tr)(M:Me)(Q E:TK)(hl:ds.length=1)(h:pT.f ds M Q E) :
  (oV cl mx (hO 4) gx (fU 61) iS kM (eO cl) kK (iR cl) fW jD cZ).f (ap M.length Q E) (df qN ds) M:=by
 obtain⟨ns,rfl,rfl,hn,q⟩:=h;show (oV cl mx (hO 4) gx (fU 61) iS kM (eO cl) kK (iR cl) fW jD cZ).f (ap ([]:Me).length Q E) [some (.scr ns),none,none,none,none,none,none,none,none,none,none,none,none] [];have qe:∀ M',(ap ([]:Me).length Q E).rt (.bl true) M':=λM'=>.inl (q M');generalize ap ([]:Me).length Q E=F0 at *;simp only[oV];refine aA ?_;simp only[aC,GE,ac,ae];refine bV rfl ⟨rfl,ns,rfl,hn,λM1 hl1 _ hd=>?_⟩;refine aJ (z:=ρW ns none none none none none none none none none none none) rfl ?_;have hd1:Dr 0 0 M1:=hd;refine aA ?_;simp only[zE,ez,gQ,F3,ac,ae,aB,dC,aa,aE,bx,cO,bF,au,nY,nX,cj];have hJ:∃ J:Int,0<=J/\J<=10/\(if (if (ns.length:Int) < 10 then (ns.length:Int) else 10) > 3 then (if (ns.length:Int) < 10 then (ns.length:Int) else 10) else 3)=J:=by
  refine⟨_,?_,?_,rfl⟩ <;> (split <;> first|omega|(split <;> omega))
 obtain⟨J,j1,j2,eJ⟩:=hJ;rw[eJ];refine⟨by omega,?_⟩;have hlen:(du 0 J.toNat).length<=10:=by rw[du,cj,aav];omega
 refine jj (λn ρ M'=>∃ x2 x3 x4 x5 x6 x7 x8 x9 x10 x11 x12,ρ=ρW ns x2 x3 x4 x5 x6 x7 x8 x9 x10 x11 x12/\Dr 0 (n * 120000) M') _ 0 _ _ ⟨_,_,_,_,_,_,_,_,_,_,_,rfl,hd1.mono (by omega)⟩ ?_ ?_
 ·rintro i x ρ M2 hx ⟨x2,x3,x4,x5,x6,x7,x8,x9,x10,x11,x12,rfl,hd2⟩;have hi:i < (du 0 J.toNat).length:=(bL.mp hx).1;have hT:(0+i) * 120000<=1200000:=aab 120000 (show 0+i<=10 by omega);have hT2:(0+i+1) * 120000=(0+i) * 120000+120000:=by rw[Nat.add_mul,Nat.one_mul]
  refine⟨_,rfl,?_⟩;refine Hf (cl:=cl) (T:=(0+i) * 120000) hd2 (by omega) λx5 x6 x7 x8 x9 x10 x11 x12 M' h1=>⟨_,_,_,_,_,_,_,_,_,_,_,rfl,?_⟩
  rw[hT2];exact h1
 ·rintro ρ M2 ⟨x2,x3,x4,x5,x6,x7,x8,x9,x10,x11,x12,rfl,hd2⟩;have hT:(0+(du 0 J.toNat).length) * 120000<=10 * 120000:=aab 120000 (by omega);refine aA (l_3 (cl:=cl) hd2 (by omega) λv M3 hv=>?_);refine aA (l_4 (cl:=cl) hv ?_);refine aA (l_5 (cl:=cl) λx4'=>?_);simp only[ao,dC];exact qe _
structure Wd(K:Frg)(mg:Str->Option Value):Prop where
 B:Bn mg
 I:dD K cl
 c_MOST_LETTERS:∃ t,mg "MOST_LETTERS"=some (.int 8 t)
 c_LETTERS:∃ t,mg "LETTERS"=some (.str "abcdefghijklmnopqrstuvwxyz" t)
 c_MOST_LISTS:∃ t,mg "MOST_LISTS"=some (.int 60 t)
 X_BadValue:XcK K 0
 g_BadValue:mg "BadValue"=some (.ref (He.ga K "BadValue"))
 c_MOST_FIGURES:∃ t,mg "MOST_FIGURES"=some (.int 40 t)
 c_FIGURES:∃ t,mg "FIGURES"=some (.str "0123456789" t)
 XS:XsK K ec
 g_CaseError:mg "CaseError"=some (.ref (He.ga K "CaseError"))
 g_BadText:mg "BadText"=some (.ref (He.ga K "BadText"))
 q_line:∀ c i,(c,i)∈mI->c < 1000/\(efs c)[i]?=some "line"/\(efs c).Nodup/\XfK K c "line"
 o_spot:∀ c i,(c,i)∈eo->dB K "spot" c i
 o_signs:∀ c i,(c,i)∈fK->dB K "signs" c i
 o_rows:∀ c i,(c,i)∈eX->dB K "rows" c i
 c_MOST_OPEN:∃ t,mg "MOST_OPEN"=some (.int 100 t)
 l_Reader_peek:gh K "Reader" "peek" "Reader.peek" iN
 g_Reader:mg "Reader"=some (.ref (He.ga K "Reader"))
 l_Reader_take:gh K "Reader" "take" "Reader.take" iO
 l_Reader_need:gh K "Reader" "need" "Reader.need" iL
 l_Reader_listed:gh K "Reader" "listed" "Reader.listed" iK
 l_Reader_part:gh K "Reader" "part" "Reader.part" iM
 xo_9:XoK K 9
 XI:XiK K
 n_BadText:vA K 9 "BadText.__init__" g8
 wn:bM K mg "is_word" lU
 wk:bM K mg "is_integer" lR
 wj:bM K mg "is_atom" lP
 sh:bM K mg "stands" mr
 wm:bM K mg "is_value" lT
 wF:bM K mg "need_value" mn
 wo:bM K mg "kind_here" lV
 sd:bM K mg "is_same" lS
 wH:bM K mg "same" mq
 wi:bM K mg "atom_text" lO
 si:bM K mg "text_here" mu
 wJ:bM K mg "value_text" mv
 wg:bM K mg "atom_in" lN
 wI:bM K mg "signs_in" kH
 wG:bM K mg "read_value" mo
 wu:bM K mg "_law_begun" lY
 wC:bM K mg "_law_take" mi
 wx:bM K mg "_law_pick" l8
 wD:bM K mg "_law_word" mm
 wq:bM K mg "_law_atom" lW
 sg:bM K mg "_law_value" ml
 sf:bM K mg "_law_text" mj
 wA:bM K mg "_law_signs" mf
 wt:bM K mg "_law_atom_of" lX
 se:bM K mg "_law_from" l7
 wy:bM K mg "_law_read" l9
 wB:bM K mg "_law_spaced" mh
 wv:bM K mg "_law_bent" lZ
 wz:bM K mg "_law_right" me
 Ee:bM K mg "law" iP
 we:vm K mg "Reader" "Reader.__init__" iJ []
section
variable {P:Program}{w:World}{K:Frg}{mg:Str->Option Value}{base:Heap}
variable (Wq:Wd K mg)
include Wq
theorem qh{k:Nat}(hk:2<=k):Xm false P w K mg base k 9:=by
 obtain⟨f,fd,D,M⟩:=Wq.n_BadText;exact(Li (g:=false) (by decide) Wq.g_BadText Wq.xo_9 M (FX D Wq.xo_9 Wq.XI Wq.g_CaseError) (D.bindsN (fun|_,_,_,_,_,_,[_,_],_=>rfl))).up hk
theorem xt:Fn false P w K mg base "is_word" 2 1 [] (jG cl):=cV (k:=1) Wq.wn Bk (λ_ _ _ _ _ _ _ hr hgd=>Dm (k:=0) Wq.B hr Wq.I Wq.c_MOST_LETTERS Wq.c_LETTERS) (Gi cl)
theorem FD:Fn false P w K mg base "is_integer" 2 1 [] (pQ cl):=cV (k:=1) Wq.wk Bh (λ_ _ _ _ _ _ _ hr hgd=>Dj (k:=0) Wq.B hr Wq.I) (Ge cl)
theorem FC:Fn false P w K mg base "is_atom" 3 1 [] (kL cl):=cV (k:=2) Wq.wj Bg (λ_ _ _ _ _ _ _ hr hgd=>Di (k:=1) Wq.B hr ((FD Wq).u) ((xt Wq).u)) (Gc cl)
theorem xD:∀ n:Nat,Fn false P w K mg base "stands" (n+3) 2 [] ((hL cl) n)
 | 0=>by
  obtain⟨f,fd,D,hm⟩:=Wq.sh;refine j6 D hm (ps:=["thing","lists"]) (fun|_,_,_,_,_,_,[_,_],_=>rfl) λds M Q E h=>?_;simp only[hL,sp1,sp2,f9,and_false,false_and,exists_false] at h
 | n+1=>by
  obtain⟨f,fd,D,hm⟩:=Wq.sh;have ih:=xD n;exact(jh (k:=n+3) D hm BH (λ_ _ _ _ _ _ hr hgd=>DN (k:=n+2) Wq.B hr Wq.I ((FC Wq).u) (ih.u)) (GM cl n)).u
theorem xr:Fn false P w K mg base "is_value" 65 1 [] (jF cl):=cV (k:=64) Wq.wm Bj (λ_ _ _ _ _ _ _ hr hgd=>Dl (k:=63) Wq.B hr ((xD Wq 61).u) Wq.c_MOST_LISTS) (Gg cl)
theorem xA:Fn false P w K mg base "need_value" 66 1 [] (jJ cl):=cV (k:=65) Wq.wF BD (λ_ _ _ _ _ _ _ hr hgd=>DI (k:=64) Wq.B hr ((xr Wq).u) Wq.X_BadValue Wq.g_BadValue) (Gv cl)
theorem FE:Fn false P w K mg base "kind_here" 2 1 [] jH:=cV (k:=1) Wq.wo Bl (λ_ _ _ _ _ _ _ hr hgd=>Do (k:=0) Wq.B hr Wq.I) (Gj cl)
theorem xq:∀ n:Nat,Fn false P w K mg base "is_same" (n+2) 2 [] (fB n)
 | 0=>by
  obtain⟨f,fd,D,hm⟩:=Wq.sd;refine j6 D hm (ps:=["one","other"]) (fun|_,_,_,_,_,_,[_,_],_=>rfl) λds M Q E h=>?_;simp only[fB,sp1,sp2,f9,and_false,false_and,exists_false] at h
 | n+1=>by
  obtain⟨f,fd,D,hm⟩:=Wq.sd;have ih:=xq n;exact(jh (k:=n+2) D hm Bi (λ_ _ _ _ _ _ hr hgd=>Dk (k:=n+1) Wq.B hr Wq.I (ih.u) ((FE Wq).u)) (Gf cl n)).u
theorem FQ:Fn false P w K mg base "same" 67 2 [] iS:=cV (k:=66) Wq.wH BF (λ_ _ _ _ _ _ _ hr hgd=>DK (k:=65) Wq.B hr ((xA Wq).u) ((xq Wq 61).u)) (GH cl)
theorem Fx:Fn false P w K mg base "atom_text" 2 1 [] jE:=cV (k:=1) Wq.wi Bf (λ_ _ _ _ _ _ _ hr hgd=>Dh (k:=0) Wq.B hr Wq.I) (F9 cl)
theorem xE:∀ n:Nat,Fn false P w K mg base "text_here" (n+2) 1 [] (fX n)
 | 0=>by
  obtain⟨f,fd,D,hm⟩:=Wq.si;refine j6 D hm (ps:=["value"]) (fun|_,_,_,_,_,_,[_],_=>rfl) λds M Q E h=>?_;simp only[fX,sp1,sp2,f9,and_false,false_and,exists_false] at h
 | n+1=>by
  obtain⟨f,fd,D,hm⟩:=Wq.si;have ih:=xE n;exact(jh (k:=n+2) D hm BI (λ_ _ _ _ _ _ hr hgd=>DO (k:=n+1) Wq.B hr Wq.I ((Fx Wq).u) (ih.u)) (GO cl n)).u
theorem FS:Fn false P w K mg base "value_text" 67 1 [] gx:=cV (k:=66) Wq.wJ BJ (λ_ _ _ _ _ _ _ hr hgd=>DP (k:=65) Wq.B hr ((xA Wq).u) ((xE Wq 61).u)) (GQ cl)
theorem Fw:Fn false P w K mg base "atom_in" 3 1 [] cY:=cV (k:=2) Wq.wg Be (λ_ _ _ _ _ _ _ hr hgd=>Dg (k:=1) Wq.B hr ((xt Wq).u) Wq.c_MOST_FIGURES Wq.c_FIGURES) (F8)
theorem FR:Fn false P w K mg base "signs_in" 2 1 [] pX:=by
 obtain⟨f,fd,D,hm⟩:=Wq.wI;exact FB (k:=1) (ps:=["line"]) D hm BG (by decide +kernel) (by decide) (fun|_,_,_,_,_,_,[_],_=>rfl) (λcdv A outer s H E hr=>DM (k:=0) Wq.B hr ) (λds M Q E hl q=>GJ ds M Q E hl q)
theorem HU {k:Nat} (hk:2<=k):Mkr P w K mg base "Reader" 7 k 1 [] pW:=by
 obtain⟨f,fd,D,hmk,hm⟩:=Wq.we;exact(HV (k:=1) (n:=1) (by decide +kernel) D hmk hm A7 (D.bindsN (fun|_,_,_,_,_,_,[_,_],_=>rfl)) rfl (λcdv A outer s H E hr=>C9 (k:=0) Wq.B hr Wq.o_signs Wq.o_spot Wq.o_rows) GD).up hk
theorem oq:cq P w K mg base 7 "peek" 2 1 cy:=by
 obtain⟨⟨f,fd,D,hs⟩,hc⟩:=Wq.l_Reader_peek;exact⟨⟨f,fd,_,iy (g:=false) (k:=1) (sp:=cy) (ps:=["self"]) D Bb (λcdv A outer s H E hr _=>De (k:=0) Wq.B hr Wq.o_spot Wq.o_signs) (P:=P) (w:=w) (mg:=mg) (base:=base) (λds M Q E hl _ hC q=>Gy ds M Q E hl q),hs,D.bindsN (fun|_,_,_,_,_,_,[_],_=>rfl)⟩,hc,by decide +kernel⟩
theorem yS:cq P w K mg base 7 "take" 3 1 jK:=by
 obtain⟨⟨f,fd,D,hs⟩,hc⟩:=Wq.l_Reader_take;exact⟨⟨f,fd,_,iy (g:=false) (k:=2) (sp:=jK) (ps:=["self"]) D Bc (λcdv A outer s H E hr _=>Df (k:=1) Wq.B hr ((oq Wq).up (by omega)) Wq.o_spot) (P:=P) (w:=w) (mg:=mg) (base:=base) (λds M Q E hl _ hC q=>GG ds M Q E hl q),hs,D.bindsN (fun|_,_,_,_,_,_,[_],_=>rfl)⟩,hc,by decide +kernel⟩
theorem IA:cq P w K mg base 7 "need" 4 2 hI:=by
 obtain⟨⟨f,fd,D,hs⟩,hc⟩:=Wq.l_Reader_need;exact⟨⟨f,fd,_,iy (g:=false) (k:=3) (sp:=hI) (ps:=["self","sign"]) D A9 (λcdv A outer s H E hr _=>Dc (k:=2) Wq.B hr ((yS Wq).up (by omega)) (qh Wq (by omega))) (P:=P) (w:=w) (mg:=mg) (base:=base) (λds M Q E hl _ hC q=>GF ds M Q E hl q),hs,D.bindsN (fun|_,_,_,_,_,_,[_,_],_=>rfl)⟩,hc,by decide +kernel⟩
theorem yR {n:Nat} (L0:cq P w K mg base 7 "listed" (n+n+6) 1 (jI n)):cq P w K mg base 7 "part" (n+n+7) 1 (fC n):=by
 obtain⟨⟨f,fd,D,hs⟩,hc⟩:=Wq.l_Reader_part;exact⟨⟨f,fd,_,iy (g:=false) (k:=n+n+6) (sp:=fC n) (ps:=["self"]) D Ba (λcdv A outer s H E hr _=>Dd (k:=n+n+5) Wq.B hr ((oq Wq).up (by omega)) L0 ((Fw Wq).u) ((yS Wq).up (by omega)) (qh Wq (by omega))) (P:=P) (w:=w) (mg:=mg) (base:=base) (λds M Q E hl _ hC q=>Gx (cl:=cl) ds M Q E hl q),hs,D.bindsN (fun|_,_,_,_,_,_,[_],_=>rfl)⟩,hc,by decide +kernel⟩
theorem yQ:∀ n:Nat,cq P w K mg base 7 "listed" (n+n+6) 1 (jI n)
 | 0=>by
  obtain⟨⟨f,fd,D,hs⟩,hc⟩:=Wq.l_Reader_listed;refine⟨⟨f,fd,["self"],⟨λvs H Q E q=>q.1,λA outer s H args us vs Q E _ _ _ _ _ q=>?_⟩,hs,D.bindsN (fun|_,_,_,_,_,_,[_],_=>rfl)⟩,hc,by decide +kernel⟩;obtain⟨_,ds,M,S,_,_,h⟩:=q;simp only[jI,f9,and_false,false_and,exists_false] at h
 | n+1=>by
  have L0:=yR Wq (yQ n);obtain⟨⟨f,fd,D,hs⟩,hc⟩:=Wq.l_Reader_listed;exact cq.up ⟨⟨f,fd,_,iy (g:=false) (k:=n+n+7) (sp:=jI (n+1)) (ps:=["self"]) D A8 (λcdv A outer s H E hr _=>Da (k:=n+n+6) Wq.B hr ((IA Wq).up (by omega)) (qh Wq (by omega)) ((oq Wq).up (by omega)) L0 Wq.o_rows Wq.c_MOST_OPEN) (P:=P) (w:=w) (mg:=mg) (base:=base) (λds M Q E hl _ hC q=>Gn ds M Q E hl hC q),hs,D.bindsN (fun|_,_,_,_,_,_,[_],_=>rfl)⟩,hc,by decide +kernel⟩ (by omega)
theorem IB:cq P w K mg base 7 "part" 209 1 (fC 101):=(yR Wq (yQ Wq 101)).up (by omega)
theorem xC:Fn false P w K mg base "read_value" 210 1 [] (eO cl):=by
 obtain⟨f,fd,D,hm⟩:=Wq.wG;exact xp (k:=209) D hm BE (λ_ _ _ _ _ _ us hl=>match us,hl with|[_],_=>rfl) (λ_ _ _ _ _ _ hr hgd=>DJ (k:=208) Wq.B hr Wq.I (qh Wq (by omega)) (HU Wq (by omega)) ((FR Wq).u) ((IB Wq).up (by omega)) ((oq Wq).up (by omega)) ((xr Wq).u)) (GA cl)
theorem FH:Fn false P w K mg base "_law_begun" 2 1 [] mx:=cV (k:=1) Wq.wu Br (λ_ _ _ _ _ _ _ hr hgd=>Du (k:=0) Wq.B hr ) (Ga)
theorem ji:Fn false P w K mg base "_law_take" 2 2 [] cZ:=cV (k:=1) Wq.wC Bz (λ_ _ _ _ _ _ _ hr hgd=>DE (k:=0) Wq.B hr ) (GN)
theorem sE:Fn false P w K mg base "_law_pick" 3 2 [] fW:=cV (k:=2) Wq.wx Bu (λ_ _ _ _ _ _ _ hr hgd=>Dz (k:=1) Wq.B hr ((ji Wq).u)) (Gz)
theorem FO:Fn false P w K mg base "_law_word" 4 2 [] pZ:=cV (k:=3) Wq.wD BC (λ_ _ _ _ _ _ _ hr hgd=>DH (k:=2) Wq.B hr ((ji Wq).u) ((sE Wq).u)) (GU)
theorem xu:Fn false P w K mg base "_law_atom" 5 1 [] jD:=cV (k:=4) Wq.wq Bo (λ_ _ _ _ _ _ _ hr hgd=>Ds (k:=3) Wq.B hr ((ji Wq).u) ((FO Wq).u)) (F6)
theorem xy:∀ n:Nat,Fn false P w K mg base "_law_value" (n+5) 2 [] (hO n)
 | 0=>by
  obtain⟨f,fd,D,hm⟩:=Wq.sg;refine j6 D hm (ps:=["_law_draw","_law_deep"]) (fun|_,_,_,_,_,_,[_,_],_=>rfl) λds M Q E h=>?_;simp only[hO,sp1,sp2,f9,and_false,false_and,exists_false] at h
 | n+1=>by
  obtain⟨f,fd,D,hm⟩:=Wq.sg;have ih:=xy n;exact(jh (k:=n+5) D hm BB (λ_ _ _ _ _ _ hr hgd=>DG (k:=n+4) Wq.B hr ((ji Wq).u) ((xu Wq).u) (ih.u)) (GP n)).u
theorem xw:∀ n:Nat,Fn false P w K mg base "_law_text" (n+2) 1 [] (fU n)
 | 0=>by
  obtain⟨f,fd,D,hm⟩:=Wq.sf;refine j6 D hm (ps:=["_law_value_here"]) (fun|_,_,_,_,_,_,[_],_=>rfl) λds M Q E h=>?_;simp only[fU,sp1,sp2,f9,and_false,false_and,exists_false] at h
 | n+1=>by
  obtain⟨f,fd,D,hm⟩:=Wq.sf;have ih:=xw n;exact(jh (k:=n+2) D hm BA (λ_ _ _ _ _ _ hr hgd=>DF (k:=n+1) Wq.B hr Wq.I (ih.u)) (Gu cl n)).u
theorem FL:Fn false P w K mg base "_law_signs" 2 1 [] pU:=cV (k:=1) Wq.wA Bx (λ_ _ _ _ _ _ _ hr hgd=>DC (k:=0) Wq.B hr ) (Gq)
theorem FG:Fn false P w K mg base "_law_atom_of" 2 1 [] cY:=cV (k:=1) Wq.wt Bp (λ_ _ _ _ _ _ _ hr hgd=>Dt (k:=0) Wq.B hr ) (F7)
theorem xv:∀ n:Nat,Fn false P w K mg base "_law_from" (n+2) 3 [] (dM n)
 | 0=>by
  obtain⟨f,fd,D,hm⟩:=Wq.se;refine j6 D hm (ps:=["_law_signs_here","_law_at","_law_room"]) (fun|_,_,_,_,_,_,[_,_,_],_=>rfl) λds M Q E h=>?_;simp only[dM,sp1,sp2,f9,and_false,false_and,exists_false] at h
 | n+1=>by
  obtain⟨f,fd,D,hm⟩:=Wq.se;have ih:=xv n;exact(jh (k:=n+2) D hm Bt (λ_ _ _ _ _ _ hr hgd=>Dy (k:=n+1) Wq.B hr ((FG Wq).u) (ih.u)) (@Gm n)).u
theorem FJ:Fn false P w K mg base "_law_read" 64 1 [] (iQ cl):=cV (k:=63) Wq.wy Bv (λ_ _ _ _ _ _ _ hr hgd=>DA (k:=62) Wq.B hr Wq.I ((FL Wq).u) ((xv Wq 61).u)) (Gp cl)
theorem FN:Fn false P w K mg base "_law_spaced" 3 2 [] kM:=cV (k:=2) Wq.wB By (λ_ _ _ _ _ _ _ hr hgd=>DD (k:=1) Wq.B hr ((ji Wq).u)) (GL)
theorem FI:Fn false P w K mg base "_law_bent" 4 2 [] kK:=cV (k:=3) Wq.wv Bs (λ_ _ _ _ _ _ _ hr hgd=>Dx (k:=2) Wq.B hr ((ji Wq).u) ((sE Wq).u)) (Gb)
theorem FK:Fn true P w K mg base "_law_right" 211 1 [] (iR cl):=by
 obtain⟨f,fd,D,hm⟩:=Wq.wz;exact xp (k:=210) D hm Bw (λ_ _ _ _ _ _ us hl=>match us,hl with|[_],_=>rfl) (λ_ _ _ _ _ _ hr hgd=>DB (k:=209) Wq.B hr (hgd rfl) ((FJ Wq).u) Wq.XS Wq.g_CaseError ((xC Wq).u) Wq.g_BadText Wq.g_BadValue Wq.q_line) (GB cl)
theorem FF (hTA:vy K mg base) (hTK:vz K) (hG:jm K "law"=true) {f:Addr} {fd:FuncData} (D:FunD K "law" "law" (defArgs iP) (defBody iP) (defScope iP) [] [] f fd) (hga:f=He.ga K "law"):cc true P w K mg base (L2.CX P w) 225 f fd ["_law_script"] (liftF K pT 1):=by exact FP (g:=true) (k:=224) (ps:=["_law_script"]) D Bm (λ_ _ _ _ _ _ hC hr hgd=>Dq (k:=223) Wq.B hr (hgd rfl) ((FH Wq).u) ((xy Wq 4).u) ((FS Wq).u) ((xw Wq 61).u) ((FQ Wq).u) ((FN Wq).u) ((xC Wq).u) Wq.I ((FI Wq).u) ((FK Wq).u) ((sE Wq).u) ((xu Wq).u) ((ji Wq).u)) λds M Q E hl _ _ q=>Gk ds M Q E hl q
end
end DL
section T_LawF
namespace DL
open PySem PySem.Spec PyProof.Rows L2
open PySem.W renaming Frag -> Frg
section
variable {K:Frg}{h:Heap}{mg:Str->Option Value}(X:K.In h)(G:h.Ns mainGlobals mg)(c:He.SaysD faL fnL K)
include X G c
theorem Fc:Bn mg where
 len:=frk X G c 34
 int:=frk X G c 35
 abs:=frk X G c 36
 sum:=frk X G c 37
 all:=frk X G c 38
 any:=frk X G c 39
 max:=frk X G c 40
 min:=frk X G c 41
 range:=frk X G c 42
 list:=frk X G c 43
 tuple:=frk X G c 44
 str:=frk X G c 45
 sorted:=frk X G c 46
 set:=frk X G c 47
 dict:=frk X G c 48
 isinstance:=frk X G c 49
 repr:=frk X G c 50
 enumerate:=frk X G c 51
 zip:=frk X G c 52
 reversed:=frk X G c 53
 divmod:=frk X G c 54
 bool:=frk X G c 55
 ValueError:=frk X G c 56
theorem Fo:∀ c i,(c,i)∈eo->dB K "spot" c i:=by
 intro n i hm;simp only[eo,aM,cR,or_false,Prod.mk.injEq] at hm;rcases hm with ⟨rfl,rfl⟩
 ·exact⟨He.cls_ok (c.fact 57 (f:=.cls "Reader") rfl),He.noat_ok (c.fact 59 (f:=.noat "Reader" "spot") rfl),by decide +kernel,by decide +kernel⟩
theorem Fm:∀ c i,(c,i)∈fK->dB K "signs" c i:=by
 intro n i hm;simp only[fK,aM,cR,or_false,Prod.mk.injEq] at hm;rcases hm with ⟨rfl,rfl⟩
 ·exact⟨He.cls_ok (c.fact 57 (f:=.cls "Reader") rfl),He.noat_ok (c.fact 58 (f:=.noat "Reader" "signs") rfl),by decide +kernel,by decide +kernel⟩
theorem Fl:∀ c i,(c,i)∈eX->dB K "rows" c i:=by
 intro n i hm;simp only[eX,aM,cR,or_false,Prod.mk.injEq] at hm;rcases hm with ⟨rfl,rfl⟩
 ·exact⟨He.cls_ok (c.fact 57 (f:=.cls "Reader") rfl),He.noat_ok (c.fact 60 (f:=.noat "Reader" "rows") rfl),by decide +kernel,by decide +kernel⟩
theorem Fh:gh K "Reader" "peek" "Reader.peek" iN:=by obtain⟨fd,F⟩:=c.def_ 16 (d:=wQ) rfl;exact⟨⟨_,fd,F,He.meth_ok (c.fact 65 (f:=.meth "Reader" "peek") rfl)⟩,He.cls_ok (c.fact 57 (f:=.cls "Reader") rfl)⟩
theorem Fj:gh K "Reader" "take" "Reader.take" iO:=by obtain⟨fd,F⟩:=c.def_ 17 (d:=wR) rfl;exact⟨⟨_,fd,F,He.meth_ok (c.fact 66 (f:=.meth "Reader" "take") rfl)⟩,He.cls_ok (c.fact 57 (f:=.cls "Reader") rfl)⟩
theorem Ff:gh K "Reader" "need" "Reader.need" iL:=by obtain⟨fd,F⟩:=c.def_ 18 (d:=wN) rfl;exact⟨⟨_,fd,F,He.meth_ok (c.fact 63 (f:=.meth "Reader" "need") rfl)⟩,He.cls_ok (c.fact 57 (f:=.cls "Reader") rfl)⟩
theorem Fe:gh K "Reader" "listed" "Reader.listed" iK:=by obtain⟨fd,F⟩:=c.def_ 19 (d:=wM) rfl;exact⟨⟨_,fd,F,He.meth_ok (c.fact 62 (f:=.meth "Reader" "listed") rfl)⟩,He.cls_ok (c.fact 57 (f:=.cls "Reader") rfl)⟩
theorem Fg:gh K "Reader" "part" "Reader.part" iM:=by obtain⟨fd,F⟩:=c.def_ 20 (d:=wO) rfl;exact⟨⟨_,fd,F,He.meth_ok (c.fact 64 (f:=.meth "Reader" "part") rfl)⟩,He.cls_ok (c.fact 57 (f:=.cls "Reader") rfl)⟩
theorem Fk:vA K 9 "BadText.__init__" g8:=by obtain⟨fd,F⟩:=c.def_ 0 (d:=wK) rfl;exact⟨_,fd,F,He.meth_ok (c.fact 67 (f:=.meth "BadText" "__init__") rfl)⟩
theorem Fd:vm K mg "Reader" "Reader.__init__" iJ []:=by obtain⟨fd,F⟩:=c.def_ 15 (d:=wL) rfl;exact⟨_,fd,F,He.mkr_ok (c.fact 61 (f:=.mkr "Reader") rfl),(gk X G c 30)⟩
theorem facts(hx:exB K=true):Wd K mg:=by
 simp only[exB,ax] at hx;obtain⟨⟨⟨⟨⟨h0,h1⟩,h2⟩,h3⟩,h4⟩,h5⟩:=hx;exact {
  B:=Fc X G c
  I:=G8 h0
  c_MOST_LETTERS:=He.int_ok X G (c.fact 70 (f:=.int "MOST_LETTERS" 8) rfl)
  c_LETTERS:=He.str_ok X G (c.fact 68 (f:=.str "LETTERS" "abcdefghijklmnopqrstuvwxyz") rfl)
  c_MOST_LISTS:=He.int_ok X G (c.fact 72 (f:=.int "MOST_LISTS" 60) rfl)
  X_BadValue:=Ld h2
  g_BadValue:=(gk X G c 32)
  c_MOST_FIGURES:=He.int_ok X G (c.fact 71 (f:=.int "MOST_FIGURES" 40) rfl)
  c_FIGURES:=He.str_ok X G (c.fact 69 (f:=.str "FIGURES" "0123456789") rfl)
  XS:=Lj h1
  g_CaseError:=(gk X G c 31)
  g_BadText:=(gk X G c 33)
  q_line:=(λc i hm=>by
   simp only[mI,aM,cR,or_false,Prod.mk.injEq] at hm;rcases hm with ⟨rfl,rfl⟩
   ·exact⟨by decide,rfl,by decide,Lf h5 (CH h4) (by decide)⟩)
  o_spot:=Fo X G c
  o_signs:=Fm X G c
  o_rows:=Fl X G c
  c_MOST_OPEN:=He.int_ok X G (c.fact 73 (f:=.int "MOST_OPEN" 100) rfl)
  l_Reader_peek:=Fh X G c
  g_Reader:=(gk X G c 30)
  l_Reader_take:=Fj X G c
  l_Reader_need:=Ff X G c
  l_Reader_listed:=Fe X G c
  l_Reader_part:=Fg X G c
  xo_9:=CH h4
  XI:=Lh h3
  n_BadText:=Fk X G c
  wn:=dfk X G c 1 0
  wk:=dfk X G c 2 1
  wj:=dfk X G c 3 2
  sh:=dfk X G c 4 3
  wm:=dfk X G c 5 4
  wF:=dfk X G c 6 5
  wo:=dfk X G c 7 6
  sd:=dfk X G c 8 7
  wH:=dfk X G c 9 8
  wi:=dfk X G c 10 9
  si:=dfk X G c 11 10
  wJ:=dfk X G c 12 11
  wg:=dfk X G c 13 12
  wI:=dfk X G c 14 13
  wG:=dfk X G c 21 14
  wu:=dfk X G c 22 15
  wC:=dfk X G c 23 16
  wx:=dfk X G c 24 17
  wD:=dfk X G c 25 18
  wq:=dfk X G c 26 19
  sg:=dfk X G c 27 20
  sf:=dfk X G c 28 21
  wA:=dfk X G c 29 22
  wt:=dfk X G c 30 23
  se:=dfk X G c 31 24
  wy:=dfk X G c 32 25
  wB:=dfk X G c 33 26
  wv:=dfk X G c 34 27
  wz:=dfk X G c 35 28
  Ee:=dfk X G c 36 29
  we:=Fd X G c
 }
end
theorem isGlo_of{K:Frg}{x:Str}(c:(He.Fa.glo x).ok K=true):jm K x=true:=by unfold jm;rw[show PySem.W.nsIn K mainGlobals x=some (some (.ref (He.ga K x))) from He.eqO_ok c]
def noT(H:Hp):Hp:=λa=>match H a with
 | some (.tbl _)=>none
 | o=>o
theorem yD{H:Hp}{a:Addr}{o:HO}(h:H a=some o)(n:∀ ps,o≠.tbl ps):noT H a=some o:=by
 unfold noT;rw[h];cases o <;> first|rfl|exact absurd rfl (n _)
theorem yE{H:Hp}{a:Addr}{o:HO}(h:noT H a=some o):H a=some o/\∀ ps,o≠.tbl ps:=by
 unfold noT at h
 split at h
 ·cases h
 ·rename_i e;exact⟨h,λps z=>e ps (by rw[h,z])⟩
theorem Kq{K:Frg}{H:Hp}{a:Addr}{xs:List V}(h:SqL K H a xs):SqL K (noT H) a xs:=by
 rcases h with (h|⟨u,h⟩)|h
 ·exact .inl (.inl (yD h nofun))
 ·exact .inl (.inr ⟨u,yD h nofun⟩)
 ·exact .inr h
theorem law_start{K:Frg}{h:Heap}{H:Hp}{a:Addr}{ns:List Int}(c:fF faL fnL llL exB h K)(hH:∀ p∈csOf K llL,H p.2=some (.tbl #[]))(hl:ns.length<=63)(hS:SqL K H a (ns.map V.int)):liftF K pT 1 [.ref a] H (λv _=>v=.bl true) λ_ _ _=>False:=by
 refine⟨rfl,[.scr ns],[],⟨noT H,[]⟩,?_,?_,ns,rfl,rfl,hl,λM' v H' S' _ _ hr=>?_⟩
 ·exact⟨λ_ _ h=>(yE h).1,rfl,List.nodup_nil,λk a c h=>by simp at h,⟨c.start hH,λa ps z=>(yE z).2 ps rfl⟩⟩
 ·simp only[ah,Rep];exact⟨_,_,rfl,⟨a,rfl,Kq hS⟩,rfl⟩
 ·simpa only [Rep] using hr
end DL
open PySem PySem.W PySem.Calls PyProof.Rows
theorem PySem.Challenge.cw_starcases_k03_whole_value_texts_holds : PySem.Challenge.rw_starcases_k03_whole_value_texts.Holds := by
 refine DL.holds_of ?hc
 case hc =>
  refine DL.walk_GT (l:=PySem.Challenge.rw_starcases_k03_whole_value_texts) (n:=63) (k:=225) (x:="_law_script") (CX:=λw=>L2.CX (PySem.Challenge.rw_starcases_k03_whole_value_texts).prog w) rfl (by decide) (by kernel_rfl) ⟨rfl,by decide,by decide⟩ ?F (λw H s e s' z=>by
   obtain⟨_,_,_,_,_,_,_,_,_,_,_,_,z⟩:=z;exact z)
  intro w mg fa h Y G hmg0;obtain⟨⟨K,KX,c⟩,hS⟩:=Y;have hmg:mg ("law":PySem.Str)=some (.ref fa):=by
   have e:(HandSHeadRun.topDef (OpenLaw.row PySem.Challenge.rw_starcases_k03_whole_value_texts).prog 42).name=("law":PySem.Str):=by kernel_rfl
   rw[<- e];exact hmg0
  have W0:=DL.facts KX G c.d c.ex;obtain⟨fd,F⟩:=c.d.def_ 36 (d:=DL.dd_law) rfl;have e:=hmg.symm.trans (He.glo_ok KX G (c.d.fact 29 (f:=.glo "law") rfl));cases e;have b:=L2.FunD.bindsA (ps:=["_law_script"]) F λ_ _ _ _ _ _ us hl=>match us,hl with|[_],_=>rfl
  exact⟨K,fd,DL.csOf K DL.llL,DL.liftF K DL.pT 1,KX,hS,λp hp=>by
    obtain⟨x,hx,rfl⟩:=DL.csOf_mem hp;exact c.empty _ (cJ.mpr ⟨x,hx,rfl⟩),λp hp=>by
    obtain⟨x,hx,rfl⟩:=DL.csOf_mem hp;exact c.out _ (cJ.mpr ⟨x,hx,rfl⟩),λp hp=>by
    obtain⟨x,hx,rfl⟩:=DL.csOf_mem hp;exact PySem.W.codeHd_of_K KX (c.hd _ (cJ.mpr ⟨x,hx,rfl⟩)),λs v=>b s [v] rfl,λH a ns hl _ hH hq=>DL.law_start c hH hl hq,λbase KB NB TB=>DL.FF W0 (c.tabAll TB) c.tabK (DL.isGlo_of (c.d.fact 29 (f:=.glo "law") rfl)) F rfl⟩
end T_LawF
