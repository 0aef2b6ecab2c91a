import PyProof.Rows.All
import Wide.All
import OpenK.AllK
import Wide.FinOn
import HandS.ForMost
import HandS.ForExc
import HandS.IsInst
import HandS.Wide
import HandS.Walk
import HandS.Flow
import HandS.Lambda
import KE.KDictKeyed
import HandS.TupMul
import HandS.TupAny
import HandS.TupLe
import HandS.Deep
import HandS.WordsDict
import HandS.WordsExc
import HandS.Defaults
import HandS.EndBits
import HandS.RevRange
import HandS.Conv
import KE.GoesEnum
import KE.GoesMore
import HandS.More
import HandS.Small
import HandS.Zip
import HandS.SortInts
import HandS.TryOnly
import HandS.TryMany
import HandS.TupSets
import HandS.SetFor
import HandS.CallLocal
import HandS.Sort
import HandS.SortOrd
import HandS.Style
import HandS.Text
import HandS.ListItems
import HandS.Iter
import HandS.Strs
import HandS.HeadHook3
import KE.KDictDisplayH
import HandS.ExcInit
import HandS.ExcField
import HandS.Call
import HandS.HeadHook4
import HandS.HeadWalk
import HandS.Head2
import KE.SortKeyHeap
import HandS.List
import HandS.RaiseMore
import PySem.Challenge.RW_censers_k38_whole_chains_as_short_as_can
set_option Elab.async false
set_option linter.all false
set_option maxRecDepth 100000
set_option maxHeartbeats 4000000
namespace Cz
open PySem PySem.Spec PyProof.Rows L2
inductive D where
 | non | bl (b:Bool) | int (i:Int) | str (x:Str) | tup (ds:List D) | lst (ds:List D) | scr (ds:List D) | dic (kvs:List (Key×D))
 | fn (x:String) | obj (t:Nat) (C:String) (fs:List (Str×D)) | dtk (kvs:List (List Key×D))
 | sob (C:String) (fs:List (Str×D)) | fdc (kvs:List (Key×D)) | exv (a dx:Addr) (fld:String) (d:D)
 | nod (o:Obj) (u:HO)
 | tg (t:Nat) (d:D)
 | hol (t:Nat)
 | dnk (kvs:List (List (List Int)×Int))
deriving Inhabited
abbrev NK:=List (List Int)
def hI (l:List Int):Int:=reduceHash (Builtin.Tuple.tupleHashOf (l.map hashInt))
def hN (k:NK):Int:=reduceHash (Builtin.Tuple.tupleHashOf (k.map hI))
def EnN (e:DictEntry) (x:NK×Addr×Int):Prop:=e.hash=hN x.1/\e.key=.ref x.2.1/\∃ t,e.val=.int x.2.2 t
def z0F (a:Addr) (xs:List (NK×Addr×Int)):HO:=.ext fun h=>∃ (o:Obj) (es:Array DictEntry) (ep:Nat),h.get? a=some o/\o.ExactDict/\o.data=.dict es ep/\(a == sysModules)=false/\Paired EnN es.toList xs
def z0x (H:Hp) (k:NK) (b:Addr):Prop:=∃ cs:List Addr,H b=some (.tup (cs.map V.ref))/\Paired (fun (c:Addr) (l:List Int)=>H c=some (.tup (l.map V.int))) cs k
theorem z0x.keep {H H':Hp} {k:NK} {b:Addr} (ht:∀ b vs,H b=some (.tup vs)->H' b=some (.tup vs)) (q:z0x H k b):z0x H' k b:=by
 obtain ⟨cs,h1,h2⟩:=q
 exact ⟨cs,ht _ _ h1,L2.Paired.mapP h2 fun c l e=>ht _ _ e⟩
theorem z3e (c:Addr) (q:Str):¬ ∃ a xs,LamX.CodeO c q=z0F a xs:=fun ⟨a,xs,e⟩=>by
 have e:=HO.ext.inj e
 obtain ⟨oc,hoc⟩:∃ oc:Obj,oc={ cls:=.none,data:=.fields #[.none,.str q default] }:=⟨_,rfl⟩
 obtain ⟨hh,hhh⟩:∃ hh:Heap,hh={ objs:=Array.replicate (c + 1) oc }:=⟨_,rfl⟩
 have ga:∀ b o,hh.get? b=some o->o=oc:=fun b o e=>by
  rw[hhh] at e
  have e2:(match (Array.replicate (c + 1) oc)[b]? with
   | some ⟨_,_,.freed,_⟩=>none
   | o=>o)=some o:=e
  clear e
  cases q:(Array.replicate (c + 1) oc)[b]? with
  | none=>rw[q] at e2; cases e2
  | some u=>
   have hu:u=oc:=by
    rw[Array.getElem?_replicate] at q
    split at q
    ·exact (Option.some.inj q).symm
    ·cases q
   rw[q,hu,hoc] at e2
   rw[hoc]
   exact (Option.some.inj e2).symm
 have gc:hh.get? c=some oc:=by
  rw[hhh]
  show (match (Array.replicate (c + 1) oc)[c]? with
   | some ⟨_,_,.freed,_⟩=>none
   | o=>o)=some oc
  rw[Array.getElem?_replicate,if_pos (Nat.lt_succ_self c),hoc]
 have p:(fun h:Heap=>∃ (oc:Obj) (vs:Array Value) (t:Tok),h.get? c=some oc/\oc.data=.fields vs/\vs[1]? = some (.str q t)) hh:=⟨oc,_,default,gc,by rw[hoc],rfl⟩
 rw[e] at p
 obtain ⟨o,es,ep,h1,_,h3,_⟩:=p
 rw[ga _ _ h1,hoc] at h3
 cases h3
mutual
inductive Rep (K:PySem.W.Frag) (H:Hp):D->V->List Addr->Prop
 | non:Rep K H .non .non []
 | bl (b:Bool):Rep K H (.bl b) (.bl b) []
 | int (i:Int):Rep K H (.int i) (.int i) []
 | str (x:Str):Rep K H (.str x) (.str x) []
 | tup {a:Addr} {vs:List V} {ds:List D} {f:List Addr}:H a=some (.tup vs)->Reps K H ds vs f->Rep K H (.tup ds) (.ref a) f
 | lst {a:Addr} {vs:List V} {ds:List D} {f:List Addr}:H a=some (.lst vs)->Reps K H ds vs f->Rep K H (.lst ds) (.ref a) (a::f)
 | scr {a:Addr} {vs:List V} {ds:List D} {f:List Addr}:((∀ H',SqL K H' a vs)\/∃ o,H a=some (.frz o (.lst vs)))->Reps K H ds vs f->Rep K H (.scr ds) (.ref a) f
 | dic {a:Addr} {kvs:List (Key×V)} {kds:List (Key×D)} {f:List Addr}:H a=some (.dK kvs)->(kds.map (·.1)).Nodup->RepK K H kds kvs f->Rep K H (.dic kds) (.ref a) (a::f)
 | fn {x:String} {a:Addr}:PySem.W.nsIn K mainGlobals (Str.ofString x)=some (some (.ref a))->Rep K H (.fn x) (.ref a) []
 | obj {t:Nat} {C:String} {a Ca dx:Addr} {fvs:List (Str×V)} {fds:List (Str×D)} {f:List Addr}:H a=some (.ins Ca dx fvs)->PySem.W.nsIn K mainGlobals (Str.ofString C)=some (some (.ref Ca))->(fds.map (·.1)).Nodup->RepK K H fds fvs f->(t=0\/t=a + 1)->Rep K H (.obj t C fds) (.ref a) (a::f)
 | dtk {a:Addr} {kvs:List (List Key×V)} {kds:List (List Key×D)} {f:List Addr}:H a=some (.dT kvs)->(kds.map (·.1)).Nodup->RepK K H kds kvs f->Rep K H (.dtk kds) (.ref a) (a::f)
 | sob {C:String} {a Ca dx:Addr} {o:Obj} {fvs:List (Str×V)} {fds:List (Str×D)}:H a=some (.frz o (.ins Ca dx fvs))->PySem.W.nsIn K mainGlobals (Str.ofString C)=some (some (.ref Ca))->(fds.map (·.1)).Nodup->RepK K H fds fvs []->Rep K H (.sob C fds) (.ref a) []
 | fdc {a:Addr} {o:Obj} {kvs:List (Key×V)} {kds:List (Key×D)}:H a=some (.frz o (.dK kvs))->(kds.map (·.1)).Nodup->RepK K H kds kvs []->Rep K H (.fdc kds) (.ref a) []
 | exv {a dx:Addr} {fld:String} {v:V} {d:D}:H dx=some (.xd [(Str.ofString fld,v)])->Rep K H d v []->Rep K H (.exv a dx fld d) (.ref a) []
 | nod {a:Addr} {o:Obj} {u:HO}:H a=some (.frz o u)->Rep K H (.nod o u) (.ref a) []
 | tg {t:Nat} {d:D} {a:Addr} {f:List Addr}:Rep K H d (.ref a) f->t=a + 1->Rep K H (.tg t d) (.ref a) f
 | hol {t:Nat} {a:Addr}:(t=0\/t=a + 1)->Rep K H (.hol t) (.ref a) []
 | dnk {a:Addr} {xs:List (NK×Addr×Int)} {kvs:List (NK×Int)}:H a=some (z0F a xs)->kvs=xs.map (fun x=>(x.1,x.2.2))->(∀ x∈xs,z0x H x.1 x.2.1)->(kvs.map (·.1)).Nodup->Rep K H (.dnk kvs) (.ref a) [a]
inductive Reps (K:PySem.W.Frag) (H:Hp):List D->List V->List Addr->Prop
 | nil:Reps K H [] [] []
 | cons {d:D} {v:V} {f:List Addr} {ds:List D} {vs:List V} {g:List Addr}:Rep K H d v f->Reps K H ds vs g->Reps K H (d::ds) (v::vs) (f++g)
inductive RepK (K:PySem.W.Frag) (H:Hp):{κ:Type}->List (κ×D)->List (κ×V)->List Addr->Prop
 | nil {κ:Type}:RepK K H ([]:List (κ×D)) [] []
 | cons {κ:Type} {k:κ} {d:D} {v:V} {f:List Addr} {ds:List (κ×D)} {vs:List (κ×V)} {g:List Addr}:Rep K H d v f->RepK K H ds vs g->RepK K H ((k,d)::ds) ((k,v)::vs) (f++g)
end
section
variable {K:PySem.W.Frag} {H H':Hp}
def IsT:HO->Prop
 | .tup _=>True
 | .frz _ _=>True
 | .xd _=>True
 | _=>False
theorem SqT.keep {a:Addr} {vs:List V} (h:∀ b o,H b=some o->IsT o->H' b=some o) (q:SqT K H a vs):SqT K H' a vs:=by
 rcases q with (q | ⟨o,q⟩) | q
 ·exact .inl (.inl (h _ _ q trivial))
 ·exact .inl (.inr ⟨o,h _ _ q trivial⟩)
 ·exact .inr q
theorem Rd.keep {a:Addr} {u:HO} (h:∀ o,H a=some o->H' a=some o) (q:Rd H a u):Rd H' a u:=by
 rcases q with q | ⟨o,q⟩
 ·exact .inl (h _ q)
 ·exact .inr ⟨o,h _ q⟩
mutual
theorem Rep.frame (ht:∀ b o,H b=some o->IsT o->H' b=some o):∀ {d:D} {v:V} {f:List Addr},Rep K H d v f->(∀ a∈f,∀ o,H a=some o->H' a=some o)->Rep K H' d v f
 | _,_,_,.non,_=>.non
 | _,_,_,.bl b,_=>.bl b
 | _,_,_,.int i,_=>.int i
 | _,_,_,.str x,_=>.str x
 | _,_,_,.tup q r,h=>.tup (ht _ _ q trivial) (Reps.frame ht r h)
 | _,_,_,.lst q r,h=>.lst (h _ List.mem_cons_self _ q) (Reps.frame ht r fun a ha=>h a (List.mem_cons_of_mem _ ha))
 | _,_,_,.scr q r,h=>.scr (q.imp id fun ⟨o,e⟩=>⟨o,ht _ _ e trivial⟩) (Reps.frame ht r h)
 | _,_,_,.dic q n r,h=>.dic (h _ List.mem_cons_self _ q) n (RepK.frame ht r fun a ha=>h a (List.mem_cons_of_mem _ ha))
 | _,_,_,.fn q,_=>.fn q
 | _,_,_,.obj q c n r z,h=>.obj (h _ List.mem_cons_self _ q) c n (RepK.frame ht r fun a ha=>h a (List.mem_cons_of_mem _ ha)) z
 | _,_,_,.dtk q n r,h=>.dtk (h _ List.mem_cons_self _ q) n (RepK.frame ht r fun a ha=>h a (List.mem_cons_of_mem _ ha))
 | _,_,_,.sob q c n r,h=>.sob (ht _ _ q trivial) c n (RepK.frame ht r fun a ha=>nomatch ha)
 | _,_,_,.fdc q n r,h=>.fdc (ht _ _ q trivial) n (RepK.frame ht r fun a ha=>nomatch ha)
 | _,_,_,.exv q r,h=>.exv (ht _ _ q trivial) (Rep.frame ht r fun a ha=>nomatch ha)
 | _,_,_,.nod q,h=>.nod (ht _ _ q trivial)
 | _,_,_,.tg r z,h=>.tg (Rep.frame ht r h) z
 | _,_,_,.hol z,h=>.hol z
 | _,_,_,.dnk q e t n,h=>.dnk (h _ List.mem_cons_self _ q) e (fun x hx=>(t x hx).keep fun b vs q=>ht b _ q trivial) n
theorem Reps.frame (ht:∀ b o,H b=some o->IsT o->H' b=some o):∀ {d:List D} {v:List V} {f:List Addr},Reps K H d v f->(∀ a∈f,∀ o,H a=some o->H' a=some o)->Reps K H' d v f
 | _,_,_,.nil,_=>.nil
 | _,_,_,.cons r t,h=>.cons (Rep.frame ht r fun a ha=>h a (List.mem_append_left _ ha)) (Reps.frame ht t fun a ha=>h a (List.mem_append_right _ ha))
theorem RepK.frame (ht:∀ b o,H b=some o->IsT o->H' b=some o):∀ {κ:Type} {d:List (κ×D)} {v:List (κ×V)} {f:List Addr},RepK K H d v f->(∀ a∈f,∀ o,H a=some o->H' a=some o)->RepK K H' d v f
 | _,_,_,_,.nil,_=>.nil
 | _,_,_,_,.cons r t,h=>.cons (Rep.frame ht r fun a ha=>h a (List.mem_append_left _ ha)) (RepK.frame ht t fun a ha=>h a (List.mem_append_right _ ha))
end
theorem Rep.same {d:D} {v:V} {f:List Addr} (s:Same H H') (r:Rep K H d v f):Rep K H' d v f:=r.frame (fun b o e _=>s b o e) fun a _ o e=>s a o e
theorem Reps.same {d:List D} {v:List V} {f:List Addr} (s:Same H H') (r:Reps K H d v f):Reps K H' d v f:=r.frame (fun b o e _=>s b o e) fun a _ o e=>s a o e
theorem RepK.same {κ:Type} {d:List (κ×D)} {v:List (κ×V)} {f:List Addr} (s:Same H H') (r:RepK K H d v f):RepK K H' d v f:=r.frame (fun b o e _=>s b o e) fun a _ o e=>s a o e
mutual
theorem Rep.trk:∀ {d:D} {v:V} {f:List Addr},Rep K H d v f->∀ a∈f,H a≠none
 | _,_,_,.tup _ r,a,ha=>Reps.trk r a ha
 | _,_,_,.lst q r,a,ha=>by
  rcases List.mem_cons.mp ha with e | ha
  ·subst e; rw[q]; simp
  ·exact Reps.trk r a ha
 | _,_,_,.scr _ r,a,ha=>Reps.trk r a ha
 | _,_,_,.dic q n r,a,ha=>by
  rcases List.mem_cons.mp ha with e | ha
  ·subst e; rw[q]; simp
  ·exact RepK.trk r a ha
 | _,_,_,.obj q c n r _,a,ha=>by
  rcases List.mem_cons.mp ha with e | ha
  ·subst e; rw[q]; simp
  ·exact RepK.trk r a ha
 | _,_,_,.sob _ _ _ _,a,ha=>nomatch ha
 | _,_,_,.fdc _ _ _,a,ha=>nomatch ha
 | _,_,_,.exv _ _,a,ha=>nomatch ha
 | _,_,_,.nod _,a,ha=>nomatch ha
 | _,_,_,.tg r _,a,ha=>Rep.trk r a ha
 | _,_,_,.hol _,a,ha=>nomatch ha
 | _,_,_,.dnk q _ _ _,a,ha=>by rw[List.mem_singleton.mp ha,q]; simp
 | _,_,_,.dtk q n r,a,ha=>by
  rcases List.mem_cons.mp ha with e | ha
  ·subst e; rw[q]; simp
  ·exact RepK.trk r a ha
theorem Reps.trk:∀ {d:List D} {v:List V} {f:List Addr},Reps K H d v f->∀ a∈f,H a≠none
 | _,_,_,.cons r t,a,ha=>by
  rcases List.mem_append.mp ha with ha | ha
  ·exact Rep.trk r a ha
  ·exact Reps.trk t a ha
theorem RepK.trk:∀ {κ:Type} {d:List (κ×D)} {v:List (κ×V)} {f:List Addr},RepK K H d v f->∀ a∈f,H a≠none
 | _,_,_,_,.cons r t,a,ha=>by
  rcases List.mem_append.mp ha with ha | ha
  ·exact Rep.trk r a ha
  ·exact RepK.trk t a ha
end
theorem Reps.length:∀ {d:List D} {v:List V} {f:List Addr},Reps K H d v f->d.length=v.length
 | _,_,_,.nil=>rfl
 | _,_,_,.cons _ t=>by simp[Reps.length t]
theorem Rep.lstI {ds:List D} {v:V} {f:List Addr} (r:Rep K H (.lst ds) v f):∃ a vs g,v=.ref a/\SqL K H a vs/\Reps K H ds vs g/\(∀ b∈g,b∈f)/\(f.Nodup->g.Nodup):=by
 cases r with
 | lst q r=>exact ⟨_,_,_,rfl,.of q,r,fun b hb=>List.mem_cons_of_mem _ hb,fun n=>(List.nodup_cons.mp n).2⟩
theorem Rep.scrI {ds:List D} {v:V} {f:List Addr} (r:Rep K H (.scr ds) v f):∃ a vs g,v=.ref a/\SqL K H a vs/\Reps K H ds vs g/\(∀ b∈g,b∈f)/\(f.Nodup->g.Nodup):=by
 cases r with
 | scr q r=>
  rcases q with q | ⟨o,q⟩
  ·exact ⟨_,_,_,rfl,q _,r,fun b hb=>hb,fun n=>n⟩
  ·exact ⟨_,_,_,rfl,.inl (.inr ⟨o,q⟩),r,fun b hb=>hb,fun n=>n⟩
theorem Rep.tupI {ds:List D} {v:V} {f:List Addr} (r:Rep K H (.tup ds) v f):∃ a vs,v=.ref a/\H a=some (.tup vs)/\Reps K H ds vs f:=by
 cases r with
 | tup q r=>exact ⟨_,_,rfl,q,r⟩
theorem Reps.get:∀ {ds:List D} {vs:List V} {f:List Addr} {i:Nat} {d:D},Reps K H ds vs f->ds[i]? = some d->∃ v g,vs[i]? = some v/\Rep K H d v g/\(∀ b∈g,b∈f)/\(f.Nodup->g.Nodup)
 | _,_,_,0,d,.cons r _,e=>by
  simp at e; subst e
  exact ⟨_,_,rfl,r,fun b hb=>List.mem_append_left _ hb,fun n=>(List.nodup_append.mp n).1⟩
 | _,_,_,i + 1,d,.cons r t,e=>by
  obtain ⟨v,g,h1,h2,h3,h4⟩:=Reps.get (i:=i) (d:=d) t (by simpa using e)
  exact ⟨v,g,by simpa using h1,h2,fun b hb=>List.mem_append_right _ (h3 b hb),fun n=>h4 (List.nodup_append.mp n).2.1⟩
theorem Reps.take:∀ {ds:List D} {vs:List V} {f:List Addr} (n:Nat),Reps K H ds vs f->∃ g,Reps K H (ds.take n) (vs.take n) g/\(∀ b∈g,b∈f)/\(f.Nodup->g.Nodup)
 | _,_,_,0,_=>⟨[],.nil,by simp,by simp⟩
 | _,_,_,n + 1,.nil=>⟨[],.nil,by simp,by simp⟩
 | _,_,_,n + 1,.cons (f:=f) r t=>by
  obtain ⟨g,h1,h2,h3⟩:=Reps.take n t
  refine ⟨f++g,.cons r h1,fun b hb=>?_,fun nd=>?_⟩
  ·rcases List.mem_append.mp hb with hb | hb
   ·exact List.mem_append_left _ hb
   ·exact List.mem_append_right _ (h2 b hb)
  ·obtain ⟨n1,n2,n3⟩:=List.nodup_append.mp nd
   exact List.nodup_append.mpr ⟨n1,h3 n2,fun a ha b hb=>n3 a ha b (h2 b hb)⟩
theorem Reps.drop:∀ {ds:List D} {vs:List V} {f:List Addr} (n:Nat),Reps K H ds vs f->∃ g,Reps K H (ds.drop n) (vs.drop n) g/\(∀ b∈g,b∈f)/\(f.Nodup->g.Nodup)
 | _,_,_,0,r=>⟨_,r,fun _ h=>h,fun h=>h⟩
 | _,_,_,n + 1,.nil=>⟨[],.nil,by simp,by simp⟩
 | _,_,_,n + 1,.cons r t=>by
  obtain ⟨g,h1,h2,h3⟩:=Reps.drop n t
  exact ⟨g,h1,fun b hb=>List.mem_append_right _ (h2 b hb),fun nd=>h3 (List.nodup_append.mp nd).2.1⟩
theorem Reps.app:∀ {ds es:List D} {vs ws:List V} {f g:List Addr},Reps K H ds vs f->Reps K H es ws g->Reps K H (ds++es) (vs++ws) (f++g)
 | _,_,_,_,_,_,.nil,s=>s
 | _,_,_,_,_,_,.cons r t,s=>by rw[List.append_assoc]; exact .cons r (Reps.app t s)
theorem Reps.ints:∀ (ns:List Int),Reps K H (ns.map D.int) (ns.map V.int) []
 | []=>.nil
 | n::ns=>.cons (f:=[]) (g:=[]) (.int n) (Reps.ints ns)
theorem Reps.ints_inv:∀ {ns:List Int} {vs:List V} {f:List Addr},Reps K H (ns.map D.int) vs f->vs=ns.map V.int/\f=[]
 | [],_,_,h=>by cases h; exact ⟨rfl,rfl⟩
 | n::ns,_,_,h=>by
  cases h with
  | cons r t=>
   cases r
   obtain ⟨e1,e2⟩:=Reps.ints_inv t
   subst e1; subst e2
   exact ⟨rfl,rfl⟩
end
mutual
def noL:D->Bool
 | .non=>true | .bl _=>true | .int _=>true | .str _=>true
 | .tup ds=>noLs ds
 | .lst _=>false | .scr ds=>noLs ds | .dic _=>false
 | .fn _=>true | .obj _ _ _=>false | .dtk _=>false
 | .sob _ _=>true | .fdc _=>true | .exv _ _ _ _=>true | .nod _ _=>true | .tg _ _=>false | .hol _=>true | .dnk _=>false
def noLs:List D->Bool
 | []=>true
 | d::ds=>noL d&&noLs ds
end
mutual
theorem Rep.noL {K:PySem.W.Frag} {H:Hp}:∀ {d:D} {v:V} {f:List Addr},Rep K H d v f->Cz.noL d=true->f=[]
 | _,_,_,.non,_=>rfl
 | _,_,_,.bl b,_=>rfl
 | _,_,_,.int i,_=>rfl
 | _,_,_,.str x,_=>rfl
 | _,_,_,.tup q r,h=>Reps.noL r (by simpa [Cz.noL] using h)
 | _,_,_,.lst q r,h=>by simp[Cz.noL] at h
 | _,_,_,.scr q r,h=>Reps.noL r (by simpa [Cz.noL] using h)
 | _,_,_,.dic q n r,h=>by simp[Cz.noL] at h
 | _,_,_,.fn q,_=>rfl
 | _,_,_,.obj q c n r _,h=>by simp[Cz.noL] at h
 | _,_,_,.dtk q n r,h=>by simp[Cz.noL] at h
 | _,_,_,.sob _ _ _ _,_=>rfl
 | _,_,_,.fdc _ _ _,_=>rfl
 | _,_,_,.exv _ _,_=>rfl
 | _,_,_,.nod _,_=>rfl
 | _,_,_,.tg _ _,h=>by simp[Cz.noL] at h
 | _,_,_,.hol _,_=>rfl
 | _,_,_,.dnk _ _ _ _,h=>by simp[Cz.noL] at h
theorem Reps.noL {K:PySem.W.Frag} {H:Hp}:∀ {d:List D} {v:List V} {f:List Addr},Reps K H d v f->Cz.noLs d=true->f=[]
 | _,_,_,.nil,_=>rfl
 | _,_,_,.cons r t,h=>by
  simp only[Cz.noLs,Bool.and_eq_true] at h
  rw[Rep.noL r h.1,Reps.noL t h.2]; rfl
end
@[simp] theorem zj6:∀ ns:List Int,noLs (ns.map D.int)=true
 | []=>rfl
 | n::ns=>by simp[noLs,noL,zj6 ns]
inductive Kd where
 | own | bor (is:List Nat)
def Kd.is:Kd->List Nat
 | .own=>[]
 | .bor is=>is
def Kd.join:Kd->Kd->Kd
 | .own,.own=>.own
 | a,b=>.bor (a.is++b.is)
theorem Kd.join_own (k:Kd):k.join .own=k:=by cases k <;> simp[Kd.join,Kd.is]
inductive Ec where
 | n (s:String) | p (s fld:String) (d:D)
instance:Coe String Ec:=⟨Ec.n⟩
def Ec.nm:Ec->String
 | .n s=>s
 | .p s _ _=>s
@[simp] theorem Ec.nm_n (s:String):(Ec.n s).nm=s:=rfl
@[simp] theorem Ec.nm_p (s f:String) (d:D):(Ec.p s f d).nm=s:=rfl
inductive R (α:Type) where
 | ok (a:α) | ex (c:Ec) | st
def R.bind {α β:Type}:R α->(α->R β)->R β
 | .ok a,f=>f a
 | .ex c,_=>.ex c
 | .st,_=>.st
@[simp] theorem R.bind_ok {α β:Type} (a:α) (f:α->R β):(R.ok a).bind f=f a:=rfl
@[simp] theorem R.bind_ex {α β:Type} (c:Ec) (f:α->R β):(R.ex c:R α).bind f=.ex c:=rfl
@[simp] theorem R.bind_st {α β:Type} (f:α->R β):(R.st:R α).bind f=.st:=rfl
inductive Sl where
 | no | ow (d:D) | bo (is:List Nat) (d:D)
 | tb
abbrev Env:=List Sl
abbrev KD:=Kd×D
abbrev SE:=Env->R KD
abbrev STs:=Env->R Bool
abbrev SA:=Env->R (List KD)
inductive Out where
 | nx (ρ:Env) | rt (k:Kd) (d:D) | bk (ρ:Env) | ct (ρ:Env) | ex (c:Ec) (ρ:Env) | st | ri (ρ:Env) (k:Kd) (d:D)
abbrev SS:=Env->Out
def zE5:Option HO->Prop
 | some (.lst _)=>True
 | some (.dK _)=>True
 | some (.dT _)=>True
 | some (.set _ _)=>True
 | some (.ins _ _ _)=>True
 | some (.ext φ)=>∃ a xs,HO.ext φ=z0F a xs
 | _=>False
structure Mu (o:Option HO):Prop where
 mx:zE5 o
theorem Mu.m {o:Option HO} (h:Mu o):L2.Mut o:=by
 have:=h.mx
 cases o with
 | none=>exact this.elim
 | some o=>cases o <;> first | trivial | exact this.elim
def TE0:HO->Prop
 | .tbl _=>True
 | .ext φ=>¬ ∃ a xs,HO.ext φ=z0F a xs
 | _=>False
def z6U:Str := "Room.standings"
def ye2:Str:=z6U ++ ".<locals>.<lambda>"
def zW0 (K:PySem.W.Frag) (H:Hp):Prop:=∀ (c:Addr) (o:Obj) (vs:Array Value) (P:Addr),K.lookup c=some o->o.data=.fields vs->PySem.W.codeIn K (.ref c) z6U=true->vs[11]? = some (.ref P)->LamX.TabS H P ye2
def z6N (H:Hp):Prop:=∀ a ps,H a≠some (.tbl ps)
theorem zW0.keep {K:PySem.W.Frag} {H H':Hp} (h:zW0 K H) (k:∀ a o,H a=some o->TE0 o->H' a=some o):zW0 K H':=fun c o vs P e1 e2 e3 e4=>by
 obtain ⟨ps,h1,h2,h3⟩:=h c o vs P e1 e2 e3 e4
 exact ⟨ps,k _ _ h1 trivial,h2,fun pos cv e=>let ⟨c',g1,g2⟩:=h3 pos cv e; ⟨c',g1,k _ _ g2 (z3e _ _)⟩⟩
def Sl.isT:Sl->Bool
 | .tb=>true
 | _=>false
def W3 (ρ:List Sl):Bool:=ρ.any Sl.isT
def Sh (A:Addr->Prop) (H0:Hp) (F:Nat->List Addr) (a:Addr):Prop:=(A a\/H0 a=none)/\∀ j,a∉F j
def BOk (A:Addr->Prop) (H0:Hp) (F:Nat->List Addr) (is:List Nat) (f:List Addr):Prop:=∀ a∈f,(∃ j∈is,a∈F j)\/Sh A H0 F a
def KOk (A:Addr->Prop) (H0:Hp) (F:Nat->List Addr) (H H':Hp):Kd->List Addr->Prop
 | .own,f=>f.Nodup/\∀ a∈f,H a=none/\Mu (H' a)
 | .bor is,f=>BOk A H0 F is f
def zN1 (A:Addr->Prop) (H0 H':Hp):Kd->List Addr->Prop
 | .own,f=>f.Nodup/\∀ a∈f,H0 a=none/\Mu (H' a)
 | .bor _,f=>∀ a∈f,A a\/H0 a=none
structure SR (K:PySem.W.Frag) (A:Addr->Prop) (H0:Hp) (F:Nat->List Addr) (G:List (D×V)) (ρ:Env) (σ:L2.St) (H:Hp):Prop where
 len:ρ.length=σ.length
 fr:Same H0 H
 own:∀ i,(F i).Nodup/\∀ a∈F i,H0 a=none/\Mu (H a)
 dis:∀ i j a,a∈F i->a∈F j->i=j
 slo:∀ (i:Nat) d,ρ[i]? = some (.ow d)->∃ v,σ[i]? = some (some v)/\Rep K H d v (F i)
 slb:∀ (i:Nat) is d,ρ[i]? = some (.bo is d)->∃ v f,σ[i]? = some (some v)/\Rep K H d v f/\BOk A H0 F is f
 gho:∀ p∈G,∃ f,Rep K H p.1 p.2 f/\∀ a∈f,Sh A H0 F a
 emp:∀ i,i < ρ.length->F i≠[]->∃ d,ρ[i]? = some (.ow d)
 fin:∃ L,∀ j,L<=j->F j=[]
 tb:W3 ρ=true->zW0 K H/\z6N H0
section
variable {K:PySem.W.Frag} {A:Addr->Prop} {H0 H H1 H':Hp} {F:Nat->List Addr} {G:List (D×V)} {ρ:Env} {σ:L2.St}
theorem Mu.same {a:Addr} (s:Same H H') (m:Mu (H a)):Mu (H' a):=by
 cases e:H a with
 | none=>rw[e] at m; exact m.m.elim
 | some o=>rw[s a o e]; rw[e] at m; exact m
theorem Mu.not {o:HO} (m:Mu (some o)) (t:TE0 o):False:=by
 have:=m.mx
 cases o <;> first | exact t this | exact t.elim | exact this.elim
theorem R4 {ρ:List Sl} {i:Nat} {x:Sl} (hx:x.isT=false) (h:W3 (ρ.set i x)=true):W3 ρ=true:=by
 unfold W3 at h ⊢
 obtain ⟨y,hy,e⟩:=List.any_eq_true.mp h
 rcases List.mem_or_eq_of_mem_set hy with z | z
 ·exact List.any_eq_true.mpr ⟨y,z,e⟩
 ·rw[z,hx] at e; cases e
theorem zT1 {ρ:List Sl} {g:Sl->Sl} (hg:∀ x,(g x).isT=true->x.isT=true) (h:W3 (ρ.map g)=true):W3 ρ=true:=by
 unfold W3 at h ⊢
 rw[List.any_map] at h
 obtain ⟨y,hy,e⟩:=List.any_eq_true.mp h
 exact List.any_eq_true.mpr ⟨y,hy,hg y e⟩
theorem Mu.ne {a:Addr} (m:Mu (H a)):H a≠none:=by
 intro e; rw[e] at m; exact m.m
theorem SR.same (r:SR K A H0 F G ρ σ H) (s:Same H H'):SR K A H0 F G ρ σ H' where
 len:=r.len
 fr:=r.fr.trans s
 own:=fun i=>⟨(r.own i).1,fun a ha=>⟨((r.own i).2 a ha).1,((r.own i).2 a ha).2.same s⟩⟩
 dis:=r.dis
 slo:=fun i d e=>let ⟨v,h1,h2⟩:=r.slo i d e; ⟨v,h1,h2.same s⟩
 slb:=fun i is d e=>let ⟨v,f,h1,h2,h3⟩:=r.slb i is d e; ⟨v,f,h1,h2.same s,h3⟩
 gho:=fun p hp=>let ⟨f,h1,h2⟩:=r.gho p hp; ⟨f,h1.same s,h2⟩
 emp:=r.emp
 fin:=r.fin
 tb:=fun z=>⟨(r.tb z).1.keep fun a o e _=>s a o e,(r.tb z).2⟩
theorem zc8 {ρ:List Sl}:W3 ρ=true↔∃ i:Nat,ρ[i]? = some .tb:=by
 unfold W3
 rw[List.any_eq_true]
 refine ⟨fun ⟨x,hx,e⟩=>?_,fun ⟨i,e⟩=>⟨.tb,List.mem_of_getElem? e,rfl⟩⟩
 obtain ⟨i,hi,e2⟩:=List.mem_iff_getElem.mp hx
 refine ⟨i,?_⟩
 rw[List.getElem?_eq_getElem hi,e2]
 cases x <;> first | rfl | cases e
theorem SR.tbS {ρ':Env} (sr:SR K A H0 F G ρ σ H) (h:W3 ρ'=true->W3 ρ=true) (k:∀ a o,H a=some o->TE0 o->H' a=some o):W3 ρ'=true->zW0 K H'/\z6N H0:=fun z=>⟨(sr.tb (h z)).1.keep k,(sr.tb (h z)).2⟩
theorem SR.teF (sr:SR K A H0 F G ρ σ H) {i:Nat} {a:Addr} {o:HO} (h:a∈F i) (e:H a=some o) (t:TE0 o):False:=by
 have m:=((sr.own i).2 a h).2
 rw[e] at m
 exact m.not t
theorem KOk.bok {k:Kd} {f:List Addr} (r:SR K A H0 F G ρ σ H) (h:KOk A H0 F H H' k f):BOk A H0 F k.is f:=by
 cases k with
 | own=>exact fun a ha=>.inr ⟨.inr (r.fr.free (h.2 a ha).1),fun j hj=>((r.own j).2 a hj).2.ne (h.2 a ha).1⟩
 | bor is=>exact h
theorem BOk.mono {is js:List Nat} {f g:List Addr} (h:BOk A H0 F is f) (hi:∀ j∈is,j∈js) (hf:∀ a∈g,a∈f):BOk A H0 F js g:=fun a ha=>by
 rcases h a (hf a ha) with ⟨j,hj,q⟩ | q
 ·exact .inl ⟨j,hi j hj,q⟩
 ·exact .inr q
theorem KOk.sub {k:Kd} {f g:List Addr} (h:KOk A H0 F H H' k f) (hs:∀ a∈g,a∈f) (hn:f.Nodup->g.Nodup):KOk A H0 F H H' k g:=by
 cases k with
 | own=>exact ⟨hn h.1,fun a ha=>h.2 a (hs a ha)⟩
 | bor is=>exact fun a ha=>h a (hs a ha)
theorem KOk.nil (k:Kd):KOk A H0 F H H' k []:=by
 cases k with
 | own=>exact ⟨List.nodup_nil,fun a ha=>nomatch ha⟩
 | bor is=>exact fun a ha=>nomatch ha
theorem KOk.wide {k:Kd} {f:List Addr} {Ha Hb:Hp} (h:KOk A H0 F H H' k f) (s1:Same Ha H) (s2:Same H' Hb):KOk A H0 F Ha Hb k f:=by
 cases k with
 | own=>exact ⟨h.1,fun a ha=>⟨s1.free (h.2 a ha).1,(h.2 a ha).2.same s2⟩⟩
 | bor is=>exact h
theorem KOk.join {k k':Kd} {f g:List Addr} {Ha Hm Hb:Hp} (r:SR K A H0 F G ρ σ Ha) (s1:Same Ha Hm) (s2:Same Hm Hb) (hf:∀ a∈f,Hm a≠none) (h:KOk A H0 F Ha Hm k f) (h':KOk A H0 F Hm Hb k' g) :
  KOk A H0 F Ha Hb (k.join k') (f++g):=by
 have b1:=h.bok r
 have b2:=h'.bok (r.same s1)
 have key:BOk A H0 F (k.is++k'.is) (f++g):=fun a ha=>by
  rcases List.mem_append.mp ha with ha | ha
  ·exact b1.mono (fun j hj=>List.mem_append_left _ hj) (fun _ q=>q) a ha
  ·exact b2.mono (fun j hj=>List.mem_append_right _ hj) (fun _ q=>q) a ha
 cases k with
 | own=>
  cases k' with
  | own=>
   refine ⟨List.nodup_append.mpr ⟨h.1,h'.1,fun a ha b hb e=>?_⟩,fun a ha=>?_⟩
   ·subst e; exact hf a ha (h'.2 a hb).1
   ·rcases List.mem_append.mp ha with ha | ha
    ·exact ⟨(h.2 a ha).1,(h.2 a ha).2.same s2⟩
    ·exact ⟨s1.free (h'.2 a ha).1,(h'.2 a ha).2⟩
  | bor js=>exact key
 | bor is=>exact key
end
section
variable {X:Cx}
theorem OpR.or {f:Value->Value->Sem Value} {r r':R2} (h:OpR X f r) (h':OpR X f r'):OpR X f (fun x y H Q=>r x y H Q\/r' x y H Q):=by
 intro pins s σ H x y v u Q I rx ry q
 rcases q with q | q
 ·exact h pins s σ H x y v u Q I rx ry q
 ·exact h' pins s σ H x y v u Q I rx ry q
def z2k (K:PySem.W.Frag):R2:=fun x y H Q=>∃ a b xs ys,x=.ref a/\y=.ref b/\SqT K H a xs/\SqT K H b ys/\xs.length + ys.length<=sizeLine ∧
 (xs=[]->Q (.ref b) H)/\(xs≠[]->ys=[]->Q (.ref a) H)/\(xs≠[]->ys≠[]->∀ p,H p=none->Q (.ref p) (upd H p (.tup (xs++ys))))
theorem z24:OpR X (binaryOp .Add) (z2k X.K):=by
 intro pins s σ H x y v u Q I rx ry h
 obtain ⟨a,b,xs,ys,rfl,rfl,ha,hb,hz,q0,q1,q2⟩:=h
 cases rx
 cases ry
 obtain ⟨its,r1,ht,_⟩:=I.tuple ha
 obtain ⟨its2,r2,ht2,_⟩:=I.tuple hb
 by_cases hx:xs=[]
 ·obtain ⟨⟨cls,dd,data,sl⟩,ho,hc,n,hd⟩:=id ht
  obtain ⟨⟨cls2,dd2,data2,sl2⟩,ho2,hc2,n2,hd2⟩:=id ht2
  simp only at hc hd hc2 hd2
  subst hc hd hc2 hd2
  have hv:its=[]:=r1.nil_iff.mpr hx
  exact concat_meets ⟨_,ho,rfl⟩ ⟨_,ho2,rfl⟩ noFill_tuple_add seq_tuple_add PySem.F.slot_tuple_add PySem.F.entry_tuple_add (PySem.F.args_tuple_add_2 _ _)
   (tuple_addW0 a b its.toArray its2.toArray n n2 dd dd2 sl sl2 (by simp[hv])) ⟨ho,ho2,⟨.ref b,H,I,rfl,q0 hx⟩⟩
 ·refine HT.cat_tup ht ht2 (fun z=>hx (r1.nil_iff.mp z)) (fun z=>⟨.ref a,H,I,rfl,q1 hx (r2.nil_iff.mp z)⟩) (fun z=>?_) (by rw[<- r1.length,<- r2.length]; exact hz)
  refine ⟨.ref s.heap.objs.size,_,I.laid (t':=s.toks) (o:=.tup (xs++ys)) (fun b ob q=>Heap.get?_push_of_some _ q) (Nat.le_refl _) ?_,rfl,q2 hx (fun w=>z (r2.nil_iff.mpr w)) _ (I.hok.fresh (Nat.le_refl _))⟩
  exact ⟨by rw[List.length_append]; exact hz,_,r1.append r2,IsTup.new _ _⟩
def zU2 (K:PySem.W.Frag):R2:=fun x y H Q=>∃ l b xs zs,x=.ref l/\y=.ref b/\SqL K H l xs/\SqL K H b zs/\xs.length + zs.length<=sizeLine/\∀ p,H p=none->Q (.ref p) (upd H p (.lst (xs++zs)))
theorem z2L:OpR X (binaryOp .Add) (zU2 X.K):=by
 intro pins s σ H x y v u Q I rx ry h
 obtain ⟨l,b,xs,zs,rfl,rfl,hH,hB,hz,q⟩:=h
 cases rx
 cases ry
 obtain ⟨its,r,hl,_⟩:=I.list hH
 obtain ⟨its2,r2,hl2,_⟩:=I.list hB
 obtain ⟨⟨cls,dd,data,sl⟩,n,ho,hc,hdn,hd⟩:=id hl
 obtain ⟨⟨cls2,dd2,data2,sl2⟩,n2,ho2,hc2,hdn2,hd2⟩:=id hl2
 simp only at hc hd hc2 hd2 hdn hdn2
 subst hc hd hc2 hd2 hdn hdn2
 refine concat_meets ⟨_,ho,rfl⟩ ⟨_,ho2,rfl⟩ noFill_list_add seq_list_add PySem.F.slot_list_add PySem.F.entry_list_add (PySem.F.args_list_add_2 _ _) (list_addW l b its.toArray its2.toArray n n2 _ _ sl sl2 (by rw[List.size_toArray,List.size_toArray,<- r.length,<- r2.length]; exact hz)) ⟨ho,ho2,?_⟩
 have ea:its.toArray++its2.toArray=(its++its2).toArray:=by simp
 rw[ea]
 exact ⟨.ref _,_,I.lnew (t':=s.toks) (r.append r2) (by rw[List.length_append]; omega),rfl,q _ I.fresh⟩
theorem z23 {prog:Program} {w:World} {A:Around} {E:Value->Shared->Prop} {s:Shared} {l:Addr} {its:List Value} {ns:List Int} {Q:Value->Shared->Prop} (hh:A.handled=none) (hl:s.heap.IsTuple l its.toArray) (hi:IntsAre its ns) (hne:0 < ns.length)
  (h:∀ h' tk M t',(∀ b o,s.heap.get? b=some o->h'.get? b=some o)->M∈ns->(∀ a,a∈ns->a<=M)->Q (.int M t') { s with heap:=h',toks:=tk }):wpAny (model prog w) A (call (.builtin "max") [.ref l]) Q E s:=by
 obtain ⟨xs,e⟩:=hi.allInts.items
 have hn:numsOf (intItems xs).toList=ns:=by rw[<- e]; exact hi.numsOf
 rw[nums_intItems] at hn
 subst hn
 rw[e] at hl
 have hsz:0 < xs.size:=by simpa using hne
 have hlt:l < s.heap.objs.size:=by obtain ⟨_,e,_⟩:=hl; exact Heap.lt_size e
 refine call_max_walk (wpAny_pyIter_tuple hl ?_)
 refine ⟨_,[_,l],[_],_,_,_,_,rfl,Walks.tuple (A:=A.in1) hh _ l (Nat.ne_of_lt hlt) (intItems xs),⟨⟨_,Heap.get?_push_size _ rfl,rfl,rfl⟩,hl.push _⟩,fun c hc=>?_,by simpa [intItems] using hsz,CmpOf.ints_gt (numAt xs) (fun _ _=>intItems_at),fun v h' tk hP hk=>?_⟩
 ·show c < (s.heap.push _).objs.size
  rw[Heap.size_push]
  rcases List.mem_cons.mp hc with rfl | hc
  ·exact Nat.lt_succ_self _
  ·rcases List.mem_cons.mp hc with rfl | hc
   ·exact Nat.lt_succ_of_lt hlt
   ·cases hc
 ·have hold:∀ c o,s.heap.get? c=some o->h'.get? c=some o:=fun c o e=>by
   refine hk c o (fun hm=>?_) (Heap.get?_push_of_some _ e)
   rcases List.mem_cons.mp hm with e1 | hm
   ·have:=Heap.lt_size e; rw[e1] at this; exact Nat.lt_irrefl _ this
   ·cases hm
  have hP':(intItems xs)[argBest (fun i j=>decide (numAt xs i > numAt xs j)) (xs.size - 1)]? = some v:=by simpa [intItems] using hP
  obtain ⟨t,rfl⟩:=intItems_at hP'
  obtain ⟨h1,h2⟩:=argBest_gt (numAt xs) (xs.size - 1)
  refine h h' tk _ t hold ?_ fun a ha=>?_
  ·rw[numAt_eq]; exact PySem.getD_mem (by rw[List.length_map,Array.length_toList]; omega)
  ·obtain ⟨j,hj,rfl⟩:=mem_getD ha
   rw[List.length_map,Array.length_toList] at hj
   rw[<- numAt_eq]; exact h2 j (by omega)
theorem z31 {prog:Program} {w:World} {A:Around} {E:Value->Shared->Prop} {s:Shared} {l:Addr} {its:List Value} {ns:List Int} {Q:Value->Shared->Prop} (hh:A.handled=none) (hl:s.heap.IsTuple l its.toArray) (hi:IntsAre its ns) (hne:0 < ns.length)
  (h:∀ h' tk M t',(∀ b o,s.heap.get? b=some o->h'.get? b=some o)->M∈ns->(∀ a,a∈ns->M<=a)->Q (.int M t') { s with heap:=h',toks:=tk }):wpAny (model prog w) A (call (.builtin "min") [.ref l]) Q E s:=by
 obtain ⟨xs,e⟩:=hi.allInts.items
 have hn:numsOf (intItems xs).toList=ns:=by rw[<- e]; exact hi.numsOf
 rw[nums_intItems] at hn
 subst hn
 rw[e] at hl
 have hsz:0 < xs.size:=by simpa using hne
 have hlt:l < s.heap.objs.size:=by obtain ⟨_,e,_⟩:=hl; exact Heap.lt_size e
 refine call_min_walk (wpAny_pyIter_tuple hl ?_)
 refine ⟨_,[_,l],[_],_,_,_,_,rfl,Walks.tuple (A:=A.in1) hh _ l (Nat.ne_of_lt hlt) (intItems xs),⟨⟨_,Heap.get?_push_size _ rfl,rfl,rfl⟩,hl.push _⟩,fun c hc=>?_,by simpa [intItems] using hsz,CmpOf.ints_lt (numAt xs) (fun _ _=>intItems_at),fun v h' tk hP hk=>?_⟩
 ·show c < (s.heap.push _).objs.size
  rw[Heap.size_push]
  rcases List.mem_cons.mp hc with rfl | hc
  ·exact Nat.lt_succ_self _
  ·rcases List.mem_cons.mp hc with rfl | hc
   ·exact Nat.lt_succ_of_lt hlt
   ·cases hc
 ·have hold:∀ c o,s.heap.get? c=some o->h'.get? c=some o:=fun c o e=>by
   refine hk c o (fun hm=>?_) (Heap.get?_push_of_some _ e)
   rcases List.mem_cons.mp hm with e1 | hm
   ·have:=Heap.lt_size e; rw[e1] at this; exact Nat.lt_irrefl _ this
   ·cases hm
  have hP':(intItems xs)[argBest (fun i j=>decide (numAt xs i < numAt xs j)) (xs.size - 1)]? = some v:=by simpa [intItems] using hP
  obtain ⟨t,rfl⟩:=intItems_at hP'
  obtain ⟨h1,h2⟩:=argBest_lt (numAt xs) (xs.size - 1)
  refine h h' tk _ t hold ?_ fun a ha=>?_
  ·rw[numAt_eq]; exact PySem.getD_mem (by rw[List.length_map,Array.length_toList]; omega)
  ·obtain ⟨j,hj,rfl⟩:=mem_getD ha
   rw[List.length_map,Array.length_toList] at hj
   rw[<- numAt_eq]; exact h2 j (by omega)
def z4E (K:PySem.W.Frag):List V->Hp->VK->Prop:=fun vs H Q=>∃ (a:Addr) (ns:List Int),vs=[V.ref a]/\SqT K H a (ns.map V.int)/\0 < ns.length/\∀ m,m∈ns->(∀ y,y∈ns->y<=m)->Q (.int m) H
def z4h (K:PySem.W.Frag):List V->Hp->VK->Prop:=fun vs H Q=>∃ (a:Addr) (ns:List Int),vs=[V.ref a]/\SqT K H a (ns.map V.int)/\0 < ns.length/\∀ m,m∈ns->(∀ y,y∈ns->m<=y)->Q (.int m) H
theorem z5i (hc:X.calm=true):CallR X (.builtin "max") (z4E X.K):=by
 intro pins s σ H vs us Q I r h
 obtain ⟨a,ns,rfl,hs,hne,q⟩:=h
 obtain ⟨its,rv,hl,_⟩:=I.tuple hs
 rw[Vals.ref1 r]
 exact z23 (I.ok.hd hc) (show s.heap.IsTuple a its.toArray from hl) rv.ints hne fun h' tk m t' hk h1 h2=>⟨.int _,H,I.kept hk,⟨_,rfl⟩,q m h1 h2⟩
theorem z40 (hc:X.calm=true):CallR X (.builtin "min") (z4h X.K):=by
 intro pins s σ H vs us Q I r h
 obtain ⟨a,ns,rfl,hs,hne,q⟩:=h
 obtain ⟨its,rv,hl,_⟩:=I.tuple hs
 rw[Vals.ref1 r]
 exact z31 (I.ok.hd hc) (show s.heap.IsTuple a its.toArray from hl) rv.ints hne fun h' tk m t' hk h1 h2=>⟨.int _,H,I.kept hk,⟨_,rfl⟩,q m h1 h2⟩
def zI6 (i j:Int):Prop:=i.natAbs.log2 + j.natAbs.log2 < 100000000
theorem zI6.ok {i j:Int} (h:zI6 i j):IntMulOk i j:=by
 have b:∀ x:Int,Builtin.Int.intBits x<=x.natAbs.log2 + 1:=fun x=>by
  unfold Builtin.Int.intBits
  split <;> omega
 have h1:=b i
 have h2:=b j
 have h3:i.natAbs.log2 + j.natAbs.log2 < 100000000:=h
 have e:bitsLine=134217728:=by decide
 unfold IntMulOk
 intro z
 rw[Bool.and_eq_true] at z
 have z2:=z.2
 unfold Builtin.Int.intTooBig at z2
 have z3:=of_decide_eq_true z2
 rw[e] at z3
 omega
theorem z4V:OpR X (binaryOp .Mult) (rI zI6 fun i j=>.int (i * j)):=opI fun _ _ _ _ _ _ _ hc q=>mul_int q hc.ok
theorem z0Z (l:Addr) (items:Array Value) (n:Nat) (dd:Option Addr) (sl:Array (Option Value)) (u:Tok) :
  Meets (Builtin.«tuple.__mul__» ⟨[.ref l,.int 1 u],[]⟩) (fun _ R s=>s.heap.get? l=some { cls:=.type "tuple",dict:=dd,data:=.seq items n,slots:=sl }/\R (.ok (.ret (.ref l))) s):=
 .of_wp fun prog w A R s h=>by
  obtain ⟨hp,g,d,tk,os⟩:=s
  obtain ⟨hl,h⟩:=h
  have f1:=AutoSeq1.idx_int
  have c0:(decide ((1:Int) < -(2 ^ 63))||decide ((1:Int) ≥ 2 ^ 63))=false:=by decide
  have c1:(items.isEmpty||(1:Int) == 1)=true:=by simp
  wp_walk using wpAny_loadPart' hl
  repeat (first
   | (refine wpAny_ite_false (decide_eq_false (by rw[c0]; exact Bool.false_ne_true)) ?_; wp_walk using wpAny_loadPart' hl)
   | (refine wpAny_ite_true (decide_eq_true (by rw[c1])) ?_; wp_walk using wpAny_loadPart' hl)
   | (refine wpAny_ite_true (by first | exact c1 | exact decide_eq_true c1) ?_; wp_walk using wpAny_loadPart' hl))
  exact ⟨_,rfl,h⟩
def z1Z (K:PySem.W.Frag):R2:=fun x y H Q=>∃ l k xs,x=.ref l/\y=.int k/\SqT K H l xs/\xs≠[]/\1<=k/\k<=1000/\xs.length<=1000/\(k=1->Q (.ref l) H)/\(k≠1->∀ p,H p=none->Q (.ref p) (upd H p (.tup (List.replicate k.toNat xs).flatten)))
theorem z3F:OpR X (binaryOp .Mult) (z1Z X.K):=by
 intro pins s σ H x y v u Q I rx ry h
 obtain ⟨l,k,xs,rfl,rfl,hT,hne,h1,h2,hz,q1,q2⟩:=h
 by_cases hk:k=1
 ·subst hk
  cases rx
  obtain ⟨t,rfl⟩:=ry
  obtain ⟨its,r,⟨⟨cls,dd,data,sl⟩,ho,hc,n,hd⟩,hs⟩:=I.tuple hT
  simp only at hc hd
  subst hc hd
  refine wpAny_binaryOp_repeat_ref (T := "tuple") (U := "int") (by decide) ⟨_,ho,rfl⟩ (fun s'=>typeIs_int s' 1 t) noFill_tuple_mul F.fills_int_mul F.slot_int_rmul repeat_tuple F.slot_int_index.lookup
   (call_meets F.slot_int_rmul (typeIs_int s 1 t) F.entry_int_rmul (F.args_int_rmul_2 _ _) (int_rmul_tuple 1 t l its.toArray n dd sl)
    ⟨ho,rfl,⟨_,ho,rfl⟩,call_meets F.slot_tuple_mul ⟨_,ho,rfl⟩ F.entry_tuple_mul (F.args_tuple_mul_2 _ _) (z0Z l its.toArray n dd sl t) ⟨ho,?_⟩⟩)
  exact ⟨.ref l,H,I,rfl,q1 rfl⟩
 ·exact op_repT pins s σ H _ _ v u Q I rx ry ⟨l,k,xs,rfl,rfl,hT,hne,by omega,h2,hz,q2 hk⟩
theorem zH2:∀ (k:Nat) (z a:Array Nat),((List.replicate k z).foldl (·++·) a).size=a.size + z.size * k
 | 0,z,a=>by simp
 | k + 1,z,a=>by rw[List.replicate_succ,List.foldl_cons,zH2 k z,Array.size_append,Nat.mul_succ]; omega
def zr4 (z:Str) (k:Nat):Str:=⟨(List.replicate k z.cps).foldl (·++·) #[]⟩
def z4z:R2:=fun x y H Q=>∃ (z:Str) (k:Int),x=.str z/\y=.int k/\2<=k/\k<=1000/\1<=z.length/\z.length<=1000/\Q (.str (zr4 z k.toNat)) H
theorem z5u:OpR X (binaryOp .Mult) z4z:=by
 intro pins s σ H x y v u Q I rx ry h
 obtain ⟨z,k,rfl,rfl,h1,h2,h3,h4,q⟩:=h
 obtain ⟨t,rfl⟩:=rx
 obtain ⟨t',rfl⟩:=ry
 have n1:¬ k < 1:=by omega
 have n2:(k == 1||z.length == 0)=false:=by
  rw[Bool.or_eq_false_iff]; exact ⟨beq_eq_false_iff_ne.mpr (by omega),beq_eq_false_iff_ne.mpr (by omega)⟩
 have hb:z.length * k.toNat<=1000000:=by
  have a:z.length * k.toNat<=1000 * 1000:=Nat.mul_le_mul h4 (by omega)
  omega
 refine P.mul_str (by rw[decide_eq_false (by omega),decide_eq_false (by omega)]; rfl) (fun _ _=>?_) (fun _ _=>?_) ?_
 ·have:(2 ^ 63 - 1:Int) / k ≥ (2 ^ 63 - 1) / 1000:=Int.le_ediv_of_mul_le (by omega) (by
   have:((2 ^ 63 - 1) / 1000:Int) * k<=((2 ^ 63 - 1) / 1000:Int) * 1000:=Int.mul_le_mul_of_nonneg_left h2 (by decide)
   have e:((2 ^ 63 - 1) / 1000:Int) * 1000<=2 ^ 63 - 1:=by decide
   omega)
  have e2:((2 ^ 63 - 1) / 1000:Int) ≥ 1000:=by decide
  omega
 ·unfold PySem.Builtin.Str.tooLong
  exact decide_eq_false (by have:=sizeLine_eq; omega)
 ·rw[if_neg n1,if_neg (by rw[n2]; exact Bool.false_ne_true)]
  refine ⟨?_,⟨.str (zr4 z k.toNat),H,I.tok _,⟨_,rfl⟩,q⟩⟩
  show (zr4 z k.toNat).cps.size<=_
  unfold zr4
  rw[zH2]
  have:=sizeLine_eq
  have e:z.cps.size=z.length:=rfl
  rw[e]
  simp
  omega
end
def zy6 (K:PySem.W.Frag) (CA:String->Addr) (c:Ec) (w:Value->Option Addr->Hp->Prop) (H:Hp):Prop:=match c with
 | .n s=>w (.ref (CA s)) none H
 | .p s fld d=>∀ dx v,H dx=some (.xd [(Str.ofString fld,v)])->Rep K H d v []->w (.ref (CA s)) (some dx) H
def i7 {α:Type} (K:PySem.W.Frag) (CA:String->Addr) (W:WX) (σ:L2.St) (H:Hp) (r:R α) (ok:α->Prop):Prop:=
 match r with
 | .ok a=>ok a
 | .ex c=>∀ H',Same H H'->zy6 K CA c (fun cls od=>W cls od σ) H'
 | .st=>False
def S8 (K:PySem.W.Frag) (A:Addr->Prop) (H0:Hp) (F:Nat->List Addr) (H:Hp) (kd:KD) (Q:VK):Prop:=
 ∀ v H' f,Same H H'->Rep K H' kd.2 v f->KOk A H0 F H H' kd.1 f->Q v H'
def tE (K:PySem.W.Frag) (CA:String->Addr) (W:WX) (s:SE):TE:=fun σ H Q=>
 ∃ A H0 F G ρ,SR K A H0 F G ρ σ H/\i7 K CA W σ H (s ρ) fun kd=>S8 K A H0 F H kd Q
def tT (K:PySem.W.Frag) (CA:String->Addr) (W:WX) (s:STs):TT:=fun σ H Q=>
 ∃ A H0 F G ρ,SR K A H0 F G ρ σ H/\i7 K CA W σ H (s ρ) fun b=>∀ H',Same H H'->Q b H'
def R.of {α:Type}:Option α->R α
 | some a=>.ok a
 | none=>.st
@[simp] theorem R.of_some {α:Type} (a:α):R.of (some a)=.ok a:=rfl
@[simp] theorem R.of_none {α:Type}:R.of (none:Option α)=.st:=rfl
section
variable {K:PySem.W.Frag} {CA:String->Addr} {W:WX} {σ:L2.St} {H H1:Hp}
theorem i7.bind {α β:Type} {r:R α} {f:α->R β} {ok:β->Prop} {ok':α->Prop} (h:i7 K CA W σ H (r.bind f) ok) (k:∀ a,i7 K CA W σ H (f a) ok->ok' a):i7 K CA W σ H r ok':=by
 cases r with
 | ok a=>exact k a h
 | ex c=>exact h
 | st=>exact h
theorem i7.later {α:Type} {r:R α} {ok:α->Prop} (h:i7 K CA W σ H r ok) (s:Same H H1):i7 K CA W σ H1 r ok:=by
 cases r with
 | ok a=>exact h
 | ex c=>exact fun H' q=>h H' (s.trans q)
 | st=>exact h
theorem i7.of {α:Type} {o:Option α} {ok:α->Prop} (h:i7 K CA W σ H (R.of o) ok):∃ a,o=some a/\ok a:=by
 cases o with
 | none=>exact h.elim
 | some a=>exact ⟨a,rfl,h⟩
theorem i7.imp {α:Type} {r:R α} {ok ok':α->Prop} (h:i7 K CA W σ H r ok) (k:∀ a,r=.ok a->ok a->ok' a):i7 K CA W σ H r ok':=by
 cases r with
 | ok a=>exact k a rfl h
 | ex c=>exact h
 | st=>exact h
end
section
variable {X:Cx} {e:Expr}
theorem peI {t t':TE} (h:PE X e t) (k:∀ σ H Q,t' σ H Q->t σ H Q):PE X e t':=⟨fun pins s σ H Q I q=>h.run pins s σ H Q I (k σ H Q q)⟩
theorem ptI {t t':TT} (h:PT X e t) (k:∀ σ H Q,t' σ H Q->t σ H Q):PT X e t':=⟨fun pins s σ H Q I q=>h.run pins s σ H Q I (k σ H Q q)⟩
theorem pwI {t t':TT} (h:PW X e t) (k:∀ σ H Q,t' σ H Q->t σ H Q):PW X e t':=⟨fun w pins s σ H Q I q=>h.run w pins s σ H Q I (k σ H Q q)⟩
end
def z4 (i:Nat):SE:=fun ρ=>match ρ[i]? with
 | some (.ow d)=>.ok (.bor [i],d)
 | some (.bo is d)=>.ok (.bor is,d)
 | _=>.st
def z8 (d:D):SE:=fun _=>.ok (.own,d)
section
variable {X:Cx} {CA:String->Addr} {W:WX} {pos:Pos}
theorem z5 (i:Nat) {x:Str} (hN:X.N[i]? = some x:=by rfl) (hv:Vis X.env.scope x:=by first | exact Or.inl rfl | exact Or.inr (Or.inl rfl) | exact Or.inr (Or.inr rfl)) (hd:(x == ("__debug__" : Str))=false:=by decide)
  (hcd:(x == ("__classdict__" : Str))=false:=by decide):PE X (.Name x pos) (tE X.K CA W (z4 i)):=by
 refine peI (pe_var hN hv hd hcd) fun σ H Q ⟨A,H0,F,G,ρ,sr,h⟩=>?_
 unfold z4 at h
 cases e:ρ[i]? with
 | none=>rw[e] at h; exact h.elim
 | some sl=>
  rw[e] at h
  cases sl with
  | no=>exact h.elim
  | tb=>exact h.elim
  | ow d=>
   obtain ⟨v,hv,r⟩:=sr.slo i d e
   exact ⟨v,hv,h v H (F i) (Same.refl H) r fun a ha=>.inl ⟨i,by simp,ha⟩⟩
  | bo is d=>
   obtain ⟨v,f,hv,r,b⟩:=sr.slb i is d e
   exact ⟨v,hv,h v H f (Same.refl H) r b⟩
theorem zI9 {e:Expr} {d:D} {v:V} (h:PE X e (tC v)) (r:∀ K H,Rep K H d v []):PE X e (tE X.K CA W (z8 d)):=
 peI h fun σ H Q ⟨A,H0,F,G,ρ,sr,h⟩=>h v H [] (Same.refl H) (r _ _) (KOk.nil _)
theorem y8 {i:Int} {j}:PE X (.Constant (.int i) j pos) (tE X.K CA W (z8 (.int i))):=zI9 pe_int fun _ _=>.int i
theorem zn7 {b:Bool} {j}:PE X (.Constant (.bool b) j pos) (tE X.K CA W (z8 (.bl b))):=zI9 pe_bl fun _ _=>.bl b
theorem R3 {j}:PE X (.Constant .none j pos) (tE X.K CA W (z8 .non)):=zI9 pe_non fun _ _=>.non
theorem b5 {x:Str} {j}:PE X (.Constant (.str x) j pos) (tE X.K CA W (z8 (.str x))):=zI9 pe_str fun _ _=>.str x
theorem z7O {x:Str} {i:Int} (hm:∃ t,X.mg x=some (.int i t)) (hg:Gl X x:=by rfl) (hd:(x == ("__debug__" : Str))=false:=by decide):PE X (.Name x pos) (tE X.K CA W (z8 (.int i))):=by
 obtain ⟨t,hm⟩:=hm
 exact zI9 (pe_glob (v:=.int i) hg hm ⟨t,rfl⟩ hd) fun _ _=>.int i
end
def LIM:Nat:=16777216
theorem O4:LIM=sizeLine:=sizeLine_eq.symm
def O8 (i j:Int):Bool:=decide (i.natAbs.log2 + j.natAbs.log2 < 100000000)
def A8 (j:Int):Bool:=decide (0 < j)&&decide (j.natAbs.log2 < 9000)
def zo9 (i j:Int):Bool:=decide (0<=j)&&decide (j<=1000000)&&decide (i.natAbs < 2 ^ 64)
def lk (k:Kd) (ds:List D):Kd:=if noLs ds=true then .own else k
def opB:Operator->KD->KD->Option KD
 | .Add,(_,.int i),(_,.int j)=>some (.own,.int (i + j))
 | .Add,(_,.str i),(_,.str j)=>if i.length + j.length<=LIM then some (.own,.str (i++j)) else none
 | .Add,(k1,.tup a),(k2,.tup b)=>if a.length + b.length<=LIM then some (k1.join k2,.tup (a++b)) else none
 | .Add,(k1,.lst a),(k2,.lst b)=>if a.length + b.length<=LIM then some (lk (k1.join k2) (a++b),.lst (a++b)) else none
 | .Add,(k1,.scr a),(k2,.lst b)=>if a.length + b.length<=LIM then some (lk (k1.join k2) (a++b),.lst (a++b)) else none
 | .Add,(k1,.lst a),(k2,.scr b)=>if a.length + b.length<=LIM then some (lk (k1.join k2) (a++b),.lst (a++b)) else none
 | .Add,(k1,.scr a),(k2,.scr b)=>if a.length + b.length<=LIM then some (lk (k1.join k2) (a++b),.lst (a++b)) else none
 | .Sub,(_,.int i),(_,.int j)=>some (.own,.int (i - j))
 | .Mult,(_,.int i),(_,.int j)=>if O8 i j=true then some (.own,.int (i * j)) else none
 | .Mult,(k,.tup a),(_,.int j)=>if a≠[]/\1<=j/\j<=1000/\a.length<=1000/\noLs a=true then some (k,.tup (List.replicate j.toNat a).flatten) else none
 | .Mult,(_,.str z),(_,.int j)=>if 2<=j/\j<=1000/\1<=z.length/\z.length<=1000 then some (.own,.str (zr4 z j.toNat)) else none
 | .FloorDiv,(_,.int i),(_,.int j)=>if A8 j=true then some (.own,.int (i / j)) else none
 | .Mod,(_,.int i),(_,.int j)=>if 0 < j then some (.own,.int (i % j)) else none
 | .Pow,(_,.int i),(_,.int j)=>if zo9 i j=true then some (.own,.int (i ^ j.toNat)) else none
 | _,_,_=>none
def w7 (op:Operator) (a b:SE):SE:=fun ρ=>(a ρ).bind fun x=>(b ρ).bind fun y=>R.of (opB op x y)
def rOp (K:PySem.W.Frag):Operator->R2
 | .Add=>fun x y H Q=>rI0 (fun i j=>.int (i + j)) x y H Q\/(∃ i j,x=.str i/\y=.str j/\i.length + j.length<=sizeLine/\Q (.str (i++j)) H)\/z2k K x y H Q\/zU2 K x y H Q
 | .Sub=>rI0 fun i j=>.int (i - j)
 | .Mult=>fun x y H Q=>rI zI6 (fun i j=>.int (i * j)) x y H Q\/z1Z K x y H Q\/z4z x y H Q
 | .FloorDiv=>rI CDivW fun i j=>.int (i / j)
 | .Mod=>rI (fun _ j=>0 < j) fun i j=>.int (i % j)
 | .Pow=>rI CPow fun i j=>.int (i ^ j.toNat)
 | _=>fun _ _ _ _=>False
theorem z7t {X:Cx} (op:Operator):OpR X (binaryOp op) (rOp X.K op):=by
 cases op with
 | Add=>exact op_add.or (op_add_str.or (z24.or z2L))
 | Sub=>exact op_sub
 | Mult=>exact z4V.or (z3F.or z5u)
 | FloorDiv=>exact op_fdivW
 | Mod=>exact op_mod
 | Pow=>exact op_pow
 | _=>exact fun _ _ _ _ _ _ _ _ _ _ _ _ h=>h.elim
theorem V6 {H:Hp} {p:Addr} {o:HO} (h:H p=none):Same H (upd H p o):=fun b x e=>by
 rw[upd_ne (ne_of_none e h)]; exact e
section
variable {K:PySem.W.Frag} {A:Addr->Prop} {H0 H H1 H2:Hp} {F:Nat->List Addr} {G:List (D×V)} {ρ:Env} {σ:L2.St} {Q:VK}
theorem S8.atom {d:D} {v:V} {k:Kd} (h:S8 K A H0 F H (k,d) Q) (s:Same H H1) (r:Rep K H1 d v []):Q v H1:=h v H1 [] s r (KOk.nil _)
theorem KOk.node {k:Kd} {p:Addr} {xs:List V} {f:List Addr} (sr:SR K A H0 F G ρ σ H) (s:Same H H1) (np:H1 p=none) (hf:∀ a∈f,H1 a≠none) (o:KOk A H0 F H H1 k f) :
  KOk A H0 F H (upd H1 p (.lst xs)) k (p::f):=by
 have hp:∀ a∈f,a≠p:=fun a ha e=>hf a ha (by rw[e]; exact np)
 cases k with
 | own=>
  refine ⟨List.nodup_cons.mpr ⟨fun hm=>hp p hm rfl,o.1⟩,fun a ha=>?_⟩
  rcases List.mem_cons.mp ha with e | ha
  ·subst e; exact ⟨s.free np,⟨by rw[upd_same]; trivial⟩⟩
  ·exact ⟨(o.2 a ha).1,(o.2 a ha).2.same (V6 np)⟩
 | bor is=>
  intro a ha
  rcases List.mem_cons.mp ha with e | ha
  ·subst e
   exact .inr ⟨.inr ((sr.fr.trans s).free np),fun j hj=>((sr.same s).own j).2 a hj |>.2.ne np⟩
  ·exact o a ha
theorem KOk.lk {k:Kd} {ds:List D} {vs:List V} {f:List Addr} (r:Reps K H1 ds vs f) (o:KOk A H0 F H H1 k f):KOk A H0 F H H1 (lk k ds) f:=by
 unfold Cz.lk
 split
 ·rename_i h
  rw[Reps.noL r h]
  exact KOk.nil _
 ·exact o
theorem S8.newL {k:Kd} {ds:List D} {vs:List V} {f:List Addr} {p:Addr} (h:S8 K A H0 F H (k,.lst ds) Q) (sr:SR K A H0 F G ρ σ H) (s:Same H H1) (r:Reps K H1 ds vs f) (o:KOk A H0 F H H1 k f) (np:H1 p=none):Q (.ref p) (upd H1 p (.lst vs)):=
 h _ _ (p::f) (s.trans (V6 np)) (.lst upd_same (r.same (V6 np))) (o.node sr s np r.trk)
theorem S8.newT {k:Kd} {ds:List D} {vs:List V} {f:List Addr} {p:Addr} (h:S8 K A H0 F H (k,.tup ds) Q) (s:Same H H1) (r:Reps K H1 ds vs f) (o:KOk A H0 F H H1 k f) (np:H1 p=none):Q (.ref p) (upd H1 p (.tup vs)):=
 h _ _ f (s.trans (V6 np)) (.tup upd_same (r.same (V6 np))) (o.wide (Same.refl H) (V6 np))
theorem z7p {op:Operator} {k1 k2:Kd} {d1 d2:D} {v1 v2:V} {f1 f2:List Addr} {kd:KD} (sr:SR K A H0 F G ρ σ H) (s1:Same H H1) (s2:Same H1 H2) (r1:Rep K H1 d1 v1 f1) (r2:Rep K H2 d2 v2 f2)
  (o1:KOk A H0 F H H1 k1 f1) (o2:KOk A H0 F H1 H2 k2 f2) (e:opB op (k1,d1) (k2,d2)=some kd) (h:S8 K A H0 F H kd Q):rOp K op v1 v2 H2 Q:=by
 have s12:=s1.trans s2
 have r1':=r1.same s2
 have two:∀ {P:Int->Int->Prop} {g:Int->Int->Int} {i j:Int},d1=.int i->d2=.int j->P i j->kd=(.own,.int (g i j))->rI P (fun i j=>.int (g i j)) v1 v2 H2 Q:=fun {P g i j} e1 e2 p e3=>by
  subst e1; subst e2; subst e3
  cases r1; cases r2
  exact ⟨_,_,rfl,rfl,p,h.atom s12 (.int _)⟩
 have cat:∀ {a b:List D},(∃ a1 vs g,v1=.ref a1/\SqL K H1 a1 vs/\Reps K H1 a vs g/\(∀ b∈g,b∈f1)/\(f1.Nodup->g.Nodup))->(∃ a1 vs g,v2=.ref a1/\SqL K H2 a1 vs/\Reps K H2 b vs g/\(∀ b∈g,b∈f2)/\(f2.Nodup->g.Nodup)) ->
   (if a.length + b.length<=LIM then some (lk (k1.join k2) (a++b),D.lst (a++b)) else none)=some kd->zU2 K v1 v2 H2 Q:=fun {a b} ⟨a1,vs1,g1,ev1,t1,q1,i1,n1⟩ ⟨a2,vs2,g2,ev2,t2,q2,i2,n2⟩ e=>by
  split at e
  ·rename_i hz
   cases e
   subst ev1; subst ev2
   have q1':=q1.same s2
   refine ⟨_,_,_,_,rfl,rfl,s2.seq t1,t2,by rw[<- O4,<- q1.length,<- q2.length]; exact hz,fun p np=>?_⟩
   have o:=KOk.join sr s1 s2 q1.trk (o1.sub i1 n1) (o2.sub i2 n2)
   exact h.newL sr s12 (q1'.app q2) (o.lk (q1'.app q2)) np
  ·cases e
 cases op with
 | Add=>
  cases d1 with
  | int i=>
   cases d2 with
   | int j=>simp only[opB,Option.some.injEq] at e; subst e; cases r1; cases r2; exact .inl ⟨_,_,rfl,rfl,h.atom s12 (.int _)⟩
   | _=>simp[opB] at e
  | str i=>
   cases d2 with
   | str j=>
    simp only[opB] at e
    split at e
    ·cases e; cases r1; cases r2; rename_i hz; exact .inr (.inl ⟨_,_,rfl,rfl,by rw[<- O4]; exact hz,h.atom s12 (.str _)⟩)
    ·cases e
   | _=>simp[opB] at e
  | tup a=>
   cases d2 with
   | tup b=>
    simp only[opB] at e
    split at e
    ·rename_i hz
     cases e
     cases r1' with
     | tup t1 q1=>
     cases r2 with
     | tup t2 q2=>
     refine .inr (.inr (.inl ⟨_,_,_,_,rfl,rfl,.of t1,.of t2,by rw[<- O4,<- q1.length,<- q2.length]; exact hz,fun hx=>?_,fun hx hy=>?_,fun hx hy p np=>?_⟩))
     ·subst hx
      cases q1
      exact h _ _ f2 s12 (.tup t2 q2) (KOk.join sr s1 s2 (f:=[]) (fun a ha=>nomatch ha) (KOk.nil k1) o2)
     ·subst hy
      cases q2
      refine h _ _ f1 s12 (by rw[List.append_nil]; exact .tup t1 q1) ?_
      have:=KOk.join sr s1 s2 (g:=[]) r1.trk o1 (KOk.nil k2)
      rw[List.append_nil] at this
      exact this
     ·exact h.newT s12 (q1.app q2) (KOk.join sr s1 s2 r1.trk o1 o2) np
    ·cases e
   | _=>simp[opB] at e
  | lst a=>
   cases d2 with
   | lst b=>exact .inr (.inr (.inr (cat r1.lstI r2.lstI e)))
   | scr b=>exact .inr (.inr (.inr (cat r1.lstI r2.scrI e)))
   | _=>simp[opB] at e
  | scr a=>
   cases d2 with
   | lst b=>exact .inr (.inr (.inr (cat r1.scrI r2.lstI e)))
   | scr b=>exact .inr (.inr (.inr (cat r1.scrI r2.scrI e)))
   | _=>simp[opB] at e
  | _=>cases d2 <;> simp[opB] at e
 | Sub=>
  cases d1 with
  | int i=>
   cases d2 with
   | int j=>simp only[opB,Option.some.injEq] at e; subst e; cases r1; cases r2; exact ⟨_,_,rfl,rfl,h.atom s12 (.int _)⟩
   | _=>simp[opB] at e
  | _=>cases d2 <;> simp[opB] at e
 | Mult=>
  cases d1 with
  | int i=>
   cases d2 with
   | int j=>
    simp only[opB] at e
    split at e
    ·rename_i hz; cases e; exact .inl (two (P:=zI6) rfl rfl (show i.natAbs.log2 + j.natAbs.log2 < 100000000 from of_decide_eq_true hz) rfl)
    ·cases e
   | _=>simp[opB] at e
  | tup a=>
   cases d2 with
   | int j=>
    simp only[opB] at e
    split at e
    ·rename_i hz
     cases e
     obtain ⟨h1,h2,h3,h4,h5⟩:=hz
     cases r1' with
     | @tup a0 vs _ _ t1 q1=>
     cases r2
     have hne:vs≠[]:=fun z=>by subst z; cases q1; exact h1 rfl
     have hf:=Reps.noL q1 h5
     refine .inr (.inl ⟨_,_,_,rfl,rfl,.of t1,hne,h2,h3,by rw[<- q1.length]; exact h4,fun z=>?_,fun z p np=>?_⟩)
     ·have:(List.replicate j.toNat a).flatten=a:=by rw[z]; simp
      rw[this] at h
      exact h _ _ f1 s12 (.tup t1 q1) (by rw[hf]; exact KOk.nil _)
     ·have rr:∀ m:Nat,Reps K H2 (List.replicate m a).flatten (List.replicate m vs).flatten []:=fun m=>by
       induction m with
       | zero=>exact .nil
       | succ m ih=>
        rw[hf] at q1
        have:=q1.app ih
        simpa [List.replicate_succ] using this
      exact h.newT s12 (rr _) (KOk.nil _) np
    ·cases e
   | _=>simp[opB] at e
  | str z=>
   cases d2 with
   | int j=>
    simp only[opB] at e
    split at e
    ·rename_i hz; cases e; cases r1; cases r2
     exact .inr (.inr ⟨_,_,rfl,rfl,hz.1,hz.2.1,hz.2.2.1,hz.2.2.2,h.atom s12 (.str _)⟩)
    ·cases e
   | _=>simp[opB] at e
  | _=>cases d2 <;> simp[opB] at e
 | FloorDiv=>
  cases d1 with
  | int i=>
   cases d2 with
   | int j=>
    simp only[opB] at e
    split at e
    ·rename_i hz; cases e
     have hz':=Bool.and_eq_true_iff.mp hz
     exact two rfl rfl ⟨of_decide_eq_true hz'.1,of_decide_eq_true hz'.2⟩ rfl
    ·cases e
   | _=>simp[opB] at e
  | _=>cases d2 <;> simp[opB] at e
 | Mod=>
  cases d1 with
  | int i=>
   cases d2 with
   | int j=>
    simp only[opB] at e
    split at e
    ·rename_i hz; cases e; exact two (P:=fun _ j=>0 < j) rfl rfl hz rfl
    ·cases e
   | _=>simp[opB] at e
  | _=>cases d2 <;> simp[opB] at e
 | Pow=>
  cases d1 with
  | int i=>
   cases d2 with
   | int j=>
    simp only[opB] at e
    split at e
    ·rename_i hz; cases e
     have hz':=Bool.and_eq_true_iff.mp hz
     have hz2:=Bool.and_eq_true_iff.mp hz'.1
     exact two rfl rfl ⟨of_decide_eq_true hz2.1,of_decide_eq_true hz2.2,of_decide_eq_true hz'.2⟩ rfl
    ·cases e
   | _=>simp[opB] at e
  | _=>cases d2 <;> simp[opB] at e
 | _=>cases d1 <;> cases d2 <;> simp[opB] at e
end
section
variable {X:Cx} {CA:String->Addr} {W:WX} {pos:Pos} {a b:Expr} {sa sb:SE}
theorem v9 {op:Operator} (ha:PE X a (tE X.K CA W sa)) (hb:PE X b (tE X.K CA W sb)):PE X (.BinOp a op b pos) (tE X.K CA W (w7 op sa sb)):=by
 refine peI (pe_op (z7t op) ha hb) fun σ H Q ⟨A,H0,F,G,ρ,sr,h⟩=>?_
 refine ⟨A,H0,F,G,ρ,sr,h.bind fun ⟨k1,d1⟩ h1=>?_⟩
 intro v1 H1 f1 s1 r1 o1
 refine ⟨A,H0,F,G,ρ,sr.same s1,(h1.later s1).bind fun ⟨k2,d2⟩ h2=>?_⟩
 intro v2 H2 f2 s2 r2 o2
 obtain ⟨kd,e,h3⟩:=h2.of
 exact z7p sr s1 s2 r1 r2 o1 o2 e h3
end
theorem i7.ofB {α β:Type} {K:PySem.W.Frag} {CA:String->Addr} {W:WX} {σ:L2.St} {H:Hp} {o:Option α} {f:α->R β} {ok:β->Prop} (h:i7 K CA W σ H ((R.of o).bind f) ok):∃ a,o=some a/\i7 K CA W σ H (f a) ok:=by
 cases o with
 | none=>exact h.elim
 | some a=>exact ⟨a,rfl,h⟩
mutual
def toP:D->Option PyData
 | .non=>some .none | .bl b=>some (.bool b) | .int i=>some (.int i) | .str x=>some (.str x)
 | .tup ds=>(toPs ds).map .tuple
 | .lst ds=>(toPs ds).map .list
 | .scr ds=>(toPs ds).map .list
 | .dic _=>none
 | .fn _=>none | .obj _ _ _=>none | .dtk _=>none
 | .sob _ _=>none | .fdc _=>none | .exv _ _ _ _=>none | .nod _ _=>none | .tg _ _=>none | .hol _=>none | .dnk _=>none
def toPs:List D->Option (List PyData)
 | []=>some []
 | d::ds=>match toP d,toPs ds with
  | some p,some ps=>some (p::ps)
  | _,_=>none
end
def eqD (a b:D):Option Bool:=match toP a,toP b with
 | some p,some q=>if SeqAt.shaped p=true then if SeqAt.shaped q=true then some (PyData.eqv p q) else none else none
 | _,_=>none
section
variable {K:PySem.W.Frag} {H:Hp}
mutual
theorem Rep.dp:∀ {d:D} {v:V} {f:List Addr} {p:PyData},Rep K H d v f->toP d=some p->Dp K H v p
 | _,_,_,_,.non,e=>by simp only[toP,Option.some.injEq] at e; subst e; exact .non
 | _,_,_,_,.bl b,e=>by simp only[toP,Option.some.injEq] at e; subst e; exact .bl b
 | _,_,_,_,.int i,e=>by simp only[toP,Option.some.injEq] at e; subst e; exact .int i
 | _,_,_,_,.str x,e=>by simp only[toP,Option.some.injEq] at e; subst e; exact .str x
 | _,_,_,_,.tup (ds:=ds) q r,e=>by
  cases h:toPs ds with
  | none=>simp[toP,h] at e
  | some ps=>simp only[toP,h,Option.map_some,Option.some.injEq] at e; subst e; exact .tup (.of q) (Reps.dp r h)
 | _,_,_,_,.lst (ds:=ds) q r,e=>by
  cases h:toPs ds with
  | none=>simp[toP,h] at e
  | some ps=>simp only[toP,h,Option.map_some,Option.some.injEq] at e; subst e; exact .lst (.of q) (Reps.dp r h)
 | _,_,_,_,.scr (ds:=ds) q r,e=>by
  cases h:toPs ds with
  | none=>simp[toP,h] at e
  | some ps=>
   simp only[toP,h,Option.map_some,Option.some.injEq] at e; subst e
   rcases q with q | ⟨o,q⟩
   ·exact .lst (q _) (Reps.dp r h)
   ·exact .lst (.inl (.inr ⟨o,q⟩)) (Reps.dp r h)
 | _,_,_,_,.dic q n r,e=>by simp[toP] at e
 | _,_,_,_,.fn q,e=>by simp[toP] at e
 | _,_,_,_,.obj q c n r _,e=>by simp[toP] at e
 | _,_,_,_,.dtk q n r,e=>by simp[toP] at e
 | _,_,_,_,.sob _ _ _ _,e=>by simp[toP] at e
 | _,_,_,_,.fdc _ _ _,e=>by simp[toP] at e
 | _,_,_,_,.exv _ _,e=>by simp[toP] at e
 | _,_,_,_,.nod _,e=>by simp[toP] at e
 | _,_,_,_,.tg _ _,e=>by simp[toP] at e
 | _,_,_,_,.hol _,e=>by simp[toP] at e
 | _,_,_,_,.dnk _ _ _ _,e=>by simp[toP] at e
theorem Reps.dp:∀ {d:List D} {v:List V} {f:List Addr} {p:List PyData},Reps K H d v f->toPs d=some p->DpAll K H v p
 | _,_,_,_,.nil,e=>by simp only[toPs,Option.some.injEq] at e; subst e; exact .nil
 | _,_,_,_,.cons (d:=d) (ds:=ds) r t,e=>by
  cases h:toP d with
  | none=>simp[toPs,h] at e
  | some p=>
   cases h2:toPs ds with
   | none=>simp[toPs,h,h2] at e
   | some ps=>simp only[toPs,h,h2,Option.some.injEq] at e; subst e; exact .cons (Rep.dp r h) (Reps.dp t h2)
end
end
def fV:D->Option V
 | .non=>some .non | .bl b=>some (.bl b) | .int i=>some (.int i) | .str x=>some (.str x)
 | _=>none
def fVs:List D->Option (List V)
 | []=>some []
 | d::ds=>match fV d,fVs ds with
  | some p,some ps=>some (p::ps)
  | _,_=>none
def W4:D->Option Key
 | .int i=>some (.inl i)
 | .str x=>some (.inr x)
 | _=>none
def w6 {κ:Type} [DecidableEq κ]:List (κ×D)->κ->Option D
 | [],_=>none
 | (k,d)::r,q=>if k=q then some d else w6 r q
def W5:List D->Option (List Key)
 | []=>some []
 | d::ds=>match W4 d,W5 ds with
  | some k,some ks=>some (k::ks)
  | _,_=>none
def S1:D->Option (List Key)
 | .tup ds=>W5 ds
 | _=>none
def inD (x y:D):Option Bool:=match y with
 | .dic kvs=>(W4 x).map fun k=>(w6 kvs k).isSome
 | .fdc kvs=>(W4 x).map fun k=>(w6 kvs k).isSome
 | .dtk kvs=>(S1 x).map fun k=>(w6 kvs k).isSome
 | .str z=>(match x with
  | .str s=>(match s.cps.toList with
   | [c]=>some (decide (c∈z.cps.toList))
   | _=>some (!(Builtin.Str.occurrences z s 0 z.length 1).isEmpty))
  | _=>none)
 | .tup ds=>(match fV x,fVs ds with
  | some v,some vs=>some (inV v vs)
  | _,_=>none)
 | .lst ds=>(match toP x,toPs ds with
  | some p,some ps=>if SeqAt.shaped p=true then if SeqAt.shaped (.list ps)=true then some (ps.any fun z=>PyData.eqv z p) else none else none
  | _,_=>none)
 | _=>none
def V9:D->Bool
 | .non=>true
 | _=>false
def p9:List D->Option (List Int)
 | []=>some []
 | .int i::r=>(p9 r).map (i::·)
 | _::_=>none
@[simp] theorem zo5:∀ ns:List Int,p9 (ns.map D.int)=some ns
 | []=>rfl
 | n::ns=>by simp[p9,zo5 ns]
theorem N8:∀ {ds:List D} {ns:List Int},p9 ds=some ns->ds=ns.map D.int
 | [],ns,e=>by simp only[p9,Option.some.injEq] at e; subst e; rfl
 | d::ds,ns,e=>by
  cases d with
  | int i=>
   cases h:p9 ds with
   | none=>simp[p9,h] at e
   | some ms=>simp only[p9,h,Option.map_some,Option.some.injEq] at e; subst e; rw[N8 h]; rfl
  | _=>simp[p9] at e
def leT (ns ms:List Int):Bool:=Ob.lexAt (fun j=>decide (ns.getD j 0=ms.getD j 0)) (fun j=>decide (ns.getD j 0<=ms.getD j 0)) (decide (ns.length<=ms.length)) 0 (min ns.length ms.length)
def Z2:CmpOp->D->D->Option Bool
 | .Lt,.int i,.int j=>some (decide (i < j))
 | .Lt,.tup a,.tup b=>(p9 a).bind fun ns=>(p9 b).map fun ms=>HT.lexLt ns ms
 | .LtE,.int i,.int j=>some (decide (i<=j))
 | .LtE,.tup a,.tup b=>(p9 a).bind fun ns=>(p9 b).map fun ms=>leT ns ms
 | .Gt,.int i,.int j=>some (decide (i > j))
 | .GtE,.int i,.int j=>some (decide (i ≥ j))
 | .Eq,a,b=>eqD a b
 | .NotEq,a,b=>(eqD a b).map (!·)
 | .Is,a,.non=>some (V9 a)
 | .IsNot,a,.non=>some (!V9 a)
 | .In,x,y=>inD x y
 | .NotIn,x,y=>(inD x y).map (!·)
 | _,_,_=>none
section
variable {K:PySem.W.Frag} {H:Hp}
theorem Rep.fV {d:D} {v u:V} {f:List Addr} (r:Rep K H d v f) (e:Cz.fV d=some u):v=u/\flatV u=true:=by
 cases r <;> simp[Cz.fV] at e <;> (subst e; exact ⟨rfl,rfl⟩)
theorem Reps.fV:∀ {ds:List D} {vs us:List V} {f:List Addr},Reps K H ds vs f->fVs ds=some us->vs=us/\us.all flatV=true
 | _,_,_,_,.nil,e=>by simp only[fVs,Option.some.injEq] at e; subst e; exact ⟨rfl,rfl⟩
 | _,_,_,_,.cons (d:=d) (ds:=ds) r t,e=>by
  cases h:Cz.fV d with
  | none=>simp[fVs,h] at e
  | some p=>
   cases h2:fVs ds with
   | none=>simp[fVs,h,h2] at e
   | some ps=>
    simp only[fVs,h,h2,Option.some.injEq] at e; subst e
    obtain ⟨e1,e2⟩:=r.fV h
    obtain ⟨e3,e4⟩:=Reps.fV t h2
    subst e1; subst e3
    exact ⟨rfl,by simp[e2,e4]⟩
theorem zc2 {d:D} {v:V} {f:List Addr} {k:Key} (r:Rep K H d v f) (e:W4 d=some k):v=kV k:=by
 cases r <;> simp[W4] at e <;> (subst e; rfl)
theorem zO1:∀ {ds:List D} {vs:List V} {f:List Addr} {k:List Key},Reps K H ds vs f->W5 ds=some k->vs=k.map kV
 | [],_,_,k,.nil,e=>by simp[W5] at e; subst e; rfl
 | d::ds,_,_,k,.cons r t,e=>by
  cases h1:W4 d with
  | none=>simp[W5,h1] at e
  | some k1=>
   cases h2:W5 ds with
   | none=>simp[W5,h1,h2] at e
   | some ks=>
    simp only[W5,h1,h2,Option.some.injEq] at e
    subst e
    rw[zc2 r h1,zO1 t h2]; rfl
theorem zu7 {d:D} {v:V} {f:List Addr} {k:List Key} (r:Rep K H d v f) (e:S1 d=some k):∃ b,v=.ref b/\H b=some (.tup (k.map kV)):=by
 cases r with
 | tup q t=>
  have:=zO1 t e
  subst this
  exact ⟨_,rfl,q⟩
 | _=>simp[S1] at e
theorem RepK.val {κ:Type} [DecidableEq κ]:∀ {kds:List (κ×D)} {kvs:List (κ×V)} {f:List Addr} (k:κ),RepK K H kds kvs f ->
  (w6 kds k=none/\valV kvs k=none)\/∃ d v g,w6 kds k=some d/\valV kvs k=some v/\Rep K H d v g/\(∀ a∈g,a∈f)/\(f.Nodup->g.Nodup)
 | _,_,_,k,.nil=>.inl ⟨rfl,rfl⟩
 | _,_,_,k,.cons (k:=q) (d:=d) (v:=v) r t=>by
  by_cases h:q=k
  ·refine .inr ⟨d,v,_,by simp[w6,h],valV_pos h,r,fun a ha=>List.mem_append_left _ ha,fun n=>(List.nodup_append.mp n).1⟩
  ·rcases RepK.val k t with ⟨e1,e2⟩ | ⟨d',v',g,e1,e2,e3,e4,e5⟩
   ·exact .inl ⟨by simp[w6,h,e1],by rw[valV_neg (p:=(q,v)) h]; exact e2⟩
   ·exact .inr ⟨d',v',g,by simp[w6,h,e1],by rw[valV_neg (p:=(q,v)) h]; exact e2,e3,fun a ha=>List.mem_append_right _ (e4 a ha),fun n=>e5 (List.nodup_append.mp n).2.1⟩
end
def z2S (neg:Bool):R2:=fun x y H Q=>∃ a o,y=.ref a/\DGet H a x o/\Q (.bl (if neg then !o.isSome else o.isSome)) H
theorem z7d {X:Cx} (hu:X.A.units + 1 < cLine):OpR X (compareOp .In) (z2S false):=by
 intro pins s σ H x y v u Q I rx ry h
 obtain ⟨a,o,rfl,g,q⟩:=h
 obtain rfl:u=Value.ref a:=ry
 exact d_in hu I g rx fun s3 I3=>⟨.bl o.isSome,H,I3,rfl,q⟩
theorem z2G {X:Cx} (hu:X.A.units + 1 < cLine):OpR X (compareOp .NotIn) (z2S true):=by
 intro pins s σ H x y v u Q I rx ry h
 obtain ⟨a,o,rfl,g,q⟩:=h
 obtain rfl:u=Value.ref a:=ry
 exact d_notIn hu I g rx fun s3 I3=>⟨.bl (!o.isSome),H,I3,rfl,q⟩
def yh6 (neg:Bool):R2:=fun x y H Q=>∃ i j,x=.str i/\y=.str j/\Q (.bl (if neg then !(!(Builtin.Str.occurrences j i 0 j.length 1).isEmpty) else !(Builtin.Str.occurrences j i 0 j.length 1).isEmpty)) H
def ye0 (neg:Bool):R2:=fun x y H Q=>∃ (c:Nat) (z:Str),x=.str ⟨#[c]⟩/\y=.str z/\Q (.bl (if neg then !decide (c∈z.cps.toList) else decide (c∈z.cps.toList))) H
def z3p (K:PySem.W.Frag) (neg:Bool):R2:=fun x y H Q=>z2S neg x y H Q\/yh6 neg x y H Q\/ye0 neg x y H Q\/rIn K neg x y H Q\/(if neg then rNotInD K x y H Q else rInD K x y H Q)
def z6R (K:PySem.W.Frag):CmpOp->R2
 | .Lt=>fun x y H Q=>rI0 (fun i j=>.bl (decide (i < j))) x y H Q\/rLtT K x y H Q
 | .LtE=>fun x y H Q=>rI0 (fun i j=>.bl (decide (i<=j))) x y H Q\/rLeT K x y H Q
 | .Gt=>rI0 fun i j=>.bl (decide (i > j))
 | .GtE=>rI0 fun i j=>.bl (decide (i ≥ j))
 | .Eq=>rEqD K
 | .NotEq=>rNeD K
 | .Is=>fun x y H Q=>y=.non/\Q (.bl (decide (x=.non))) H
 | .IsNot=>fun x y H Q=>y=.non/\Q (.bl (!decide (x=.non))) H
 | .In=>z3p K false
 | .NotIn=>z3p K true
theorem zC2 {X:Cx} (hu:X.A.units + 65 < cLine) (op:CmpOp):OpR X (compareOp op) (z6R X.K op):=by
 cases op with
 | Lt=>exact OpR.or op_lt (op_ltT (by omega))
 | LtE=>exact OpR.or op_le (op_leT (by omega))
 | Gt=>exact op_gt
 | GtE=>exact op_ge
 | Eq=>exact op_eqD (by omega)
 | NotEq=>exact op_neD (by omega)
 | Is=>exact op_isN
 | IsNot=>exact op_notN
 | In=>exact (z7d (by omega)).or (OpR.or op_in_str (OpR.or op_in_sign (OpR.or op_in_seq (op_inD hu))))
 | NotIn=>exact (z2G (by omega)).or (OpR.or op_notin_str (OpR.or op_notIn_sign (OpR.or op_notIn_seq (op_notInD hu))))
theorem zO8 {K:PySem.W.Frag} {H:Hp} {d:D} {v:V} {f:List Addr} (r:Rep K H d v f):decide (v=V.non)=V9 d:=by
 cases r <;> simp[V9]
theorem z12 {K:PySem.W.Frag} {H:Hp} {neg:Bool} {d1 d2:D} {v1 v2:V} {f1 f2:List Addr} {b:Bool} {Q:VK} (r1:Rep K H d1 v1 f1) (r2:Rep K H d2 v2 f2) (e:inD d1 d2=some b) (h:Q (.bl (if neg then !b else b)) H):z3p K neg v1 v2 H Q:=by
 cases d2 with
 | dic kvs=>
  cases k:W4 d1 with
  | none=>simp[inD,k] at e
  | some k'=>
   simp only[inD,k,Option.map_some,Option.some.injEq] at e
   subst e
   cases r2 with
   | dic h2 _ q2=>
   have ev:=zc2 r1 k
   subst ev
   refine .inl ⟨_,_,rfl,DGet.k h2,?_⟩
   rcases q2.val k' with ⟨e1,e2⟩ | ⟨_,_,_,e1,e2,_⟩
   ·rw[e1] at h; rw[e2]; exact h
   ·rw[e1] at h; rw[e2]; exact h
 | fdc kvs=>
  cases k:W4 d1 with
  | none=>simp[inD,k] at e
  | some k'=>
   simp only[inD,k,Option.map_some,Option.some.injEq] at e
   subst e
   cases r2 with
   | fdc h2 _ q2=>
   have ev:=zc2 r1 k
   subst ev
   refine .inl ⟨_,_,rfl,.inl ⟨_,k',.inr ⟨_,h2⟩,rfl,rfl⟩,?_⟩
   rcases q2.val k' with ⟨e1,e2⟩ | ⟨_,_,_,e1,e2,_⟩
   ·rw[e1] at h; rw[e2]; exact h
   ·rw[e1] at h; rw[e2]; exact h
 | dtk kvs=>
  cases k:S1 d1 with
  | none=>simp[inD,k] at e
  | some k'=>
   simp only[inD,k,Option.map_some,Option.some.injEq] at e
   subst e
   cases r2 with
   | dtk h2 _ q2=>
   obtain ⟨b,ev,eb⟩:=zu7 r1 k
   subst ev
   refine .inl ⟨_,_,rfl,DGet.t h2 eb,?_⟩
   rcases q2.val k' with ⟨e1,e2⟩ | ⟨_,_,_,e1,e2,_⟩
   ·rw[e1] at h; rw[e2]; exact h
   ·rw[e1] at h; rw[e2]; exact h
 | str z=>
  cases d1 with
  | str s=>
   cases r1; cases r2
   obtain ⟨⟨l⟩⟩:=s
   cases l with
   | nil=>
    simp only[inD,Option.some.injEq] at e
    subst e
    exact .inr (.inl ⟨_,_,rfl,rfl,h⟩)
   | cons c l=>
    cases l with
    | nil=>
     simp only[inD,Option.some.injEq] at e
     subst e
     exact .inr (.inr (.inl ⟨c,z,rfl,rfl,h⟩))
    | cons c2 l=>
     simp only[inD,Option.some.injEq] at e
     subst e
     exact .inr (.inl ⟨_,_,rfl,rfl,h⟩)
  | _=>simp[inD] at e
 | tup ds=>
  cases h1:fV d1 with
  | none=>simp[inD,h1] at e
  | some v=>
   cases h2:fVs ds with
   | none=>simp[inD,h1,h2] at e
   | some vs=>
    simp only[inD,h1,h2,Option.some.injEq] at e
    subst e
    cases r2 with
    | tup t q=>
    obtain ⟨e1,e2⟩:=r1.fV h1
    obtain ⟨e3,e4⟩:=q.fV h2
    subst e1; subst e3
    exact .inr (.inr (.inr (.inl ⟨_,_,rfl,.inr (.of t),e2,e4,h⟩)))
 | lst ds=>
  cases h1:toP d1 with
  | none=>simp[inD,h1] at e
  | some p=>
   cases h2:toPs ds with
   | none=>simp[inD,h1,h2] at e
   | some ps=>
    simp only[inD,h1,h2] at e
    split at e
    ·rename_i z1
     split at e
     ·rename_i z2
      cases e
      obtain ⟨a,vs,g,rfl,t,q,_,_⟩:=r2.lstI
      refine .inr (.inr (.inr (.inr ?_)))
      cases neg with
      | false=>exact ⟨p,ps,r1.dp h1,.lst t (q.dp h2),z1,z2,h⟩
      | true=>exact ⟨p,ps,r1.dp h1,.lst t (q.dp h2),z1,z2,h⟩
     ·cases e
    ·cases e
 | _=>cases d1 <;> simp[inD] at e
theorem z2u {K:PySem.W.Frag} {H:Hp} {d1 d2:D} {v1 v2:V} {f1 f2:List Addr} {b:Bool} (r1:Rep K H d1 v1 f1) (r2:Rep K H d2 v2 f2) (e:eqD d1 d2=some b):∃ p q,Dp K H v1 p/\Dp K H v2 q/\SeqAt.shaped p=true/\SeqAt.shaped q=true/\PyData.eqv p q=b:=by
 cases h1:toP d1 with
 | none=>simp[eqD,h1] at e
 | some p=>
  cases h2:toP d2 with
  | none=>simp[eqD,h1,h2] at e
  | some q=>
   simp only[eqD,h1,h2] at e
   split at e
   ·rename_i z1
    split at e
    ·rename_i z2
     cases e
     exact ⟨p,q,r1.dp h1,r2.dp h2,z1,z2,rfl⟩
    ·cases e
   ·cases e
theorem zB7 {K:PySem.W.Frag} {H:Hp} {op:CmpOp} {d1 d2:D} {v1 v2:V} {f1 f2:List Addr} {b:Bool} {Q:VK} (r1:Rep K H d1 v1 f1) (r2:Rep K H d2 v2 f2) (e:Z2 op d1 d2=some b) (h:Q (.bl b) H):z6R K op v1 v2 H Q:=by
 have intz:∀ {p:Int->Int->Bool},(∀ i j,d1=.int i->d2=.int j->p i j=b)->(∃ i,d1=.int i)->(∃ j,d2=.int j)->rI0 (fun i j=>.bl (p i j)) v1 v2 H Q:=fun {p} hp ⟨i,e1⟩ ⟨j,e2⟩=>by
  have:=hp i j e1 e2
  subst e1; subst e2; cases r1; cases r2
  exact ⟨_,_,rfl,rfl,by show Q (.bl (p i j)) H; rw[this]; exact h⟩
 cases op with
 | Eq=>obtain ⟨p,q,h1,h2,z1,z2,e'⟩:=z2u r1 r2 e; exact ⟨p,q,h1,h2,z1,z2,by rw[e']; exact h⟩
 | NotEq=>
  cases e0:eqD d1 d2 with
  | none=>simp[Z2,e0] at e
  | some b0=>
   simp only[Z2,e0,Option.map_some,Option.some.injEq] at e
   subst e
   obtain ⟨p,q,h1,h2,z1,z2,e'⟩:=z2u r1 r2 e0; exact ⟨p,q,h1,h2,z1,z2,by rw[e']; exact h⟩
 | In=>exact z12 r1 r2 e h
 | NotIn=>
  cases e0:inD d1 d2 with
  | none=>simp[Z2,e0] at e
  | some b0=>
   simp only[Z2,e0,Option.map_some,Option.some.injEq] at e
   subst e
   exact z12 r1 r2 e0 h
 | Is=>
  cases d2 with
  | non=>simp only[Z2,Option.some.injEq] at e; subst e; cases r2; exact ⟨rfl,by rw[zO8 r1]; exact h⟩
  | _=>simp[Z2] at e
 | IsNot=>
  cases d2 with
  | non=>simp only[Z2,Option.some.injEq] at e; subst e; cases r2; exact ⟨rfl,by rw[zO8 r1]; exact h⟩
  | _=>simp[Z2] at e
 | Lt=>
  cases d1 with
  | int i=>cases d2 with
   | int j=>simp only[Z2,Option.some.injEq] at e; exact .inl (intz (fun i' j' e1 e2=>by cases e1; cases e2; exact e) ⟨_,rfl⟩ ⟨_,rfl⟩)
   | _=>simp[Z2] at e
  | tup ds=>cases d2 with
   | tup es=>
    cases h1:p9 ds with
    | none=>simp[Z2,h1] at e
    | some ns=>
     cases h2:p9 es with
     | none=>simp[Z2,h1,h2] at e
     | some ms=>
      simp only[Z2,h1,h2,Option.bind_some,Option.map_some,Option.some.injEq] at e
      subst e
      have e1:=N8 h1
      have e2:=N8 h2
      subst e1; subst e2
      cases r1 with
      | tup t1 q1=>
      cases r2 with
      | tup t2 q2=>
      obtain ⟨v1,_⟩:=q1.ints_inv
      obtain ⟨v2,_⟩:=q2.ints_inv
      subst v1; subst v2
      exact .inr ⟨_,_,ns,ms,rfl,rfl,.of t1,.of t2,h⟩
   | _=>simp[Z2] at e
  | _=>cases d2 <;> simp[Z2] at e
 | LtE=>
  cases d1 with
  | int i=>cases d2 with
   | int j=>simp only[Z2,Option.some.injEq] at e; exact .inl (intz (fun i' j' e1 e2=>by cases e1; cases e2; exact e) ⟨_,rfl⟩ ⟨_,rfl⟩)
   | _=>simp[Z2] at e
  | tup ds=>cases d2 with
   | tup es=>
    cases h1:p9 ds with
    | none=>simp[Z2,h1] at e
    | some ns=>
     cases h2:p9 es with
     | none=>simp[Z2,h1,h2] at e
     | some ms=>
      simp only[Z2,h1,h2,Option.bind_some,Option.map_some,Option.some.injEq] at e
      subst e
      have e1:=N8 h1
      have e2:=N8 h2
      subst e1; subst e2
      cases r1 with
      | tup t1 q1=>
      cases r2 with
      | tup t2 q2=>
      obtain ⟨v1,_⟩:=q1.ints_inv
      obtain ⟨v2,_⟩:=q2.ints_inv
      subst v1; subst v2
      exact .inr ⟨_,_,ns,ms,rfl,rfl,.of t1,.of t2,h⟩
   | _=>simp[Z2] at e
  | _=>cases d2 <;> simp[Z2] at e
 | Gt=>
  cases d1 with
  | int i=>cases d2 with
   | int j=>simp only[Z2,Option.some.injEq] at e; exact intz (fun i' j' e1 e2=>by cases e1; cases e2; exact e) ⟨_,rfl⟩ ⟨_,rfl⟩
   | _=>simp[Z2] at e
  | _=>cases d2 <;> simp[Z2] at e
 | GtE=>
  cases d1 with
  | int i=>cases d2 with
   | int j=>simp only[Z2,Option.some.injEq] at e; exact intz (fun i' j' e1 e2=>by cases e1; cases e2; exact e) ⟨_,rfl⟩ ⟨_,rfl⟩
   | _=>simp[Z2] at e
  | _=>cases d2 <;> simp[Z2] at e
def w5 (op:CmpOp) (a b:SE):STs:=fun ρ=>(a ρ).bind fun x=>(b ρ).bind fun y=>R.of (Z2 op x.2 y.2)
def zA1 (o1 o2:CmpOp) (a b c:SE):STs:=fun ρ=>(a ρ).bind fun x=>(b ρ).bind fun y=>(R.of (Z2 o1 x.2 y.2)).bind fun t=>
 if t=true then (c ρ).bind fun z=>R.of (Z2 o2 y.2 z.2) else .ok false
def O1 (a b:STs):STs:=fun ρ=>(a ρ).bind fun t=>if t=true then b ρ else .ok false
def orT (a b:STs):STs:=fun ρ=>(a ρ).bind fun t=>if t=true then .ok true else b ρ
def I6 (a:STs):STs:=fun ρ=>(a ρ).bind fun t=>.ok (!t)
def ze7:D->Option Bool
 | .non=>some false
 | .bl b=>some b
 | .int i=>some (i != 0)
 | .str y=>if y.length<=LIM then some ((y.length:Int) != 0) else none
 | .tup ds=>some (!ds.isEmpty)
 | .lst ds=>some (!ds.isEmpty)
 | .scr ds=>some (!ds.isEmpty)
 | .dic kvs=>some (!kvs.isEmpty)
 | _=>none
def D5 (a:SE):STs:=fun ρ=>(a ρ).bind fun x=>R.of (ze7 x.2)
def Z1 (t:STs):SE:=fun ρ=>(t ρ).bind fun b=>.ok (.own,.bl b)
def zp4 (t:STs) (a b:SE):SE:=fun ρ=>(t ρ).bind fun c=>if c=true then a ρ else b ρ
def z01 (a:SE):SE:=fun ρ=>(a ρ).bind fun x=>match x.2 with
 | .int i=>.ok (.own,.int (-i))
 | _=>.st
theorem Reps.isEmpty {K:PySem.W.Frag} {H:Hp} {ds:List D} {vs:List V} {f:List Addr} (r:Reps K H ds vs f):vs.isEmpty=ds.isEmpty:=by cases r <;> rfl
theorem RepK.isEmpty {K:PySem.W.Frag} {H:Hp} {ds:List (Key×D)} {vs:List (Key×V)} {f:List Addr} (r:RepK K H ds vs f):vs.isEmpty=ds.isEmpty:=by cases r <;> rfl
theorem z5n {K:PySem.W.Frag} {H:Hp} {d:D} {v:V} {f:List Addr} {b:Bool} (r:Rep K H d v f) (e:ze7 d=some b):TruV K v H b:=by
 cases r with
 | non=>simp only[ze7,Option.some.injEq] at e; exact e.symm
 | bl b=>simp only[ze7,Option.some.injEq] at e; exact e.symm
 | int i=>simp only[ze7,Option.some.injEq] at e; exact e.symm
 | str x=>
  simp only[ze7] at e
  split at e
  ·rename_i hz; cases e; exact ⟨by rw[<- O4]; exact hz,rfl⟩
  ·cases e
 | tup t q=>simp only[ze7,Option.some.injEq] at e; exact .inr (.inl ⟨_,.of t,by rw[q.isEmpty]; exact e.symm⟩)
 | lst t q=>simp only[ze7,Option.some.injEq] at e; exact .inl ⟨_,.of t,by rw[q.isEmpty]; exact e.symm⟩
 | scr t q=>
  simp only[ze7,Option.some.injEq] at e
  rcases t with t | ⟨o,t⟩
  ·exact .inl ⟨_,t _,by rw[q.isEmpty]; exact e.symm⟩
  ·exact .inl ⟨_,.inl (.inr ⟨o,t⟩),by rw[q.isEmpty]; exact e.symm⟩
 | dic t _ q=>simp only[ze7,Option.some.injEq] at e; exact .inr (.inr ⟨_,t,by rw[q.isEmpty]; exact e.symm⟩)
 | _=>simp[ze7] at e
section
variable {X:Cx} {CA:String->Addr} {W:WX} {pos:Pos} {a b c:Expr} {sa sb sc:SE} {ta tb:STs} {rest:List Expr}
theorem u9 {op:CmpOp} (hu:X.A.units + 65 < cLine) (ha:PE X a (tE X.K CA W sa)) (hb:PE X b (tE X.K CA W sb)) (hm:behindInMarks op b=false:=by first | exact nomark _ | rfl):PT X (.Compare a [op] [b] pos) (tT X.K CA W (w5 op sa sb)):=by
 refine ptI (pt_cmpR (zC2 hu op) ha hb hm) fun σ H Q ⟨A,H0,F,G,ρ,sr,h⟩=>?_
 refine ⟨A,H0,F,G,ρ,sr,h.bind fun ⟨k1,d1⟩ h1=>?_⟩
 intro v1 H1 f1 s1 r1 o1
 refine ⟨A,H0,F,G,ρ,sr.same s1,(h1.later s1).bind fun ⟨k2,d2⟩ h2=>?_⟩
 intro v2 H2 f2 s2 r2 o2
 obtain ⟨t,e,h3⟩:=h2.of
 exact zB7 (r1.same s2) r2 e ⟨t,rfl,h3 H2 (s1.trans s2)⟩
theorem ze0 {op:CmpOp} (hu:X.A.units + 65 < cLine) (ha:PE X a (tE X.K CA W sa)) (hb:PE X b (tE X.K CA W sb)) (hm:behindInMarks op b=false:=by first | exact nomark _ | rfl):PE X (.Compare a [op] [b] pos) (tE X.K CA W (Z1 (w5 op sa sb))):=by
 refine peI (pe_cmpR (zC2 hu op) ha hb hm) fun σ H Q ⟨A,H0,F,G,ρ,sr,h⟩=>?_
 have h:i7 X.K CA W σ H ((sa ρ).bind fun x=>(sb ρ).bind fun y=>(R.of (Z2 op x.2 y.2)).bind fun b=>.ok ((Kd.own,D.bl b):KD)) (fun kd=>S8 X.K A H0 F H kd Q):=by
  have e:Z1 (w5 op sa sb) ρ=((sa ρ).bind fun x=>(sb ρ).bind fun y=>(R.of (Z2 op x.2 y.2)).bind fun b=>.ok ((Kd.own,D.bl b):KD)):=by
   unfold Z1 w5
   cases sa ρ with
   | ok x=>cases sb ρ <;> rfl
   | _=>rfl
  rw[e] at h
  exact h
 refine ⟨A,H0,F,G,ρ,sr,h.bind fun ⟨k1,d1⟩ h1=>?_⟩
 intro v1 H1 f1 s1 r1 o1
 refine ⟨A,H0,F,G,ρ,sr.same s1,(h1.later s1).bind fun ⟨k2,d2⟩ h2=>?_⟩
 intro v2 H2 f2 s2 r2 o2
 obtain ⟨t,e,h3⟩:=h2.ofB
 exact zB7 (r1.same s2) r2 e (S8.atom h3 (s1.trans s2) (.bl t))
theorem zI8 {o1 o2:CmpOp} (hu:X.A.units + 65 < cLine) (ha:PE X a (tE X.K CA W sa)) (hb:PE X b (tE X.K CA W sb)) (hc:PE X c (tE X.K CA W sc)) (hm:lastMarks [o1,o2] [b,c]=false:=by with_unfolding_all rfl) :
  PT X (.Compare a [o1,o2] [b,c] pos) (tT X.K CA W (zA1 o1 o2 sa sb sc)):=by
 refine ptI (pt_chain (zC2 hu o1) (zC2 hu o2) ha hb hc hm) fun σ H Q ⟨A,H0,F,G,ρ,sr,h⟩=>?_
 refine ⟨A,H0,F,G,ρ,sr,h.bind fun ⟨k1,d1⟩ h1=>?_⟩
 intro v1 H1 f1 s1 r1 o1'
 refine ⟨A,H0,F,G,ρ,sr.same s1,(h1.later s1).bind fun ⟨k2,d2⟩ h2=>?_⟩
 intro v2 H2 f2 s2 r2 o2'
 obtain ⟨t,e,h3⟩:=h2.ofB
 refine zB7 (r1.same s2) r2 e ⟨t,rfl,?_⟩
 cases t with
 | false=>exact ⟨false,rfl,h3 H2 (s1.trans s2)⟩
 | true=>
  refine ⟨A,H0,F,G,ρ,(sr.same s1).same s2,((h3.later s2).bind fun ⟨k3,d3⟩ h4=>?_)⟩
  intro v3 H3 f3 s3 r3 o3
  obtain ⟨t,e,h5⟩:=h4.of
  exact zB7 (r2.same s3) r3 e ⟨t,rfl,h5 H3 ((s1.trans s2).trans s3)⟩
theorem zh3 (ha:PT X a (tT X.K CA W ta)):PW X (.BoolOp .And [a] pos) (tT X.K CA W ta):=pw_and1 ha
theorem zn1 (ha:PT X a (tT X.K CA W ta)):PW X (.BoolOp .Or [a] pos) (tT X.K CA W ta):=pw_or1 ha
theorem zm4 (ha:PT X a (tT X.K CA W ta)) (hb:PW X (.BoolOp .And (b::rest) pos) (tT X.K CA W tb)):PW X (.BoolOp .And (a::b::rest) pos) (tT X.K CA W (O1 ta tb)):=by
 refine pwI (pw_and ha hb) fun σ H Q ⟨A,H0,F,G,ρ,sr,h⟩=>?_
 refine ⟨A,H0,F,G,ρ,sr,h.bind fun t h1 H1 s1=>?_⟩
 cases t with
 | true=>exact ⟨A,H0,F,G,ρ,sr.same s1,(h1.later s1).imp fun b _ q H2 s2=>q H2 (s1.trans s2)⟩
 | false=>exact h1 H1 s1
theorem zi7 (ha:PT X a (tT X.K CA W ta)) (hb:PW X (.BoolOp .Or (b::rest) pos) (tT X.K CA W tb)):PW X (.BoolOp .Or (a::b::rest) pos) (tT X.K CA W (orT ta tb)):=by
 refine pwI (pw_or ha hb) fun σ H Q ⟨A,H0,F,G,ρ,sr,h⟩=>?_
 refine ⟨A,H0,F,G,ρ,sr,h.bind fun t h1 H1 s1=>?_⟩
 cases t with
 | false=>exact ⟨A,H0,F,G,ρ,sr.same s1,(h1.later s1).imp fun b _ q H2 s2=>q H2 (s1.trans s2)⟩
 | true=>exact h1 H1 s1
theorem zf8 (h:PW X a (tT X.K CA W ta)):PT X a (tT X.K CA W ta):=h.pt
theorem zj0 (ha:PT X a (tT X.K CA W ta)):PT X (.UnaryOp .Not a pos) (tT X.K CA W (I6 ta)):=by
 refine ptI (pt_not ha) fun σ H Q ⟨A,H0,F,G,ρ,sr,h⟩=>?_
 exact ⟨A,H0,F,G,ρ,sr,h.bind fun t h1=>h1⟩
theorem zl8 (ha:PE X a (tE X.K CA W sa)) (he:∀ whole,isTrue a X.env whole=(do let v <- whole; standAt a.pos; holding [v] (truthy v)):=by intro _; rfl):PT X a (tT X.K CA W (D5 sa)):=by
 refine ptI (pt_truth ha he) fun σ H Q ⟨A,H0,F,G,ρ,sr,h⟩=>?_
 refine ⟨A,H0,F,G,ρ,sr,h.bind fun ⟨k,d⟩ h1=>?_⟩
 intro v H1 f s1 r o
 obtain ⟨t,e,h2⟩:=h1.of
 exact ⟨t,z5n r e,h2 H1 s1⟩
theorem zT3 {op} {t:STs} (h:PE X a (tE X.K CA W (Z1 t))):PE X (.BoolOp op [a] pos) (tE X.K CA W (Z1 t)):=pe_one h
theorem zG9 {t u:STs} (ha:PE X a (tE X.K CA W (Z1 t))) (hb:PE X (.BoolOp .And (b::rest) pos) (tE X.K CA W (Z1 u))):PE X (.BoolOp .And (a::b::rest) pos) (tE X.K CA W (Z1 (O1 t u))):=by
 refine peI (pe_and ha hb) fun σ H Q ⟨A,H0,F,G,ρ,sr,h⟩=>?_
 have e:Z1 (O1 t u) ρ=(Z1 t ρ).bind fun x=>match x.2 with | .bl true=>Z1 u ρ | .bl false=>.ok (.own,.bl false) | _=>.st:=by
  unfold Z1 O1
  cases t ρ with
  | ok x=>cases x <;> rfl
  | _=>rfl
 rw[e] at h
 refine ⟨A,H0,F,G,ρ,sr,h.bind fun ⟨k,d⟩ h1=>?_⟩
 intro v H1 f s1 r o
 cases d with
 | bl c=>
  cases r
  refine ⟨c,rfl,?_⟩
  cases c with
  | true=>exact ⟨A,H0,F,G,ρ,sr.same s1,(h1.later s1).imp fun kd _ q v H2 f s2 r2 o2=>q v H2 f (s1.trans s2) r2 (o2.wide s1 (Same.refl _))⟩
  | false=>exact S8.atom h1 s1 (.bl false)
 | _=>exact h1.elim
theorem z7k {t:STs} (ha:PE X a (tE X.K CA W (Z1 t))):PE X (.UnaryOp .Not a pos) (tE X.K CA W (Z1 (I6 t))):=by
 refine peI (pe_not ha) fun σ H Q ⟨A,H0,F,G,ρ,sr,h⟩=>?_
 have e:Z1 (I6 t) ρ=(Z1 t ρ).bind fun x=>match x.2 with | .bl c=>.ok (.own,.bl (!c)) | _=>.st:=by
  unfold Z1 I6
  cases t ρ <;> rfl
 rw[e] at h
 refine ⟨A,H0,F,G,ρ,sr,h.bind fun ⟨k,d⟩ h1=>?_⟩
 intro v H1 f s1 r o
 cases d with
 | bl c=>cases r; exact ⟨c,rfl,S8.atom h1 s1 (.bl _)⟩
 | _=>exact h1.elim
def bvT (a:SE):STs:=fun ρ=>(a ρ).bind fun x=>match x.2 with
 | .bl b=>.ok b
 | _=>.st
theorem zz4 (ha:PE X a (tE X.K CA W sa)):PE X a (tE X.K CA W (Z1 (bvT sa))):=by
 refine peI ha fun σ H Q ⟨A,H0,F,G,ρ,sr,h⟩=>?_
 have e:Z1 (bvT sa) ρ=(sa ρ).bind fun x=>match x.2 with | .bl c=>.ok (.own,.bl c) | _=>.st:=by
  unfold Z1 bvT
  cases sa ρ with
  | ok x=>obtain ⟨k,d⟩:=x; cases d <;> rfl
  | _=>rfl
 rw[e] at h
 refine ⟨A,H0,F,G,ρ,sr,h.bind fun ⟨k,d⟩ h1=>?_⟩
 intro v H1 f s1 r o
 cases d with
 | bl c=>cases r; exact S8.atom h1 s1 (.bl _)
 | _=>exact h1.elim
theorem zI3 (hc:PT X c (tT X.K CA W ta)) (ha:PE X a (tE X.K CA W sa)) (hb:PE X b (tE X.K CA W sb)):PE X (.IfExp c a b pos) (tE X.K CA W (zp4 ta sa sb)):=by
 refine peI (pe_ifExp hc ha hb) fun σ H Q ⟨A,H0,F,G,ρ,sr,h⟩=>?_
 refine ⟨A,H0,F,G,ρ,sr,h.bind fun t h1 H1 s1=>?_⟩
 cases t with
 | true=>exact ⟨A,H0,F,G,ρ,sr.same s1,(h1.later s1).imp fun kd _ q v H2 f s2 r2 o2=>q v H2 f (s1.trans s2) r2 (o2.wide s1 (Same.refl _))⟩
 | false=>exact ⟨A,H0,F,G,ρ,sr.same s1,(h1.later s1).imp fun kd _ q v H2 f s2 r2 o2=>q v H2 f (s1.trans s2) r2 (o2.wide s1 (Same.refl _))⟩
theorem z4L (ha:PE X a (tE X.K CA W sa)):PE X (.UnaryOp .USub a pos) (tE X.K CA W (z01 sa)):=by
 refine peI (pe_un un_neg ha) fun σ H Q ⟨A,H0,F,G,ρ,sr,h⟩=>?_
 refine ⟨A,H0,F,G,ρ,sr,h.bind fun ⟨k,d⟩ h1=>?_⟩
 intro v H1 f s1 r o
 cases d with
 | int i=>cases r; exact ⟨i,rfl,S8.atom h1 s1 (.int _)⟩
 | _=>exact h1.elim
end
def nk (k:Kd) (d:D):Kd:=if noL d=true then .own else k
theorem KOk.nk {K:PySem.W.Frag} {A:Addr->Prop} {H0 H H1 H2:Hp} {F:Nat->List Addr} {k:Kd} {d:D} {v:V} {f:List Addr} (r:Rep K H2 d v f) (o:KOk A H0 F H H1 k f):KOk A H0 F H H1 (nk k d) f:=by
 unfold Cz.nk
 split
 ·rename_i hz; rw[Rep.noL r hz]; exact KOk.nil _
 ·exact o
theorem KOk.nk' {K:PySem.W.Frag} {A:Addr->Prop} {H0 H H1 H2:Hp} {F:Nat->List Addr} {k:Kd} {d:D} {v:V} {f:List Addr} (r:Rep K H2 d v f) (o:KOk A H0 F H H1 (Cz.nk k d) f):KOk A H0 F H H1 k f:=by
 unfold Cz.nk at o
 split at o
 ·rename_i hz; rw[Rep.noL r hz]; exact KOk.nil _
 ·exact o
def jn:List KD->Kd
 | []=>.own
 | x::r=>(nk x.1 x.2).join (jn r)
def tA (K:PySem.W.Frag) (CA:String->Addr) (W:WX) (s:SA):TA:=fun σ H Q=>
 ∃ A H0 F G ρ,SR K A H0 F G ρ σ H/\i7 K CA W σ H (s ρ) fun xs=>∀ vs H' f,Same H H'->Reps K H' (xs.map (·.2)) vs f->KOk A H0 F H H' (jn xs) f->Q vs H'
def y6:SA:=fun _=>.ok []
def z6 (a:SE) (r:SA):SA:=fun ρ=>(a ρ).bind fun x=>(r ρ).bind fun xs=>.ok (x::xs)
def p5 (s:SA):SE:=fun ρ=>(s ρ).bind fun xs=>if xs.length<=LIM then .ok (jn xs,.tup (xs.map (·.2))) else .st
def W6 (s:SA):SE:=fun ρ=>(s ρ).bind fun xs=>if xs.length<=LIM then .ok (lk (jn xs) (xs.map (·.2)),.lst (xs.map (·.2))) else .st
def z3x:SE:=fun _=>.ok (.own,.dic [])
def N2:KD->D->Option KD
 | (k,.lst ds),.int i=>(atI ds i).map fun d=>(k,d)
 | (k,.scr ds),.int i=>(atI ds i).map fun d=>(k,d)
 | (k,.tup ds),.int i=>(atI ds i).map fun d=>(k,d)
 | (_,.str z),.int i=>if z.length<=LIM then (atI z.cps.toList i).map fun c=>(.own,.str ⟨#[c]⟩) else none
 | (k,.dic kvs),y=>(W4 y).bind fun q=>(w6 kvs q).map fun d=>(k,d)
 | (_,.fdc kvs),y=>(W4 y).bind fun q=>(w6 kvs q).map fun d=>(.own,d)
 | (k,.dtk kvs),y=>(S1 y).bind fun q=>(w6 kvs q).map fun d=>(k,d)
 | _,_=>none
def x8 (a b:SE):SE:=fun ρ=>(a ρ).bind fun x=>(b ρ).bind fun y=>R.of (N2 x y.2)
def za8 (ds:List D) (lo hi:Option Int):List D:=(ds.drop (HT.sIx ds.length 0 lo)).take (HT.sIx ds.length ds.length hi - HT.sIx ds.length 0 lo)
def slB:KD->Option Int->Option Int->Option KD
 | (k,.lst ds),lo,hi=>some (lk k (za8 ds lo hi),.lst (za8 ds lo hi))
 | (k,.scr ds),lo,hi=>some (lk k (za8 ds lo hi),.lst (za8 ds lo hi))
 | (k,.tup ds),lo,hi=>some (k,.tup (za8 ds lo hi))
 | (_,.str z),lo,hi=>if z.length<=LIM then some (.own,.str (cutS z lo hi)) else none
 | _,_,_=>none
abbrev SO:=Env->R (Option Int)
def noO:SO:=fun _=>.ok none
def zC0 (a:SE):SO:=fun ρ=>(a ρ).bind fun x=>match x.2 with
 | .int i=>.ok (some i)
 | _=>.st
def slE (a:SE) (lo hi:SO):SE:=fun ρ=>(a ρ).bind fun x=>(lo ρ).bind fun l=>(hi ρ).bind fun h=>R.of (slB x l h)
def tO (K:PySem.W.Frag) (CA:String->Addr) (W:WX) (s:SO):TO:=fun σ H Q=>
 ∃ A H0 F G ρ,SR K A H0 F G ρ σ H/\i7 K CA W σ H (s ρ) fun o=>∀ H',Same H H'->Q o H'
section
variable {K:PySem.W.Frag} {A:Addr->Prop} {H0 H H1 H2:Hp} {F:Nat->List Addr} {G:List (D×V)} {ρ:Env} {σ:L2.St} {Q:VK}
theorem zM8 {ds:List D} {vs:List V} {f:List Addr} {i:Int} {d:D} (r:Reps K H ds vs f) (e:atI ds i=some d):∃ v g,atI vs i=some v/\Rep K H d v g/\(∀ b∈g,b∈f)/\(f.Nodup->g.Nodup):=by
 unfold atI at e ⊢
 rw[<- r.length]
 cases h:ixN ds.length i with
 | none=>rw[h] at e; cases e
 | some j=>
  rw[h] at e
  exact r.get e
theorem zK5 {ds:List D} {vs:List V} {f:List Addr} (lo hi:Option Int) (r:Reps K H ds vs f):∃ g,Reps K H (za8 ds lo hi) (cutV vs lo hi) g/\(∀ b∈g,b∈f)/\(f.Nodup->g.Nodup):=by
 unfold za8 cutV
 rw[<- r.length]
 obtain ⟨g,h1,h2,h3⟩:=r.drop (HT.sIx ds.length 0 lo)
 obtain ⟨g',h4,h5,h6⟩:=h1.take (HT.sIx ds.length ds.length hi - HT.sIx ds.length 0 lo)
 exact ⟨g',h4,fun b hb=>h2 b (h5 b hb),fun n=>h6 (h3 n)⟩
end
def z76:R2:=fun x y H Q=>∃ a v,x=.ref a/\DGet H a y (some v)/\Q v H
theorem z43 {X:Cx} (hu:X.A.units + 1 < cLine):IxR X z76:=by
 intro value slice pins s σ H x y v u Q I rx ry h hs
 obtain ⟨a,w,rfl,g,q⟩:=h
 obtain rfl:v=Value.ref a:=rx
 exact tail_any (dict_typeIs I g) PySem.F.slot_dict_getitem.lookup (d_getItem hu I g ry fun w' s3 I3 rw'=>⟨w,H,I3,rw',q⟩) hs
def z7i (K:PySem.W.Frag):R2:=fun x y H Q=>rIx K x y H Q\/z76 x y H Q
theorem z2i {X:Cx} (hu:X.A.units + 1 < cLine):IxR X (z7i X.K):=ix_seq.or (z43 hu)
def z7o (K:PySem.W.Frag):V->Option Int->Option Int->Hp->VK->Prop:=fun x lo hi H Q=>rSlL K x lo hi H Q\/rSlA K x lo hi H Q\/rSlS x lo hi H Q
theorem z7K {X:Cx}:SlR X (z7o X.K):=sl_list.or (sl_tupA.or sl_str)
section
variable {K:PySem.W.Frag} {A:Addr->Prop} {H0 H H1 H2:Hp} {F:Nat->List Addr} {G:List (D×V)} {ρ:Env} {σ:L2.St} {Q:VK}
theorem z56 {k:Kd} {d1 d2:D} {v1 v2:V} {f1 f2:List Addr} {kd:KD} (s1:Same H H1) (s2:Same H1 H2) (r1:Rep K H1 d1 v1 f1) (r2:Rep K H2 d2 v2 f2) (o1:KOk A H0 F H H1 k f1)
  (e:N2 (k,d1) d2=some kd) (h:S8 K A H0 F H kd Q):z7i K v1 v2 H2 Q:=by
 have r1':=r1.same s2
 have s12:=s1.trans s2
 have o1':=o1.wide (Same.refl H) s2
 cases d1 with
 | lst ds=>
  cases d2 with
  | int i=>
   cases ha:atI ds i with
   | none=>simp[N2,ha] at e
   | some d=>
    simp only[N2,ha,Option.map_some,Option.some.injEq] at e
    subst e
    obtain ⟨a,vs,g,rfl,t,q,i1,n1⟩:=r1'.lstI
    obtain ⟨v,g',h1,h2,h3,h4⟩:=zM8 q ha
    cases r2
    exact .inl (.inl ⟨_,_,_,_,rfl,rfl,t,h1,h v H2 g' s12 h2 ((o1'.sub i1 n1).sub h3 h4)⟩)
  | _=>simp[N2] at e
 | scr ds=>
  cases d2 with
  | int i=>
   cases ha:atI ds i with
   | none=>simp[N2,ha] at e
   | some d=>
    simp only[N2,ha,Option.map_some,Option.some.injEq] at e
    subst e
    obtain ⟨a,vs,g,rfl,t,q,i1,n1⟩:=r1'.scrI
    obtain ⟨v,g',h1,h2,h3,h4⟩:=zM8 q ha
    cases r2
    exact .inl (.inl ⟨_,_,_,_,rfl,rfl,t,h1,h v H2 g' s12 h2 ((o1'.sub i1 n1).sub h3 h4)⟩)
  | _=>simp[N2] at e
 | tup ds=>
  cases d2 with
  | int i=>
   cases ha:atI ds i with
   | none=>simp[N2,ha] at e
   | some d=>
    simp only[N2,ha,Option.map_some,Option.some.injEq] at e
    subst e
    obtain ⟨a,vs,rfl,t,q⟩:=r1'.tupI
    obtain ⟨v,g',h1,h2,h3,h4⟩:=zM8 q ha
    cases r2
    exact .inl (.inr (.inl ⟨_,_,_,_,rfl,rfl,.of t,h1,h v H2 g' s12 h2 (o1'.sub h3 h4)⟩))
  | _=>simp[N2] at e
 | str z=>
  cases d2 with
  | int i=>
   simp only[N2] at e
   split at e
   ·rename_i hz
    cases ha:atI z.cps.toList i with
    | none=>rw[ha] at e; cases e
    | some c=>
     rw[ha] at e
     simp only[Option.map_some,Option.some.injEq] at e
     subst e
     cases r1'; cases r2
     exact .inl (.inr (.inr ⟨_,_,_,rfl,rfl,by rw[<- O4]; exact hz,ha,h.atom s12 (.str _)⟩))
   ·cases e
  | _=>simp[N2] at e
 | dic kvs=>
  cases hk:W4 d2 with
  | none=>cases d2 <;> simp[N2,hk] at e
  | some q=>
   have e:((W4 d2).bind fun q=>(w6 kvs q).map fun d=>(k,d))=some kd:=by cases d2 <;> exact e
   rw[hk] at e
   cases r1' with
   | dic hd _ qd=>
   have ev:=zc2 r2 hk
   subst ev
   rcases qd.val q with ⟨e1,_⟩ | ⟨d,v,g,e1,e2,e3,e4,e5⟩
   ·simp[e1] at e
   ·simp only[Option.bind_some,e1,Option.map_some,Option.some.injEq] at e
    subst e
    refine .inr ⟨_,v,rfl,e2 ▸ DGet.k hd,h v H2 g s12 e3 (o1'.sub (fun b hb=>List.mem_cons_of_mem _ (e4 b hb)) fun n=>e5 (List.nodup_cons.mp n).2)⟩
 | fdc kvs=>
  cases hk:W4 d2 with
  | none=>cases d2 <;> simp[N2,hk] at e
  | some q=>
   have e:((W4 d2).bind fun q=>(w6 kvs q).map fun d=>((.own,d):KD))=some kd:=by cases d2 <;> exact e
   rw[hk] at e
   cases r1' with
   | fdc hd _ qd=>
   have ev:=zc2 r2 hk
   subst ev
   rcases qd.val q with ⟨e1,_⟩ | ⟨d,v,g,e1,e2,e3,e4,e5⟩
   ·simp[e1] at e
   ·simp only[Option.bind_some,e1,Option.map_some,Option.some.injEq] at e
    subst e
    have hg:g=[]:=List.eq_nil_iff_forall_not_mem.mpr fun b hb=>nomatch e4 b hb
    subst hg
    refine .inr ⟨_,v,rfl,.inl ⟨_,q,.inr ⟨_,hd⟩,rfl,e2.symm⟩,h v H2 [] s12 e3 (KOk.nil _)⟩
 | dtk kvs=>
  cases hk:S1 d2 with
  | none=>cases d2 <;> simp[N2,hk] at e
  | some q=>
   have e:((S1 d2).bind fun q=>(w6 kvs q).map fun d=>(k,d))=some kd:=by cases d2 <;> exact e
   rw[hk] at e
   cases r1' with
   | dtk hd _ qd=>
   obtain ⟨b,ev,eb⟩:=zu7 r2 hk
   subst ev
   rcases qd.val q with ⟨e1,_⟩ | ⟨d,v,g,e1,e2,e3,e4,e5⟩
   ·simp[e1] at e
   ·simp only[Option.bind_some,e1,Option.map_some,Option.some.injEq] at e
    subst e
    refine .inr ⟨_,v,rfl,e2 ▸ DGet.t hd eb,h v H2 g s12 e3 (o1'.sub (fun b hb=>List.mem_cons_of_mem _ (e4 b hb)) fun n=>e5 (List.nodup_cons.mp n).2)⟩
 | _=>cases d2 <;> simp[N2] at e
theorem z6Z {k:Kd} {d1:D} {v1:V} {f1:List Addr} {lo hi:Option Int} {kd:KD} (sr:SR K A H0 F G ρ σ H) (s1:Same H H1) (s2:Same H1 H2) (r1:Rep K H1 d1 v1 f1) (o1:KOk A H0 F H H1 k f1)
  (e:slB (k,d1) lo hi=some kd) (h:S8 K A H0 F H kd Q):z7o K v1 lo hi H2 Q:=by
 have r1':=r1.same s2
 have s12:=s1.trans s2
 have o1':=o1.wide (Same.refl H) s2
 cases d1 with
 | lst ds=>
  simp only[slB,Option.some.injEq] at e
  subst e
  obtain ⟨a,vs,g,rfl,t,q,i1,n1⟩:=r1'.lstI
  obtain ⟨g',h1,h2,h3⟩:=zK5 lo hi q
  exact .inl ⟨a,vs,rfl,t,fun p np=>h.newL sr s12 h1 (((o1'.sub i1 n1).sub h2 h3).lk h1) np⟩
 | scr ds=>
  simp only[slB,Option.some.injEq] at e
  subst e
  obtain ⟨a,vs,g,rfl,t,q,i1,n1⟩:=r1'.scrI
  obtain ⟨g',h1,h2,h3⟩:=zK5 lo hi q
  exact .inl ⟨a,vs,rfl,t,fun p np=>h.newL sr s12 h1 (((o1'.sub i1 n1).sub h2 h3).lk h1) np⟩
 | tup ds=>
  simp only[slB,Option.some.injEq] at e
  subst e
  obtain ⟨a,vs,rfl,t,q⟩:=r1'.tupI
  obtain ⟨g',h1,h2,h3⟩:=zK5 lo hi q
  refine .inr (.inl ⟨a,vs,rfl,.of t,fun hw=>?_,fun hw p np=>h.newT s12 h1 (o1'.sub h2 h3) np⟩)
  have e:cutV vs lo hi=vs:=by
   unfold cutV
   rw[hw.1,hw.2]
   simp
  rw[e] at h1
  exact h _ _ g' s12 (.tup t h1) (o1'.sub h2 h3)
 | str z=>
  simp only[slB] at e
  split at e
  ·rename_i hz
   cases e
   cases r1'
   exact .inr (.inr ⟨z,rfl,by rw[<- O4]; exact hz,h.atom s12 (.str _)⟩)
  ·cases e
 | _=>simp[slB] at e
end
section
variable {X:Cx} {CA:String->Addr} {W:WX} {pos p2:Pos} {a b e:Expr} {es:List Expr} {sa sb:SE} {s:SA} {lo hi:Option Expr} {sl sh:SO}
theorem y9:PA X [] (tA X.K CA W y6):=by
 refine ⟨fun pos pins s σ H Q I ⟨A,H0,F,G,ρ,sr,h⟩=>pa_nil.run pos pins s σ H Q I ?_⟩
 exact h [] H [] (Same.refl H) .nil (KOk.nil _)
theorem z7 (ha:PE X e (tE X.K CA W sa)) (hr:PA X es (tA X.K CA W s)) (hs:starEach (e::es) X.env=(false,eval e X.env)::starEach es X.env:=by rfl):PA X (e::es) (tA X.K CA W (z6 sa s)):=by
 refine ⟨fun pos pins s' σ H Q I ⟨A,H0,F,G,ρ,sr,h⟩=>(pa_cons ha hr hs).run pos pins s' σ H Q I ?_⟩
 refine ⟨A,H0,F,G,ρ,sr,h.bind fun ⟨k1,d1⟩ h1=>?_⟩
 intro v1 H1 f1 s1 r1 o1
 refine ⟨A,H0,F,G,ρ,sr.same s1,(h1.later s1).bind fun xs h2=>?_⟩
 intro vs H2 f2 s2 r2 o2
 exact h2 (v1::vs) H2 (f1++f2) (s1.trans s2) (.cons (r1.same s2) r2) (KOk.join sr s1 s2 r1.trk (KOk.nk r1 o1) o2)
theorem i7.ite {α:Type} {K:PySem.W.Frag} {CA:String->Addr} {W:WX} {σ:L2.St} {H:Hp} {c:Prop} [Decidable c] {r:R α} {ok:α->Prop} (h:i7 K CA W σ H (if c then r else .st) ok):c/\i7 K CA W σ H r ok:=by
 split at h
 ·exact ⟨by assumption,h⟩
 ·exact h.elim
theorem b4 {x1} (h:PA X es (tA X.K CA W s)):PE X (.Tuple es x1 pos) (tE X.K CA W (p5 s)):=by
 refine peI (pe_tup h) fun σ H Q ⟨A,H0,F,G,ρ,sr,h⟩=>?_
 refine ⟨A,H0,F,G,ρ,sr,h.bind fun xs h1=>?_⟩
 intro vs H1 f s1 r o
 obtain ⟨hz,h2⟩:=h1.ite
 exact ⟨by rw[<- r.length,List.length_map,<- O4]; exact hz,fun p np=>S8.newT h2 s1 r o np⟩
theorem X6 (h:PA X es (tA X.K CA W s)):PE X (.List es pos) (tE X.K CA W (W6 s)):=by
 refine peI (pe_lst h) fun σ H Q ⟨A,H0,F,G,ρ,sr,h⟩=>?_
 refine ⟨A,H0,F,G,ρ,sr,h.bind fun xs h1=>?_⟩
 intro vs H1 f s1 r o
 obtain ⟨hz,h2⟩:=h1.ite
 exact ⟨by rw[<- r.length,List.length_map,<- O4]; exact hz,fun p np=>S8.newL h2 sr s1 r (o.lk r) np⟩
theorem w8 (hu:X.A.units + 65 < cLine) (ha:PE X a (tE X.K CA W sa)) (hb:PE X b (tE X.K CA W sb)) (hs:PlainIx b:=by exact fun _ _=>rfl):PE X (.Subscript a b pos) (tE X.K CA W (x8 sa sb)):=by
 refine peI (pe_ix (z2i (by omega)) ha hb hs) fun σ H Q ⟨A,H0,F,G,ρ,sr,h⟩=>?_
 refine ⟨A,H0,F,G,ρ,sr,h.bind fun ⟨k1,d1⟩ h1=>?_⟩
 intro v1 H1 f1 s1 r1 o1
 refine ⟨A,H0,F,G,ρ,sr.same s1,(h1.later s1).bind fun ⟨k2,d2⟩ h2=>?_⟩
 intro v2 H2 f2 s2 r2 o2
 obtain ⟨kd,e,h3⟩:=h2.of
 exact z56 s1 s2 r1 r2 o1 e h3
theorem z2b:PO X none (tO X.K CA W noO):=by
 refine ⟨fun pins s σ H Q I ⟨A,H0,F,G,ρ,sr,h⟩=>po_none.run pins s σ H Q I ?_⟩
 exact h H (Same.refl H)
theorem z1F (ha:PE X a (tE X.K CA W sa)):PO X (some a) (tO X.K CA W (zC0 sa)):=by
 refine ⟨fun pins s σ H Q I ⟨A,H0,F,G,ρ,sr,h⟩=>(po_some ha).run pins s σ H Q I ?_⟩
 refine ⟨A,H0,F,G,ρ,sr,h.bind fun ⟨k1,d1⟩ h1=>?_⟩
 intro v1 H1 f1 s1 r1 o1
 cases d1 with
 | int i=>cases r1; exact ⟨i,rfl,h1 H1 s1⟩
 | _=>exact h1.elim
theorem z7B (ha:PE X a (tE X.K CA W sa)) (hl:PO X lo (tO X.K CA W sl)) (hh:PO X hi (tO X.K CA W sh)):PE X (.Subscript a (.Slice lo hi none p2) pos) (tE X.K CA W (slE sa sl sh)):=by
 refine peI (pe_slice z7K ha hl hh) fun σ H Q ⟨A,H0,F,G,ρ,sr,h⟩=>?_
 refine ⟨A,H0,F,G,ρ,sr,h.bind fun ⟨k1,d1⟩ h1=>?_⟩
 intro v1 H1 f1 s1 r1 o1
 refine ⟨A,H0,F,G,ρ,sr.same s1,(h1.later s1).bind fun l h2=>?_⟩
 intro H2 s2
 refine ⟨A,H0,F,G,ρ,(sr.same s1).same s2,(h2.later s2).bind fun u h3=>?_⟩
 intro H3 s3
 obtain ⟨kd,e,h4⟩:=h3.of
 exact z6Z sr s1 (s2.trans s3) r1 o1 e h4
theorem z8Y:PE X (.Dict [] [] pos) (tE X.K CA W z3x):=by
 refine peI pe_dnewK fun σ H Q ⟨A,H0,F,G,ρ,sr,h⟩=>?_
 intro d hd
 refine h _ _ [d] (V6 hd) (.dic upd_same List.nodup_nil .nil) ⟨List.nodup_cons.mpr ⟨by simp,List.nodup_nil⟩,fun a ha=>?_⟩
 rw[List.mem_singleton.mp ha]
 exact ⟨hd,⟨by rw[upd_same]; trivial⟩⟩
end
abbrev Fn:=List D->R KD
def spF (K:PySem.W.Frag) (CA:String->Addr) (fn:Fn) (n:Nat):Sp:=fun vs H Q E=>∃ A ds f,ds.length=n/\Reps K H ds vs f/\(∀ a∈f,A a) ∧
 match fn ds with
 | .ok (k,d)=>∀ v H' g,Same H H'->Rep K H' d v g->zN1 A H H' k g->Q v H'
 | .ex c=>∀ H',Same H H'->zy6 K CA c E H'
 | .st=>False
def zE1:Kd->Kd->Kd
 | .own,_=>.own
 | .bor _,k=>.bor k.is
def p8 (fn:Fn) (s:SA) (dd:List D):SE:=fun ρ=>(s ρ).bind fun xs=>(fn (xs.map (·.2)++dd)).bind fun kd=>.ok (zE1 kd.1 (jn xs),kd.2)
structure FnG (P:Program) (w:World) (K:PySem.W.Frag) (mg:Str->Option Value) (base:Heap) (CA:String->Addr) (fn:Fn) (k:Nat) (x:String) (dd:List D):Prop where
 is:∃ (f:Addr) (fd:FuncData) (ps:List Str) (dvs:List V) (ds:List Value),mg (Str.ofString x)=some (.ref f)/\FnOk P w K mg base (L2.CX P w) k f fd ps (spF K CA fn ps.length) ∧
  PySem.W.keepIn K (.ref f)=true/\Binds K fd ps ds/\Vals dvs ds/\(∀ H,Reps K H dd dvs [])/\∀ as,fn as≠.st->as.length=ps.length
abbrev yc9 (X:Cx) (CA:String->Addr) (fn:Fn) (k:Nat) (x:String) (dd:List D):Prop:=FnG X.prog X.w X.K X.mg X.base CA fn k x dd
section
variable {X:Cx} {CXx:CXT} {k:Nat} {f:Addr} {fd:FuncData} {ps:List Str} {sp:Sp} {E:L2.St->XK} {x:Str} {p pos:Pos} {e:Expr} {es:List Expr} {t:TA} {dvs:List V} {ds:List Value}
theorem zE2 {pins:List (Addr×Obj)} {σ:L2.St} {H:Hp} {s:Shared} {Q:VK} {us:List Value} {vs:List V} (Fn:FnOk X.prog X.w X.K X.mg X.base CXx k f fd ps sp) (hr:Room k X.A) (hb:Binds X.K fd ps ds) (hd:Vals dvs ds) (hx:PassesAt CXx X σ (E σ))
  (I:Inv X pins σ H s) (r:Vals vs us) (h:sp (vs++dvs) H Q (E σ)):wpAny (model X.prog X.w) X.A (call (.ref f) us) (EP X pins σ Q) X.xe s:=by
 have r2:Vals (vs++dvs) (us++ds):=r.append hd
 have hl:(us++ds).length=ps.length:=by rw[<- r2.length]; exact Fn.len _ _ _ _ h
 refine wpAny_call (codeAny_mono (Fn.run X.A X.stack s H ⟨us,[]⟩ (us++ds) (vs++dvs) Q (E σ) hr I.env0 (hb s us I.kIn hl) r2 h) fun r s' hq=>?_)
 cases r with
 | error e=>exact hx pins H s e s' I hq
 | ok fl=>
  cases fl with
  | ret u=>exact I.after hq
  | next=>exact False.elim hq
  | brk=>exact False.elim hq
  | cont=>exact False.elim hq
def z5S (sp:Sp) (dvs:List V) (E:L2.St->XK) (t:TA):TE:=fun σ H Q=>t σ H fun vs H1=>sp (vs++dvs) H1 Q (E σ)
theorem zO6 (Fn:FnOk X.prog X.w X.K X.mg X.base CXx k f fd ps sp) (hr:Room k X.A) (hg:Gl X x) (hm:X.mg x=some (.ref f)) (hk:PySem.W.keepIn X.K (.ref f)=true) (hb:Binds X.K fd ps ds) (hd:Vals dvs ds) (hx:∀ σ,PassesAt CXx X σ (E σ))
  (ha:PA X (e::es) t) (hdb:(x == ("__debug__" : Str))=false) (he:starEach (e::es) X.env=(false,eval e X.env)::starEach es X.env) (hpl:(backTo pos (starEach es X.env)).any (·.1)=false) :
  PE X (.Call (.Name x p) (e::es) [] pos) (z5S sp dvs E t):=by
 refine ⟨fun pins s σ H Q I h=>?_⟩
 refine wpAny_Call_Name_kw (ld_glob I hg hm ?_ hdb)
 refine PySem.W.callWith_K (h₀:=X.base) I.ok.mod.kin hk (thn (ha.run pos pins s σ H _ I h) fun us s1 ⟨vs,H1,I1,r,q⟩=>⟨I1.kIn,?_⟩) he hpl
 exact zE2 Fn hr hb hd (hx σ) I1 r q
end
section
variable {X:Cx} {CA:String->Addr} {W:WX} {fn:Fn} {k:Nat} {x:String} {p pos:Pos} {e:Expr} {es:List Expr} {s:SA} {dd:List D}
theorem zK0 {K:PySem.W.Frag} {A:Addr->Prop} {H0 H H1:Hp} {F:Nat->List Addr} {G:List (D×V)} {ρ:Env} {σ:L2.St} {Q:VK} {xs:List KD} {vs dvs:List V} {f:List Addr} {n:Nat} (sr:SR K A H0 F G ρ σ H) (s1:Same H H1)
  (r:Reps K H1 (xs.map (·.2)) vs f) (o:KOk A H0 F H H1 (jn xs) f) (hd:Reps K H1 dd dvs []) (hn:(vs++dvs).length=n)
  (h:i7 K CA W σ H1 ((fn (xs.map (·.2)++dd)).bind fun kd=>.ok (zE1 kd.1 (jn xs),kd.2)) fun kd=>S8 K A H0 F H kd Q):spF K CA fn n (vs++dvs) H1 Q (WE W σ):=by
 have r2:=r.app hd
 rw[List.append_nil] at r2
 refine ⟨fun a=>(∃ j∈(jn xs).is,a∈F j)\/Sh A H0 F a,_,f,by rw[r2.length]; exact hn,r2,o.bok sr,?_⟩
 cases hc:fn (xs.map (·.2)++dd) with
 | st=>rw[hc] at h; exact h.elim
 | ex c=>rw[hc] at h; exact h
 | ok kd=>
  rw[hc] at h
  obtain ⟨k,d⟩:=kd
  intro v H' g s2 r3 o3
  refine h v H' g (s1.trans s2) r3 ?_
  have s12:=s1.trans s2
  cases k with
  | own=>exact ⟨o3.1,fun a ha=>⟨s1.free (o3.2 a ha).1,(o3.2 a ha).2⟩⟩
  | bor is=>
   intro a ha
   rcases o3 a ha with q | q
   ·exact q
   ·exact .inr ⟨.inr ((sr.fr.trans s1).free q),fun j hj=>((sr.same s1).own j).2 a hj |>.2.ne q⟩
theorem n9 (tk:Takes X W) (hr:Room k X.A) (hf:yc9 X CA fn k x dd) (ha:PA X (e::es) (tA X.K CA W s)) (hg:Gl X (Str.ofString x):=by rfl) (hdb:(Str.ofString x == ("__debug__" : Str))=false:=by decide)
  (he:starEach (e::es) X.env=(false,eval e X.env)::starEach es X.env:=by rfl) (hpl:(backTo pos (starEach es X.env)).any (·.1)=false:=by rfl):PE X (.Call (.Name (Str.ofString x) p) (e::es) [] pos) (tE X.K CA W (p8 fn s dd)):=by
 obtain ⟨f,fd,ps,dvs,ds,hm,Fn,hk,hb,hd,hdd,hz⟩:=hf.is
 refine peI (zO6 Fn hr hg hm hk hb hd (fun σ=>passAt tk σ) ha hdb he hpl) fun σ H Q ⟨A,H0,F,G,ρ,sr,h⟩=>?_
 refine ⟨A,H0,F,G,ρ,sr,h.bind fun xs h1=>?_⟩
 intro vs H1 f1 s1 r o
 refine zK0 sr s1 r o (hdd H1) ?_ (h1.later s1)
 have r2:=r.app (hdd H1)
 rw[<- r2.length]
 refine hz _ fun z=>?_
 rw[z] at h1
 exact h1
end
def zj2 (K:PySem.W.Frag) (f:List KD->Option KD) (r:List V->Hp->VK->Prop):Prop:=
 ∀ {A:Addr->Prop} {H0 H H1:Hp} {F:Nat->List Addr} {G:List (D×V)} {ρ:Env} {σ:L2.St} {Q:VK} {xs:List KD} {vs:List V} {g:List Addr} {kd:KD},SR K A H0 F G ρ σ H->Same H H1->Reps K H1 (xs.map (·.2)) vs g->KOk A H0 F H H1 (jn xs) g ->
  f xs=some kd->S8 K A H0 F H kd Q->r vs H1 Q
def p6 (f:List KD->Option KD) (s:SA):SE:=fun ρ=>(s ρ).bind fun xs=>R.of (f xs)
section
variable {X:Cx} {CA:String->Addr} {W:WX} {x:Str} {p pos:Pos} {e:Expr} {es:List Expr} {s:SA} {id T:String} {f:List KD->Option KD} {r:List V->Hp->VK->Prop}
theorem z1t {K:PySem.W.Frag} {t:TA} (hok:zj2 K f r) (σ:L2.St) (H:Hp) (Q:VK) (h:tE K CA W (p6 f s) σ H Q):tA K CA W s σ H fun vs H1=>r vs H1 Q:=by
 obtain ⟨A,H0,F,G,ρ,sr,h⟩:=h
 refine ⟨A,H0,F,G,ρ,sr,h.bind fun xs h1=>?_⟩
 intro vs H1 g s1 rr o
 obtain ⟨kd,e,h2⟩:=h1.of
 exact hok sr s1 rr o e h2
theorem Z8 (hc:CallR X (.builtin id) r) (hok:zj2 X.K f r) (hm:X.mg x=none) (hv:bootBuiltins x=some (.builtin id)) (ha:PA X (e::es) (tA X.K CA W s)) (hg:Gl X x:=by rfl) (hn:x ≠ "__name__" := by decide) (hdb:(x == ("__debug__" : Str))=false:=by decide)
  (he:starEach (e::es) X.env=(false,eval e X.env)::starEach es X.env:=by rfl) (hpl:(backTo pos (starEach es X.env)).any (·.1)=false:=by rfl):PE X (.Call (.Name x p) (e::es) [] pos) (tE X.K CA W (p6 f s)):=
 peI (pe_callB hc hg hm hv ha hn hdb he hpl) fun σ H Q h=>z1t (t:=tNil) hok σ H Q h
theorem zv2 (hc:CallR X (.type T) r) (hok:zj2 X.K f r) (hm:X.mg x=none) (hv:bootBuiltins x=some (.type T)) (ha:PA X (e::es) (tA X.K CA W s)) (hg:Gl X x:=by rfl) (hn:x ≠ "__name__" := by decide) (hdb:(x == ("__debug__" : Str))=false:=by decide)
  (he:starEach (e::es) X.env=(false,eval e X.env)::starEach es X.env:=by rfl) (hpl:(backTo pos (starEach es X.env)).any (·.1)=false:=by rfl):PE X (.Call (.Name x p) (e::es) [] pos) (tE X.K CA W (p6 f s)):=
 peI (pe_callTy hc hg hm hv ha hn hdb he hpl) fun σ H Q h=>z1t (t:=tNil) hok σ H Q h
end
def E2:List D->Option (List Bool)
 | []=>some []
 | .bl i::r=>(E2 r).map (i::·)
 | _::_=>none
@[simp] theorem z2Q:∀ ns:List Bool,E2 (ns.map D.bl)=some ns
 | []=>rfl
 | n::ns=>by simp[E2,z2Q ns]
theorem zZ8:∀ {ds:List D} {ns:List Bool},E2 ds=some ns->ds=ns.map D.bl
 | [],ns,e=>by simp only[E2,Option.some.injEq] at e; subst e; rfl
 | d::ds,ns,e=>by
  cases d with
  | bl i=>
   cases h:E2 ds with
   | none=>simp[E2,h] at e
   | some ms=>simp only[E2,h,Option.map_some,Option.some.injEq] at e; subst e; rw[zZ8 h]; rfl
  | _=>simp[E2] at e
theorem Reps.bls_inv {K:PySem.W.Frag} {H:Hp}:∀ {ns:List Bool} {vs:List V} {f:List Addr},Reps K H (ns.map D.bl) vs f->vs=ns.map V.bl/\f=[]
 | [],_,_,h=>by cases h; exact ⟨rfl,rfl⟩
 | n::ns,_,_,h=>by
  cases h with
  | cons r t=>
   cases r
   obtain ⟨e1,e2⟩:=Reps.bls_inv t
   subst e1; subst e2
   exact ⟨rfl,rfl⟩
def zh0:D->Option Nat
 | .lst ds=>some ds.length
 | .scr ds=>some ds.length
 | .tup ds=>some ds.length
 | .str z=>if z.length<=LIM then some z.length else none
 | .dic kvs=>some kvs.length
 | _=>none
def X0:List KD->Option KD
 | [x]=>(zh0 x.2).map fun (n:Nat)=>(Kd.own,D.int (n:Int))
 | _=>none
def zn3:List Int->Option Int
 | []=>none
 | n::ns=>some (ns.foldl max n)
def zf0:List Int->Option Int
 | []=>none
 | n::ns=>some (ns.foldl min n)
def zw4:List KD->Option KD
 | [(_,.int i),(_,.int j)]=>some (.own,.int (max i j))
 | [(_,.lst ds)]=>((p9 ds).bind zn3).map fun n=>(.own,.int n)
 | [(_,.tup ds)]=>((p9 ds).bind zn3).map fun n=>(.own,.int n)
 | _=>none
def zm7:List KD->Option KD
 | [(_,.int i),(_,.int j)]=>some (.own,.int (min i j))
 | [(_,.lst ds)]=>((p9 ds).bind zf0).map fun n=>(.own,.int n)
 | [(_,.tup ds)]=>((p9 ds).bind zf0).map fun n=>(.own,.int n)
 | _=>none
def zM7:List KD->Option KD
 | [(_,.lst ds)]=>(p9 ds).map fun ns=>(.own,.int ns.sum)
 | [(_,.scr ds)]=>(p9 ds).map fun ns=>(.own,.int ns.sum)
 | _=>none
def zM2:List KD->Option KD
 | [(_,.lst ds)]=>(E2 ds).map fun ns=>(.own,.bl (ns.all id))
 | _=>none
def zM9:List KD->Option KD
 | [(k,.lst ds)]=>some (k,.tup ds)
 | [(k,.tup ds)]=>some (k,.tup ds)
 | _=>none
def zf2:List KD->Option KD
 | [(_,.int i)]=>some (.own,.int i)
 | [(_,.bl b)]=>some (.own,.int (if b then 1 else 0))
 | _=>none
section
variable {K:PySem.W.Frag} {H:Hp}
theorem Reps.one {ds:List D} {d:D} {vs:List V} {g:List Addr} (e:ds=[d]) (r:Reps K H ds vs g):∃ v,vs=[v]/\Rep K H d v g:=by
 subst e
 cases r with
 | cons r t=>cases t; rw[List.append_nil]; exact ⟨_,rfl,r⟩
theorem Reps.two {d d':D} {vs:List V} {g:List Addr} (r:Reps K H [d,d'] vs g):∃ v v' f f',vs=[v,v']/\g=f++f'/\Rep K H d v f/\Rep K H d' v' f':=by
 cases r with
 | cons r t=>cases t with
  | cons r' t'=>cases t'; exact ⟨_,_,_,_,rfl,by rw[List.append_nil],r,r'⟩
theorem zP5:∀ (ns:List Int) (n:Int),ns.foldl max n∈n::ns/\∀ y∈n::ns,y<=ns.foldl max n
 | [],n=>⟨by simp,fun y hy=>by simp at hy; subst hy; exact Int.le_refl _⟩
 | m::ns,n=>by
  obtain ⟨h1,h2⟩:=zP5 ns (max n m)
  refine ⟨?_,fun y hy=>?_⟩
  ·show ns.foldl max (max n m)∈_
   rcases List.mem_cons.mp h1 with e | h1
   ·rw[e]
    by_cases h:n<=m
    ·rw[Int.max_eq_right h]; simp
    ·rw[Int.max_eq_left (by omega)]; simp
   ·exact List.mem_cons_of_mem _ (List.mem_cons_of_mem _ h1)
  ·show y<=ns.foldl max (max n m)
   have h3:=h2 (max n m) List.mem_cons_self
   rcases List.mem_cons.mp hy with e | hy
   ·subst e; omega
   ·rcases List.mem_cons.mp hy with e | hy
    ·subst e; omega
    ·exact h2 y (List.mem_cons_of_mem _ hy)
theorem zQ1:∀ (ns:List Int) (n:Int),ns.foldl min n∈n::ns/\∀ y∈n::ns,ns.foldl min n<=y
 | [],n=>⟨by simp,fun y hy=>by simp at hy; subst hy; exact Int.le_refl _⟩
 | m::ns,n=>by
  obtain ⟨h1,h2⟩:=zQ1 ns (min n m)
  refine ⟨?_,fun y hy=>?_⟩
  ·show ns.foldl min (min n m)∈_
   rcases List.mem_cons.mp h1 with e | h1
   ·rw[e]
    by_cases h:n<=m
    ·rw[Int.min_eq_left h]; simp
    ·rw[Int.min_eq_right (by omega)]; simp
   ·exact List.mem_cons_of_mem _ (List.mem_cons_of_mem _ h1)
  ·show ns.foldl min (min n m)<=y
   have h3:=h2 (min n m) List.mem_cons_self
   rcases List.mem_cons.mp hy with e | hy
   ·subst e; omega
   ·rcases List.mem_cons.mp hy with e | hy
    ·subst e; omega
    ·exact h2 y (List.mem_cons_of_mem _ hy)
theorem z0j {ns:List Int} {M m:Int} (e:zn3 ns=some M) (h1:m∈ns) (h2:∀ y,y∈ns->y<=m):m=M:=by
 cases ns with
 | nil=>cases e
 | cons n ns=>
  simp only[zn3,Option.some.injEq] at e
  subst e
  obtain ⟨h3,h4⟩:=zP5 ns n
  have:=h2 _ h3
  have:=h4 _ h1
  omega
theorem zY1 {ns:List Int} {M m:Int} (e:zf0 ns=some M) (h1:m∈ns) (h2:∀ y,y∈ns->m<=y):m=M:=by
 cases ns with
 | nil=>cases e
 | cons n ns=>
  simp only[zf0,Option.some.injEq] at e
  subst e
  obtain ⟨h3,h4⟩:=zQ1 ns n
  have:=h2 _ h3
  have:=h4 _ h1
  omega
end
def z4P (K:PySem.W.Frag):List V->Hp->VK->Prop:=fun xs H Q=>(∃ p ys,xs=[.ref p]/\(SqL K H p ys\/SqT K H p ys)/\Q (.int ys.length) H)\/(∃ z,xs=[.str z]/\z.length<=sizeLine/\Q (.int z.length) H)\/∃ a kvs,xs=[.ref a]/\H a=some (.dK kvs)/\Q (.int kvs.length) H
theorem Q1 {X:Cx}:CallR X (.builtin "len") (z4P X.K):=call_len_seq.or (call_len_str.or call_lenD)
theorem RepK.length {K:PySem.W.Frag} {H:Hp} {κ:Type}:∀ {d:List (κ×D)} {v:List (κ×V)} {f:List Addr},RepK K H d v f->d.length=v.length
 | _,_,_,.nil=>rfl
 | _,_,_,.cons _ t=>by simp[RepK.length t]
theorem Q3 {K:PySem.W.Frag}:zj2 K X0 (z4P K):=by
 intro A H0 H H1 F G ρ σ Q xs vs g kd sr s1 r o e h
 match xs,e with
 | [(k,d)],e=>
  obtain ⟨v,rfl,r0⟩:=r.one (d:=d) rfl
  have e:(zh0 d).map (fun n:Nat=>((Kd.own,D.int (n:Int)):KD))=some kd:=e
  cases r0 with
  | tup t q=>simp only[zh0,Option.map_some,Option.some.injEq] at e; subst e; exact .inl ⟨_,_,rfl,.inr (.of t),by rw[<- q.length]; exact h.atom s1 (.int _)⟩
  | lst t q=>simp only[zh0,Option.map_some,Option.some.injEq] at e; subst e; exact .inl ⟨_,_,rfl,.inl (.of t),by rw[<- q.length]; exact h.atom s1 (.int _)⟩
  | scr t q=>
   simp only[zh0,Option.map_some,Option.some.injEq] at e; subst e
   rcases t with t | ⟨o,t⟩
   ·exact .inl ⟨_,_,rfl,.inl (t _),by rw[<- q.length]; exact h.atom s1 (.int _)⟩
   ·exact .inl ⟨_,_,rfl,.inl (.inl (.inr ⟨o,t⟩)),by rw[<- q.length]; exact h.atom s1 (.int _)⟩
  | dic t _ q=>simp only[zh0,Option.map_some,Option.some.injEq] at e; subst e; exact .inr (.inr ⟨_,_,rfl,t,by rw[<- q.length]; exact h.atom s1 (.int _)⟩)
  | str x=>
   simp only[zh0] at e
   split at e
   ·rename_i hz; simp only[Option.map_some,Option.some.injEq] at e; subst e; exact .inr (.inl ⟨x,rfl,by rw[<- O4]; exact hz,h.atom s1 (.int _)⟩)
   ·cases e
  | _=>simp[zh0] at e
 | [],e=>cases e
 | _::_::_,e=>cases e
def z4r (K:PySem.W.Frag):List V->Hp->VK->Prop:=fun xs H Q=>(∃ i j,xs=[.int i,.int j]/\Q (.int (if j > i then j else i)) H)\/rMax K xs H Q\/z4E K xs H Q
def z4A (K:PySem.W.Frag):List V->Hp->VK->Prop:=fun xs H Q=>(∃ i j,xs=[.int i,.int j]/\Q (.int (if j < i then j else i)) H)\/rMin K xs H Q\/z4h K xs H Q
theorem z3z {X:Cx} (hc:X.calm=true):CallR X (.builtin "max") (z4r X.K):=(call_max2 hc).or ((cr_max hc).or (z5i hc))
theorem zS1 {X:Cx} (hc:X.calm=true):CallR X (.builtin "min") (z4A X.K):=(call_min2 hc).or ((cr_min hc).or (z40 hc))
theorem z5h (i j:Int):(if j > i then j else i)=max i j:=by
 by_cases h:j > i
 ·rw[if_pos h,Int.max_eq_right (by omega)]
 ·rw[if_neg h,Int.max_eq_left (by omega)]
theorem z51 (i j:Int):(if j < i then j else i)=min i j:=by
 by_cases h:j < i
 ·rw[if_pos h,Int.min_eq_right (by omega)]
 ·rw[if_neg h,Int.min_eq_left (by omega)]
theorem z3n {K:PySem.W.Frag}:zj2 K zw4 (z4r K):=by
 intro A H0 H H1 F G ρ σ Q xs vs g kd sr s1 r o e h
 unfold zw4 at e
 split at e
 ·cases e
  obtain ⟨v,v',f,f',rfl,_,r1,r2⟩:=r.two
  cases r1; cases r2
  exact .inl ⟨_,_,rfl,by rw[z5h]; exact h.atom s1 (.int _)⟩
 ·rename_i k ds
  obtain ⟨v,rfl,r0⟩:=r.one (d:=.lst ds) rfl
  obtain ⟨a,ws,g',rfl,t,q,_,_⟩:=r0.lstI
  cases h1:p9 ds with
  | none=>rw[h1] at e; cases e
  | some ns=>
   rw[h1] at e
   cases h2:zn3 ns with
   | none=>simp[h2] at e
   | some M=>
    simp only[Option.bind_some,h2,Option.map_some,Option.some.injEq] at e
    subst e
    have ed:=N8 h1
    subst ed
    obtain ⟨e1,_⟩:=q.ints_inv
    subst e1
    exact .inr (.inl ⟨a,ns,rfl,t,by cases ns with | nil=>cases h2 | cons _ _=>simp,fun m m1 m2=>by rw[z0j h2 m1 m2]; exact h.atom s1 (.int _)⟩)
 ·rename_i k ds
  obtain ⟨v,rfl,r0⟩:=r.one (d:=.tup ds) rfl
  obtain ⟨a,ws,rfl,t,q⟩:=r0.tupI
  cases h1:p9 ds with
  | none=>rw[h1] at e; cases e
  | some ns=>
   rw[h1] at e
   cases h2:zn3 ns with
   | none=>simp[h2] at e
   | some M=>
    simp only[Option.bind_some,h2,Option.map_some,Option.some.injEq] at e
    subst e
    have ed:=N8 h1
    subst ed
    obtain ⟨e1,_⟩:=q.ints_inv
    subst e1
    exact .inr (.inr ⟨a,ns,rfl,.of t,by cases ns with | nil=>cases h2 | cons _ _=>simp,fun m m1 m2=>by rw[z0j h2 m1 m2]; exact h.atom s1 (.int _)⟩)
 ·cases e
theorem zU4 {K:PySem.W.Frag}:zj2 K zm7 (z4A K):=by
 intro A H0 H H1 F G ρ σ Q xs vs g kd sr s1 r o e h
 unfold zm7 at e
 split at e
 ·cases e
  obtain ⟨v,v',f,f',rfl,_,r1,r2⟩:=r.two
  cases r1; cases r2
  exact .inl ⟨_,_,rfl,by rw[z51]; exact h.atom s1 (.int _)⟩
 ·rename_i k ds
  obtain ⟨v,rfl,r0⟩:=r.one (d:=.lst ds) rfl
  obtain ⟨a,ws,g',rfl,t,q,_,_⟩:=r0.lstI
  cases h1:p9 ds with
  | none=>rw[h1] at e; cases e
  | some ns=>
   rw[h1] at e
   cases h2:zf0 ns with
   | none=>simp[h2] at e
   | some M=>
    simp only[Option.bind_some,h2,Option.map_some,Option.some.injEq] at e
    subst e
    have ed:=N8 h1
    subst ed
    obtain ⟨e1,_⟩:=q.ints_inv
    subst e1
    exact .inr (.inl ⟨a,ns,rfl,t,by cases ns with | nil=>cases h2 | cons _ _=>simp,fun m m1 m2=>by rw[zY1 h2 m1 m2]; exact h.atom s1 (.int _)⟩)
 ·rename_i k ds
  obtain ⟨v,rfl,r0⟩:=r.one (d:=.tup ds) rfl
  obtain ⟨a,ws,rfl,t,q⟩:=r0.tupI
  cases h1:p9 ds with
  | none=>rw[h1] at e; cases e
  | some ns=>
   rw[h1] at e
   cases h2:zf0 ns with
   | none=>simp[h2] at e
   | some M=>
    simp only[Option.bind_some,h2,Option.map_some,Option.some.injEq] at e
    subst e
    have ed:=N8 h1
    subst ed
    obtain ⟨e1,_⟩:=q.ints_inv
    subst e1
    exact .inr (.inr ⟨a,ns,rfl,.of t,by cases ns with | nil=>cases h2 | cons _ _=>simp,fun m m1 m2=>by rw[zY1 h2 m1 m2]; exact h.atom s1 (.int _)⟩)
 ·cases e
theorem z91 {K:PySem.W.Frag}:zj2 K zM7 (rSum K):=by
 intro A H0 H H1 F G ρ σ Q xs vs g kd sr s1 r o e h
 unfold zM7 at e
 split at e
 ·rename_i k ds
  obtain ⟨v,rfl,r0⟩:=r.one (d:=.lst ds) rfl
  obtain ⟨a,ws,g',rfl,t,q,_,_⟩:=r0.lstI
  cases h1:p9 ds with
  | none=>rw[h1] at e; cases e
  | some ns=>
   rw[h1] at e
   simp only[Option.map_some,Option.some.injEq] at e
   subst e
   have ed:=N8 h1
   subst ed
   obtain ⟨e1,_⟩:=q.ints_inv
   subst e1
   exact ⟨a,ns,rfl,t,h.atom s1 (.int _)⟩
 ·rename_i k ds
  obtain ⟨v,rfl,r0⟩:=r.one (d:=.scr ds) rfl
  obtain ⟨a,ws,g',rfl,t,q,_,_⟩:=r0.scrI
  cases h1:p9 ds with
  | none=>rw[h1] at e; cases e
  | some ns=>
   rw[h1] at e
   simp only[Option.map_some,Option.some.injEq] at e
   subst e
   have ed:=N8 h1
   subst ed
   obtain ⟨e1,_⟩:=q.ints_inv
   subst e1
   exact ⟨a,ns,rfl,t,h.atom s1 (.int _)⟩
 ·cases e
theorem z6X {K:PySem.W.Frag}:zj2 K zM2 (rAll K):=by
 intro A H0 H H1 F G ρ σ Q xs vs g kd sr s1 r o e h
 unfold zM2 at e
 split at e
 ·rename_i k ds
  obtain ⟨v,rfl,r0⟩:=r.one (d:=.lst ds) rfl
  obtain ⟨a,ws,g',rfl,t,q,_,_⟩:=r0.lstI
  cases h1:E2 ds with
  | none=>rw[h1] at e; cases e
  | some ns=>
   rw[h1] at e
   simp only[Option.map_some,Option.some.injEq] at e
   subst e
   have ed:=zZ8 h1
   subst ed
   obtain ⟨e1,_⟩:=q.bls_inv
   subst e1
   exact ⟨a,ns,rfl,t,h.atom s1 (.bl _)⟩
 ·cases e
def z88 (K:PySem.W.Frag):List V->Hp->VK->Prop:=fun xs H Q=>∃ p ys,xs=[.ref p]/\((SqL K H p ys/\∀ l,H l=none->Q (.ref l) (upd H l (.tup ys)))\/(SqT K H p ys/\Q (.ref p) H))
theorem z7Q {K:PySem.W.Frag}:zj2 K zM9 (z88 K):=by
 intro A H0 H H1 F G ρ σ Q xs vs g kd sr s1 r o e h
 unfold zM9 at e
 have jk:∀ {k:Kd} {d:D} {v:V},Rep K H1 d v g->KOk A H0 F H H1 (jn [(k,d)]) g->KOk A H0 F H H1 k g:=fun {k d v} r o=>by
  have o:KOk A H0 F H H1 ((nk k d).join .own) g:=o
  rw[Kd.join_own] at o
  exact KOk.nk' r o
 split at e
 ·rename_i k ds
  cases e
  obtain ⟨v,rfl,r0⟩:=r.one (d:=.lst ds) rfl
  obtain ⟨a,ws,g',rfl,t,q,i1,n1⟩:=r0.lstI
  exact ⟨a,ws,rfl,.inl ⟨t,fun l hl=>h.newT s1 q ((jk r0 o).sub i1 n1) hl⟩⟩
 ·rename_i k ds
  cases e
  obtain ⟨v,rfl,r0⟩:=r.one (d:=.tup ds) rfl
  obtain ⟨a,ws,rfl,t,q⟩:=r0.tupI
  exact ⟨a,ws,rfl,.inr ⟨.of t,h _ _ g s1 (.tup t q) (jk (Rep.tup t q) o)⟩⟩
 ·cases e
theorem zT8 {K:PySem.W.Frag}:zj2 K zf2 (fun xs H Q=>(∃ i,xs=[.int i]/\Q (.int i) H)\/∃ k,xs=[.bl k]/\Q (.int (if k then 1 else 0)) H):=by
 intro A H0 H H1 F G ρ σ Q xs vs g kd sr s1 r o e h
 unfold zf2 at e
 split at e
 ·cases e
  obtain ⟨v,rfl,r0⟩:=r.one rfl
  cases r0
  exact .inl ⟨_,rfl,h.atom s1 (.int _)⟩
 ·cases e
  obtain ⟨v,rfl,r0⟩:=r.one rfl
  cases r0
  exact .inr ⟨_,rfl,h.atom s1 (.int _)⟩
 ·cases e
def tyD:D->String
 | .non => "NoneType" | .bl _ => "bool" | .int _ => "int" | .str _ => "str" | .tup _ => "tuple" | .lst _ => "list" | .scr _ => "list" | .dic _ => "dict" | _ => ""
def tyK:D->Bool
 | .fn _=>false | .obj _ _ _=>false | .dtk _=>false
 | .sob _ _=>false | .fdc _=>false | .exv _ _ _ _=>false | .nod _ _=>false | .tg _ _=>false | .hol _=>false | .dnk _=>false
 | _=>true
def zq1 (a:SE) (T:String):SE:=fun ρ=>(a ρ).bind fun x=>if tyK x.2=true then (match kitB (tyD x.2) T with
 | some b=>.ok (.own,.bl b)
 | none=>.st) else .st
theorem z6O {K:PySem.W.Frag} {H:Hp} {d:D} {v:V} {f:List Addr} (r:Rep K H d v f) (hk:tyK d=true):TyX K H v (.type (tyD d)):=by
 cases r with
 | fn q=>cases hk
 | obj q c n r _=>cases hk
 | dtk q n r=>cases hk
 | non=>exact .base .non
 | bl b=>exact .base (.bl b)
 | int i=>exact .base (.int i)
 | str x=>exact .base (.str x)
 | tup t q=>exact .base (.tup t)
 | sob q c n r=>cases hk
 | fdc q n r=>cases hk
 | exv q r=>cases hk
 | nod q=>cases hk
 | tg r z=>cases hk
 | hol z=>cases hk
 | dnk q _ _ _=>cases hk
 | lst t q=>exact .base (.lst t)
 | scr t q=>
  rcases t with t | ⟨o,t⟩
  ·rcases t (fun _=>none) with (t | ⟨o,t⟩) | ⟨o,its,n,h1,h2,_⟩
   ·cases t
   ·cases t
   ·exact .kList h1 h2
  ·exact .base (.frz t)
 | dic t _ q=>exact .base (.dK t)
section
variable {X:Cx} {CA:String->Addr} {W:WX} {p p2 pos:Pos} {e:Expr} {sa:SE} {T:String}
theorem zC1 (hm:X.mg "isinstance" = none) (ht:X.mg (Str.ofString T)=none) (hv:bootBuiltins (Str.ofString T)=some (.type T)) (ha:PE X e (tE X.K CA W sa)) (hg:Gl X "isinstance" := by rfl) (hgt:Gl X (Str.ofString T):=by rfl)
  (hn:Str.ofString T ≠ "__name__" := by decide) (hd:(Str.ofString T == ("__debug__" : Str))=false:=by decide)
  (he:starEach (e::[.Name (Str.ofString T) p2]) X.env=(false,eval e X.env)::starEach [.Name (Str.ofString T) p2] X.env:=by rfl) (hpl:(backTo pos (starEach [.Name (Str.ofString T) p2] X.env)).any (·.1)=false:=by rfl) :
  PE X (.Call (.Name "isinstance" p) [e,.Name (Str.ofString T) p2] [] pos) (tE X.K CA W (zq1 sa T)):=by
 refine peI (pe_callB call_isi hg hm (by decide +kernel) (pa_cons ha (pa_cons (pe_bltn (v:=.ty T) hgt ht hv rfl hn hd) pa_nil (by rfl)) he) (by decide) (by decide) he hpl) fun σ H Q ⟨A,H0,F,G,ρ,sr,h⟩=>?_
 refine ⟨A,H0,F,G,ρ,sr,h.bind fun ⟨k,d⟩ h1=>?_⟩
 intro v H1 f s1 r o
 by_cases hy:tyK d=true
 ·simp only[hy,if_true] at h1
  cases hk:kitB (tyD d) T with
  | none=>simp only[hk] at h1; exact h1.elim
  | some b=>
   simp only[hk] at h1
   exact ⟨v,.ty T,_,_,b,rfl,.ty T,z6O r hy,kit_ty hk,S8.atom h1 s1 (.bl b)⟩
 ·simp only[hy,if_false,Bool.false_eq_true] at h1
  exact h1.elim
end
section
variable {prog:Program} {w:World} {A:Around} {E:Value->Shared->Prop} {s:Shared}
theorem zP9 {it t:Addr} {items:Array Value} (hne:t≠it):∀ (n i:Nat) (s:Shared) (Q:List Value->Shared->Prop),s.heap.IsListIter it t i->s.heap.IsList t items->i + n<=items.size ->
  (∀ h',h'.IsListIter it t (i + n)->Heap.SameBut it s.heap h'->Q ((items.toList.drop i).take n) { s with heap:=h' })->wpAny (model prog w) A (draw (.ref it) n) Q E s
 | 0,i,s,Q,hit,_,_,hQ=>by
  show wpAny _ _ (pure []) Q E s
  exact wpAny_pure (by simpa using hQ s.heap hit (Heap.SameBut.refl ..))
 | n + 1,i,s,Q,hit,ht,hle,hQ=>by
  have hlt:i < items.size:=by omega
  show wpAny _ _ (pyNext (.ref it) >>= _) Q E s
  refine wpAny_bind (wpAny_pyNext_list_item hit ht (x:=items[i]) (by simp[hlt]) fun h₁ hit₁ hs₁=>?_)
  have ht₁:h₁.IsList t items:=let ⟨o,e,r⟩:=ht; ⟨o,(hs₁.2 t hne).trans e,r⟩
  refine wpAny_bind (wpAny_holding (zP9 hne n (i + 1) _ _ hit₁ ht₁ (by omega) fun h₂ hit₂ hs₂=>wpAny_pure ?_))
  have hd:items.toList.drop i=items[i]::items.toList.drop (i + 1):=by simp[List.drop_eq_getElem_cons,hlt]
  have:=hQ h₂ (by rw[show i + (n + 1)=i + 1 + n by omega]; exact hit₂) (hs₁.trans hs₂)
  rw[hd,List.take_succ_cons] at this
  exact this
theorem zE6 {t:Addr} {items:Array Value} {Q:List Value->Shared->Prop} (hh:A.handled=none) (ht:s.heap.IsList t items)
  (hQ:∀ h',Heap.ExtBut s.heap.objs.size s.heap h'->Q items.toList { s with heap:=h' }):wpAny (model prog w) A (unpackItems (.ref t) items.size none) Q E s:=by
 have hlt:t≠s.heap.objs.size:=by obtain ⟨o,ho,_⟩:=ht; exact Nat.ne_of_lt (Heap.lt_size ho)
 unfold unpackItems
 refine wpAny_bind ?_
 ·unfold notIterableAtAll
  refine wpAny_bind (wpAny_specialOf ht.typeIs F.slot_list_iter.lookup ?_)
  refine wpAny_pure ?_
  simp only[Bool.false_eq_true,if_false]
  refine wpAny_bind (wpAny_holding (wpAny_pyIter_list ht ?_))
  refine wpAny_bind (wpAny_holding (zP9 hlt items.size 0 _ _ ⟨_,Heap.get?_push_size _ rfl,rfl,rfl⟩ (ht.push _) (by omega) fun h₁ hit₁ hs₁=>?_))
  have hall:List.take items.size (List.drop 0 items.toList)=items.toList:=by
   rw[List.drop_zero]; exact List.take_of_length_le (by simp)
  rw[hall]
  rw[if_neg (by simp)]
  have ht₁:h₁.IsList t items:=let ⟨o,e,r⟩:=ht.push _; ⟨o,(hs₁.2 t hlt).trans e,r⟩
  refine wpAny_bind (wpAny_holding (wpAny_pyNext_list_end hh hit₁ ht₁ (by simp) fun h₂ he₂=>?_))
  simp only[Option.isSome_none,Bool.false_eq_true,if_false]
  refine wpAny_pure (hQ h₂ fun b o hb e=>he₂ b o hb (hs₁.extBut b o hb (Heap.get?_push_of_some _ e)))
theorem zD6 {env:PySem.Env} {elts:List Expr} {x1} {pos:Pos} {t:Addr} {items:Array Value} {Q:Unit->Shared->Prop} (hh:A.handled=none) (ht:s.heap.IsList t items)
  (hn:(assignEach elts env).length=items.size) (hstar:(assignEach elts env).findIdx? (·.1)=none)
  (h:∀ h',Heap.ExtBut s.heap.objs.size s.heap h'->wpAny (model prog w) A (assignInOrder ((assignEach elts env).map (·.2)) items.toList) Q E { s with heap:=h' }) :
  wpAny (model prog w) A (assign (.Tuple elts x1 pos) env (.ref t)) Q E s:=by
 rw[assign_Tuple]
 refine wpAny_bind (wpAny_standAt ?_)
 unfold unpack
 rw[hn,hstar]
 exact wpAny_bind (wpAny_holding (zE6 hh ht h))
end
def z8U (K:PySem.W.Frag) (n:Nat) (t:TGs):TG:=fun v σ H Q=>∃ a xs,v=.ref a/\(SqT K H a xs\/SqL K H a xs)/\xs.length=n/\t xs σ H Q
theorem z0t {X:Cx} {pos:Pos} {es:List Expr} {k:Nat} {t:TGs} {n:Nat} (hc:X.calm=true) (h:PGs X es t)
  (hn:(assignEach es X.env).length=n) (hst:(assignEach es X.env).findIdx? (·.1)=none):PG X (.Tuple es k pos) (z8U X.K n t):=by
 refine ⟨fun pins s σ H v u Q I r hw=>?_⟩
 obtain ⟨a,xs,e1,hq,hl,hw⟩:=hw
 subst e1
 cases r
 rcases hq with hq | hq
 ·obtain ⟨its,rv,ht,hz⟩:=I.tuple hq
  refine assign_Tuple_tuple (I.ok.hd hc) ht (by simp[hn,<- hl,rv.length]) hst fun h' hx=>?_
  have I1:Inv X pins σ H { s with heap:=h' }:=I.kept (t':=s.toks) fun b o e=>hx b o (Nat.ne_of_lt (Heap.lt_size e)) e
  exact h.run pins _ σ H xs _ Q I1 (by simpa using rv) hw
 ·obtain ⟨its,rv,ht,hz⟩:=I.list hq
  refine zD6 (I.ok.hd hc) ht.isList (by simp[hn,<- hl,rv.length]) hst fun h' hx=>?_
  have I1:Inv X pins σ H { s with heap:=h' }:=I.kept (t':=s.toks) fun b o e=>hx b o (Nat.ne_of_lt (Heap.lt_size e)) e
  exact h.run pins _ σ H xs _ Q I1 (by simpa using rv) hw
def mkS:Kd->D->Sl
 | _,.int i=>.bo [] (.int i)
 | _,.bl i=>.bo [] (.bl i)
 | _,.str i=>.bo [] (.str i)
 | _,.non=>.bo [] .non
 | .own,d=>.ow d
 | .bor is,d=>.bo is d
theorem z0s (k:Kd) (d:D):(mkS k d).isT=false:=by
 cases k <;> cases d <;> rfl
def w9 (F:Nat->List Addr) (i:Nat) (f:List Addr):Nat->List Addr:=fun j=>if j=i then f else F j
@[simp] theorem x5 {F:Nat->List Addr} {i:Nat} {f:List Addr}:w9 F i f i=f:=if_pos rfl
theorem y5 {F:Nat->List Addr} {i j:Nat} {f:List Addr} (h:j≠i):w9 F i f j=F j:=if_neg h
section
variable {K:PySem.W.Frag} {A:Addr->Prop} {H0 H H1 H2:Hp} {F:Nat->List Addr} {G:List (D×V)} {ρ:Env} {σ:L2.St}
theorem Sh.upd {i:Nat} {f:List Addr} {a:Addr} (sr:SR K A H0 F G ρ σ H) (hf:∀ b∈f,H b=none) (ha:H a≠none) (h:Sh A H0 F a):Sh A H0 (w9 F i f) a:=
 ⟨h.1,fun j hj=>by
  by_cases e:j=i
  ·subst e; rw[x5] at hj; exact ha (hf a hj)
  ·rw[y5 e] at hj; exact h.2 j hj⟩
theorem BOk.upd {i:Nat} {f g:List Addr} {is:List Nat} (sr:SR K A H0 F G ρ σ H) (hf:∀ b∈f,H b=none) (hg:∀ a∈g,H a≠none) (h:BOk A H0 F is g):BOk A H0 (w9 F i f) is g:=fun a ha=>by
 rcases h a ha with ⟨j,hj,q⟩ | q
 ·by_cases e:j=i
  ·subst e
   refine .inr ⟨.inr ((sr.own j).2 a q).1,fun m hm=>?_⟩
   by_cases e:m=j
   ·subst e; rw[x5] at hm; exact hg a ha (hf a hm)
   ·rw[y5 e] at hm; exact e (sr.dis _ _ a hm q)
  ·exact .inl ⟨j,hj,by rw[y5 e]; exact q⟩
 ·exact .inr (q.upd sr hf (hg a ha))
theorem V8 {i:Nat} {f:List Addr} (h:∃ L,∀ j,L<=j->F j=[]):∃ L,∀ j,L<=j->w9 F i f j=[]:=by
 obtain ⟨L,h⟩:=h
 refine ⟨max L (i + 1),fun j hj=>?_⟩
 rw[y5 (by omega)]
 exact h j (by omega)
theorem SR.set {k:Kd} {d:D} {v:V} {f:List Addr} (sr:SR K A H0 F G ρ σ H) (s:Same H H1) (r:Rep K H1 d v f) (o:KOk A H0 F H H1 k f) (i:Nat) :
  ∃ f',SR K A H0 (w9 F i f') G (ρ.set i (mkS k d)) (σ.set i (some v)) H1/\(∀ b∈f',H b=none)/\(k≠.own->f'=[]):=by
 have sr1:=sr.same s
 have main:∀ f',(∀ b∈f',H b=none)->(f'.Nodup/\∀ a∈f',Mu (H1 a))->(∀ d',mkS k d=.ow d'->d'=d/\f'=f)->(∀ is d',mkS k d=.bo is d'->d'=d/\∀ a∈f,(∃ j∈is,a∈w9 F i f' j)\/Sh A H0 (w9 F i f') a)->(f'≠[]->∃ d',mkS k d=.ow d') ->
   SR K A H0 (w9 F i f') G (ρ.set i (mkS k d)) (σ.set i (some v)) H1:=fun f' hf hm ho hb he=>by
  refine ⟨by rw[List.length_set,List.length_set]; exact sr.len,sr1.fr,fun j=>?_,fun j m a hj hm'=>?_,fun j d' e=>?_,fun j is d' e=>?_,fun p hp=>?_,fun j hj hn=>?_,V8 sr.fin,sr1.tbS (R4 (z0s k d)) fun a o e _=>e⟩
  ·by_cases e:j=i
   ·subst e; rw[x5]; exact ⟨hm.1,fun a ha=>⟨sr.fr.free (hf a ha),hm.2 a ha⟩⟩
   ·rw[y5 e]; exact sr1.own j
  ·by_cases e:j=i
   ·by_cases e':m=i
    ·rw[e,e']
    ·rw[e,x5] at hj; rw[y5 e'] at hm'
     exact absurd (hf a hj) (((sr.own m).2 a hm').2.ne)
   ·by_cases e':m=i
    ·rw[e',x5] at hm'; rw[y5 e] at hj
     exact absurd (hf a hm') (((sr.own j).2 a hj).2.ne)
    ·rw[y5 e] at hj; rw[y5 e'] at hm'; exact sr.dis j m a hj hm'
  ·by_cases h:i=j
   ·subst h
    by_cases hl:i < ρ.length
    ·rw[List.getElem?_set_self hl] at e
     obtain ⟨e1,e2⟩:=ho d' (Option.some.inj e)
     subst e1; subst e2
     refine ⟨v,by rw[List.getElem?_set_self (by rw[<- sr.len]; exact hl)],by rw[x5]; exact r⟩
    ·rw[List.getElem?_eq_none (by simpa using hl)] at e; cases e
   ·rw[List.getElem?_set_ne h] at e; rw[List.getElem?_set_ne h,y5 (Ne.symm h)]; exact sr1.slo j d' e
  ·by_cases h:i=j
   ·subst h
    by_cases hl:i < ρ.length
    ·rw[List.getElem?_set_self hl] at e
     obtain ⟨e1,e2⟩:=hb is d' (Option.some.inj e)
     subst e1
     refine ⟨v,f,by rw[List.getElem?_set_self (by rw[<- sr.len]; exact hl)],r,e2⟩
    ·rw[List.getElem?_eq_none (by simpa using hl)] at e; cases e
   ·rw[List.getElem?_set_ne h] at e; rw[List.getElem?_set_ne h]
    obtain ⟨v',g,h1,h2,h3⟩:=sr.slb j is d' e
    exact ⟨v',g,h1,h2.same s,h3.upd sr hf h2.trk⟩
  ·obtain ⟨g,h1,h2⟩:=sr.gho p hp
   exact ⟨g,h1.same s,fun a ha=>(h2 a ha).upd sr hf (h1.trk a ha)⟩
  ·rw[List.length_set] at hj
   by_cases h:i=j
   ·subst h
    rw[x5] at hn
    obtain ⟨d',e'⟩:=he hn
    exact ⟨d',by rw[List.getElem?_set_self hj,e']⟩
   ·rw[y5 (Ne.symm h)] at hn
    obtain ⟨d',e'⟩:=sr.emp j hj hn
    exact ⟨d',by rw[List.getElem?_set_ne h]; exact e'⟩
 have atom:f=[]->mkS k d=.bo [] d->∃ f',SR K A H0 (w9 F i f') G (ρ.set i (mkS k d)) (σ.set i (some v)) H1/\(∀ b∈f',H b=none)/\(k≠.own->f'=[]):=fun e1 e2=>
  ⟨[],main [] (fun b hb=>nomatch hb) ⟨List.nodup_nil,fun a ha=>nomatch ha⟩ (fun d' e=>by rw[e2] at e; cases e) (fun is d' e=>by rw[e2] at e; cases e; exact ⟨rfl,fun a ha=>by rw[e1] at ha; cases ha⟩) (fun z=>absurd rfl z),(fun b hb=>nomatch hb),fun _=>rfl⟩
 have big:mkS k d=(match k with | .own=>.ow d | .bor is=>.bo is d)->∃ f',SR K A H0 (w9 F i f') G (ρ.set i (mkS k d)) (σ.set i (some v)) H1/\(∀ b∈f',H b=none)/\(k≠.own->f'=[]):=fun e=>by
  cases k with
  | own=>exact ⟨f,main f (fun b hb=>(o.2 b hb).1) ⟨o.1,fun a ha=>(o.2 a ha).2⟩ (fun d' e'=>by rw[e] at e'; cases e'; exact ⟨rfl,rfl⟩) (fun is d' e'=>by rw[e] at e'; cases e') (fun _=>⟨d,e⟩),fun b hb=>(o.2 b hb).1,fun z=>absurd rfl z⟩
  | bor js=>
   refine ⟨[],main [] (fun b hb=>nomatch hb) ⟨List.nodup_nil,fun a ha=>nomatch ha⟩ (fun d' e'=>by rw[e] at e'; cases e') (fun is d' e'=>?_) (fun z=>absurd rfl z),(fun b hb=>nomatch hb),fun _=>rfl⟩
   rw[e] at e'; cases e'
   exact ⟨rfl,BOk.upd sr1 (f:=[]) (fun b hb=>nomatch hb) r.trk o⟩
 cases d with
 | int n=>cases r; exact atom rfl (by cases k <;> rfl)
 | bl n=>cases r; exact atom rfl (by cases k <;> rfl)
 | str n=>cases r; exact atom rfl (by cases k <;> rfl)
 | non=>cases r; exact atom rfl (by cases k <;> rfl)
 | _=>exact big (by cases k <;> rfl)
end
abbrev Tgt:=Kd->D->Env->Option Env
abbrev zi2:=List Nat->List D->Env->Option Env
def tgN (i:Nat):Tgt:=fun k d ρ=>some (ρ.set i (mkS k d))
def tgT (t:zi2):Tgt:=fun k d ρ=>match d with
 | .tup ds=>t k.is ds ρ
 | .lst ds=>t k.is ds ρ
 | _=>none
def O5:zi2:=fun _ ds ρ=>match ds with
 | []=>some ρ
 | _::_=>none
def j4 (t:Tgt) (r:zi2):zi2:=fun is ds ρ=>match ds with
 | []=>none
 | d::ds=>(t (.bor is) d ρ).bind fun ρ'=>r is ds ρ'
def Trn (A:Addr->Prop) (H0 H:Hp) (F F':Nat->List Addr):Prop:=∀ js g,(∀ a∈g,H a≠none)->BOk A H0 F js g->BOk A H0 F' js g
structure TP (K:PySem.W.Frag) (A:Addr->Prop) (H0 Hb H:Hp) (F F':Nat->List Addr) (G:List (D×V)) (ρ':Env) (σ σ':L2.St) (sl:List Nat) (b:Bool):Prop where
 sr:SR K A H0 F' G ρ' σ' H
 tr:Trn A H0 Hb F F'
 len:σ'.length=σ.length
 out:∀ j,j∉sl->σ'[j]? = σ[j]?/\F' j=F j
 bor:b=true->∀ j∈sl,F' j=[]
def Kd.isB:Kd->Bool
 | .own=>false
 | .bor _=>true
def tG (K:PySem.W.Frag) (sl:List Nat) (t:Tgt):TG:=fun v σ H Q=>∃ A H0 Hb F G ρ k d f,SR K A H0 F G ρ σ Hb/\Same Hb H/\Rep K H d v f/\KOk A H0 F Hb H k f ∧
 match t k d ρ with
 | some ρ'=>∀ σ' F',TP K A H0 Hb H F F' G ρ' σ σ' sl k.isB->Q σ' H
 | none=>False
def tGs (K:PySem.W.Frag) (sl:List Nat) (t:zi2):TGs:=fun vs σ H Q=>∃ A H0 F G ρ is ds f,SR K A H0 F G ρ σ H/\Reps K H ds vs f/\BOk A H0 F is f ∧
 match t is ds ρ with
 | some ρ'=>∀ σ' F',TP K A H0 H H F F' G ρ' σ σ' sl true->Q σ' H
 | none=>False
section
variable {X:Cx} {pos:Pos}
theorem pgI {e:Expr} {t t':TG} (h:PG X e t) (k:∀ v σ H Q,t' v σ H Q->t v σ H Q):PG X e t':=⟨fun pins s σ H v u Q I r q=>h.run pins s σ H v u Q I r (k v σ H Q q)⟩
theorem z7F {e:List Expr} {t t':TGs} (h:PGs X e t) (k:∀ v σ H Q,t' v σ H Q->t v σ H Q):PGs X e t':=⟨fun pins s σ H v u Q I r q=>h.run pins s σ H v u Q I r (k v σ H Q q)⟩
theorem b7 (i:Nat) {x:Str} (hN:X.N.Nodup) (hi:X.N[i]? = some x:=by rfl) (hx:Loc X.env.scope x:=by first | exact Or.inl rfl | exact Or.inr rfl) (hf:X.fn x=true\/X.env.scope.names.lookup x=some .local:=by first | exact .inl rfl | exact .inr rfl | assumption) :
  PG X (.Name x pos) (tG X.K [i] (tgN i)):=by
 refine pgI (pg_name hN hi hx hf) fun v σ H Q ⟨A,H0,Hb,F,G,ρ,k,d,f,sr,s,r,o,h⟩=>?_
 obtain ⟨f',sr',hf',hb⟩:=sr.set s r o i
 refine h _ _ ⟨sr',fun js g hg hb=>hb.upd sr hf' hg,by rw[List.length_set],fun j hj=>?_,fun hk j hj=>?_⟩
 ·have hj:j≠i:=by simpa using hj
  exact ⟨by rw[List.getElem?_set_ne (Ne.symm hj)],y5 hj⟩
 ·have hj:j=i:=by simpa using hj
  subst hj
  rw[x5]
  exact hb (fun z=>by rw[z] at hk; cases hk)
theorem zj8:PGs X [] (tGs X.K [] O5):=by
 refine z7F pgs_nil fun vs σ H Q ⟨A,H0,F,G,ρ,is,ds,f,sr,r,o,h⟩=>?_
 cases r with
 | nil=>exact ⟨rfl,h _ _ ⟨sr,fun _ _ _ q=>q,rfl,fun _ _=>⟨rfl,rfl⟩,fun _ j hj=>nomatch hj⟩⟩
 | cons _ _=>exact h.elim
theorem U6 {e:Expr} {es:List Expr} {t:Tgt} {u:zi2} {sl sl':List Nat} (h1:PG X e (tG X.K sl t)) (h2:PGs X es (tGs X.K sl' u))
  (hs:(assignEach (e::es) X.env).map (·.2)=assign e X.env::(assignEach es X.env).map (·.2):=by rfl):PGs X (e::es) (tGs X.K (sl++sl') (j4 t u)):=by
 refine z7F (pgs_cons h1 h2 hs) fun vs σ H Q ⟨A,H0,F,G,ρ,is,ds,f,sr,r,o,h⟩=>?_
 cases r with
 | nil=>exact h.elim
 | @cons d v f1 ds vs f2 r rr=>
  refine ⟨_,_,rfl,A,H0,H,F,G,ρ,.bor is,_,f1,sr,Same.refl _,r,fun a ha=>o a (List.mem_append_left _ ha),?_⟩
  have h:match (t (.bor is) d ρ).bind fun ρ'=>u is ds ρ' with
   | some ρ'=>∀ σ' F',TP X.K A H0 H H F F' G ρ' σ σ' (sl++sl') true->Q σ' H
   | none=>False:=h
  cases ht:t (.bor is) d ρ with
  | none=>rw[ht] at h; exact h.elim
  | some ρ1=>
   rw[ht] at h
   intro σ1 F1 p1
   refine ⟨A,H0,F1,G,ρ1,is,ds,f2,p1.sr,rr,p1.tr _ _ rr.trk fun a ha=>o a (List.mem_append_right _ ha),?_⟩
   have h:match u is ds ρ1 with
    | some ρ'=>∀ σ' F',TP X.K A H0 H H F F' G ρ' σ σ' (sl++sl') true->Q σ' H
    | none=>False:=h
   cases hu:u is ds ρ1 with
   | none=>rw[hu] at h; exact h.elim
   | some ρ2=>
    rw[hu] at h
    intro σ2 F2 p2
    refine h σ2 F2 ⟨p2.sr,fun js g hg hb=>p2.tr js g hg (p1.tr js g hg hb),p2.len.trans p1.len,fun j hj=>?_,fun _ j hj=>?_⟩
    ·have hj1:j∉sl:=fun z=>hj (List.mem_append_left _ z)
     have hj2:j∉sl':=fun z=>hj (List.mem_append_right _ z)
     exact ⟨(p2.out j hj2).1.trans (p1.out j hj1).1,(p2.out j hj2).2.trans (p1.out j hj1).2⟩
    ·by_cases hj2:j∈sl'
     ·exact p2.bor rfl j hj2
     ·rw[(p2.out j hj2).2]
      exact p1.bor rfl j ((List.mem_append.mp hj).resolve_right hj2)
def zR3 (t:zi2) (n:Nat):Prop:=∀ is ds ρ,t is ds ρ≠none->ds.length=n
theorem H8:zR3 O5 0:=fun is ds ρ h=>by
 cases ds with
 | nil=>rfl
 | cons _ _=>exact absurd rfl h
theorem Y0 {t:Tgt} {u:zi2} {n:Nat} (h:zR3 u n):zR3 (j4 t u) (n + 1):=fun is ds ρ q=>by
 cases ds with
 | nil=>exact absurd rfl q
 | cons d ds=>
  have q:(t (.bor is) d ρ).bind (fun ρ'=>u is ds ρ')≠none:=q
  cases ht:t (.bor is) d ρ with
  | none=>rw[ht] at q; exact absurd rfl q
  | some ρ1=>rw[ht] at q; rw[List.length_cons,h is ds ρ1 q]
theorem zo8 {es:List Expr} {k:Nat} {t:zi2} {n:Nat} {sl:List Nat} (hc:X.calm=true) (hl:zR3 t n) (h:PGs X es (tGs X.K sl t))
  (hn:(assignEach es X.env).length=n:=by rfl) (hst:(assignEach es X.env).findIdx? (·.1)=none:=by rfl):PG X (.Tuple es k pos) (tG X.K sl (tgT t)):=by
 refine pgI (z0t hc h hn hst) fun v σ H Q ⟨A,H0,Hb,F,G,ρ,kk,d,f,sr,s,r,o,q⟩=>?_
 have bk:=o.bok sr
 have fin:∀ ds vs g,Reps X.K H ds vs g->(∀ b∈g,b∈f)->(match t kk.is ds ρ with
   | some ρ'=>∀ σ' F',TP X.K A H0 Hb H F F' G ρ' σ σ' sl kk.isB->Q σ' H
   | none=>False)->vs.length=n/\tGs X.K sl t vs σ H Q:=fun ds vs g q1 i1 q2=>by
  cases ht:t kk.is ds ρ with
  | none=>rw[ht] at q2; exact q2.elim
  | some ρ1=>
   rw[ht] at q2
   refine ⟨by rw[<- q1.length]; exact hl _ _ _ (by rw[ht]; exact fun z=>nomatch z),A,H0,F,G,ρ,kk.is,ds,g,sr.same s,q1,fun a ha=>bk a (i1 a ha),?_⟩
   rw[ht]
   intro σ' F' p
   exact q2 σ' F' ⟨p.sr,fun js g hg hb=>p.tr js g (fun a ha z=>hg a ha (s.free z)) hb,p.len,p.out,fun _=>p.bor rfl⟩
 cases d with
 | tup ds=>
  obtain ⟨a,vs,rfl,t1,q1⟩:=r.tupI
  obtain ⟨e1,e2⟩:=fin ds vs f q1 (fun _ h=>h) q
  exact ⟨a,vs,rfl,.inl (.of t1),e1,e2⟩
 | lst ds=>
  obtain ⟨a,vs,g,rfl,t1,q1,i1,n1⟩:=r.lstI
  obtain ⟨e1,e2⟩:=fin ds vs g q1 i1 q
  exact ⟨a,vs,rfl,.inr t1,e1,e2⟩
 | _=>exact q.elim
end
abbrev SI:=Env->R (Kd×List D)
def Gh (K:PySem.W.Frag) (H:Hp) (P:Addr->Prop) (gh:List (D×V)):Prop:=∀ p∈gh,∃ f,Rep K H p.1 p.2 f/\∀ a∈f,P a
structure IterOk (K:PySem.W.Frag) (J:It) (ds:List D) (gh:List (D×V)):Prop where
 go:∀ H P i,i < ds.length->Gh K H P gh->J.go i H
 stop:∀ H P,Gh K H P gh->J.stop ds.length H
 yld:∀ H P i x H',i < ds.length->Gh K H P gh->J.yld i H x H'->Same H H'/\∃ d f,ds[i]? = some d/\Rep K H' d x f/\∀ a∈f,P a
def tI (K:PySem.W.Frag) (CA:String->Addr) (W:WX) (s:SI):TI:=fun σ H R=>
 ∃ A H0 F G ρ,SR K A H0 F G ρ σ H/\i7 K CA W σ H (s ρ) fun kds=>∀ J H1 gh,Same H H1->IterOk K J kds.2 gh->Gh K H1 (fun a=>(∃ j∈kds.1.is,a∈F j)\/Sh A H0 F a) gh->R J H1
theorem Gh.same {K:PySem.W.Frag} {H H':Hp} {P:Addr->Prop} {gh:List (D×V)} (h:Gh K H P gh) (s:Same H H'):Gh K H' P gh:=fun p hp=>let ⟨f,h1,h2⟩:=h p hp; ⟨f,h1.same s,h2⟩
def yc8 (K:PySem.W.Frag) (tl:TE):TI:=fun σ H R=>tl σ H fun x H1=>(∃ a,x=.ref a/\(∃ xs,SqL K H1 a xs)/\R (Itl K a) H1)\/(∃ a,x=.ref a/\(∃ xs,SqT K H1 a xs)/\R (Itt K a) H1)\/(∃ z,x=.str z/\R (Its z) H1)
theorem z1X {X:Cx} {tg l:Expr} {tl:TE} (hl:PE X l tl):PI X tg l (yc8 X.K tl):=by
 refine ⟨fun pins s σ H R I h=>?_⟩
 refine thn (hl.run pins s σ H _ I h) fun v s1 ⟨x,H1,I1,r1,q1⟩=>?_
 rcases q1 with ⟨a,e,⟨xs,hq⟩,q⟩ | ⟨a,e,⟨xs,hq⟩,q⟩ | ⟨z,e,q⟩
 ·subst e
  cases r1
  obtain ⟨its,rv,p,hz⟩:=I1.list hq
  refine wpAny_pyIter_list p.isList ?_
  refine ⟨s1.heap.objs.size,[s1.heap.objs.size],_,_,H1,rfl,I1.kept (t':=s1.toks) fun b o e=>Heap.get?_push_of_some _ e,turn_list a _,⟨_,Heap.get?_push_size _ rfl,rfl,rfl⟩,fun b hb=>?_,q⟩
  have e:b=s1.heap.objs.size:=by simpa using hb
  subst e
  exact I1.fpOk (Nat.le_refl _) (I1.hok.fresh (Nat.le_refl _))
 ·subst e
  cases r1
  obtain ⟨its,rv,p,hz⟩:=I1.tuple hq
  refine wpAny_pyIter_tuple (show s1.heap.IsTuple a its.toArray from p) ?_
  refine ⟨s1.heap.objs.size,[s1.heap.objs.size],_,_,H1,rfl,I1.kept (t':=s1.toks) fun b o e=>Heap.get?_push_of_some _ e,turn_tuple a _,⟨_,Heap.get?_push_size _ rfl,rfl,rfl⟩,fun b hb=>?_,q⟩
  have e:b=s1.heap.objs.size:=by simpa using hb
  subst e
  exact I1.fpOk (Nat.le_refl _) (I1.hok.fresh (Nat.le_refl _))
 ·subst e
  obtain ⟨t,rfl⟩:=r1
  cases ha:z.cps.all (· < 128)
  ·exact wpAny_pyIter_wide ha (pi_one (tk:=s1.toks) I1 _ (turn_str _ z t "str_iterator" (.inr rfl)) ⟨_,Heap.get?_push_size _ rfl,rfl,rfl⟩ q)
  ·exact wpAny_pyIter_ascii ha (pi_one (tk:=s1.toks) I1 _ (turn_str _ z t "str_ascii_iterator" (.inl rfl)) ⟨_,Heap.get?_push_size _ rfl,rfl,rfl⟩ q)
def X9 (s:SE):SI:=fun ρ=>(s ρ).bind fun x=>match x.2 with
 | .lst ds=>.ok (x.1,ds)
 | .scr ds=>.ok (x.1,ds)
 | .tup ds=>.ok (x.1,ds)
 | .str z=>.ok (.own,z.cps.toList.map fun c=>.str ⟨#[c]⟩)
 | _=>.st
section
variable {K:PySem.W.Frag}
theorem z2X {ds:List D} {a:Addr}:IterOk K (Itl K a) ds [(.lst ds,.ref a)]:=by
 have get:∀ {H P},Gh K H P [(.lst ds,.ref a)]->∃ vs g,SqL K H a vs/\Reps K H ds vs g/\∀ b∈g,P b:=fun {H P} h=>by
  obtain ⟨f,r,hp⟩:=h _ List.mem_cons_self
  obtain ⟨a',vs,g,e,t,q,i,n⟩:=r.lstI
  cases e
  exact ⟨vs,g,t,q,fun b hb=>hp b (i b hb)⟩
 refine ⟨fun H P i hi h=>?_,fun H P h=>?_,fun H P i x H' hi h y=>?_⟩
 ·obtain ⟨vs,g,t,q,_⟩:=get h
  have hv:i < vs.length:=by rw[<- q.length]; exact hi
  exact ⟨vs,vs[i],t,by simp[hv]⟩
 ·obtain ⟨vs,g,t,q,_⟩:=get h
  exact ⟨vs,t,by rw[q.length]; exact Nat.le_refl _⟩
 ·obtain ⟨vs,g,t,q,hp⟩:=get h
  obtain ⟨e,y⟩:=y
  subst e
  obtain ⟨v,g',h1,h2,h3,_⟩:=q.get (i:=i) (d:=ds[i]) (by simp[hi])
  rw[y vs t] at h1
  cases h1
  exact ⟨Same.refl _,ds[i],g',by simp[hi],h2,fun b hb=>hp b (h3 b hb)⟩
theorem z3Q {ds:List D} {a:Addr}:IterOk K (Itl K a) ds [(.scr ds,.ref a)]:=by
 have get:∀ {H P},Gh K H P [(.scr ds,.ref a)]->∃ vs g,SqL K H a vs/\Reps K H ds vs g/\∀ b∈g,P b:=fun {H P} h=>by
  obtain ⟨f,r,hp⟩:=h _ List.mem_cons_self
  obtain ⟨a',vs,g,e,t,q,i,n⟩:=r.scrI
  cases e
  exact ⟨vs,g,t,q,fun b hb=>hp b (i b hb)⟩
 refine ⟨fun H P i hi h=>?_,fun H P h=>?_,fun H P i x H' hi h y=>?_⟩
 ·obtain ⟨vs,g,t,q,_⟩:=get h
  have hv:i < vs.length:=by rw[<- q.length]; exact hi
  exact ⟨vs,vs[i],t,by simp[hv]⟩
 ·obtain ⟨vs,g,t,q,_⟩:=get h
  exact ⟨vs,t,by rw[q.length]; exact Nat.le_refl _⟩
 ·obtain ⟨vs,g,t,q,hp⟩:=get h
  obtain ⟨e,y⟩:=y
  subst e
  obtain ⟨v,g',h1,h2,h3,_⟩:=q.get (i:=i) (d:=ds[i]) (by simp[hi])
  rw[y vs t] at h1
  cases h1
  exact ⟨Same.refl _,ds[i],g',by simp[hi],h2,fun b hb=>hp b (h3 b hb)⟩
theorem z2W {ds:List D} {a:Addr}:IterOk K (Itt K a) ds [(.tup ds,.ref a)]:=by
 have get:∀ {H P},Gh K H P [(.tup ds,.ref a)]->∃ vs g,SqT K H a vs/\Reps K H ds vs g/\∀ b∈g,P b:=fun {H P} h=>by
  obtain ⟨f,r,hp⟩:=h _ List.mem_cons_self
  obtain ⟨a',vs,e,t,q⟩:=r.tupI
  cases e
  exact ⟨vs,f,.of t,q,hp⟩
 refine ⟨fun H P i hi h=>?_,fun H P h=>?_,fun H P i x H' hi h y=>?_⟩
 ·obtain ⟨vs,g,t,q,_⟩:=get h
  have hv:i < vs.length:=by rw[<- q.length]; exact hi
  exact ⟨vs,vs[i],t,by simp[hv]⟩
 ·obtain ⟨vs,g,t,q,_⟩:=get h
  exact ⟨vs,t,by rw[q.length]; exact Nat.le_refl _⟩
 ·obtain ⟨vs,g,t,q,hp⟩:=get h
  obtain ⟨e,y⟩:=y
  subst e
  obtain ⟨v,g',h1,h2,h3,_⟩:=q.get (i:=i) (d:=ds[i]) (by simp[hi])
  rw[y vs t] at h1
  cases h1
  exact ⟨Same.refl _,ds[i],g',by simp[hi],h2,fun b hb=>hp b (h3 b hb)⟩
theorem z3Z {z:Str}:IterOk K (Its z) (z.cps.toList.map fun c=>.str ⟨#[c]⟩) []:=by
 refine ⟨fun H P i hi h=>?_,fun H P h=>?_,fun H P i x H' hi h y=>?_⟩
 ·have hi:i < z.cps.size:=by simpa using hi
  exact hi
 ·show z.cps.size<=_
  simp
 ·obtain ⟨e,c,hc,ex⟩:=y
  subst e; subst ex
  exact ⟨Same.refl _,_,[],by simp[hc],.str _,fun _ q=>nomatch q⟩
theorem Gh.one {H:Hp} {P:Addr->Prop} {d:D} {v:V} {f:List Addr} (r:Rep K H d v f) (h:∀ a∈f,P a):Gh K H P [(d,v)]:=fun p hp=>by
 rw[List.mem_singleton.mp hp]; exact ⟨f,r,h⟩
end
section
variable {X:Cx} {CA:String->Addr} {W:WX} {pos p:Pos} {tg e a b:Expr} {sa sb:SE}
theorem piI {iter:Expr} {t t':TI} (h:PI X tg iter t) (k:∀ σ H R,t' σ H R->t σ H R):PI X tg iter t':=⟨fun pins s σ H R I q=>h.run pins s σ H R I (k σ H R q)⟩
theorem R8 (ha:PE X e (tE X.K CA W sa)):PI X tg e (tI X.K CA W (X9 sa)):=by
 refine piI (z1X ha) fun σ H R ⟨A,H0,F,G,ρ,sr,h⟩=>?_
 refine ⟨A,H0,F,G,ρ,sr,h.bind fun ⟨k,d⟩ h1=>?_⟩
 intro v H1 f s1 r o
 cases d with
 | lst ds=>
  obtain ⟨a,vs,g,rfl,t,q,i1,n1⟩:=id r.lstI
  exact .inl ⟨a,rfl,⟨vs,t⟩,h1 _ _ _ s1 z2X (Gh.one r (o.bok sr))⟩
 | scr ds=>
  obtain ⟨a,vs,g,rfl,t,q,i1,n1⟩:=id r.scrI
  exact .inl ⟨a,rfl,⟨vs,t⟩,h1 _ _ _ s1 z3Q (Gh.one r (o.bok sr))⟩
 | tup ds=>
  obtain ⟨a,vs,rfl,t,q⟩:=id r.tupI
  exact .inr (.inl ⟨a,rfl,⟨vs,.of t⟩,h1 _ _ _ s1 z2W (Gh.one r (o.bok sr))⟩)
 | str z=>
  cases r
  exact .inr (.inr ⟨z,rfl,h1 _ _ _ s1 z3Z (fun p hp=>nomatch hp)⟩)
 | _=>exact h1.elim
noncomputable def T2 (i:Int):Bool:=@decide (-(2 ^ 62)<=i) (Classical.propDecidable _)&&@decide (i < 2 ^ 62) (Classical.propDecidable _)
def rng (lo:Int) (n:Nat):List D:=(List.range n).map fun (i:Nat)=>.int (lo + (i:Int))
theorem zr0 {i:Int} (h:T2 i=true):-(2 ^ 62)<=i:=@of_decide_eq_true _ (Classical.propDecidable _) (Bool.and_eq_true_iff.mp h).1
theorem zr7 {i:Int} (h:T2 i=true):i < 2 ^ 62:=@of_decide_eq_true _ (Classical.propDecidable _) (Bool.and_eq_true_iff.mp h).2
noncomputable def M6 (a:SE):SI:=fun ρ=>(a ρ).bind fun x=>match x.2 with
 | .int j=>if T2 j=true then .ok (.own,rng 0 j.toNat) else .st
 | _=>.st
noncomputable def z1d (a b:SE):SI:=fun ρ=>(a ρ).bind fun x=>(b ρ).bind fun y=>match x.2,y.2 with
 | .int i,.int j=>if (T2 i&&T2 j)=true then .ok (.own,rng i (j - i).toNat) else .st
 | _,_=>.st
theorem zU8 {K:PySem.W.Frag} {lo:Int} {n:Nat}:IterOk K (Itr lo n) (rng lo n) []:=by
 refine ⟨fun H P i hi h=>?_,fun H P h=>?_,fun H P i x H' hi h y=>?_⟩
 ·show i < n
  simpa [rng] using hi
 ·show n<=_
  simp[rng]
 ·obtain ⟨e,ex⟩:=y
  subst e; subst ex
  have hi:i < n:=by simpa [rng] using hi
  exact ⟨Same.refl _,.int (lo + i),[],by simp[rng,hi],.int _,fun _ q=>nomatch q⟩
theorem zg2 (hm:X.mg "range" = none) (ha:PE X a (tE X.K CA W sa)) (hg:Gl X "range" := by rfl) (hs:starEach [a] X.env=[(false,eval a X.env)]:=by rfl):PI X tg (.Call (.Name "range" p) [a] [] pos) (tI X.K CA W (M6 sa)):=by
 refine piI (pi_range1 hg hm (pa_cons ha pa_nil hs) hs) fun σ H R ⟨A,H0,F,G,ρ,sr,h⟩=>?_
 refine ⟨A,H0,F,G,ρ,sr,h.bind fun ⟨k,d⟩ h1=>?_⟩
 intro v H1 f s1 r o
 cases d with
 | int j=>
  cases r
  obtain ⟨hz,h2⟩:=h1.ite
  exact ⟨j,rfl,zr0 hz,zr7 hz,h2 _ _ _ s1 zU8 (fun p hp=>nomatch hp)⟩
 | _=>exact h1.elim
theorem z69 (hm:X.mg "range" = none) (ha:PE X a (tE X.K CA W sa)) (hb:PE X b (tE X.K CA W sb)) (hg:Gl X "range" := by rfl) (hs:starEach [a,b] X.env=[(false,eval a X.env),(false,eval b X.env)]:=by rfl) (hs2:starEach [b] X.env=[(false,eval b X.env)]:=by rfl) :
  PI X tg (.Call (.Name "range" p) [a,b] [] pos) (tI X.K CA W (z1d sa sb)):=by
 refine piI (pi_range2 hg hm (pa_cons ha (pa_cons hb pa_nil hs2) (by rw[hs,hs2])) hs hs2) fun σ H R ⟨A,H0,F,G,ρ,sr,h⟩=>?_
 refine ⟨A,H0,F,G,ρ,sr,h.bind fun ⟨k,d⟩ h1=>?_⟩
 intro v H1 f s1 r o
 refine ⟨A,H0,F,G,ρ,sr.same s1,(h1.later s1).bind fun ⟨k2,d2⟩ h2=>?_⟩
 intro v2 H2 f2 s2 r2 o2
 cases d with
 | int i=>
  cases d2 with
  | int j=>
   cases r; cases r2
   obtain ⟨hz,h3⟩:=h2.ite
   have hz':=Bool.and_eq_true_iff.mp hz
   exact ⟨i,j,rfl,⟨zr0 hz'.1,zr7 hz'.1,zr0 hz'.2,zr7 hz'.2⟩,h3 _ _ _ (s1.trans s2) zU8 (fun p hp=>nomatch hp)⟩
  | _=>exact h2.elim
 | _=>cases d2 <;> exact h2.elim
end
def G8 (ρ:Env) (i:Nat):Bool:=decide (i < ρ.length)&&match ρ[i]? with
 | some (.ow _)=>false
 | _=>true
def U9 (ρ:Env):List Nat->Env
 | []=>ρ
 | v::vs=>(U9 ρ vs).set v .no
def zp8:STs:=fun _=>.ok true
def lcL (tg:Tgt) (ifs:STs) (elt:SE) (k:Kd) (ρ:Env):List D->R (List KD)
 | []=>.ok []
 | d::ds=>match tg (.bor k.is) d ρ with
  | none=>.st
  | some ρ1=>(ifs ρ1).bind fun b=>if b=true then (elt ρ1).bind fun x=>(lcL tg ifs elt k ρ ds).bind fun xs=>.ok (x::xs) else lcL tg ifs elt k ρ ds
def zv8 {α:Type}:R α->R α
 | .ok a=>.ok a
 | _=>.st
def lcE (it:SI) (own:List Nat) (tg:Tgt) (ifs:STs) (elt:SE):SE:=fun ρ=>(it ρ).bind fun kds=>
 if own.all (G8 ρ)=true/\kds.2.length<=LIM then (zv8 (lcL tg ifs elt kds.1 (U9 ρ own) kds.2)).bind fun xs=>.ok (lk (jn xs) (xs.map (·.2)),.lst (xs.map (·.2))) else .st
section
variable {K:PySem.W.Frag} {A:Addr->Prop} {H0 H H1:Hp} {F:Nat->List Addr} {G:List (D×V)} {ρ:Env} {σ:L2.St}
theorem Kd.join_assoc (a b c:Kd):(a.join b).join c=a.join (b.join c):=by
 cases a <;> cases b <;> cases c <;> simp[Kd.join,Kd.is]
theorem z1P:∀ xs ys:List KD,jn (xs++ys)=(jn xs).join (jn ys)
 | [],ys=>by
  show jn ys=Kd.join .own (jn ys)
  cases jn ys with
  | own=>rfl
  | bor is=>rfl
 | x::xs,ys=>by
  show (nk x.1 x.2).join (jn (xs++ys))=((nk x.1 x.2).join (jn xs)).join (jn ys)
  rw[z1P xs ys,Kd.join_assoc]
theorem zY7 (x:KD):jn [x]=nk x.1 x.2:=Kd.join_own _
theorem Kd.join_is (a b:Kd):(a.join b).is=a.is++b.is:=by cases a <;> cases b <;> simp[Kd.join,Kd.is]
theorem z4x:∀ {xs:List KD} {x:KD},x∈xs->∀ j∈(nk x.1 x.2).is,j∈(jn xs).is
 | y::xs,x,h,j,hj=>by
  show j∈((nk y.1 y.2).join (jn xs)).is
  rw[Kd.join_is]
  rcases List.mem_cons.mp h with e | h
  ·subst e; exact List.mem_append_left _ hj
  ·exact List.mem_append_right _ (z4x h j hj)
theorem SR.setNo (sr:SR K A H0 F G ρ σ H) (i:Nat) (h:G8 ρ i=true):SR K A H0 F G (ρ.set i .no) (σ.set i none) H:=by
 have hl:i < ρ.length:=of_decide_eq_true (Bool.and_eq_true_iff.mp h).1
 refine ⟨by rw[List.length_set,List.length_set]; exact sr.len,sr.fr,sr.own,sr.dis,fun j d e=>?_,fun j is d e=>?_,sr.gho,fun j hj hn=>?_,sr.fin,sr.tbS (R4 rfl) fun _ _ e _=>e⟩
 ·by_cases h:i=j
  ·subst h; rw[List.getElem?_set_self hl] at e; cases e
  ·rw[List.getElem?_set_ne h] at e; rw[List.getElem?_set_ne h]; exact sr.slo j d e
 ·by_cases h:i=j
  ·subst h; rw[List.getElem?_set_self hl] at e; cases e
  ·rw[List.getElem?_set_ne h] at e; rw[List.getElem?_set_ne h]; exact sr.slb j is d e
 ·rw[List.length_set] at hj
  obtain ⟨d,e⟩:=sr.emp j hj hn
  by_cases h':i=j
  ·subst h'
   have:=(Bool.and_eq_true_iff.mp h).2
   rw[e] at this
   cases this
  ·exact ⟨d,by rw[List.getElem?_set_ne h']; exact e⟩
theorem z2x {ρ:Env} {i j:Nat} (h:G8 ρ i=true):G8 (ρ.set j .no) i=true:=by
 obtain ⟨h1,h2⟩:=Bool.and_eq_true_iff.mp h
 refine Bool.and_eq_true_iff.mpr ⟨by rw[List.length_set]; exact h1,?_⟩
 by_cases e:j=i
 ·subst e; rw[List.getElem?_set_self (of_decide_eq_true h1)]
 ·rw[List.getElem?_set_ne e]; exact h2
theorem zO2 {ρ:Env} {i:Nat} (h:G8 ρ i=true):∀ vs:List Nat,G8 (U9 ρ vs) i=true
 | []=>h
 | v::vs=>z2x (zO2 h vs)
theorem SR.wip (sr:SR K A H0 F G ρ σ H):∀ own:List Nat,own.all (G8 ρ)=true->SR K A H0 F G (U9 ρ own) (wipe σ own) H
 | [],_=>sr
 | v::vs,h=>by
  rw[List.all_cons,Bool.and_eq_true] at h
  exact (sr.wip vs h.2).setNo v (zO2 h.1 vs)
theorem zS7 (ρ:Env):∀ vs:List Nat,(U9 ρ vs).length=ρ.length
 | []=>rfl
 | v::vs=>by unfold U9; rw[List.length_set,zS7 ρ vs]
theorem zN0 {σ:L2.St} {i:Nat}:∀ {vs:List Nat},i∈vs->i < σ.length->(wipe σ vs)[i]? = some none
 | v::vs,h,hl=>by
  unfold wipe
  by_cases e:v=i
  ·subst e; rw[List.getElem?_set_self (by rw[wipe_length]; exact hl)]
  ·rw[List.getElem?_set_ne e]
   rcases List.mem_cons.mp h with q | q
   ·exact absurd q.symm e
   ·exact zN0 q hl
theorem z57 {σ σ':L2.St} {vs:List Nat} (hl:σ'.length=σ.length) (h:∀ j,j∉vs->σ'[j]? = (wipe σ vs)[j]?):wipe σ' vs=wipe σ vs:=by
 refine List.ext_getElem? fun j=>?_
 by_cases hj:j∈vs
 ·by_cases hjl:j < σ.length
  ·rw[zN0 hj hjl,zN0 hj (by rw[hl]; exact hjl)]
  ·rw[List.getElem?_eq_none (by rw[wipe_length]; omega),List.getElem?_eq_none (by rw[wipe_length]; omega)]
 ·rw[wipe_out hj,h j hj]
theorem SR.hid {L:Nat} {Dn:Addr} {xs:List V} (sr:SR K A H0 F G ρ σ H) (hD:H Dn=none) (hL:ρ.length<=L) (hF:F L=[]):SR K A H0 (w9 F L [Dn]) G ρ σ (upd H Dn (.lst xs)):=by
 have s:=V6 (o:=.lst xs) hD
 have sr1:=sr.same s
 have hn:∀ b∈[Dn],H b=none:=fun b hb=>by rw[List.mem_singleton.mp hb]; exact hD
 have ne:∀ {i:Nat} {x:Sl},ρ[i]? = some x->i≠L:=fun {i x} e=>by
  have:=(List.getElem?_eq_some_iff.mp e).1
  omega
 refine ⟨sr.len,sr1.fr,fun j=>?_,fun j m a hj hm=>?_,fun i d e=>?_,fun i is d e=>?_,fun p hp=>?_,fun i hi hn'=>?_,V8 sr.fin,sr1.tb⟩
 ·by_cases e:j=L
  ·subst e; rw[x5]
   refine ⟨List.nodup_cons.mpr ⟨by simp,List.nodup_nil⟩,fun a ha=>?_⟩
   rw[List.mem_singleton.mp ha]
   exact ⟨sr.fr.free hD,⟨by rw[upd_same]; trivial⟩⟩
  ·rw[y5 e]; exact sr1.own j
 ·by_cases e:j=L
  ·by_cases e':m=L
   ·rw[e,e']
   ·rw[e,x5] at hj; rw[y5 e'] at hm
    exact absurd (hn a hj) ((sr.own m).2 a hm).2.ne
  ·by_cases e':m=L
   ·rw[e',x5] at hm; rw[y5 e] at hj
    exact absurd (hn a hm) ((sr.own j).2 a hj).2.ne
   ·rw[y5 e] at hj; rw[y5 e'] at hm; exact sr.dis j m a hj hm
 ·rw[y5 (ne e)]; exact sr1.slo i d e
 ·obtain ⟨v,f,h1,h2,h3⟩:=sr.slb i is d e
  exact ⟨v,f,h1,h2.same s,h3.upd sr hn h2.trk⟩
 ·obtain ⟨f,h1,h2⟩:=sr.gho p hp
  exact ⟨f,h1.same s,fun a ha=>(h2 a ha).upd sr hn (h1.trk a ha)⟩
 ·rw[y5 (by omega)] at hn'; exact sr.emp i hi hn'
theorem SR.mutH {L:Nat} {Dn:Addr} {xs ys:List V} (sr:SR K A H0 F G ρ σ H) (hD:H Dn=some (.lst xs)) (hF:Dn∈F L) (hL:ρ.length<=L) (hi:∀ (i:Nat) is d,ρ[i]? = some (.bo is d)->L∉is):SR K A H0 F G ρ σ (upd H Dn (.lst ys)):=by
 have nt:∀ b o,H b=some o->IsT o->(upd H Dn (.lst ys)) b=some o:=fun b o e t=>by
  by_cases h:b=Dn
  ·subst h; rw[hD] at e; cases e; exact t.elim
  ·rw[upd_ne h]; exact e
 have kp:∀ {f:List Addr},Dn∉f->∀ a∈f,∀ o,H a=some o->(upd H Dn (.lst ys)) a=some o:=fun {f} hf a ha o e=>by
  have hne:a≠Dn:=fun z=>hf (by rw[<- z]; exact ha)
  rw[upd_ne hne]; exact e
 have shn:∀ {a:Addr},Sh A H0 F a->a≠Dn:=fun {a} h z=>h.2 L (z ▸ hF)
 refine ⟨sr.len,fun b o e=>?_,fun j=>⟨(sr.own j).1,fun a ha=>⟨((sr.own j).2 a ha).1,?_⟩⟩,sr.dis,fun i d e=>?_,fun i is d e=>?_,fun p hp=>?_,sr.emp,sr.fin,sr.tbS id fun b o e t=>by
  have hb:b≠Dn:=fun z=>by subst z; exact sr.teF hF e t
  rw[upd_ne hb]; exact e⟩
 ·have hb:b≠Dn:=fun z=>by subst z; rw[((sr.own L).2 b hF).1] at e; cases e
  rw[upd_ne hb]; exact sr.fr b o e
 ·by_cases h:a=Dn
  ·subst h; exact ⟨by rw[upd_same]; trivial⟩
  ·rw[upd_ne h]; exact ((sr.own j).2 a ha).2
 ·obtain ⟨v,h1,h2⟩:=sr.slo i d e
  have hil:=(List.getElem?_eq_some_iff.mp e).1
  exact ⟨v,h1,h2.frame nt (kp fun z=>absurd (sr.dis i L Dn z hF) (by omega))⟩
 ·obtain ⟨v,f,h1,h2,h3⟩:=sr.slb i is d e
  refine ⟨v,f,h1,h2.frame nt (kp fun z=>?_),h3⟩
  rcases h3 Dn z with ⟨j,hj,q⟩ | q
  ·exact hi i is d e ((sr.dis j L Dn q hF) ▸ hj)
  ·exact shn q rfl
 ·obtain ⟨f,h1,h2⟩:=sr.gho p hp
  exact ⟨f,h1.frame nt (kp fun z=>shn (h2 Dn z) rfl),h2⟩
end
theorem z3l (ρ:Env):∃ L,∀ (i:Nat) is d,ρ[i]? = some (.bo is d)->∀ j∈is,j < L:=by
 induction ρ with
 | nil=>exact ⟨0,fun i is d e=>by simp at e⟩
 | cons s ρ ih=>
  obtain ⟨L,h⟩:=ih
  have m:∀ is:List Nat,∃ M,∀ j∈is,j < M:=fun is=>by
   induction is with
   | nil=>exact ⟨0,fun j hj=>nomatch hj⟩
   | cons a is ih=>
    obtain ⟨M,h⟩:=ih
    refine ⟨max M (a + 1),fun j hj=>?_⟩
    rcases List.mem_cons.mp hj with e | hj
    ·subst e; omega
    ·have:=h j hj; omega
  cases s with
  | bo is d=>
   obtain ⟨M,hM⟩:=m is
   refine ⟨max L M,fun i is' d' e j hj=>?_⟩
   cases i with
   | zero=>simp at e; obtain ⟨e1,_⟩:=e; subst e1; have:=hM j hj; omega
   | succ i=>have:=h i is' d' (by simpa using e) j hj; omega
  | no=>exact ⟨L,fun i is d e=>by cases i with | zero=>simp at e | succ i=>exact h i is d (by simpa using e)⟩
  | tb=>exact ⟨L,fun i is d e=>by cases i with | zero=>simp at e | succ i=>exact h i is d (by simpa using e)⟩
  | ow d0=>exact ⟨L,fun i is d e=>by cases i with | zero=>simp at e | succ i=>exact h i is d (by simpa using e)⟩
theorem zZ1 (is:List Nat):∃ M,∀ j∈is,j < M:=by
 induction is with
 | nil=>exact ⟨0,fun j hj=>nomatch hj⟩
 | cons a is ih=>
  obtain ⟨M,h⟩:=ih
  refine ⟨max M (a + 1),fun j hj=>?_⟩
  rcases List.mem_cons.mp hj with e | hj
  ·subst e; omega
  ·have:=h j hj; omega
abbrev W0:WX:=fun _ _ _ _=>False
theorem yg9 {X:Cx} {ifs:List Expr} {t t':TT} (h:PTs X ifs t) (k:∀ σ H Q,t' σ H Q->t σ H Q):PTs X ifs t':=⟨fun pins s σ H Q I q=>h.run pins s σ H Q I (k σ H Q q)⟩
theorem zH0 {X:Cx} {CA:String->Addr} {W:WX}:PTs X [] (tT X.K CA W zp8):=yg9 pts_nil fun σ H Q ⟨A,H0,F,G,ρ,sr,h⟩=>h H (Same.refl H)
theorem zf5 {X:Cx} {CA:String->Addr} {W:WX} {c:Expr} {t:STs} (h:PT X c (tT X.K CA W t)):PTs X [c] (tT X.K CA W t):=pts_one h
section
variable {K:PySem.W.Frag} {A:Addr->Prop} {H0 H:Hp} {F:Nat->List Addr} {G:List (D×V)} {ρ:Env} {σ:L2.St} {CA:String->Addr} {Q:VK}
theorem z0p {J:It} {H1:Hp} {gh:List (D×V)} {k:Kd} {ds:List D} {own sl:List Nat} {tg:Tgt} {ifs:STs} {elt:SE} {total:List KD} {Dn:Addr} (sr:SR K A H0 F G ρ σ H) (s1:Same H H1) (it:IterOk K J ds gh)
  (gk:Gh K H1 (fun a=>(∃ j∈k.is,a∈F j)\/Sh A H0 F a) gh) (hown:own.all (G8 ρ)=true) (hlen:ds.length<=LIM) (hsl:∀ j∈sl,j∈own) (ht:lcL tg ifs elt k (U9 ρ own) ds=.ok total)
  (hq:S8 K A H0 F H (lk (jn total) (total.map (·.2)),.lst (total.map (·.2))) Q) (nD:H1 Dn=none) :
  ∃ W:Nat->Nat->Hp->Prop,(∃ m,W 0 m (upd H1 Dn (.lst [])))/\∀ i m H,W i m H ->
   (J.stop i H/\Q (.ref Dn) H)\/(J.go i H/\∃ Nx:Hp->Prop,(∀ H',Nx H'->∃ m',m' < m/\W (i + 1) m' H')/\∀ x H',J.yld i H x H'->tG K sl tg x (wipe σ own) H' fun σ2 H2=>wipe σ2 own=wipe σ own/\tT K CA W0 ifs σ2 H2 fun b H3=>
    if b=true then tE K CA W0 elt σ2 H3 fun y H4=>∃ acc,H4 Dn=some (.lst acc)/\acc.length < sizeLine/\Nx (upd H4 Dn (.lst (acc++[y]))) else Nx H3):=by
 obtain ⟨L0,hL0⟩:=sr.fin
 obtain ⟨L1,hL1⟩:=z3l (U9 ρ own)
 obtain ⟨L2,hL2⟩:=zZ1 (jn total).is
 obtain ⟨L3,hL3⟩:=zZ1 k.is
 obtain ⟨L,hLe⟩:∃ L,L=max (max L0 L1) (max L2 (max L3 ρ.length)):=⟨_,rfl⟩
 have hFL:F L=[]:=hL0 L (by omega)
 have hLr:ρ.length<=L:=by omega
 have hLt:L∉(jn total).is:=fun z=>by have:=hL2 L z; omega
 have hLk:L∉k.is:=fun z=>by have:=hL3 L z; omega
 have hLs:∀ (i:Nat) is d,(U9 ρ own)[i]? = some (.bo is d)->L∉is:=fun i is d e z=>by have:=hL1 i is d e L z; omega
 have srw:=(sr.same s1).wip own hown
 have hLw:(U9 ρ own).length<=L:=by rw[zS7]; exact hLr
 have sD:=V6 (o:=.lst []) nD
 have srD:SR K A H0 (w9 F L [Dn]) G (U9 ρ own) (wipe σ own) (upd H1 Dn (.lst [])):=srw.hid nD hLw hFL
 have hDn:∀ b∈[Dn],H1 b=none:=fun b hb=>by rw[List.mem_singleton.mp hb]; exact nD
 have inD:Dn∈w9 F L [Dn] L:=by rw[x5]; simp
 have up:∀ {is:List Nat} {g:List Addr},(∀ a∈g,H1 a≠none)->BOk A H0 F is g->BOk A H0 (w9 F L [Dn]) is g:=fun {is g} h b=>b.upd srw hDn h
 have down:∀ {is:List Nat} {g:List Addr},L∉is->BOk A H0 (w9 F L [Dn]) is g->BOk A H0 F is g:=fun {is g} h b a ha=>by
  rcases b a ha with ⟨j,hj,q⟩ | q
  ·have hjL:j≠L:=fun z=>h (z ▸ hj)
   rw[y5 hjL] at q
   exact .inl ⟨j,hj,q⟩
  ·refine .inr ⟨q.1,fun j hj=>q.2 j ?_⟩
   by_cases e:j=L
   ·subst e; rw[hFL] at hj; cases hj
   ·rw[y5 e]; exact hj
 have notD:∀ {kk:Kd} {g:List Addr} {Ha Hb:Hp},(∀ j∈kk.is,j∈(jn total).is)->Ha Dn≠none->KOk A H0 (w9 F L [Dn]) Ha Hb kk g->Dn∉g:=fun {kk g Ha Hb} hk hD o z=>by
  cases kk with
  | own=>exact hD (o.2 Dn z).1
  | bor is=>
   rcases o Dn z with ⟨j,hj,q⟩ | q
   ·have:j=L:=srD.dis j L Dn q inD
    subst this
    exact hLt (hk j hj)
   ·exact q.2 L inD
 have ownF:∀ j∈own,F j=[]:=fun j hj=>by
  have h1:=List.all_eq_true.mp hown j hj
  have hl:j < ρ.length:=of_decide_eq_true (Bool.and_eq_true_iff.mp h1).1
  cases hF:F j with
  | nil=>rfl
  | cons a as=>
   obtain ⟨d,e⟩:=sr.emp j hl (by rw[hF]; exact fun z=>nomatch z)
   have h2:=(Bool.and_eq_true_iff.mp h1).2
   rw[e] at h2
   cases h2
 have ownL:∀ j∈own,j≠L:=fun j hj z=>by
  have h1:=List.all_eq_true.mp hown j hj
  have hl:j < ρ.length:=of_decide_eq_true (Bool.and_eq_true_iff.mp h1).1
  omega
 have w:Walk J ds.length (fun H2=>Gh K H2 (fun a=>((∃ j∈k.is,a∈F j)\/Sh A H0 F a)/\H1 a≠none) gh) (fun i H2 x H'=>Same H2 H'/\∃ d f,ds[i]? = some d/\Rep K H' d x f/\∀ a∈f,((∃ j∈k.is,a∈F j)\/Sh A H0 F a)/\H1 a≠none):=
  ⟨fun i H2 hi g=>it.go H2 _ i hi g,fun H2 g=>it.stop H2 _ g,fun i H2 x H' hi g y=>it.yld H2 _ i x H' hi g y⟩
 have gk':Gh K H1 (fun a=>((∃ j∈k.is,a∈F j)\/Sh A H0 F a)/\H1 a≠none) gh:=fun p hp=>let ⟨f,h1,h2⟩:=gk p hp; ⟨f,h1,fun a ha=>⟨h2 a ha,h1.trk a ha⟩⟩
 refine lc_it w (fun i H2=>∃ xs rest vs f,lcL tg ifs elt k (U9 ρ own) (ds.drop i)=.ok rest/\xs++rest=total/\H2 Dn=some (.lst vs)/\Reps K H2 (xs.map (·.2)) vs f/\Dn∉f/\KOk A H0 (w9 F L [Dn]) (upd H1 Dn (.lst [])) H2 (jn xs) f/\Same H1 H2 ∧
   SR K A H0 (w9 F L [Dn]) G (U9 ρ own) (wipe σ own) H2/\vs.length<=i)
  ⟨[],total,[],[],ht,rfl,upd_same,.nil,by simp,KOk.nil _,sD,srD,Nat.le_refl _⟩ (fun i H2 _ ⟨xs,rest,vs,f,_,_,_,_,_,_,sm,_,_⟩=>gk'.same sm) ?_ ?_
 ·rintro i x H2 H' hi ⟨xs,rest,vs,f,hl,hx,hD,hr,hDf,hk,sm,srI,hv⟩ ⟨sy,d,f0,hd,r0,b0⟩
  have hdrop:ds.drop i=d::ds.drop (i + 1):=by
   rw[List.drop_eq_getElem_cons hi]
   congr 1
   rw[List.getElem?_eq_getElem hi] at hd
   exact Option.some.inj hd
  rw[hdrop] at hl
  have hl:(match tg (.bor k.is) d (U9 ρ own) with
   | none=>.st
   | some ρ1=>(ifs ρ1).bind fun b=>if b=true then (elt ρ1).bind fun x=>(lcL tg ifs elt k (U9 ρ own) (ds.drop (i + 1))).bind fun xs=>.ok (x::xs) else lcL tg ifs elt k (U9 ρ own) (ds.drop (i + 1)))=R.ok rest:=hl
  have b0':BOk A H0 (w9 F L [Dn]) k.is f0:=up (fun a ha=>(b0 a ha).2) fun a ha=>(b0 a ha).1
  refine ⟨A,H0,H',w9 F L [Dn],G,U9 ρ own,.bor k.is,d,f0,srI.same sy,Same.refl _,r0,b0',?_⟩
  cases h1:tg (.bor k.is) d (U9 ρ own) with
  | none=>rw[h1] at hl; cases hl
  | some ρ1=>
   rw[h1] at hl
   intro σ' F' p
   have hF':F'=w9 F L [Dn]:=by
    funext j
    by_cases hj:j∈sl
    ·rw[p.bor rfl j hj,y5 (ownL j (hsl j hj)),ownF j (hsl j hj)]
    ·exact (p.out j hj).2
   subst hF'
   refine ⟨z57 (by rw[p.len,wipe_length]) (fun j hj=>(p.out j fun z=>hj (hsl j z)).1),A,H0,_,G,ρ1,p.sr,?_⟩
   cases h2:ifs ρ1 with
   | ex c=>simp only[h2,R.bind] at hl; cases hl
   | st=>simp only[h2,R.bind] at hl; cases hl
   | ok b=>
    simp only[h2,R.bind] at hl
    intro H3 s3
    have sm3:=(sm.trans sy).trans s3
    cases b with
    | false=>
     simp only[Bool.false_eq_true,if_false] at hl ⊢
     exact ⟨xs,rest,vs,f,hl,hx,s3 _ _ (sy _ _ hD),(hr.same sy).same s3,hDf,hk.wide (Same.refl _) (sy.trans s3),sm3,(srI.same sy).same s3,by omega⟩
    | true=>
     simp only[if_true] at hl ⊢
     refine ⟨A,H0,_,G,ρ1,p.sr.same s3,?_⟩
     cases h3:elt ρ1 with
     | ex c=>simp only[h3] at hl; cases hl
     | st=>simp only[h3] at hl; cases hl
     | ok y=>
      simp only[h3] at hl
      cases h4:lcL tg ifs elt k (U9 ρ own) (ds.drop (i + 1)) with
      | ex c=>simp only[h4] at hl; cases hl
      | st=>simp only[h4] at hl; cases hl
      | ok rest'=>
       simp only[h4] at hl
       cases hl
       intro yv H4 f4 s4 r4 o4
       have o4:=KOk.nk r4 o4
       have hD3:H3 Dn=some (.lst vs):=s3 _ _ (sy _ _ hD)
       have hD4:H4 Dn=some (.lst vs):=s4 _ _ hD3
       have hyt:y∈total:=by rw[<- hx]; simp
       have n4:Dn∉f4:=notD (fun j hj=>z4x hyt j hj) (by rw[hD3]; simp) o4
       have nt:∀ b o,H4 b=some o->IsT o->(upd H4 Dn (.lst (vs++[yv]))) b=some o:=fun b o e t=>by
        by_cases h:b=Dn
        ·subst h; rw[hD4] at e; cases e; exact t.elim
        ·rw[upd_ne h]; exact e
       have kp:∀ {f:List Addr},Dn∉f->∀ a∈f,∀ o,H4 a=some o->(upd H4 Dn (.lst (vs++[yv]))) a=some o:=fun {f} hf a ha o e=>by
        have hne:a≠Dn:=fun z=>hf (by rw[<- z]; exact ha)
        rw[upd_ne hne]; exact e
       have mu:∀ {a:Addr},Mu (H4 a)->Mu ((upd H4 Dn (.lst (vs++[yv]))) a):=fun {a} h=>by
        by_cases e:a=Dn
        ·subst e; exact ⟨by rw[upd_same]; trivial⟩
        ·rw[upd_ne e]; exact h
       have hr4:=((hr.same sy).same s3).same s4
       have sr4:=(((srI.same sy).same s3).same s4)
       have hk4:=hk.wide (Same.refl _) ((sy.trans s3).trans s4)
       have trD:∀ {a:Addr},H3 a=none->(upd H1 Dn (.lst [])) a=none:=fun {a} h=>by
        have hne:a≠Dn:=fun z=>by rw[z,hD3] at h; cases h
        rw[upd_ne hne]
        exact sm3.free h
       refine ⟨vs,hD4,by rw[<- O4]; omega,xs++[y],rest',vs++[yv],f++f4,rfl,by rw[List.append_assoc]; exact hx,upd_same,?_,?_,?_,?_,?_,?_⟩
       ·rw[List.map_append]
        have one:Reps K (upd H4 Dn (.lst (vs++[yv]))) [y.2] [yv] f4:=by
         have:=Reps.cons (r4.frame nt (kp n4)) (Reps.nil (K:=K) (H:=upd H4 Dn (.lst (vs++[yv]))))
         rw[List.append_nil] at this
         exact this
        exact (hr4.frame nt (kp hDf)).app one
       ·intro z
        rcases List.mem_append.mp z with z | z
        ·exact hDf z
        ·exact n4 z
       ·rw[z1P,zY7]
        have bb:BOk A H0 (w9 F L [Dn]) ((jn xs).is++(nk y.1 y.2).is) (f++f4):=fun a ha=>by
         rcases List.mem_append.mp ha with ha | ha
         ·exact (hk.bok srD).mono (fun j hj=>List.mem_append_left _ hj) (fun _ q=>q) a ha
         ·exact (o4.bok ((srI.same sy).same s3)).mono (fun j hj=>List.mem_append_right _ hj) (fun _ q=>q) a ha
        cases hj:jn xs with
        | own=>
         rw[hj] at hk4
         cases hy:nk y.1 y.2 with
         | own=>
          rw[hy] at o4
          refine ⟨List.nodup_append.mpr ⟨hk4.1,o4.1,fun a ha b hb e=>?_⟩,fun a ha=>?_⟩
          ·subst e
           exact ((hr.same sy).same s3).trk a ha (o4.2 a hb).1
          ·rcases List.mem_append.mp ha with ha | ha
           ·exact ⟨(hk4.2 a ha).1,mu (hk4.2 a ha).2⟩
           ·exact ⟨trD (o4.2 a ha).1,mu (o4.2 a ha).2⟩
         | bor js=>rw[hj,hy] at bb; exact bb
        | bor js=>rw[hj] at bb; exact bb
       ·intro b o e
        have hb:b≠Dn:=fun z=>by subst z; rw[nD] at e; cases e
        rw[upd_ne hb]
        exact s4 _ _ (sm3 b o e)
       ·exact sr4.mutH hD4 inD hLw hLs
       ·rw[List.length_append]; simp; omega
 ·rintro H2 ⟨xs,rest,vs,f,hl,hx,hD,hr,hDf,hk,sm,srI,hv⟩
  rw[List.drop_length] at hl
  cases hl
  rw[List.append_nil] at hx
  subst hx
  refine hq _ H2 (Dn::f) (s1.trans sm) (.lst hD hr) ?_
  have nH:H Dn=none:=s1.free nD
  unfold lk
  split
  ·rename_i hz
   rw[Reps.noL hr hz]
   refine ⟨List.nodup_cons.mpr ⟨by simp,List.nodup_nil⟩,fun a ha=>?_⟩
   rw[List.mem_singleton.mp ha]
   exact ⟨nH,⟨by rw[hD]; trivial⟩⟩
  ·cases hj:jn xs with
   | own=>
    rw[hj] at hk
    refine ⟨List.nodup_cons.mpr ⟨hDf,hk.1⟩,fun a ha=>?_⟩
    rcases List.mem_cons.mp ha with e | ha
    ·subst e; exact ⟨nH,⟨by rw[hD]; trivial⟩⟩
    ·refine ⟨s1.free (sD.free (hk.2 a ha).1),(hk.2 a ha).2⟩
   | bor js=>
    rw[hj] at hk
    have hLj:L∉js:=by have:=hLt; rw[hj] at this; exact this
    intro a ha
    rcases List.mem_cons.mp ha with e | ha
    ·subst e
     exact .inr ⟨.inr (sr.fr.free nH),fun j hj'=>((sr.own j).2 a hj').2.ne nH⟩
    ·exact down hLj hk a ha
end
section
variable {X:Cx} {CA:String->Addr} {W:WX}
theorem zy9 {elt tg iter:Expr} {ifs:List Expr} {scope:Scope} {pos:Pos} {si:SI} {t:Tgt} {st:STs} {se:SE} {sl:List Nat} (own:List (Str×Nat)) (hc:X.calm=true) (hN:X.N.Nodup) (hi:PI X tg iter (tI X.K CA W si)) (ok:BlkOk X.N X.env.scope scope own)
  (hg:∀ (s:Shared) (H:Hp) (C:Addr) (cl:List (Str×Addr)) (fp:List Addr),PG (X.blk s H scope (compEnvC scope cl C X.env) fp) tg (tG X.K sl t)) (hsl:∀ j∈sl,j∈own.map (·.2))
  (ht:∀ (s:Shared) (H:Hp) (C:Addr) (cl:List (Str×Addr)) (fp:List Addr),PTs (X.blk s H scope (compEnvC scope cl C X.env) fp) ifs (tT X.K CA W0 st))
  (he:∀ (s:Shared) (H:Hp) (C:Addr) (cl:List (Str×Addr)) (fp:List Addr),PE (X.blk s H scope (compEnvC scope cl C X.env) fp) elt (tE X.K CA W0 se)) (hs:∀ x,foldedSetIterable iter X.env x=pure x:=by intro _; rfl) :
  PE X (.ListComp elt [⟨tg,iter,ifs,0⟩] scope pos) (tE X.K CA W (lcE si (own.map (·.2)) t st se)):=by
 refine peI (pe_lc hc hN hi ok hg ht he hs) fun σ H Q ⟨A,H0,F,G,ρ,sr,h⟩=>?_
 refine ⟨A,H0,F,G,ρ,sr,h.bind fun ⟨k,ds⟩ h1=>?_⟩
 intro J H1 gh s1 it gk Dn nD
 obtain ⟨⟨hown,hlen⟩,h2⟩:=h1.ite
 cases hl:lcL t st se k (U9 ρ (own.map (·.2))) ds with
 | st=>simp only[hl,zv8,R.bind] at h2; exact h2.elim
 | ex c=>simp only[hl,zv8,R.bind] at h2; exact h2.elim
 | ok total=>
  simp only[hl,zv8,R.bind] at h2
  exact z0p sr s1 it gk hown hlen hsl hl h2 nD
theorem zX6 {i:Nat} {y:Str} {py:Pos} {elt tg iter:Expr} {ifs:List Expr} {scope:Scope} {pos spos:Pos} {si:SI} {t:Tgt} {st:STs} {se:SE} {sl:List Nat} (own:List (Str×Nat)) (hc:X.calm=true) (hN:X.N.Nodup) (hy:X.N[i]? = some y) (hyl:X.env.scope.names.lookup y=some .local)
  (hsw:swapsWith (.ListComp elt [⟨tg,iter,ifs,0⟩] scope pos) (some (.Name y py)) spos.line X.env=pure true) (hi:PI X tg iter (tI X.K CA W si)) (ok:BlkOk X.N X.env.scope scope own)
  (hg:∀ (s:Shared) (H:Hp) (C:Addr) (cl:List (Str×Addr)) (fp:List Addr),PG (X.blk s H scope (compEnvC scope cl C X.env) fp) tg (tG X.K sl t)) (hsl:∀ j∈sl,j∈own.map (·.2))
  (ht:∀ (s:Shared) (H:Hp) (C:Addr) (cl:List (Str×Addr)) (fp:List Addr),PTs (X.blk s H scope (compEnvC scope cl C X.env) fp) ifs (tT X.K CA W0 st))
  (he:∀ (s:Shared) (H:Hp) (C:Addr) (cl:List (Str×Addr)) (fp:List Addr),PE (X.blk s H scope (compEnvC scope cl C X.env) fp) elt (tE X.K CA W0 se)) (hs:∀ x,foldedSetIterable iter X.env x=pure x:=by intro _; rfl) :
  PS X (.Assign [.Name y py] (.ListComp elt [⟨tg,iter,ifs,0⟩] scope pos) spos) (tAsg (tE X.K CA W (lcE si (own.map (·.2)) t st se)) (gName i)):=by
 refine ⟨fun pins s σ H D I h=>(ps_setLc hc hN hy hyl hsw hi ok hg ht he hs).run pins s σ H D I ?_⟩
 obtain ⟨A,H0,F,G,ρ,sr,h⟩:=h
 refine ⟨A,H0,F,G,ρ,sr,h.bind fun ⟨k,ds⟩ h1=>?_⟩
 intro J H1 gh s1 it gk Dn nD
 obtain ⟨⟨hown,hlen⟩,h2⟩:=h1.ite
 cases hl:lcL t st se k (U9 ρ (own.map (·.2))) ds with
 | st=>simp only[hl,zv8,R.bind] at h2; exact h2.elim
 | ex c=>simp only[hl,zv8,R.bind] at h2; exact h2.elim
 | ok total=>
  simp only[hl,zv8,R.bind] at h2
  exact z0p (Q:=fun x H1=>gName i x σ H1 D.nx) sr s1 it gk hown hlen hsl hl h2 nD
end
def n8 (K:PySem.W.Frag) (CA:String->Addr) (W:WX) (A:Addr->Prop) (H0:Hp) (G:List (D×V)) (De:Ends) (o:Out):Prop:=match o with
 | .nx ρ=>∀ σ H F,SR K A H0 F G ρ σ H->De.nx σ H
 | .rt k d=>∀ v H f,Same H0 H->Rep K H d v f->zN1 A H0 H k f->De.rt v H
 | .bk ρ=>∀ σ H F,SR K A H0 F G ρ σ H->De.bk σ H
 | .ct ρ=>∀ σ H F,SR K A H0 F G ρ σ H->De.ct σ H
 | .ex c ρ=>∀ σ H F,SR K A H0 F G ρ σ H->zy6 K CA c (fun cls od=>W cls od σ) H
 | .st=>False
 | .ri ρ k d=>∀ v σ Hx H F f,SR K A H0 F G ρ σ Hx->Same Hx H->Rep K H d v f->KOk A H0 F Hx H k f->De.rt v H
def tS (K:PySem.W.Frag) (CA:String->Addr) (W:WX) (s:SS):TS:=fun De σ H=>∃ A H0 F G ρ,SR K A H0 F G ρ σ H/\n8 K CA W A H0 G De (s ρ)
def R.out {α:Type} (r:R α) (ρ:Env) (f:α->Out):Out:=match r with
 | .ok a=>f a
 | .ex c=>.ex c ρ
 | .st=>.st
@[simp] theorem R.out_ok {α:Type} (a:α) (ρ:Env) (f:α->Out):(R.ok a).out ρ f=f a:=rfl
@[simp] theorem R.out_ex {α:Type} (c:Ec) (ρ:Env) (f:α->Out):(R.ex c:R α).out ρ f=.ex c ρ:=rfl
@[simp] theorem R.out_st {α:Type} (ρ:Env) (f:α->Out):(R.st:R α).out ρ f=.st:=rfl
def t3:SS:=fun ρ=>.nx ρ
def x7 (a b:SS):SS:=fun ρ=>match a ρ with
 | .nx ρ'=>b ρ'
 | o=>o
def u8 (t:Tgt) (s:SE):SS:=fun ρ=>(s ρ).out ρ fun x=>match t x.1 x.2 ρ with
 | some ρ'=>.nx ρ'
 | none=>.st
def ifS (t:STs) (a b:SS):SS:=fun ρ=>(t ρ).out ρ fun c=>if c=true then a ρ else b ρ
def j6 (s:SE):SS:=fun ρ=>(s ρ).out ρ fun x=>.rt x.1 x.2
def zm5 (i:Nat):SS:=fun ρ=>match ρ[i]? with
 | some (.ow d)=>.rt .own d
 | some (.bo is d)=>.rt (.bor is) d
 | _=>.st
def z28:SS:=fun _=>.rt .own .non
def zu9 (c:String):SS:=fun ρ=>.ex c ρ
def zd9 (s:SE):SS:=fun ρ=>(s ρ).out ρ fun _=>.nx ρ
def inv (i:Nat) (ρ:Env):Env:=ρ.map fun s=>match s with
 | .bo is d=>if i∈is then .no else .bo is d
 | s=>s
theorem zm6 {j:Nat} {ρ:Env} (h:W3 (inv j ρ)=true):W3 ρ=true:=by
 unfold inv at h
 refine zT1 (fun x hx=>?_) h
 cases x with
 | bo is d=>
  simp only at hx
  split at hx <;> cases hx
 | _=>exact hx
def frz1 (j:Nat) (ρ:Env):Env:=match ρ[j]? with
 | some (.ow d)=>ρ.set j (.bo [] d)
 | _=>ρ
def frz:List Nat->Env->Env
 | [],ρ=>ρ
 | j::is,ρ=>frz is (frz1 j ρ)
def U0 (tg:Tgt) (body:SS):List D->Env->Out
 | [],ρ=>.nx ρ
 | d::ds,ρ=>match tg (.bor []) d ρ with
  | none=>.st
  | some ρ1=>match body ρ1 with
   | .nx ρ2=>U0 tg body ds ρ2
   | .ct ρ2=>U0 tg body ds ρ2
   | .bk ρ2=>.nx ρ2
   | o=>o
def S4 (it:SI) (tg:Tgt) (body:SS):SS:=fun ρ=>(it ρ).out ρ fun kds=>U0 tg body kds.2 (frz kds.1.is ρ)
section
variable {K:PySem.W.Frag} {A:Addr->Prop} {H0 H H1:Hp} {F:Nat->List Addr} {G G':List (D×V)} {ρ:Env} {σ:L2.St} {CA:String->Addr} {W:WX} {De:Ends}
theorem lift {α:Type} {r:R α} {f:α->Out} (h:n8 K CA W A H0 G De (r.out ρ f)) (sr:SR K A H0 F G ρ σ H):i7 K CA W σ H r fun a=>n8 K CA W A H0 G De (f a):=by
 cases r with
 | ok a=>exact h
 | ex c=>exact fun H' s=>h σ H' F (sr.same s)
 | st=>exact h.elim
theorem KOk.ret {k:Kd} {f:List Addr} (sr:SR K A H0 F G ρ σ H) (o:KOk A H0 F H H1 k f):zN1 A H0 H1 k f:=by
 cases k with
 | own=>exact ⟨o.1,fun a ha=>⟨sr.fr.free (o.2 a ha).1,(o.2 a ha).2⟩⟩
 | bor is=>
  intro a ha
  rcases o a ha with ⟨j,_,q⟩ | q
  ·exact .inr ((sr.own j).2 a q).1
  ·exact q.1
theorem SR.drop {j:Nat} {ρ':Env} (sr:SR K A H0 F G ρ σ H) (hl:ρ'.length=ρ.length) (ho:∀ i,i≠j->ρ'[i]? = ρ[i]?) (hj:(ρ'[j]? = ρ[j]?/\∀ d,ρ[j]?≠some (.ow d))\/∃ d,ρ[j]? = some (.ow d)/\ρ'[j]? = some (.bo [] d)) :
  SR K A H0 (w9 F j []) G ρ' σ H:=by
 have hn:∀ b∈([]:List Addr),H b=none:=fun b hb=>nomatch hb
 have ne:∀ {i:Nat} {d},ρ'[i]? = some (.ow d)->i≠j:=fun {i d} e z=>by
  subst z
  rcases hj with ⟨h1,h2⟩ | ⟨d',h1,h2⟩
  ·exact h2 d (h1 ▸ e)
  ·rw[h2] at e; cases e
 refine ⟨hl.trans sr.len,sr.fr,fun i=>?_,fun i m a hi hm=>?_,fun i d e=>?_,fun i is d e=>?_,fun p hp=>?_,fun i hi hn'=>?_,V8 sr.fin,sr.tbS (fun z=>by
  obtain ⟨i,e⟩:=zc8.mp z
  by_cases h:i=j
  ·subst h
   rcases hj with ⟨h1,_⟩ | ⟨_,_,h2⟩
   ·exact zc8.mpr ⟨i,h1 ▸ e⟩
   ·rw[h2] at e; cases e
  ·exact zc8.mpr ⟨i,(ho i h) ▸ e⟩) fun _ _ e _=>e⟩
 ·by_cases e:i=j
  ·subst e; rw[x5]; exact ⟨List.nodup_nil,fun a ha=>nomatch ha⟩
  ·rw[y5 e]; exact sr.own i
 ·by_cases e:i=j
  ·rw[e,x5] at hi; cases hi
  ·by_cases e':m=j
   ·rw[e',x5] at hm; cases hm
   ·rw[y5 e] at hi; rw[y5 e'] at hm; exact sr.dis i m a hi hm
 ·have hi:=ne e
  rw[y5 hi]
  exact sr.slo i d (by rw[<- ho i hi]; exact e)
 ·by_cases hi:i=j
  ·subst hi
   rcases hj with ⟨h1,h2⟩ | ⟨d',h1,h2⟩
   ·obtain ⟨v,f,h3,h4,h5⟩:=sr.slb i is d (h1 ▸ e)
    exact ⟨v,f,h3,h4,h5.upd sr hn h4.trk⟩
   ·rw[h2] at e
    cases e
    obtain ⟨v,h3,h4⟩:=sr.slo i d h1
    refine ⟨v,F i,h3,h4,fun a ha=>.inr ⟨.inr ((sr.own i).2 a ha).1,fun m hm=>?_⟩⟩
    by_cases e:m=i
    ·rw[e,x5] at hm; cases hm
    ·rw[y5 e] at hm; exact e (sr.dis m i a hm ha)
  ·obtain ⟨v,f,h3,h4,h5⟩:=sr.slb i is d (by rw[<- ho i hi]; exact e)
   exact ⟨v,f,h3,h4,h5.upd sr hn h4.trk⟩
 ·obtain ⟨f,h1,h2⟩:=sr.gho p hp
  exact ⟨f,h1,fun a ha=>(h2 a ha).upd sr hn (h1.trk a ha)⟩
 ·by_cases e:i=j
  ·subst e; rw[x5] at hn'; exact absurd rfl hn'
  ·rw[y5 e] at hn'
   obtain ⟨d,q⟩:=sr.emp i (by rw[<- hl]; exact hi) hn'
   exact ⟨d,by rw[ho i e]; exact q⟩
theorem z3C (j:Nat) (ρ:Env):(frz1 j ρ).length=ρ.length:=by
 unfold frz1
 split
 ·rw[List.length_set]
 ·rfl
theorem SR.frz1 (sr:SR K A H0 F G ρ σ H) (j:Nat):SR K A H0 (w9 F j []) G (Cz.frz1 j ρ) σ H:=by
 refine sr.drop (z3C j ρ) (fun i hi=>?_) ?_
 ·unfold Cz.frz1
  split
  ·rw[List.getElem?_set_ne (Ne.symm hi)]
  ·rfl
 ·unfold Cz.frz1
  split
  ·rename_i d h
   refine .inr ⟨d,h,?_⟩
   rw[List.getElem?_set_self (List.getElem?_eq_some_iff.mp h).1]
  ·rename_i h
   exact .inl ⟨rfl,fun d e=>h d e⟩
theorem SR.frz:∀ (is:List Nat) {F:Nat->List Addr} {ρ:Env},SR K A H0 F G ρ σ H->∃ F',SR K A H0 F' G (Cz.frz is ρ) σ H/\(∀ a,H a≠none->Sh A H0 F a->Sh A H0 F' a)/\∀ a,(∃ j∈is,a∈F j)->Sh A H0 F' a
 | [],F,ρ,sr=>⟨F,sr,fun _ _ h=>h,fun a ⟨j,hj,_⟩=>nomatch hj⟩
 | j::is,F,ρ,sr=>by
  have hn:∀ b∈([]:List Addr),H b=none:=fun b hb=>nomatch hb
  obtain ⟨F',sr',h1,h2⟩:=SR.frz is (sr.frz1 j)
  refine ⟨F',sr',fun a ha h=>h1 a ha (h.upd sr hn ha),fun a ⟨m,hm,q⟩=>?_⟩
  have ha:H a≠none:=((sr.own m).2 a q).2.ne
  by_cases e:m=j
  ·subst e
   refine h1 a ha ⟨.inr ((sr.own m).2 a q).1,fun n hn'=>?_⟩
   by_cases e:n=m
   ·rw[e,x5] at hn'; cases hn'
   ·rw[y5 e] at hn'; exact e (sr.dis n m a hn' q)
  ·rcases List.mem_cons.mp hm with z | hm
   ·exact absurd z e
   ·exact h2 a ⟨m,hm,by rw[y5 e]; exact q⟩
theorem SR.gsub (sr:SR K A H0 F G ρ σ H) (h:∀ p∈G',p∈G):SR K A H0 F G' ρ σ H:={ sr with gho:=fun p hp=>sr.gho p (h p hp) }
theorem SR.gadd (sr:SR K A H0 F G ρ σ H) (h:Gh K H (Sh A H0 F) G'):SR K A H0 F (G'++G) ρ σ H:=
 { sr with gho:=fun p hp=>(List.mem_append.mp hp).elim (fun q=>h p q) fun q=>sr.gho p q }
theorem n8.gsub {o:Out} (h:n8 K CA W A H0 G De o) (hs:∀ p∈G,p∈G'):n8 K CA W A H0 G' De o:=by
 cases o with
 | nx ρ=>exact fun σ H F sr=>h σ H F (sr.gsub hs)
 | rt k d=>exact h
 | bk ρ=>exact fun σ H F sr=>h σ H F (sr.gsub hs)
 | ct ρ=>exact fun σ H F sr=>h σ H F (sr.gsub hs)
 | ex c ρ=>exact fun σ H F sr=>h σ H F (sr.gsub hs)
 | st=>exact h
 | ri ρ k d=>exact fun v σ Hx H F f sr s r o=>h v σ Hx H F f (sr.gsub hs) s r o
end
section
variable {X:Cx} {st:Stmt} {sts:List Stmt} {t t':TS}
theorem psI (h:PS X st t) (k:∀ D σ H,t' D σ H->t D σ H):PS X st t':=⟨fun pins s σ H D I q=>h.run pins s σ H D I (k D σ H q)⟩
theorem z3G (h:PSs X sts t) (k:∀ D σ H,t' D σ H->t D σ H):PSs X sts t':=⟨fun pins s σ H D I q=>h.run pins s σ H D I (k D σ H q)⟩
end
section
variable {X:Cx} {CA:String->Addr} {W:WX} {pos pos':Pos} {st:Stmt} {rest a b:List Stmt} {e c tg iter:Expr} {s u:SS} {se:SE} {t:STs} {tt:Tgt} {sl:List Nat} {si:SI}
theorem q7:PSs X [] (tS X.K CA W t3):=z3G pss_nil fun D σ H ⟨A,H0,F,G,ρ,sr,h⟩=>h σ H F sr
theorem y7 (h1:PS X st (tS X.K CA W s)) (h2:PSs X rest (tS X.K CA W u)):PSs X (st::rest) (tS X.K CA W (x7 s u)):=by
 refine z3G (pss_cons h1 h2) fun D σ H ⟨A,H0,F,G,ρ,sr,h⟩=>?_
 refine ⟨A,H0,F,G,ρ,sr,?_⟩
 have h:n8 X.K CA W A H0 G D (match s ρ with | .nx ρ'=>u ρ' | o=>o):=h
 cases hs:s ρ with
 | nx ρ'=>rw[hs] at h; exact fun σ' H' F' sr'=>⟨A,H0,F',G,ρ',sr',h⟩
 | rt k d=>rw[hs] at h; exact h
 | bk ρ'=>rw[hs] at h; exact h
 | ct ρ'=>rw[hs] at h; exact h
 | ex c ρ'=>rw[hs] at h; exact h
 | st=>rw[hs] at h; exact h
 | ri ρ' k d=>rw[hs] at h; exact h
theorem x6 (h1:PS X st (tS X.K CA W s)):PSs X [st] (tS X.K CA W s):=pss_one h1
theorem z7m:PS X (.Pass pos) (tS X.K CA W t3):=psI ps_pass fun D σ H ⟨A,H0,F,G,ρ,sr,h⟩=>h σ H F sr
theorem j5 (he:PE X e (tE X.K CA W se)):PS X (.Return (some e) pos) (tS X.K CA W (j6 se)):=by
 refine psI (ps_ret he) fun D σ H ⟨A,H0,F,G,ρ,sr,h⟩=>?_
 refine ⟨A,H0,F,G,ρ,sr,(lift h sr).imp fun ⟨k,d⟩ _ q v H' f s r o=>q v H' f (sr.fr.trans s) r (o.ret sr)⟩
theorem zj9 (i:Nat) {x:Str} (hN:X.N[i]? = some x:=by rfl) (hv:Vis X.env.scope x:=by first | exact Or.inl rfl | exact Or.inr (Or.inl rfl) | exact Or.inr (Or.inr rfl)) (hd:(x == ("__debug__" : Str))=false:=by decide)
  (hcd:(x == ("__classdict__" : Str))=false:=by decide):PS X (.Return (some (.Name x pos')) pos) (tS X.K CA W (zm5 i)):=by
 refine psI (ps_ret (pe_var hN hv hd hcd)) fun D σ H ⟨A,H0,F,G,ρ,sr,h⟩=>?_
 unfold zm5 at h
 cases e:ρ[i]? with
 | none=>rw[e] at h; exact h.elim
 | some sl=>
  rw[e] at h
  cases sl with
  | no=>exact h.elim
  | tb=>exact h.elim
  | ow d=>
   obtain ⟨v,hv,r⟩:=sr.slo i d e
   exact ⟨v,hv,h v H (F i) sr.fr r ⟨(sr.own i).1,(sr.own i).2⟩⟩
  | bo is d=>
   obtain ⟨v,f,hv,r,b⟩:=sr.slb i is d e
   exact ⟨v,hv,h v H f sr.fr r fun a ha=>by
    rcases b a ha with ⟨j,_,q⟩ | q
    ·exact .inr ((sr.own j).2 a q).1
    ·exact q.1⟩
theorem z6T:PS X (.Return none pos) (tS X.K CA W z28):=psI ps_retN fun D σ H ⟨A,H0,F,G,ρ,sr,h⟩=>h .non H [] sr.fr .non ⟨List.nodup_nil,fun a ha=>nomatch ha⟩
theorem b8 (hc:PT X c (tT X.K CA W t)) (ha:PSs X a (tS X.K CA W s)) (hb:PSs X b (tS X.K CA W u)):PS X (.If c a b pos) (tS X.K CA W (ifS t s u)):=by
 refine psI (ps_if hc ha hb) fun D σ H ⟨A,H0,F,G,ρ,sr,h⟩=>?_
 refine ⟨A,H0,F,G,ρ,sr,(lift h sr).imp fun b _ q H' s'=>?_⟩
 cases b with
 | true=>exact ⟨A,H0,F,G,ρ,sr.same s',q⟩
 | false=>exact ⟨A,H0,F,G,ρ,sr.same s',q⟩
theorem zg4 (he:PE X e (tE X.K CA W se)) (hs:swapsWith e none pos.line X.env=pure false:=by rfl):PS X (.Expr e pos) (tS X.K CA W (zd9 se)):=by
 refine psI (ps_expr he hs) fun D σ H ⟨A,H0,F,G,ρ,sr,h⟩=>?_
 exact ⟨A,H0,F,G,ρ,sr,(lift h sr).imp fun ⟨k,d⟩ _ q v H' f s r o=>q σ H' F (sr.same s)⟩
theorem z8c {D:Ends} {σ:L2.St} {H:Hp} (h:tS X.K CA W (u8 tt se) D σ H):tE X.K CA W se σ H fun x H1=>tG X.K sl tt x σ H1 D.nx:=by
 obtain ⟨A,H0,F,G,ρ,sr,h⟩:=h
 refine ⟨A,H0,F,G,ρ,sr,(lift h sr).imp fun ⟨k,d⟩ _ q v H' f s r o=>⟨A,H0,H,F,G,ρ,k,d,f,sr,s,r,o,?_⟩⟩
 cases ht:tt k d ρ with
 | none=>simp only[ht] at q; exact q.elim
 | some ρ'=>simp only[ht] at q; exact fun σ' F' p=>q σ' H' F' p.sr
theorem z0M (he:PE X e (tE X.K CA W se)) (hg:PG X tg (tG X.K sl tt)) (hs:swapsWithSole [tg] e pos.line X.env=pure false:=by rfl) (hw:swappedStores [tg] e X.env=pure none:=by rfl)
  (h1:(assignEach [tg] X.env).map (·.2)=[assign tg X.env]:=by rfl):PS X (.Assign [tg] e pos) (tS X.K CA W (u8 tt se)):=
 psI (ps_asg he hg hs hw h1) fun D σ H h=>z8c h
theorem q9 (i:Nat) {x:Str} (hN:X.N.Nodup) (he:PE X e (tE X.K CA W se)) (hi:X.N[i]? = some x:=by rfl) (hx:Loc X.env.scope x:=by first | exact Or.inl rfl | exact Or.inr rfl) (hs:swapsWith e (some (.Name x pos')) pos.line X.env=pure false:=by rfl)
  (hf:X.fn x=true\/X.env.scope.names.lookup x=some .local:=by first | exact .inl rfl | exact .inr rfl | assumption):PS X (.Assign [.Name x pos'] e pos) (tS X.K CA W (u8 (tgN i) se)):=by
 refine psI (ps_set hN hi hx he hs hf) fun D σ H h=>?_
 obtain ⟨A,H0,F,G,ρ,sr,h⟩:=h
 refine ⟨A,H0,F,G,ρ,sr,(lift h sr).imp fun ⟨k,d⟩ _ q v H' f s r o=>?_⟩
 obtain ⟨f',sr',_⟩:=sr.set s r o i
 exact q _ _ _ sr'
theorem zr9 {i:Nat} {y:Str} {py:Pos} {elt tg iter:Expr} {ifs:List Expr} {scope:Scope} {pos spos:Pos} {si:SI} {t:Tgt} {st:STs} {se:SE} {sl:List Nat} (own:List (Str×Nat)) (hc:X.calm=true) (hN:X.N.Nodup) (hi:PI X tg iter (tI X.K CA W si)) (ok:BlkOk X.N X.env.scope scope own)
  (hg:∀ (s:Shared) (H:Hp) (C:Addr) (cl:List (Str×Addr)) (fp:List Addr),PG (X.blk s H scope (compEnvC scope cl C X.env) fp) tg (tG X.K sl t)) (hsl:∀ j∈sl,j∈own.map (·.2))
  (ht:∀ (s:Shared) (H:Hp) (C:Addr) (cl:List (Str×Addr)) (fp:List Addr),PTs (X.blk s H scope (compEnvC scope cl C X.env) fp) ifs (tT X.K CA W0 st))
  (he:∀ (s:Shared) (H:Hp) (C:Addr) (cl:List (Str×Addr)) (fp:List Addr),PE (X.blk s H scope (compEnvC scope cl C X.env) fp) elt (tE X.K CA W0 se))
  (hsw:swapsWith (.ListComp elt [⟨tg,iter,ifs,0⟩] scope pos) (some (.Name y py)) spos.line X.env=pure true) (hy:X.N[i]? = some y:=by rfl) (hyl:X.env.scope.names.lookup y=some .local:=by rfl) (hs:∀ x,foldedSetIterable iter X.env x=pure x:=by intro _; rfl) :
  PS X (.Assign [.Name y py] (.ListComp elt [⟨tg,iter,ifs,0⟩] scope pos) spos) (tS X.K CA W (u8 (tgN i) (lcE si (own.map (·.2)) t st se))):=by
 refine psI (zX6 (W:=W) own hc hN hy hyl hsw hi ok hg hsl ht he hs) fun D σ H h=>?_
 obtain ⟨A,H0,F,G,ρ,sr,h⟩:=h
 refine ⟨A,H0,F,G,ρ,sr,(lift h sr).imp fun ⟨k,d⟩ _ q v H' f s r o=>?_⟩
 obtain ⟨f',sr',_⟩:=sr.set s r o i
 exact q _ _ _ sr'
theorem zi1 {x m:String} {j:Nat} {p p2:Pos} {C:Addr} {bmB:List Value} {B newId initId:String} (hc:X.calm=true) (tk:Takes X W) (Fb:ExcBaseFacts B newId initId bmB) (q:PySem.W.excIn X.K (CA x) bmB newId=true) (gC:X.mg (Str.ofString x)=some (.ref (CA x))) (kC:PySem.W.keepIn X.K (.ref (CA x))=true)
  (r:Raises X (.ref (CA x))) {ms:Str} (hg:Gl X (Str.ofString x):=by rfl) (hdb:(Str.ofString x == ("__debug__" : Str))=false:=by decide):PS X (.Raise (some (.Call (.Name (Str.ofString x) p) [.Constant (.str ms) j p2] [] pos')) none pos) (tS X.K CA W (zu9 x)):=
 psI (ps_raise hc tk (pmk_own Fb q gC kC r hg hdb)) fun D σ H ⟨A,H0,F,G,ρ,sr,h⟩=>h σ H F sr
theorem z46 {J:It} {ds:List D} {gh:List (D×V)} {K:PySem.W.Frag} (it:IterOk K J ds gh) {g:TG} {tb:TS} {D:Ends} {σ:L2.St} {H:Hp} (Pv:Nat->L2.St->Hp->Prop) (h0:Pv 0 σ H) (hG:∀ i σ H,i<=ds.length->Pv i σ H->Gh K H (fun _=>True) gh)
  (hs:∀ i x σ H H',i < ds.length->Pv i σ H->(∀ P,Gh K H P gh->Same H H'/\∃ d f,ds[i]? = some d/\Rep K H' d x f/\∀ a∈f,P a)->g x σ H' fun σ2 H2=>tb { D with nx:=Pv (i + 1),ct:=Pv (i + 1),bk:=D.nx } σ2 H2) (hd:∀ σ H,Pv ds.length σ H->D.nx σ H) :
  ∃ W:Nat->Nat->L2.St->Hp->Prop,(∃ m,W 0 m σ H)/\∀ i m σ H,W i m σ H ->
   (J.stop i H/\D.nx σ H)\/(J.go i H/\∃ N:L2.St->Hp->Prop,(∀ σ' H',N σ' H'->∃ m',m' < m/\W (i + 1) m' σ' H')/\∀ x H',J.yld i H x H'->g x σ H' fun σ2 H2=>tb { D with nx:=N,ct:=N,bk:=D.nx } σ2 H2):=by
 refine ⟨fun i m σ H=>m=ds.length - i/\i<=ds.length/\Pv i σ H,⟨ds.length,by simp,Nat.zero_le _,h0⟩,?_⟩
 rintro i m σ H ⟨rfl,hi,p⟩
 have q:=hG i σ H hi p
 by_cases hlt:i < ds.length
 ·exact .inr ⟨it.go H _ i hlt q,Pv (i + 1),fun σ' H' p'=>⟨ds.length - (i + 1),by omega,rfl,hlt,p'⟩,fun x H' y=>hs i x σ H H' hlt p fun P hP=>it.yld H P i x H' hlt hP y⟩
 ·have e:i=ds.length:=by omega
  subst e
  exact .inl ⟨it.stop H _ q,hd σ H p⟩
theorem Q9 {body:List Stmt} {sb:SS} (hp:PassesOwn (model X.prog X.w) X.A X.env X.xe) (hc:X.calm=true) (hi:PI X tg iter (tI X.K CA W si)) (hg:PG X tg (tG X.K sl tt)) (hb:PSs X body (tS X.K CA W sb))
  (hs:∀ x,foldedSetIterable iter X.env x=pure x:=by intro _; rfl):PS X (.For tg iter body [] pos) (tS X.K CA W (S4 si tt sb)):=by
 refine psI (ps_for hp hc hi hg hb hs) fun D σ H ⟨A,H0,F,G,ρ,sr,h⟩=>?_
 refine ⟨A,H0,F,G,ρ,sr,(lift h sr).imp fun ⟨k,ds⟩ _ q J H1 gh s1 it gk=>?_⟩
 have sr1:=sr.same s1
 obtain ⟨F1,srf,t1,t2⟩:=SR.frz k.is sr1
 have gk1:Gh X.K H1 (Sh A H0 F1) gh:=fun p hp=>let ⟨f,h1,h2⟩:=gk p hp; ⟨f,h1,fun a ha=>(h2 a ha).elim (t2 a) (t1 a (h1.trk a ha))⟩
 refine z46 it (fun i σ H=>∃ F ρ,SR X.K A H0 F (gh++G) ρ σ H/\n8 X.K CA W A H0 G D (U0 tt sb (ds.drop i) ρ)) ⟨F1,_,srf.gadd gk1,q⟩ (fun i σ H _ ⟨F,ρ,sr,_⟩ p hp=>let ⟨f,h1,h2⟩:=sr.gho p (List.mem_append_left _ hp); ⟨f,h1,fun _ _=>trivial⟩) ?_ ?_
 ·rintro i x σ2 H2 H3 hi ⟨F2,ρ2,sr2,o2⟩ yl
  obtain ⟨sy,d,f,hd,r,hf⟩:=yl (Sh A H0 F2) fun p hp=>sr2.gho p (List.mem_append_left _ hp)
  have hdrop:ds.drop i=d::ds.drop (i + 1):=by
   rw[List.drop_eq_getElem_cons hi]
   congr 1
   rw[List.getElem?_eq_getElem hi] at hd
   exact Option.some.inj hd
  rw[hdrop] at o2
  refine ⟨A,H0,H3,F2,gh++G,ρ2,.bor [],d,f,sr2.same sy,Same.refl _,r,fun a ha=>.inr (hf a ha),?_⟩
  have o2:n8 X.K CA W A H0 G D (match tt (.bor []) d ρ2 with
   | none=>.st
   | some ρ1=>match sb ρ1 with
    | .nx ρ2=>U0 tt sb (ds.drop (i + 1)) ρ2
    | .ct ρ2=>U0 tt sb (ds.drop (i + 1)) ρ2
    | .bk ρ2=>.nx ρ2
    | o=>o):=o2
  cases h1:tt (.bor []) d ρ2 with
  | none=>rw[h1] at o2; exact o2.elim
  | some ρ3=>
   rw[h1] at o2
   intro σ' F' p
   refine ⟨A,H0,F',gh++G,ρ3,p.sr,?_⟩
   have sub:∀ p∈G,p∈gh++G:=fun p hp=>List.mem_append_right _ hp
   cases h2:sb ρ3 with
   | nx ρ4=>simp only[h2] at o2; exact fun σ4 H4 F4 sr4=>⟨F4,ρ4,sr4,o2⟩
   | ct ρ4=>simp only[h2] at o2; exact fun σ4 H4 F4 sr4=>⟨F4,ρ4,sr4,o2⟩
   | bk ρ4=>simp only[h2] at o2; exact fun σ4 H4 F4 sr4=>o2 σ4 H4 F4 (sr4.gsub sub)
   | rt k' d'=>simp only[h2] at o2; exact o2
   | ex c ρ4=>simp only[h2] at o2; exact fun σ4 H4 F4 sr4=>o2 σ4 H4 F4 (sr4.gsub sub)
   | st=>simp only[h2] at o2; exact o2.elim
   | ri ρ4 k' d'=>simp only[h2] at o2; exact fun v4 σ4 Hx4 H4 F4 f4 sr4 s4 r4 o4=>o2 v4 σ4 Hx4 H4 F4 f4 (sr4.gsub sub) s4 r4 o4
 ·rintro σ2 H2 ⟨F2,ρ2,sr2,o2⟩
  rw[List.drop_length] at o2
  exact o2 σ2 H2 F2 (sr2.gsub fun p hp=>List.mem_append_right _ hp)
end
theorem Q8 (j:Nat) (ρ:Env):(inv j ρ).length=ρ.length:=by unfold inv; rw[List.length_map]
theorem zf6 {j i:Nat} {ρ:Env} {d:D}:(inv j ρ)[i]? = some (.ow d)↔ρ[i]? = some (.ow d):=by
 unfold inv
 rw[List.getElem?_map]
 cases h:ρ[i]? with
 | none=>simp
 | some s=>
  cases s with
  | no=>simp
  | tb=>simp
  | ow d'=>simp
  | bo is d'=>
   by_cases hj:j∈is
   ·simp[hj]
   ·simp[hj]
theorem zB3 {j i:Nat} {ρ:Env} {d:D} {is:List Nat} (h:(inv j ρ)[i]? = some (.bo is d)):ρ[i]? = some (.bo is d)/\j∉is:=by
 unfold inv at h
 rw[List.getElem?_map] at h
 cases e:ρ[i]? with
 | none=>rw[e] at h; cases h
 | some s=>
  rw[e] at h
  cases s with
  | no=>simp at h
  | tb=>simp at h
  | ow d'=>simp at h
  | bo is' d'=>
   by_cases hj:j∈is'
   ·simp[hj] at h
   ·simp[hj] at h
    obtain ⟨e1,e2⟩:=h
    subst e1; subst e2
    exact ⟨rfl,hj⟩
section
variable {K:PySem.W.Frag} {A:Addr->Prop} {H0 Hb H:Hp} {F:Nat->List Addr} {G:List (D×V)} {ρ:Env} {σ:L2.St}
theorem SR.mutS {j:Nat} {a:Addr} {o:HO} {d d':D} {v:V} {f':List Addr} (sr:SR K A H0 F G ρ σ Hb) (s:Same Hb H) (ha:a∈F j) (hm:zE5 (some o)) (hs:ρ[j]? = some (.ow d)) (hv:σ[j]? = some (some v))
  (r:Rep K (upd H a o) d' v f') (nf:f'.Nodup) (hf:∀ b∈f',b∈F j\/Hb b=none) (hmu:∀ b∈f',Mu ((upd H a o) b)):SR K A H0 (w9 F j f') G ((inv j ρ).set j (.ow d')) σ (upd H a o):=by
 have sr1:=sr.same s
 have mua:=((sr1.own j).2 a ha).2
 have hj:j < ρ.length:=(List.getElem?_eq_some_iff.mp hs).1
 have nt:∀ b ob,H b=some ob->IsT ob->(upd H a o) b=some ob:=fun b ob e t=>by
  by_cases h:b=a
  ·subst h
   rw[e] at mua
   have:=mua.m
   cases ob <;> first | exact t.elim | exact this.elim
  ·rw[upd_ne h]; exact e
 have kp:∀ {f:List Addr},a∉f->∀ b∈f,∀ ob,H b=some ob->(upd H a o) b=some ob:=fun {f} hf b hb ob e=>by
  have hne:b≠a:=fun z=>hf (by rw[<- z]; exact hb)
  rw[upd_ne hne]; exact e
 have mu:∀ {b:Addr},Mu (H b)->Mu ((upd H a o) b):=fun {b} h=>by
  by_cases e:b=a
  ·subst e; exact ⟨by rw[upd_same]; exact hm⟩
  ·rw[upd_ne e]; exact h
 have sh:∀ {b:Addr},Hb b≠none->Sh A H0 F b->b≠a/\Sh A H0 (w9 F j f') b:=fun {b} hb h=>by
  refine ⟨fun z=>h.2 j (z ▸ ha),h.1,fun m hm'=>?_⟩
  by_cases e:m=j
  ·subst e
   rw[x5] at hm'
   exact (hf b hm').elim (h.2 m) hb
  ·rw[y5 e] at hm'; exact h.2 m hm'
 refine ⟨by rw[List.length_set,Q8]; exact sr.len,fun b ob e=>?_,fun i=>?_,fun i m b hi hm'=>?_,fun i d2 e=>?_,fun i is d2 e=>?_,fun p hp=>?_,fun i hi hn=>?_,V8 sr.fin,sr1.tbS (fun z=>zm6 (R4 rfl z)) fun b o' e t=>by
  have hb:b≠a:=fun z=>by subst z; exact sr1.teF ha e t
  rw[upd_ne hb]; exact e⟩
 ·have hb:b≠a:=fun z=>by subst z; rw[((sr.own j).2 b ha).1] at e; cases e
  rw[upd_ne hb]; exact sr1.fr b ob e
 ·by_cases e:i=j
  ·subst e
   rw[x5]
   exact ⟨nf,fun b hb=>⟨(hf b hb).elim (fun q=>((sr.own i).2 b q).1) fun q=>sr.fr.free q,hmu b hb⟩⟩
  ·rw[y5 e]
   exact ⟨(sr1.own i).1,fun b hb=>⟨((sr1.own i).2 b hb).1,mu ((sr1.own i).2 b hb).2⟩⟩
 ·by_cases e:i=j
  ·by_cases e':m=j
   ·rw[e,e']
   ·rw[e,x5] at hi; rw[y5 e'] at hm'
    rcases hf b hi with q | q
    ·exact e.trans (sr.dis j m b q hm')
    ·exact absurd q ((sr.own m).2 b hm').2.ne
  ·by_cases e':m=j
   ·rw[e',x5] at hm'; rw[y5 e] at hi
    rcases hf b hm' with q | q
    ·exact (sr.dis i j b hi q).trans e'.symm
    ·exact absurd q ((sr.own i).2 b hi).2.ne
   ·rw[y5 e] at hi; rw[y5 e'] at hm'; exact sr.dis i m b hi hm'
 ·by_cases h:j=i
  ·subst h
   rw[List.getElem?_set_self (by rw[Q8]; exact hj)] at e
   cases e
   exact ⟨v,hv,by rw[x5]; exact r⟩
  ·rw[List.getElem?_set_ne h] at e
   obtain ⟨v2,h1,h2⟩:=sr1.slo i d2 (zf6.mp e)
   rw[y5 (Ne.symm h)]
   exact ⟨v2,h1,h2.frame nt (kp fun z=>h (sr.dis j i a ha z))⟩
 ·by_cases h:j=i
  ·subst h
   rw[List.getElem?_set_self (by rw[Q8]; exact hj)] at e
   cases e
  ·rw[List.getElem?_set_ne h] at e
   obtain ⟨e1,hji⟩:=zB3 e
   obtain ⟨v2,g,h1,h2,h3⟩:=sr.slb i is d2 e1
   have key:∀ b∈g,b≠a/\((∃ m∈is,b∈w9 F j f' m)\/Sh A H0 (w9 F j f') b):=fun b hb=>by
    rcases h3 b hb with ⟨m,hm',q⟩ | q
    ·have hmj:m≠j:=fun z=>hji (z ▸ hm')
     exact ⟨fun z=>hmj (sr.dis m j a (z ▸ q) ha),.inl ⟨m,hm',by rw[y5 hmj]; exact q⟩⟩
    ·obtain ⟨q1,q2⟩:=sh (h2.trk b hb) q
     exact ⟨q1,.inr q2⟩
   exact ⟨v2,g,h1,(h2.same s).frame nt (kp fun z=>(key a z).1 rfl),fun b hb=>(key b hb).2⟩
 ·obtain ⟨g,h1,h2⟩:=sr.gho p hp
  exact ⟨g,(h1.same s).frame nt (kp fun z=>(sh (h1.trk a z) (h2 a z)).1 rfl),fun b hb=>(sh (h1.trk b hb) (h2 b hb)).2⟩
 ·rw[List.length_set,Q8] at hi
  by_cases h:j=i
  ·subst h; exact ⟨d',by rw[List.getElem?_set_self (by rw[Q8]; exact hi)]⟩
  ·rw[y5 (Ne.symm h)] at hn
   obtain ⟨d2,e⟩:=sr.emp i hi hn
   exact ⟨d2,by rw[List.getElem?_set_ne h]; exact zf6.mpr e⟩
def D3 (k:Kd) (ds:List D):Bool:=match k with
 | .own=>true
 | .bor _=>noLs ds
theorem zD0 {k:Kd} {ds:List D} {vs:List V} {f:List Addr} (h:D3 k ds=true) (r:Reps K H ds vs f) (o:KOk A H0 F Hb H k f):f.Nodup/\∀ a∈f,Hb a=none/\Mu (H a):=by
 cases k with
 | own=>exact o
 | bor is=>rw[Reps.noL r h]; exact ⟨List.nodup_nil,fun a ha=>nomatch ha⟩
end
def slD:Option Sl->Option D
 | some (.ow d)=>some d
 | some (.bo _ d)=>some d
 | _=>none
section
variable {X:Cx} {CA:String->Addr} {W:WX} {pos pos' p1 p2 p3:Pos} {e:Expr} {se:SE}
def D6 (i:Nat) (s:SE):SS:=fun ρ=>match ρ[i]? with
 | some (.ow (.lst ds))=>(s ρ).out ρ fun x=>if D3 x.1 [x.2]=true/\ds.length < LIM then .nx ((inv i ρ).set i (.ow (.lst (ds++[x.2])))) else .st
 | _=>.st
theorem zs9 (i:Nat) {x:Str} (he:PE X e (tE X.K CA W se)) (hi:X.N[i]? = some x:=by rfl) (hv:Vis X.env.scope x:=by first | exact Or.inl rfl | exact Or.inr (Or.inl rfl) | exact Or.inr (Or.inr rfl)) (hd:(x == ("__debug__" : Str))=false:=by decide)
  (hcd:(x == ("__classdict__" : Str))=false:=by decide) (hst:starEach [e] X.env=[(false,eval e X.env)]:=by rfl) (hs:swapsWith (.Call (.Attribute (.Name x p1) "append" p2) [e] [] p3) none pos.line X.env=pure false:=by rfl)
  (hline:(p2.endLine == p3.line)=true:=by rfl) :
  PS X (.Expr (.Call (.Attribute (.Name x p1) "append" p2) [e] [] p3) pos) (tS X.K CA W (D6 i se)):=by
 refine psI (ps_expr (pe_bm PySem.F.plainAttrs_list PySem.F.slot_list_append PySem.F.type_list_append mt_append (pe_var hi hv hd hcd) (pa_cons he pa_nil hst) rfl (by rw[hst]; rfl) hline hst rfl) hs) fun D σ H ⟨A,H0,F,G,ρ,sr,h⟩=>?_
 have h:n8 X.K CA W A H0 G D (D6 i se ρ):=h
 unfold D6 at h
 split at h
 ·rename_i ds hsl
  obtain ⟨v,hv,r0⟩:=sr.slo i _ hsl
  obtain ⟨Fi,hFi⟩:∃ f,F i=f:=⟨_,rfl⟩
  rw[hFi] at r0
  cases r0 with
  | @lst a vs _ f0 hl q0=>
   refine ⟨_,hv,.inl ⟨rfl,_,.of hl⟩,?_⟩
   refine ⟨A,H0,F,G,ρ,sr,(lift h sr).imp fun ⟨k,d⟩ _ q y H1 f1 s1 r1 o1=>?_⟩
   by_cases hc:D3 k [d]=true/\ds.length < LIM
   ·have q:n8 X.K CA W A H0 G D (if D3 k [d]=true/\ds.length < LIM then .nx ((inv i ρ).set i (.ow (.lst (ds++[d])))) else .st):=q
    rw[if_pos hc] at q
    have hl1:=s1 _ _ hl
    have rs:Reps X.K H1 [d] [y] f1:=by
     have:=Reps.cons r1 (Reps.nil (K:=X.K) (H:=H1))
     rw[List.append_nil] at this
     exact this
    obtain ⟨n1,m1⟩:=zD0 hc.1 rs o1
    have own:=sr.own i
    rw[hFi] at own
    have haF:a∈F i:=by rw[hFi]; exact List.mem_cons_self
    have trk0:∀ b∈a::f0,H b≠none:=fun b hb=>(own.2 b hb).2.ne
    have nd:=List.nodup_cons.mp own.1
    have ne1:∀ b∈f1,b≠a:=fun b hb z=>trk0 a List.mem_cons_self (z ▸ (m1 b hb).1)
    refine ⟨a,vs,y,rfl,rfl,hl1,by rw[<- O4,<- q0.length]; exact hc.2,?_⟩
    have nt:∀ b ob,H1 b=some ob->IsT ob->(upd H1 a (.lst (vs++[y]))) b=some ob:=fun b ob e t=>by
     by_cases h:b=a
     ·subst h; rw[hl1] at e; cases e; exact t.elim
     ·rw[upd_ne h]; exact e
    have kp:∀ {f:List Addr},(∀ b∈f,b≠a)->∀ b∈f,∀ ob,H1 b=some ob->(upd H1 a (.lst (vs++[y]))) b=some ob:=fun {f} hf b hb ob e=>by rw[upd_ne (hf b hb)]; exact e
    have r':Rep X.K (upd H1 a (.lst (vs++[y]))) (.lst (ds++[d])) (.ref a) (a::(f0++f1)):=
     .lst upd_same (((q0.same s1).frame nt (kp fun b hb z=>nd.1 (z ▸ hb))).app (rs.frame nt (kp ne1)))
    refine q σ _ _ (sr.mutS s1 haF trivial hsl hv r' ?_ (fun b hb=>?_) fun b hb=>?_)
    ·refine List.nodup_cons.mpr ⟨fun z=>?_,List.nodup_append.mpr ⟨nd.2,n1,fun b hb c hc' e=>?_⟩⟩
     ·rcases List.mem_append.mp z with z | z
      ·exact nd.1 z
      ·exact ne1 a z rfl
     ·subst e; exact trk0 b (List.mem_cons_of_mem _ hb) (m1 b hc').1
    ·rw[hFi]
     rcases List.mem_cons.mp hb with e | hb
     ·subst e; exact .inl List.mem_cons_self
     ·rcases List.mem_append.mp hb with hb | hb
      ·exact .inl (List.mem_cons_of_mem _ hb)
      ·exact .inr (m1 b hb).1
    ·by_cases e:b=a
     ·subst e; exact ⟨by rw[upd_same]; trivial⟩
     ·rw[upd_ne e]
      rcases List.mem_cons.mp hb with z | hb
      ·exact absurd z e
      ·rcases List.mem_append.mp hb with hb | hb
       ·exact ((own.2 b (List.mem_cons_of_mem _ hb)).2).same s1
       ·exact (m1 b hb).2
   ·have q:n8 X.K CA W A H0 G D (if D3 k [d]=true/\ds.length < LIM then .nx ((inv i ρ).set i (.ow (.lst (ds++[d])))) else .st):=q
    rw[if_neg hc] at q
    exact q.elim
 ·exact h.elim
end
def zK2 (m:Nat) (body:SS) (ds:List D):R KD:=match body (ds.map (Sl.bo [])++List.replicate (m - ds.length) .no) with
 | .rt k d=>.ok (nk k d,d)
 | .nx _=>.ok (.own,.non)
 | .ex c _=>.ex c
 | _=>.st
def mkF (n m:Nat) (body:SS):Fn:=fun ds=>if ds.length=n then zK2 m body ds else .st
section
variable {K:PySem.W.Frag}
theorem Reps.getI:∀ {H:Hp} {ds:List D} {vs:List V} {f:List Addr} {i:Nat} {d:D},Reps K H ds vs f->ds[i]? = some d->∃ v g,vs[i]? = some v/\Rep K H d v g/\∀ b∈g,b∈f:=fun r e=>
 let ⟨v,g,h1,h2,h3,_⟩:=r.get e; ⟨v,g,h1,h2,h3⟩
theorem SR.init {A:Addr->Prop} {H:Hp} {ds:List D} {vs:List V} {f:List Addr} {N:List Str} (r:Reps K H ds vs f) (hA:∀ a∈f,A a) (hN:ds.length<=N.length) :
  SR K A H (fun _=>[]) [] (ds.map (Sl.bo [])++List.replicate (N.length - ds.length) Sl.no) (start N vs) H:=by
 have no:∀ (i:Nat) (x:Sl),(ds.map (Sl.bo [])++List.replicate (N.length - ds.length) Sl.no)[i]? = some x->x=.no\/∃ d,ds[i]? = some d/\x=.bo [] d:=fun i x e=>by
  by_cases hi:i < ds.length
  ·rw[List.getElem?_append_left (by simpa using hi),List.getElem?_map] at e
   cases hd:ds[i]? with
   | none=>rw[hd] at e; cases e
   | some d=>rw[hd] at e; cases e; exact .inr ⟨d,rfl,rfl⟩
  ·rw[List.getElem?_append_right (by simpa using hi),List.getElem?_replicate] at e
   split at e
   ·cases e; exact .inl rfl
   ·cases e
 refine ⟨?_,Same.refl H,fun i=>⟨List.nodup_nil,(fun a ha=>nomatch ha)⟩,(fun i j a hi=>nomatch hi),fun i d e=>?_,fun i is d e=>?_,(fun p hp=>nomatch hp),fun i _ hn=>absurd rfl hn,⟨0,fun _ _=>rfl⟩,fun z=>by
  obtain ⟨i,e⟩:=zc8.mp z
  rcases no i _ e with q | ⟨d',_,q⟩ <;> cases q⟩
 ·unfold L2.start
  rw[List.length_append,List.length_append,List.length_map,List.length_map,List.length_replicate,List.length_replicate,r.length]
 ·rcases no i _ e with q | ⟨d',_,q⟩ <;> cases q
 ·rcases no i _ e with q | ⟨d',hd,q⟩
  ·cases q
  ·cases q
   obtain ⟨v,g,h1,h2,h3⟩:=r.getI hd
   refine ⟨v,g,?_,h2,fun a ha=>.inr ⟨.inl (hA a (h3 a ha)),fun j hj=>nomatch hj⟩⟩
   have hi:i < vs.length:=(List.getElem?_eq_some_iff.mp h1).1
   unfold L2.start
   rw[List.getElem?_append_left (by simpa using hi),List.getElem?_map,h1]
   rfl
end
section
variable {P:Program} {w:World} {K:PySem.W.Frag} {mg:Str->Option Value} {base:Heap} {CA:String->Addr}
theorem Z9 {fn:Fn} {x qual:Str} {st:Stmt} {f:Addr} {fd:FuncData} {N ps:List Str} {k:Nat} {body:SS} {dvs:List V} (Fu:FunD K x qual (defArgs st) (defBody st) (defScope st) dvs [] f fd) (S:FnScope N ps (defScope st))
  (hb:∀ (cdv:Value) (A:Around) (outer:List PySem.Env) (s:Shared) (H:Hp) (E:XK),Room k (A.deeper (envOfC qual (defScope st) s.heap.objs.size f cdv)) ->
   PSs (cxOf (L2.CX P w) P w K mg base N qual (defScope st) f cdv A outer s H E) (defBody st) (tS K CA (fun cls d _ H=>E cls d H) body))
  (hx:∀ ds,ds.length=ps.length->fn ds=zK2 N.length body ds)
  (hN:ps.length<=N.length):FnOk P w K mg base (L2.CX P w) (k + 1) f fd ps (spF K CA fn ps.length):=by
 refine Fu.ok S (fun vs H Q E ⟨A,ds,g,h1,h2,_⟩=>by rw[<- h2.length]; exact h1) fun cdv Ar outer s H vs Q E hr ⟨A,ds,g,h1,h2,h3,h4⟩=>?_
 refine ⟨_,hb cdv Ar outer s H E hr,A,H,fun _=>[],[],_,SR.init h2 h3 (by rw[h1]; exact hN),?_⟩
 rw[hx ds h1] at h4
 unfold zK2 at h4
 cases hbo:body (ds.map (Sl.bo [])++List.replicate (N.length - ds.length) .no) with
 | nx ρ=>
  simp only[hbo] at h4
  exact fun σ' H' F' sr=>h4 .non H' [] sr.fr .non ⟨List.nodup_nil,fun a ha=>nomatch ha⟩
 | rt k d=>
  simp only[hbo] at h4
  refine fun v H' f s r o=>h4 v H' f s r ?_
  unfold nk
  split
  ·rename_i hz; rw[Rep.noL r hz]; exact ⟨List.nodup_nil,fun a ha=>nomatch ha⟩
  ·exact o
 | bk ρ=>simp only[hbo] at h4
 | ct ρ=>simp only[hbo] at h4
 | ex c ρ=>simp only[hbo] at h4; exact fun σ' H' F' sr=>h4 H' sr.fr
 | st=>simp only[hbo] at h4
 | ri ρ k d=>simp only[hbo] at h4
end
theorem X2 {k:Nat} {A:Around} (hr:Room k A):A.units + 65 < cLine:=by have:=hr.un; omega
structure ExG (K:PySem.W.Frag) (mg:Str->Option Value) (CA:String->Addr) (x:String):Prop where
 i:PySem.W.excIn K (CA x) [.type "ValueError",.type "Exception",.type "BaseException",.type "object"] "ValueError.__new__" = true
 g:mg (Str.ofString x)=some (.ref (CA x))
 k:PySem.W.keepIn K (.ref (CA x))=true
 b:PySem.W.subIn K (.ref (CA x)) (.type "BaseException")=some true
 t:PySem.W.typeIn K (.ref (CA x))=some (.type "type")
theorem ExG.r {X:Cx} {CA:String->Addr} {x:String} {mg:Str->Option Value} (e:ExG X.K mg CA x):Raises X (.ref (CA x)):=raises_own e.b e.t
def T1 (mg:Str->Option Value) (x:String):Addr:=match mg (Str.ofString x) with
 | some (.ref a)=>a
 | _=>0
theorem zB2 {K:PySem.W.Frag} {h:Heap} {mg:Str->Option Value} {C:Addr} {x:String} (X:K.In h) (G:h.Ns mainGlobals mg) (a:PySem.W.nsIn K mainGlobals (Str.ofString x)=some (some (.ref C))) (i:PySem.W.excIn K C [.type "ValueError",.type "Exception",.type "BaseException",.type "object"] "ValueError.__new__" = true)
  (k:PySem.W.keepIn K (.ref C)=true) (b:PySem.W.subIn K (.ref C) (.type "BaseException")=some true) (t:PySem.W.typeIn K (.ref C)=some (.type "type")):ExG K mg (T1 mg) x:=by
 have e:mg (Str.ofString x)=some (.ref C):=PySem.W.mg_of X G a
 have e2:T1 mg x=C:=by unfold T1; rw[e]
 exact ⟨e2 ▸ i,by rw[e2]; exact e,e2 ▸ k,e2 ▸ b,e2 ▸ t⟩
section
variable {P:Program} {w:World} {K:PySem.W.Frag} {mg:Str->Option Value} {base:Heap} {CA:String->Addr}
theorem O3 {k:Nat} {x:String} {n:Nat} {ps:List Str} {m:Nat} {body:SS} {f:Addr} {fd:FuncData} {dvs:List V} {ds:List Value} {dd:List D} (hm:mg (Str.ofString x)=some (.ref f)) (h:FnOk P w K mg base (L2.CX P w) k f fd ps (spF K CA (mkF n m body) ps.length))
  (kp:PySem.W.keepIn K (.ref f)=true) (b:Binds K fd ps ds) (v:Vals dvs ds) (r:∀ H,Reps K H dd dvs []) (hn:n=ps.length):FnG P w K mg base CA (mkF n m body) k x dd:=by
 refine ⟨f,fd,ps,dvs,ds,hm,h,kp,b,v,r,fun as z=>?_⟩
 unfold mkF at z
 split at z
 ·rw[<- hn]; assumption
 ·exact absurd rfl z
theorem j8 {n m:Nat} {body:SS} {ds:List D} (h:ds.length=n):mkF n m body ds=zK2 m body ds:=if_pos h
theorem i9 {x qual:Str} {st:Stmt} {f:Addr} {oc:Value} {od an:Option Addr} {osl:Array (Option Value)} {kV doc pm cdv ct:Value} (l:K.lookup f=some ⟨oc,od,.func (PySem.W.fnOf x qual (defArgs st) (defBody st) (defScope st) .none kV doc pm an cdv ct),osl⟩)
  (c:PySem.W.codeIn K cdv qual=true) (k:PySem.W.keepIn K (.ref f)=true):FunD K x qual (defArgs st) (defBody st) (defScope st) [] [] f (PySem.W.fnOf x qual (defArgs st) (defBody st) (defScope st) .none kV doc pm an cdv ct):=
 ⟨⟨oc,od,_,kV,doc,pm,an,cdv,ct,osl,rfl,l,c,.inl ⟨rfl,rfl⟩,.inl rfl⟩,k⟩
theorem z89 {x qual:Str} {st:Stmt} {f T:Addr} {oc oc2:Value} {od od2 an:Option Addr} {osl osl2:Array (Option Value)} {kV doc pm cdv ct:Value} {dvs:List V} {its:List Value} {n:Nat} (l:K.lookup f=some ⟨oc,od,.func (PySem.W.fnOf x qual (defArgs st) (defBody st) (defScope st) (.ref T) kV doc pm an cdv ct),osl⟩)
  (c:PySem.W.codeIn K cdv qual=true) (k:PySem.W.keepIn K (.ref f)=true) (lT:K.lookup T=some ⟨oc2,od2,.seq its.toArray n,osl2⟩) (v:Vals dvs its) (hd:dvs≠[]) :
  FunD K x qual (defArgs st) (defBody st) (defScope st) dvs [] f (PySem.W.fnOf x qual (defArgs st) (defBody st) (defScope st) (.ref T) kV doc pm an cdv ct):=
 ⟨⟨oc,od,_,kV,doc,pm,an,cdv,ct,osl,rfl,l,c,.inr ⟨hd,T,_,its,n,rfl,lT,rfl,v⟩,.inl rfl⟩,k⟩
def z0U (K:PySem.W.Frag):Sp:=fun vs H Q _=>∃ (a:Addr) (ns:List Int),vs=[.ref a]/\SqL K H a (ns.map V.int)/\ns.length<=63/\(∀ z∈ns,Builtin.Int.intBits z<=1048576)/\∀ H',Q (.bl true) H'
theorem zI5 {fn:Fn} (h:∀ ns:List Int,ns.length<=63->(∀ z∈ns,Builtin.Int.intBits z<=1048576)->fn [.scr (ns.map D.int)]=.ok (.own,.bl true)) {a:Addr} {ns:List Int} (H:Hp) (Q:VK) (E:XK) (hl:ns.length<=63) (hb:∀ z∈ns,Builtin.Int.intBits z<=1048576)
  (q:∀ H',Q (.bl true) H') (hS:(∀ H',SqL K H' a (ns.map V.int))\/∃ o,H a=some (.frz o (.lst (ns.map V.int)))):spF K CA fn 1 [.ref a] H Q E:=by
 have r:Rep K H (.scr (ns.map D.int)) (.ref a) []:=.scr hS (Reps.ints ns)
 have r2:Reps K H [D.scr (ns.map D.int)] [V.ref a] []:=by
  have:=Reps.cons r (Reps.nil (K:=K) (H:=H))
  rw[List.append_nil] at this
  exact this
 refine ⟨fun _=>True,_,[],rfl,r2,fun _ _=>trivial,?_⟩
 rw[h ns hl hb]
 intro v H' g s rv o
 cases rv
 exact q H'
theorem z7D {k:Nat} {f:Addr} {fd:FuncData} {ps:List Str} {fn:Fn} (F:FnOk P w K mg base (L2.CX P w) k f fd ps (spF K CA fn 1))
  (h:∀ ns:List Int,ns.length<=63->(∀ z∈ns,Builtin.Int.intBits z<=1048576)->fn [.scr (ns.map D.int)]=.ok (.own,.bl true)):FnOk P w K mg base (L2.CX P w) k f fd ps (z0U K):=by
 refine ⟨fun vs H Q E ⟨a,ns,e,hS,hl,hb,q⟩=>?_,fun A outer s H args us vs Q E hr he hbi hv ⟨a,ns,e,hS,hl,hb,q⟩=>?_⟩
 ·subst e
  exact F.len _ (fun b=>if b=a then some (.frz default (.lst (ns.map V.int))) else H b) Q E (zI5 h _ _ _ hl hb q (.inr ⟨default,if_pos rfl⟩))
 ·subst e
  rcases hS with (hS | hS) | hS
  ·
   have hoa:=he.hok a _ hS
   have hoa':=hoa
   obtain ⟨_,_,_,_,hg⟩:=hoa'
   obtain ⟨o,ho⟩:∃ o,s.heap.get? a=some o:=⟨_,hg⟩
   let H':Hp:=fun b=>if b=a then some (.frz o (.lst (ns.map V.int))) else H b
   have ha:H' a=some (.frz o (.lst (ns.map V.int))):=if_pos rfl
   have hne:∀ {b:Addr},b≠a->H' b=H b:=fun {b} q=>if_neg q
   have nea:∀ {b:Addr} {u:HO},H b=some u->u≠.lst (ns.map V.int)->b≠a:=fun {b u} e1 e2 e3=>by
    subst e3; rw[hS] at e1; exact e2 (Option.some.inj e1).symm
   have non:∀ {b:Addr},H b=none->b≠a:=fun {b} e1 e3=>by subst e3; rw[hS] at e1; cases e1
   have stay:∀ {b:Addr} {u:HO},ObjOk P w H s.heap b u->ObjOk P w H' s.heap b u:=fun {b u} x=>
    x.stay (fun _ _ _ q=>q) (fun c e1=>by rw[hne (nea e1 (fun z=>by cases z))]; exact e1) fun c xs e1=>by rw[hne (nea e1 (fun z=>by cases z))]; exact e1
   have hok:HOk P w H' s.heap:=fun b u e1=>by
    by_cases hb:b=a
    ·subst hb
     rw[ha] at e1
     cases e1
     exact ⟨ho,stay hoa⟩
    ·rw[hne hb] at e1
     exact stay (he.hok b u e1)
   have he':Env0 P w K mg base A outer s H':=⟨he.frames,he.mod,fun b ob e1=>⟨(he.bs b ob e1).1,by rw[hne (non (he.bs b ob e1).2)]; exact (he.bs b ob e1).2⟩,he.bsz,he.funs,fun b hb=>by rw[hne (non (he.frf b hb))]; exact he.frf b hb,hok,he.bare⟩
   refine codeAny_mono (F.run A outer s H' args us _ Q (fun _ _ _=>False) hr he' hbi hv (zI5 h _ _ _ hl hb q (.inr ⟨o,ha⟩))) fun r s' hq=>?_
   have un:∀ {H2:Hp} {h2:Heap},Un (frs outer) [] H' H2 s.heap h2->Un (frs outer) [] H H2 s.heap h2:=fun {H2 h2} U=>
    ⟨fun b ob e1 e2=>U.keep b ob e1 (by rw[hne (non e2)]; exact e2),fun b ob e1 e2=>U.slot b ob e1 (by rw[hne (non e2)]; exact e2),fun b ob e1 e2=>U.free b ob e1 (by rw[hne (non e2)]; exact e2),U.there,
     fun b xs e1=>U.tups b xs (by rw[hne (nea e1 (fun z=>by cases z))]; exact e1),fun b ob u e1=>U.frzs b ob u (by rw[hne (nea e1 (fun z=>by cases z))]; exact e1),fun b pp e1=>U.tbls b pp (by rw[hne (nea e1 (fun z=>by cases z))]; exact e1)⟩
   cases r with
   | error er=>
    obtain ⟨_,_,_,_,_,_,_,_,_,_,_,_,z⟩:=hq
    exact z.elim
   | ok fl=>
    cases fl with
    | ret u=>
     obtain ⟨v,H2,e1,e2,e3,e4,e5,e6⟩:=hq
     exact ⟨v,H2,e1,e2,un e3,e4,e5,e6⟩
    | next=>exact hq
    | brk=>exact hq
    | cont=>exact hq
  ·exact F.run A outer s H args us _ Q E hr he hbi hv (zI5 h _ _ _ hl hb q (.inr hS))
  ·exact F.run A outer s H args us _ Q E hr he hbi hv (zI5 h _ _ _ hl hb q (.inl fun H'=>.inr hS))
end
section
theorem zJ4 {v:Value} {o:Obj} {Hh:Heap->Prop} (B:Begins v o Hh):Meets (Builtin.«enumerate.__new__» ⟨[.type "enumerate",v],[]⟩) (fun _ R s=>Hh s.heap/\R (.ok (.ret (.ref (s.heap.push o).objs.size)))
   { s with heap:=(s.heap.push o).push { cls:=.type "enumerate",data:=.fields #[.none,.bool false,.ref s.heap.objs.size,rawInt 0,.none,.none] } }):=
 .of_wp fun prog w A R s ⟨h1,h⟩=>by
  obtain ⟨hp,g,d,tk,os⟩:=s
  have hsub:=sub_enumerate
  have it1:∀ {A':Around} {E:Value->Shared->Prop} {Q:Value->Shared->Prop},Q (.ref hp.objs.size) ⟨hp.push o,g,d,tk,os⟩->wpAny (model prog w) A' (pyIter v) Q E ⟨hp,g,d,tk,os⟩:=
   fun q=>B.iter prog w _ _ ⟨hp,g,d,tk,os⟩ _ h1 q
  wp_walk using it1
  refine wpAny_stack_any fun st=>wpAny_pure ?_
  split
  ·rename_i c _ _ _ _ _
   cases (c == Value.type "enumerate") <;> (wp_walk using it1; exact ⟨_,rfl,h⟩)
  ·wp_walk using it1
   exact ⟨_,rfl,h⟩
theorem zP1 {prog:Program} {w:World} {A:Around} {E:Value->Shared->Prop} {s:Shared} {v:Value} {o:Obj} {Hh:Heap->Prop} {Q:Value->Shared->Prop} (B:Begins v o Hh) (h1:Hh s.heap)
  (h:∀ h',IsEnum h' (s.heap.objs.size + 1) s.heap.objs.size 0 .none->h'.get? s.heap.objs.size=some o->(∀ b ob,s.heap.get? b=some ob->h'.get? b=some ob)->Q (.ref (s.heap.objs.size + 1)) { s with heap:=h' }) :
  wpAny (model prog w) A (call (.type "enumerate") [v]) Q E s:=by
 refine callType_new F.called_enumerate (by decide) (F.typeCall_enumerate_1 _) (F.newCall_enumerate_1 _) (fun obj=>F.args_object_init_2 obj _) F.entry_enumerate_new (zJ4 B) ⟨h1,?_⟩
 have hz:(s.heap.push o).objs.size=s.heap.objs.size + 1:=Heap.size_push ..
 show _/\_
 rw[hz]
 have he:IsEnum ((s.heap.push o).push { cls:=.type "enumerate",data:=.fields #[.none,.bool false,.ref s.heap.objs.size,rawInt 0,.none,.none] }) (s.heap.objs.size + 1) s.heap.objs.size 0 .none:=by
  have:=Heap.get?_push_size (s.heap.push o) (o:={ cls:=.type "enumerate",data:=.fields #[.none,.bool false,.ref s.heap.objs.size,rawInt 0,.none,.none] }) rfl
  rw[hz] at this; exact this
 exact ⟨⟨_,he,rfl⟩,h _ he (Heap.get?_push_of_some _ (Heap.get?_push_size _ B.free)) fun b ob x=>Heap.get?_push_of_some _ (Heap.get?_push_of_some _ x)⟩
end
def z3c (K:PySem.W.Frag) (a:Addr):It:=
 ⟨fun i H=>∃ (xs:List V) (x:V),SqT K H a xs/\xs[i]? = some x,fun i H v H'=>∃ T x,v=.ref T/\H T=none/\H'=upd H T (.tup [.int (i:Nat),x])/\∀ xs,SqT K H a xs->xs[i]? = some x,fun i H=>∃ xs:List V,SqT K H a xs/\xs.length=i⟩
theorem z0O {P:Program} {w:World} {K:PySem.W.Frag} {elts:List Expr} {kk:Nat} {tpos:Pos} (a e it:Addr) :
  Turn P w K (.Tuple elts kk tpos) (z3c K a) [e,it] e (fun i h=>(∃ old,IsEnum h e it ((i:Nat):Int) old)/\h.IsTupleIter it a i/\e≠it/\e≠a/\a≠it) where
 mem:=by simp
 obj:=fun i h st b hb=>by
  obtain ⟨⟨old,he⟩,⟨o,ho,hc,hd⟩,_⟩:=st
  have e':b=e\/b=it:=by simpa using hb
  rcases e' with z | z
  ·rw[z]; exact ⟨_,he,fun v q=>nomatch q⟩
  ·rw[z]; exact ⟨o,ho,fun v q=>by rw[hd] at q; cases q⟩
 keep:=fun i h h' ⟨⟨old,he⟩,hi,hne⟩ k=>⟨⟨old,k e (by simp) _ he⟩,hi.at fun o q=>k it (by simp) o q,hne⟩
 item:=by
  intro X hP hw hK hc i pins s σ H E I hf st hg
  subst hP hw hK
  obtain ⟨⟨old,he⟩,hit,hne,hea,hai⟩:=st
  obtain ⟨xs,x,hq,hx⟩:=hg
  obtain ⟨its,rv,p,hz⟩:=I.tuple hq
  have p:s.heap.IsTuple a its.toArray:=p
  obtain ⟨u,hu,ru⟩:=rv.get hx
  have hel:e < s.heap.objs.size:=Heap.lt_size he
  have hil:it < s.heap.objs.size:=by obtain ⟨_,q,_⟩:=hit; exact Heap.lt_size q
  have hin:i < its.toArray.size:=by
   have:i < its.length:=(List.getElem?_eq_some_iff.mp hu).1
   simpa using this
  refine wpAny_pyNext_enum_itemD (Draws.tuple (A:=X.A.in1) (I.ok.hd hc) it a hai its.toArray) he ⟨hit,p⟩ hin hne (by simp[hne,hea]) fun y h' tk hy ho hst' hT hsz hk=>?_
  have ey:y=u:=by
   have hy:its.toArray[i]? = some y:=hy
   have:its[i]? = some y:=by simpa using hy
   rw[hu] at this
   exact (Option.some.inj this).symm
  subst ey
  refine ⟨_,rfl,wpAny_letOwnedTupleGo_enum (s:={ s with heap:=h',toks:=tk + 1 }) ho fun h'' he' sb=>?_⟩
  have hT2:h''.get? s.heap.objs.size=some { cls:=.type "tuple",data:=.seq #[.int i tk,y] }:=(sb.2 _ (Nat.ne_of_gt hel)).trans hT
  have new:ObjOk X.prog X.w (upd H s.heap.objs.size (.tup [.int (i:Nat),x])) h'' s.heap.objs.size (.tup [.int (i:Nat),x]):=
   ⟨by show 2<=sizeLine; decide,[.int i tk,y],.cons ⟨_,rfl⟩ (.cons ru .nil),⟨_,hT2,rfl,_,rfl⟩⟩
  have I1:Inv X pins σ (upd H s.heap.objs.size (.tup [.int (i:Nat),x])) { s with heap:=h'',toks:=tk + 1 }:=
   I.turnedNew (ch:=[e,it]) (fun b ob hb q=>(sb.2 b (fun z=>hb (by simp[z]))).trans (hk b ob (fun z=>hb (by simp[z])) (fun z=>hb (by simp[z])) q)) hf (Nat.le_refl _) new
  refine ⟨.ref s.heap.objs.size,_,I1,rfl,⟨_,x,rfl,I.hok.fresh (Nat.le_refl _),rfl,fun ys hy=>by rw[I.tuple_inj hy hq]; exact hx⟩,⟨⟨y,?_⟩,hst'.1.at fun o q=>(sb.2 it (Ne.symm hne)).trans q,hne,hea,hai⟩,fun b hb=>?_⟩
  ·have e1:((i + 1:Nat):Int)=(i:Int) + 1:=by omega
   rw[e1]; exact he'
  ·have hb':b < s.heap.objs.size:=by
    have e':b=e\/b=it:=by simpa using hb
    rcases e' with z | z <;> rw[z] <;> assumption
   rw[upd_ne (Nat.ne_of_lt hb')]
   exact (hf b hb).1
 done:=by
  intro X hP hw hK hc i pins s σ H E I hf st hg
  subst hP hw hK
  obtain ⟨⟨old,he⟩,hit,hne,hea,hai⟩:=st
  obtain ⟨xs,hq,hx⟩:=hg
  obtain ⟨its,rv,p,hz⟩:=I.tuple hq
  have p:s.heap.IsTuple a its.toArray:=p
  obtain ⟨f0,f1,f2,f3,f4,f5⟩:=hf it (by simp)
  have hl:=rv.length
  have hi:i=its.toArray.size:=by simp; omega
  rw[hi] at hit
  exact wpAny_pyNext_enum_endD (Draws.tuple (A:=X.A.in1) (I.ok.hd hc) it a hai its.toArray) he ⟨hit,p⟩ fun h' eb=>⟨rfl,I.turned (t':=s.toks) (fun b o hb q=>eb b o hb q) f0 f1 f3 f4 f5⟩
 self:=fun A i s Q E st h=>let ⟨⟨_,he⟩,_⟩:=st; wpAny_pyIter_enum he h
def z7H (K:PySem.W.Frag) (ta:TA):TI:=fun σ H R=>ta σ H fun vs H1=>∃ a,vs=[.ref a]/\(((∃ xs,SqL K H1 a xs)/\R (Ite K a) H1)\/((∃ xs,SqT K H1 a xs)/\R (z3c K a) H1))
theorem z3Y {X:Cx} {e:Expr} {ta:TA} {p pos tpos:Pos} {elts:List Expr} {kk:Nat} (hg:Gl X "enumerate") (hm:X.mg "enumerate" = none) (ha:PA X [e] ta) (hs:starEach [e] X.env=[(false,eval e X.env)]:=by rfl) :
  PI X (.Tuple elts kk tpos) (.Call (.Name "enumerate" p) [e] [] pos) (z7H X.K ta):=by
 refine ⟨fun pins s σ H R I h=>?_⟩
 refine Call_ (ld_blt I hg hm boot_enumerate (PyProof.Rows.callWith_type1 (thn (ha.run pos pins s σ H _ I h) fun us s1 ⟨vs,H1,I1,r1,a,ex,q⟩=>?_) hs rfl))
 subst ex
 cases r1 with
 | cons r rr=>
  cases rr
  cases r
  have two:∀ b,b∈[s1.heap.objs.size + 1,s1.heap.objs.size]->s1.heap.objs.size<=b:=fun b hb=>by
   have e':b=s1.heap.objs.size + 1\/b=s1.heap.objs.size:=by simpa using hb
   omega
  rcases q with ⟨⟨xs,hq⟩,q⟩ | ⟨⟨xs,hq⟩,q⟩
  ·obtain ⟨its,rv,p',hz⟩:=I1.list hq
   refine zP1 (begins_list a its.toArray) p'.isList fun h' he hit hk=>wpAny_pyIter_enum he ?_
   exact ⟨s1.heap.objs.size + 1,[s1.heap.objs.size + 1,s1.heap.objs.size],_,_,H1,rfl,I1.kept (t':=s1.toks) hk,turn_enum a (s1.heap.objs.size + 1) s1.heap.objs.size,⟨⟨.none,he⟩,⟨_,hit,rfl,rfl⟩,Nat.succ_ne_self _⟩,
    fun b hb=>I1.fpOk (two b hb) (I1.hok.fresh (two b hb)),q⟩
  ·obtain ⟨its,rv,p',hz⟩:=I1.tuple hq
   have p':s1.heap.IsTuple a its.toArray:=p'
   have hal:a < s1.heap.objs.size:=by obtain ⟨o,ho,_⟩:=p'; exact Heap.lt_size ho
   refine zP1 (begins_tuple a its.toArray) p' fun h' he hit hk=>wpAny_pyIter_enum he ?_
   exact ⟨s1.heap.objs.size + 1,[s1.heap.objs.size + 1,s1.heap.objs.size],_,_,H1,rfl,I1.kept (t':=s1.toks) hk,z0O a (s1.heap.objs.size + 1) s1.heap.objs.size,⟨⟨.none,he⟩,⟨_,hit,rfl,rfl⟩,Nat.succ_ne_self _,Nat.ne_of_gt (Nat.lt_succ_of_lt hal),Nat.ne_of_lt hal⟩,
    fun b hb=>I1.fpOk (two b hb) (I1.hok.fresh (two b hb)),q⟩
def R6:Nat->List D->List D
 | _,[]=>[]
 | i,d::ds=>.tup [.int (i:Int),d]::R6 (i + 1) ds
theorem A2:∀ (ds:List D) (i:Nat),(R6 i ds).length=ds.length
 | [],_=>rfl
 | _::ds,i=>by simp[R6,A2 ds]
theorem zA6:∀ (ds:List D) (i j:Nat),(R6 i ds)[j]? = ds[j]?.map fun d=>.tup [.int ((i + j:Nat):Int),d]
 | [],_,_=>by simp[R6]
 | d::ds,i,0=>by simp[R6]
 | d::ds,i,j + 1=>by
  simp only[R6,List.getElem?_cons_succ,zA6 ds]
  rw[show i + 1 + j=i + (j + 1) by omega]
def zI1 (s:SE):SI:=fun ρ=>(s ρ).bind fun x=>match x.2 with
 | .lst ds=>.ok (x.1,R6 0 ds)
 | .scr ds=>.ok (x.1,R6 0 ds)
 | .tup ds=>.ok (x.1,R6 0 ds)
 | _=>.st
section
variable {K:PySem.W.Frag}
theorem zR9 {H:Hp} {T:Addr} {i:Int} {d:D} {x:V} {g:List Addr} (hT:H T=none) (r:Rep K H d x g):Rep K (upd H T (.tup [.int i,x])) (.tup [.int i,d]) (.ref T) g:=by
 have:Reps K (upd H T (.tup [.int i,x])) [.int i,d] [.int i,x] ([]++(g++[])):=.cons (.int i) (.cons (r.same (V6 hT)) .nil)
 rw[List.nil_append,List.append_nil] at this
 exact .tup upd_same this
theorem zI2 {ds:List D} {a:Addr} {d0:D} (hd:d0=.lst ds\/d0=.scr ds):IterOk K (Ite K a) (R6 0 ds) [(d0,.ref a)]:=by
 have get:∀ {H P},Gh K H P [(d0,.ref a)]->∃ vs g,SqL K H a vs/\Reps K H ds vs g/\∀ b∈g,P b:=fun {H P} h=>by
  obtain ⟨f,r,hp⟩:=h _ List.mem_cons_self
  rcases hd with e | e <;> subst e
  ·obtain ⟨a',vs,g,e,t,q,i,n⟩:=r.lstI
   cases e
   exact ⟨vs,g,t,q,fun b hb=>hp b (i b hb)⟩
  ·obtain ⟨a',vs,g,e,t,q,i,n⟩:=r.scrI
   cases e
   exact ⟨vs,g,t,q,fun b hb=>hp b (i b hb)⟩
 refine ⟨fun H P i hi h=>?_,fun H P h=>?_,fun H P i x H' hi h y=>?_⟩
 ·obtain ⟨vs,g,t,q,_⟩:=get h
  rw[A2] at hi
  have hv:i < vs.length:=by rw[<- q.length]; exact hi
  exact ⟨vs,vs[i],t,by simp[hv]⟩
 ·obtain ⟨vs,g,t,q,_⟩:=get h
  exact ⟨vs,t,by rw[A2,q.length]; exact Nat.le_refl _⟩
 ·obtain ⟨vs,g,t,q,hp⟩:=get h
  rw[A2] at hi
  obtain ⟨T,z,ex,nT,eH,y⟩:=y
  subst ex; subst eH
  obtain ⟨v,g',h1,h2,h3,_⟩:=q.get (i:=i) (d:=ds[i]) (by simp[hi])
  rw[y vs t] at h1
  cases h1
  exact ⟨V6 nT,.tup [.int (i:Int),ds[i]],g',by simp[zA6,hi],zR9 nT h2,fun b hb=>hp b (h3 b hb)⟩
theorem z0P {ds:List D} {a:Addr}:IterOk K (z3c K a) (R6 0 ds) [(.tup ds,.ref a)]:=by
 have get:∀ {H P},Gh K H P [(.tup ds,.ref a)]->∃ vs g,SqT K H a vs/\Reps K H ds vs g/\∀ b∈g,P b:=fun {H P} h=>by
  obtain ⟨f,r,hp⟩:=h _ List.mem_cons_self
  obtain ⟨a',vs,e,t,q⟩:=r.tupI
  cases e
  exact ⟨vs,f,.of t,q,hp⟩
 refine ⟨fun H P i hi h=>?_,fun H P h=>?_,fun H P i x H' hi h y=>?_⟩
 ·obtain ⟨vs,g,t,q,_⟩:=get h
  rw[A2] at hi
  have hv:i < vs.length:=by rw[<- q.length]; exact hi
  exact ⟨vs,vs[i],t,by simp[hv]⟩
 ·obtain ⟨vs,g,t,q,_⟩:=get h
  exact ⟨vs,t,by rw[A2,q.length]⟩
 ·obtain ⟨vs,g,t,q,hp⟩:=get h
  rw[A2] at hi
  obtain ⟨T,z,ex,nT,eH,y⟩:=y
  subst ex; subst eH
  obtain ⟨v,g',h1,h2,h3,_⟩:=q.get (i:=i) (d:=ds[i]) (by simp[hi])
  rw[y vs t] at h1
  cases h1
  exact ⟨V6 nT,.tup [.int (i:Int),ds[i]],g',by simp[zA6,hi],zR9 nT h2,fun b hb=>hp b (h3 b hb)⟩
end
abbrev SRg:=Env->R (Int×Int)
def z30 (a:SE):SRg:=fun ρ=>(a ρ).bind fun x=>match x.2 with
 | .int j=>.ok (0,j)
 | _=>.st
noncomputable def z27 (r:SRg):SE:=fun ρ=>(r ρ).bind fun x=>if (T2 x.1&&T2 x.2)=true/\(x.2 - x.1).toNat<=LIM then .ok (.own,.lst (rng x.1 (x.2 - x.1).toNat)) else .st
def tR (K:PySem.W.Frag) (CA:String->Addr) (W:WX) (s:SRg):L2.St->Hp->(Int->Int->Hp->Prop)->Prop:=fun σ H Q=>
 ∃ A H0 F G ρ,SR K A H0 F G ρ σ H/\i7 K CA W σ H (s ρ) fun x=>∀ H',Same H H'->Q x.1 x.2 H'
section
variable {X:Cx} {CA:String->Addr} {W:WX} {pos p tpos:Pos} {tg e a b c:Expr} {sa sb sc:SE} {elts:List Expr} {kk:Nat} {r:SRg}
theorem z2r (hm:X.mg "enumerate" = none) (ha:PE X e (tE X.K CA W sa)) (hg:Gl X "enumerate" := by rfl) (hs:starEach [e] X.env=[(false,eval e X.env)]:=by rfl):PI X (.Tuple elts kk tpos) (.Call (.Name "enumerate" p) [e] [] pos) (tI X.K CA W (zI1 sa)):=by
 refine piI (z3Y hg hm (pa_cons ha pa_nil hs) hs) fun σ H R ⟨A,H0,F,G,ρ,sr,h⟩=>?_
 refine ⟨A,H0,F,G,ρ,sr,h.bind fun ⟨k,d⟩ h1=>?_⟩
 intro v H1 f s1 r o
 cases d with
 | lst ds=>
  obtain ⟨a,vs,g,rfl,t,q,i1,n1⟩:=id r.lstI
  exact ⟨a,rfl,.inl ⟨⟨vs,t⟩,h1 _ _ _ s1 (zI2 (.inl rfl)) (Gh.one r (o.bok sr))⟩⟩
 | scr ds=>
  obtain ⟨a,vs,g,rfl,t,q,i1,n1⟩:=id r.scrI
  exact ⟨a,rfl,.inl ⟨⟨vs,t⟩,h1 _ _ _ s1 (zI2 (.inr rfl)) (Gh.one r (o.bok sr))⟩⟩
 | tup ds=>
  obtain ⟨a,vs,rfl,t,q⟩:=id r.tupI
  exact ⟨a,rfl,.inr ⟨⟨vs,.of t⟩,h1 _ _ _ s1 z0P (Gh.one r (o.bok sr))⟩⟩
 | _=>exact h1.elim
theorem r_1 (hm:X.mg "range" = none) (ha:PE X a (tE X.K CA W sa)) (hg:Gl X "range" := by rfl) (na:starEach [a] X.env=(false,eval a X.env)::starEach [] X.env:=by rfl):PRg X (.Call (.Name "range" p) [a] [] pos) (tR X.K CA W (z30 sa)):=by
 intro pins s σ H Q I ⟨A,H0,F,G,ρ,sr,h⟩
 refine prg_1 hg hm ha na pins s σ H Q I ⟨A,H0,F,G,ρ,sr,h.bind fun ⟨k,d⟩ h1=>?_⟩
 intro v H1 f s1 r o
 cases d with
 | int i=>cases r; exact ⟨i,rfl,h1 H1 s1⟩
 | _=>exact h1.elim
theorem z85 (hc:X.calm=true) (hm:X.mg "list" = none) (he:PRg X e (tR X.K CA W r)) (hg:Gl X "list" := by rfl) (na:starEach [e] X.env=(false,eval e X.env)::starEach [] X.env:=by rfl):PE X (.Call (.Name "list" p) [e] [] pos) (tE X.K CA W (z27 r)):=by
 refine peI (pe_listRg hc hg hm he na) fun σ H Q ⟨A,H0,F,G,ρ,sr,h⟩=>?_
 refine ⟨A,H0,F,G,ρ,sr,h.bind fun ⟨i,j⟩ h1=>?_⟩
 intro H1 s1
 obtain ⟨⟨hz,hn⟩,h2⟩:=h1.ite
 have hz':=Bool.and_eq_true_iff.mp hz
 have hl:(j - i).toNat<=2 ^ 24:=hn
 refine ⟨⟨zr0 hz'.1,zr7 hz'.1,zr0 hz'.2,zr7 hz'.2,hl⟩,fun q nq=>?_⟩
 have e1:rng i (j - i).toNat=((List.range (j - i).toNat).map fun (m:Nat)=>i + (m:Int)).map D.int:=by simp[rng]
 have e2:rgV i j=((List.range (j - i).toNat).map fun (m:Nat)=>i + (m:Int)).map V.int:=by simp[rgV]
 rw[e1] at h2
 rw[e2]
 exact S8.newL h2 sr s1 (Reps.ints _) (KOk.nil _) nq
end
inductive Ix where
 | at (j:Nat) | key (k:Key) | fld (f:Str) | un
def Y2 {κ:Type} [DecidableEq κ] (kvs:List (κ×D)) (k:κ) (v:D):List (κ×D):=if (kvs.any fun kv=>decide (kv.1=k))=true then kvs.map (fun kv=>if kv.1=k then (kv.1,v) else kv) else kvs++[(k,v)]
def V2:List Ix->D->Option D
 | [],d=>some d
 | .at j::q,.lst ds=>ds[j]?.bind (V2 q)
 | .at j::q,.tup ds=>ds[j]?.bind (V2 q)
 | .key k::q,.dic kvs=>(w6 kvs k).bind (V2 q)
 | .fld f::q,.obj _ _ fs=>(w6 fs f).bind (V2 q)
 | .un::q,.tg _ d=>V2 q d
 | _::_,_=>none
def W8:List Ix->D->D->Option D
 | [],_,n=>some n
 | .at j::q,.lst ds,n=>ds[j]?.bind fun d=>(W8 q d n).map fun d'=>.lst (ds.set j d')
 | .at j::q,.tup ds,n=>ds[j]?.bind fun d=>(W8 q d n).map fun d'=>.tup (ds.set j d')
 | .key k::q,.dic kvs,n=>(w6 kvs k).bind fun d=>(W8 q d n).map fun d'=>.dic (Y2 kvs k d')
 | .fld f::q,.obj t C fs,n=>(w6 fs f).bind fun d=>(W8 q d n).map fun d'=>.obj t C (Y2 fs f d')
 | .un::q,.tg t d,n=>(W8 q d n).map fun d'=>.tg t d'
 | _::_,_,_=>none
def S9 (H:Hp):List Ix->V->Option V
 | [],v=>some v
 | .at j::q,.ref a=>match H a with
  | some (.lst vs)=>vs[j]?.bind (S9 H q)
  | some (.tup vs)=>vs[j]?.bind (S9 H q)
  | _=>none
 | .key k::q,.ref a=>match H a with
  | some (.dK kvs)=>(valV kvs k).bind (S9 H q)
  | _=>none
 | .fld f::q,.ref a=>match H a with
  | some (.ins _ _ fs)=>(valV fs f).bind (S9 H q)
  | _=>none
 | .un::q,v=>S9 H q v
 | _::_,_=>none
section
variable {K:PySem.W.Frag} {H H':Hp}
theorem z1H {q:List Ix}:∀ {v w:V},Same H H'->S9 H q v=some w->S9 H' q v=some w:=by
 induction q with
 | nil=>intro v w s h; exact h
 | cons i q ih=>
  intro v w s h
  cases i with
  | «at» j=>
   cases v with
   | ref a=>
    unfold S9 at h ⊢
    cases hH:H a with
    | none=>rw[hH] at h; cases h
    | some o=>
     rw[hH] at h
     rw[s a o hH]
     cases o with
     | lst vs=>
      simp only at h ⊢
      cases hv:vs[j]? with
      | none=>rw[hv] at h; cases h
      | some x=>rw[hv] at h; exact ih s h
     | tup vs=>
      simp only at h ⊢
      cases hv:vs[j]? with
      | none=>rw[hv] at h; cases h
      | some x=>rw[hv] at h; exact ih s h
     | _=>cases h
   | _=>cases h
  | key k=>
   cases v with
   | ref a=>
    unfold S9 at h ⊢
    cases hH:H a with
    | none=>rw[hH] at h; cases h
    | some o=>
     rw[hH] at h
     rw[s a o hH]
     cases o with
     | dK kvs=>
      simp only at h ⊢
      cases hv:valV kvs k with
      | none=>rw[hv] at h; cases h
      | some x=>rw[hv] at h; exact ih s h
     | _=>cases h
   | _=>cases h
  | fld k=>
   cases v with
   | ref a=>
    unfold S9 at h ⊢
    cases hH:H a with
    | none=>rw[hH] at h; cases h
    | some o=>
     rw[hH] at h
     rw[s a o hH]
     cases o with
     | ins _ _ kvs=>
      simp only at h ⊢
      cases hv:valV kvs k with
      | none=>rw[hv] at h; cases h
      | some x=>rw[hv] at h; exact ih s h
     | _=>cases h
   | _=>cases h
  | un=>exact ih s (by unfold S9 at h; exact h)
theorem Reps.at:∀ {ds:List D} {vs:List V} {f:List Addr} {j:Nat} {d:D},Reps K H ds vs f->ds[j]? = some d->∃ v p g r,vs[j]? = some v/\f=p++g++r/\Rep K H d v g ∧
  ∀ (H':Hp) d' g',(∀ b o,H b=some o->IsT o->H' b=some o)->(∀ b,b∈p\/b∈r->∀ o,H b=some o->H' b=some o)->Rep K H' d' v g'->Reps K H' (ds.set j d') vs (p++g'++r)
 | _,_,_,0,d,.cons (f:=f1) (g:=g1) r t,e=>by
  simp at e; subst e
  refine ⟨_,[],f1,g1,rfl,rfl,r,fun H' d' g' ht hk r'=>?_⟩
  exact .cons r' (t.frame ht fun a ha=>hk a (.inr ha))
 | _,_,_,j + 1,d,.cons (f:=f1) (g:=g1) r t,e=>by
  obtain ⟨v,p,g,q,h1,h2,h3,h4⟩:=Reps.at (j:=j) (d:=d) t (by simpa using e)
  subst h2
  refine ⟨v,f1++p,g,q,by simpa using h1,by simp,h3,fun H' d' g' ht hk r'=>?_⟩
  have:=Reps.cons (r.frame ht fun a ha=>hk a (.inl (List.mem_append_left _ ha))) (h4 H' d' g' ht (fun b hb=>hk b (hb.imp (fun z=>List.mem_append_right _ z) id)) r')
  simpa using this
theorem zB6 {κ:Type} [DecidableEq κ] {k k':κ} {d v:D} {r:List (κ×D)} (h:k'≠k):Y2 ((k',d)::r) k v=(k',d)::Y2 r k v:=by
 unfold Y2
 simp only[List.any_cons,h,decide_false,Bool.false_or]
 split <;> simp[h]
theorem zo0 {κ:Type} [DecidableEq κ] {k k':κ} {d v:V} {r:List (κ×V)} (h:k'≠k):putK ((k',d)::r) k v=(k',d)::putK r k v:=by
 unfold putK
 simp only[List.any_cons,h,decide_false,Bool.false_or]
 split <;> simp[h]
theorem z0r {κ:Type} [DecidableEq κ] {k:κ} {v:D}:∀ {r:List (κ×D)},k∉r.map (·.1)->r.map (fun kv=>if kv.1=k then (kv.1,v) else kv)=r
 | [],_=>rfl
 | (k',d)::r,h=>by
  have h1:¬ k'=k:=fun e=>h (by simp[e])
  have h2:k∉r.map (·.1):=fun z=>h (List.mem_cons_of_mem _ z)
  rw[List.map_cons,z0r h2]
  simp[h1]
theorem zs7 {κ:Type} [DecidableEq κ] {k:κ} {v:V}:∀ {r:List (κ×V)},k∉r.map (·.1)->r.map (fun kv=>if kv.1=k then (kv.1,v) else kv)=r
 | [],_=>rfl
 | (k',d)::r,h=>by
  have h1:¬ k'=k:=fun e=>h (by simp[e])
  have h2:k∉r.map (·.1):=fun z=>h (List.mem_cons_of_mem _ z)
  rw[List.map_cons,zs7 h2]
  simp[h1]
theorem RepK.keys {κ:Type}:∀ {kds:List (κ×D)} {kvs:List (κ×V)} {f:List Addr},RepK K H kds kvs f->kvs.map (·.1)=kds.map (·.1)
 | _,_,_,.nil=>rfl
 | _,_,_,.cons r t=>by simp[RepK.keys t]
theorem z0m {κ:Type} [DecidableEq κ] {kvs:List (κ×D)} {k:κ} (v:D) (h:k∈kvs.map (·.1)):(Y2 kvs k v).map (·.1)=kvs.map (·.1):=by
 unfold Y2
 have h2:(kvs.any fun kv=>decide (kv.1=k))=true:=by
  obtain ⟨p,hp,e⟩:=List.mem_map.mp h
  exact List.any_eq_true.mpr ⟨p,hp,decide_eq_true e⟩
 rw[if_pos h2,List.map_map]
 refine List.map_congr_left fun p _=>?_
 simp only[Function.comp]
 split <;> simp_all
theorem zi3 {κ:Type} [DecidableEq κ] {kvs:List (κ×D)} {k:κ} (v:D) (h:k∉kvs.map (·.1)):Y2 kvs k v=kvs++[(k,v)]:=by
 unfold Y2
 have h2:¬ (kvs.any fun kv=>decide (kv.1=k))=true:=fun z=>by
  obtain ⟨p,hp,e⟩:=List.any_eq_true.mp z
  exact h (List.mem_map.mpr ⟨p,hp,of_decide_eq_true e⟩)
 rw[if_neg h2]
theorem E4 {κ:Type} [DecidableEq κ] {kvs:List (κ×D)} {k:κ} {v:D} (h:(kvs.map (·.1)).Nodup):((Y2 kvs k v).map (·.1)).Nodup:=by
 rcases Classical.em (k∈kvs.map (·.1)) with hk | hk
 ·rw[z0m v hk]; exact h
 ·rw[zi3 v hk,List.map_append]
  exact List.nodup_append.mpr ⟨h,by simp,fun a ha b hb e=>hk (by
   have:b=k:=by simpa using hb
   rw[this] at e; exact e ▸ ha)⟩
theorem RepK.at {κ:Type} [DecidableEq κ]:∀ {kds:List (κ×D)} {kvs:List (κ×V)} {f:List Addr} {k:κ} {d:D},RepK K H kds kvs f->(kds.map (·.1)).Nodup->w6 kds k=some d->∃ v p g r,valV kvs k=some v/\f=p++g++r/\Rep K H d v g ∧
  ∀ (H':Hp) d' g' v',(∀ b o,H b=some o->IsT o->H' b=some o)->(∀ b,b∈p\/b∈r->∀ o,H b=some o->H' b=some o)->Rep K H' d' v' g'->RepK K H' (Y2 kds k d') (putK kvs k v') (p++g'++r)
 | _,_,_,k,d,.cons (k:=k0) (d:=d0) (v:=v0) (f:=f1) (ds:=ds) (vs:=vs) (g:=g1) r t,n,e=>by
  rw[List.map_cons,List.nodup_cons] at n
  by_cases h:k0=k
  ·have e:d0=d:=by simpa [w6,h] using e
   subst e; subst h
   refine ⟨v0,[],f1,g1,valV_pos rfl,rfl,r,fun H' d' g' v' ht hk r'=>?_⟩
   have n1:k0∉ds.map (·.1):=n.1
   have n2:k0∉vs.map (·.1):=by rw[t.keys]; exact n1
   have e1:Y2 ((k0,d0)::ds) k0 d'=(k0,d')::ds:=by
    unfold Y2
    rw[if_pos (by simp),List.map_cons,z0r n1]; simp
   have e2:putK ((k0,v0)::vs) k0 v'=(k0,v')::vs:=by
    unfold putK
    rw[if_pos (by simp),List.map_cons,zs7 n2]; simp
   rw[e1,e2]
   exact .cons r' (t.frame ht fun a ha=>hk a (.inr ha))
  ·obtain ⟨v,p,g,q,h1,h2,h3,h4⟩:=RepK.at (k:=k) (d:=d) t n.2 (by simpa [w6,h] using e)
   subst h2
   refine ⟨v,f1++p,g,q,by rw[valV_neg (p:=(k0,v0)) h]; exact h1,by simp,h3,fun H' d' g' v' ht hk r'=>?_⟩
   rw[zB6 h,zo0 h]
   have:=RepK.cons (k:=k0) (r.frame ht fun a ha=>hk a (.inl (List.mem_append_left _ ha))) (h4 H' d' g' v' ht (fun b hb=>hk b (hb.imp (fun z=>List.mem_append_right _ z) id)) r')
   simpa using this
theorem zy8 {κ:Type} [DecidableEq κ]:∀ {kvs:List (κ×V)} {k:κ} {v:V},valV kvs k=some v->(kvs.map (·.1)).Nodup->putK kvs k v=kvs
 | [],k,v,h,_=>by cases h
 | (k',w)::r,k,v,h,n=>by
  rw[List.map_cons,List.nodup_cons] at n
  by_cases e:k'=k
  ·subst e
   rw[valV_pos (p:=(k',w)) rfl] at h
   cases h
   unfold putK
   rw[if_pos (by simp),List.map_cons,zs7 n.1]; simp
  ·rw[zo0 e,zy8 (by rw[valV_neg (p:=(k',w)) e] at h; exact h) n.2]
theorem zq5:∀ {q:List Ix} {d d0:D} {v:V} {f:List Addr},Rep K H d v f->V2 q d=some d0->∃ v0 f0,S9 H q v=some v0/\Rep K H d0 v0 f0/\(∀ b∈f0,b∈f)/\(f.Nodup->f0.Nodup) ∧
  (f.Nodup->∀ (H':Hp) d0' f0',(∀ b o,H b=some o->IsT o->H' b=some o)->(∀ b∈f,b∉f0->∀ o,H b=some o->H' b=some o)->Rep K H' d0' v0 f0'->f0'.Nodup->(∀ b∈f0',b∈f0\/b∉f) ->
   ∃ d' f',W8 q d d0'=some d'/\Rep K H' d' v f'/\f'.Nodup/\∀ b∈f',b∈f0'\/(b∈f/\b∉f0)):=by
 intro q
 induction q with
 | nil=>
  intro d d0 v f r e
  cases e
  exact ⟨v,f,rfl,r,fun _ h=>h,fun h=>h,fun _ H' d0' f0' _ _ r' n' _=>⟨d0',f0',rfl,r',n',fun b hb=>.inl hb⟩⟩
 | cons i q ih=>
  intro d d0 v f r e
  have fin:∀ {a:Addr} {p g s f0:List Addr},(a::(p++g++s)).Nodup->(∀ b∈f0,b∈g)->∀ {f0' g':List Addr},(∀ b∈f0',b∈f0\/b∉a::(p++g++s))->g'.Nodup->(∀ b∈g',b∈f0'\/(b∈g/\b∉f0)) ->
    (a::(p++g'++s)).Nodup/\∀ b∈a::(p++g'++s),b∈f0'\/(b∈a::(p++g++s)/\b∉f0):=fun {a p g s f0} n hs {f0' g'} hf hn hg=>by
   have n1:=List.nodup_cons.mp n
   obtain ⟨n2,n3,n4⟩:=List.nodup_append.mp n1.2
   obtain ⟨n5,n6,n7⟩:=List.nodup_append.mp n2
   have mg:∀ b∈g',b∈g\/b∉a::(p++g++s):=fun b hb=>by
    rcases hg b hb with z | z
    ·exact (hf b z).imp (hs b) id
    ·exact .inl z.1
   have ga:a∉g':=fun z=>by
    rcases mg a z with z | z
    ·exact n1.1 (by simp[z])
    ·exact z (by simp)
   have gp:∀ x∈p,∀ y∈g',x≠y:=fun x hx y hy e=>by
    subst e
    rcases mg x hy with z | z
    ·exact n7 x hx x z rfl
    ·exact z (by simp[hx])
   have gs:∀ x∈g',∀ y∈s,x≠y:=fun x hx y hy e=>by
    subst e
    rcases mg x hx with z | z
    ·exact n4 x (List.mem_append_right _ z) x hy rfl
    ·exact z (by simp[hy])
   refine ⟨List.nodup_cons.mpr ⟨fun z=>?_,List.nodup_append.mpr ⟨List.nodup_append.mpr ⟨n5,hn,gp⟩,n3,fun x hx y hy=>?_⟩⟩,fun b hb=>?_⟩
   ·rcases List.mem_append.mp z with z | z
    ·rcases List.mem_append.mp z with z | z
     ·exact n1.1 (by simp[z])
     ·exact ga z
    ·exact n1.1 (by simp[z])
   ·rcases List.mem_append.mp hx with z | z
    ·exact n4 x (List.mem_append_left _ z) y hy
    ·exact gs x z y hy
   ·have other:b∉g->b∈a::(p++g++s)->b∈f0'\/(b∈a::(p++g++s)/\b∉f0):=fun h1 h2=>.inr ⟨h2,fun z=>h1 (hs b z)⟩
    rcases List.mem_cons.mp hb with z | z
    ·subst z; exact other (fun w=>n1.1 (by simp[w])) (by simp)
    ·rcases List.mem_append.mp z with z | z
     ·rcases List.mem_append.mp z with z | z
      ·exact other (fun w=>n7 b z b w rfl) (by simp[z])
      ·rcases hg b z with w | w
       ·exact .inl w
       ·exact .inr ⟨by simp[w.1],w.2⟩
     ·exact other (fun w=>n4 b (List.mem_append_right _ w) b z rfl) (by simp[z])
  have fin0:∀ {p g s f0:List Addr},(p++g++s).Nodup->(∀ b∈f0,b∈g)->∀ {f0' g':List Addr},(∀ b∈f0',b∈f0\/b∉p++g++s)->g'.Nodup->(∀ b∈g',b∈f0'\/(b∈g/\b∉f0)) ->
    (p++g'++s).Nodup/\∀ b∈p++g'++s,b∈f0'\/(b∈p++g++s/\b∉f0):=fun {p g s f0} n hs {f0' g'} hf hn hg=>by
   obtain ⟨n2,n3,n4⟩:=List.nodup_append.mp n
   obtain ⟨n5,n6,n7⟩:=List.nodup_append.mp n2
   have mg:∀ b∈g',b∈g\/b∉p++g++s:=fun b hb=>by
    rcases hg b hb with z | z
    ·exact (hf b z).imp (hs b) id
    ·exact .inl z.1
   have gp:∀ x∈p,∀ y∈g',x≠y:=fun x hx y hy e=>by
    subst e
    rcases mg x hy with z | z
    ·exact n7 x hx x z rfl
    ·exact z (by simp[hx])
   have gs:∀ x∈g',∀ y∈s,x≠y:=fun x hx y hy e=>by
    subst e
    rcases mg x hx with z | z
    ·exact n4 x (List.mem_append_right _ z) x hy rfl
    ·exact z (by simp[hy])
   refine ⟨List.nodup_append.mpr ⟨List.nodup_append.mpr ⟨n5,hn,gp⟩,n3,fun x hx y hy=>?_⟩,fun b hb=>?_⟩
   ·rcases List.mem_append.mp hx with z | z
    ·exact n4 x (List.mem_append_left _ z) y hy
    ·exact gs x z y hy
   ·have other:b∉g->b∈p++g++s->b∈f0'\/(b∈p++g++s/\b∉f0):=fun h1 h2=>.inr ⟨h2,fun z=>h1 (hs b z)⟩
    rcases List.mem_append.mp hb with z | z
    ·rcases List.mem_append.mp z with z | z
     ·exact other (fun w=>n7 b z b w rfl) (by simp[z])
     ·rcases hg b z with w | w
      ·exact .inl w
      ·exact .inr ⟨by simp[w.1],w.2⟩
    ·exact other (fun w=>n4 b (List.mem_append_right _ w) b z rfl) (by simp[z])
  cases i with
  | «at» j=>
   cases d with
   | lst ds=>
    unfold V2 at e
    cases hd:ds[j]? with
    | none=>rw[hd] at e; cases e
    | some dj=>
     rw[hd] at e
     cases r with
     | @lst a vs _ f1 hl rs=>
     obtain ⟨vj,p,g,s,h1,h2,h3,h4⟩:=rs.at hd
     subst h2
     obtain ⟨v0,f0,k1,k2,k3,k4,k5⟩:=ih h3 e
     have gn:(a::(p++g++s)).Nodup->g.Nodup:=fun n=>(List.nodup_append.mp (List.nodup_append.mp (List.nodup_cons.mp n).2).1).2.1
     refine ⟨v0,f0,by unfold S9; rw[hl]; simp only[h1]; exact k1,k2,fun b hb=>by have:=k3 b hb; simp[this],fun n=>k4 (gn n),fun n H' d0' f0' ht hk r' n' hb=>?_⟩
     have ng:=gn n
     have nn:=List.nodup_cons.mp n
     obtain ⟨m2,m3,m4⟩:=List.nodup_append.mp nn.2
     obtain ⟨m5,m6,m7⟩:=List.nodup_append.mp m2
     obtain ⟨dj',g',e1,e2,e3,e4⟩:=k5 ng H' d0' f0' ht (fun b hb' hn=>hk b (by simp[hb']) hn) r' n' fun b hb'=>(hb b hb').imp id fun z w=>z (by simp[w])
     have keep:∀ b,b∈p\/b∈s->∀ o,H b=some o->H' b=some o:=fun b hb'=>by
      rcases hb' with z | z
      ·exact hk b (by simp[z]) fun w=>m7 b z b (k3 b w) rfl
      ·exact hk b (by simp[z]) fun w=>m4 b (List.mem_append_right _ (k3 b w)) b z rfl
     obtain ⟨x1,x2⟩:=fin n k3 hb e3 e4
     exact ⟨.lst (ds.set j dj'),a::(p++g'++s),by unfold W8; rw[hd]; simp[e1],.lst (hk a (by simp) (fun w=>nn.1 (by simp[k3 a w])) _ hl) (h4 H' dj' g' ht keep e2),x1,x2⟩
   | tup ds=>
    unfold V2 at e
    cases hd:ds[j]? with
    | none=>rw[hd] at e; cases e
    | some dj=>
     rw[hd] at e
     cases r with
     | @tup a vs _ f1 hl rs=>
     obtain ⟨vj,p,g,s,h1,h2,h3,h4⟩:=rs.at hd
     subst h2
     obtain ⟨v0,f0,k1,k2,k3,k4,k5⟩:=ih h3 e
     have gn:(p++g++s).Nodup->g.Nodup:=fun n=>(List.nodup_append.mp (List.nodup_append.mp n).1).2.1
     refine ⟨v0,f0,by unfold S9; rw[hl]; simp only[h1]; exact k1,k2,fun b hb=>by have:=k3 b hb; simp[this],fun n=>k4 (gn n),fun n H' d0' f0' ht hk r' n' hb=>?_⟩
     have ng:=gn n
     obtain ⟨m2,m3,m4⟩:=List.nodup_append.mp n
     obtain ⟨m5,m6,m7⟩:=List.nodup_append.mp m2
     obtain ⟨dj',g',e1,e2,e3,e4⟩:=k5 ng H' d0' f0' ht (fun b hb' hn=>hk b (by simp[hb']) hn) r' n' fun b hb'=>(hb b hb').imp id fun z w=>z (by simp[w])
     have keep:∀ b,b∈p\/b∈s->∀ o,H b=some o->H' b=some o:=fun b hb'=>by
      rcases hb' with z | z
      ·exact hk b (by simp[z]) fun w=>m7 b z b (k3 b w) rfl
      ·exact hk b (by simp[z]) fun w=>m4 b (List.mem_append_right _ (k3 b w)) b z rfl
     obtain ⟨x1,x2⟩:=fin0 n k3 hb e3 e4
     exact ⟨.tup (ds.set j dj'),p++g'++s,by unfold W8; rw[hd]; simp[e1],.tup (ht _ _ hl trivial) (h4 H' dj' g' ht keep e2),x1,x2⟩
   | _=>simp[V2] at e
  | key k=>
   cases d with
   | dic kds=>
    unfold V2 at e
    cases hd:w6 kds k with
    | none=>rw[hd] at e; cases e
    | some dj=>
     rw[hd] at e
     cases r with
     | @dic a kvs _ f1 hl nk rs=>
     obtain ⟨vj,p,g,s,h1,h2,h3,h4⟩:=rs.at nk hd
     subst h2
     obtain ⟨v0,f0,k1,k2,k3,k4,k5⟩:=ih h3 e
     have gn:(a::(p++g++s)).Nodup->g.Nodup:=fun n=>(List.nodup_append.mp (List.nodup_append.mp (List.nodup_cons.mp n).2).1).2.1
     refine ⟨v0,f0,by unfold S9; rw[hl]; simp only[h1]; exact k1,k2,fun b hb=>by have:=k3 b hb; simp[this],fun n=>k4 (gn n),fun n H' d0' f0' ht hk r' n' hb=>?_⟩
     have ng:=gn n
     have nn:=List.nodup_cons.mp n
     obtain ⟨m2,m3,m4⟩:=List.nodup_append.mp nn.2
     obtain ⟨m5,m6,m7⟩:=List.nodup_append.mp m2
     obtain ⟨dj',g',e1,e2,e3,e4⟩:=k5 ng H' d0' f0' ht (fun b hb' hn=>hk b (by simp[hb']) hn) r' n' fun b hb'=>(hb b hb').imp id fun z w=>z (by simp[w])
     have keep:∀ b,b∈p\/b∈s->∀ o,H b=some o->H' b=some o:=fun b hb'=>by
      rcases hb' with z | z
      ·exact hk b (by simp[z]) fun w=>m7 b z b (k3 b w) rfl
      ·exact hk b (by simp[z]) fun w=>m4 b (List.mem_append_right _ (k3 b w)) b z rfl
     obtain ⟨x1,x2⟩:=fin n k3 hb e3 e4
     have r4:=h4 H' dj' g' vj ht keep e2
     rw[zy8 h1 (by rw[rs.keys]; exact nk)] at r4
     exact ⟨.dic (Y2 kds k dj'),a::(p++g'++s),by unfold W8; rw[hd]; simp[e1],.dic (hk a (by simp) (fun w=>nn.1 (by simp[k3 a w])) _ hl) (E4 nk) r4,x1,x2⟩
   | _=>simp[V2] at e
  | fld k=>
   cases d with
   | obj tg Cn kds=>
    unfold V2 at e
    cases hd:w6 kds k with
    | none=>rw[hd] at e; cases e
    | some dj=>
     rw[hd] at e
     cases r with
     | @obj _ _ a Ca dx kvs _ f1 hl hC nk rs htg=>
     obtain ⟨vj,p,g,s,h1,h2,h3,h4⟩:=rs.at nk hd
     subst h2
     obtain ⟨v0,f0,k1,k2,k3,k4,k5⟩:=ih h3 e
     have gn:(a::(p++g++s)).Nodup->g.Nodup:=fun n=>(List.nodup_append.mp (List.nodup_append.mp (List.nodup_cons.mp n).2).1).2.1
     refine ⟨v0,f0,by unfold S9; rw[hl]; simp only[h1]; exact k1,k2,fun b hb=>by have:=k3 b hb; simp[this],fun n=>k4 (gn n),fun n H' d0' f0' ht hk r' n' hb=>?_⟩
     have ng:=gn n
     have nn:=List.nodup_cons.mp n
     obtain ⟨m2,m3,m4⟩:=List.nodup_append.mp nn.2
     obtain ⟨m5,m6,m7⟩:=List.nodup_append.mp m2
     obtain ⟨dj',g',e1,e2,e3,e4⟩:=k5 ng H' d0' f0' ht (fun b hb' hn=>hk b (by simp[hb']) hn) r' n' fun b hb'=>(hb b hb').imp id fun z w=>z (by simp[w])
     have keep:∀ b,b∈p\/b∈s->∀ o,H b=some o->H' b=some o:=fun b hb'=>by
      rcases hb' with z | z
      ·exact hk b (by simp[z]) fun w=>m7 b z b (k3 b w) rfl
      ·exact hk b (by simp[z]) fun w=>m4 b (List.mem_append_right _ (k3 b w)) b z rfl
     obtain ⟨x1,x2⟩:=fin n k3 hb e3 e4
     have r4:=h4 H' dj' g' vj ht keep e2
     rw[zy8 h1 (by rw[rs.keys]; exact nk)] at r4
     exact ⟨.obj tg Cn (Y2 kds k dj'),a::(p++g'++s),by unfold W8; rw[hd]; simp[e1],.obj (hk a (by simp) (fun w=>nn.1 (by simp[k3 a w])) _ hl) hC (E4 nk) r4 htg,x1,x2⟩
   | _=>simp[V2] at e
  | un=>
   cases d with
   | tg tt d1=>
    cases r with
    | @tg _ _ a _ r1 z=>
    obtain ⟨v0,f0,k1,k2,k3,k4,k5⟩:=ih r1 e
    refine ⟨v0,f0,k1,k2,k3,k4,fun n H' d0' f0' ht hk r' n' hb=>?_⟩
    obtain ⟨d',f',e1,e2,e3,e4⟩:=k5 n H' d0' f0' ht hk r' n' hb
    exact ⟨.tg tt d',f',by unfold W8; rw[e1]; rfl,.tg e2 z,e3,e4⟩
   | _=>simp[V2] at e
end
abbrev SPh:=Env->R (Nat×List Ix×D)
def O7 (i:Nat):SPh:=fun ρ=>match ρ[i]? with
 | some (.ow d)=>.ok (i,[],d)
 | _=>.st
def C8:D->D->Option (Ix×D)
 | .lst ds,.int n=>(ixN ds.length n).bind fun j=>ds[j]?.map fun d=>(.at j,d)
 | .tup ds,.int n=>(ixN ds.length n).bind fun j=>ds[j]?.map fun d=>(.at j,d)
 | .dic kvs,y=>(W4 y).bind fun k=>(w6 kvs k).map fun d=>(.key k,d)
 | _,_=>none
def z0T (p:SPh) (e:SE):SPh:=fun ρ=>(p ρ).bind fun x=>(e ρ).bind fun y=>match C8 x.2.2 y.2 with
 | some (i,d)=>.ok (x.1,x.2.1++[i],d)
 | none=>.st
def zk3 (ρ:Env) (σ:L2.St) (H:Hp) (x:Nat×List Ix×D) (v:V):Prop:=∃ d vj,ρ[x.1]? = some (.ow d)/\σ[x.1]? = some (some vj)/\V2 x.2.1 d=some x.2.2/\S9 H x.2.1 vj=some v
def tP (CA:String->Addr) (W:WX) (K:PySem.W.Frag) (s:SPh):TE:=fun σ H Q=>∃ A H0 F G ρ,SR K A H0 F G ρ σ H/\i7 K CA W σ H (s ρ) fun x=>∀ v H',Same H H'->zk3 ρ σ H' x v->Q v H'
theorem G7:∀ {q:List Ix} {d d0:D} {i:Ix},V2 q d=some d0->V2 (q++[i]) d=V2 [i] d0
 | [],d,d0,i,h=>by cases h; rfl
 | .at j::q,d,d0,i,h=>by
  cases d with
  | lst ds=>
   simp only[List.cons_append,V2] at h ⊢
   cases hd:ds[j]? with
   | none=>rw[hd] at h; cases h
   | some x=>
    rw[hd] at h
    exact G7 (q:=q) (d:=x) h
  | tup ds=>
   simp only[List.cons_append,V2] at h ⊢
   cases hd:ds[j]? with
   | none=>rw[hd] at h; cases h
   | some x=>
    rw[hd] at h
    exact G7 (q:=q) (d:=x) h
  | _=>simp[V2] at h
 | .key k::q,d,d0,i,h=>by
  cases d with
  | dic ds=>
   simp only[List.cons_append,V2] at h ⊢
   cases hd:w6 ds k with
   | none=>rw[hd] at h; cases h
   | some x=>
    rw[hd] at h
    exact G7 (q:=q) (d:=x) h
  | _=>simp[V2] at h
 | .fld k::q,d,d0,i,h=>by
  cases d with
  | obj t C ds=>
   simp only[List.cons_append,V2] at h ⊢
   cases hd:w6 ds k with
   | none=>rw[hd] at h; cases h
   | some x=>
    rw[hd] at h
    exact G7 (q:=q) (d:=x) h
  | _=>simp[V2] at h
 | .un::q,d,d0,i,h=>by
  cases d with
  | tg t d=>exact G7 (q:=q) (d:=d) h
  | _=>simp[V2] at h
theorem G1 {H:Hp}:∀ {q:List Ix} {v w:V} {i:Ix},S9 H q v=some w->S9 H (q++[i]) v=S9 H [i] w
 | [],v,w,i,h=>by cases h; rfl
 | .at j::q,v,w,i,h=>by
  cases v with
  | ref a=>
   simp only[List.cons_append,S9] at h ⊢
   cases hH:H a with
   | none=>rw[hH] at h; cases h
   | some o=>
    rw[hH] at h
    cases o with
    | lst vs=>
     simp only at h ⊢
     cases hv:vs[j]? with
     | none=>rw[hv] at h; cases h
     | some x=>rw[hv] at h; exact G1 (q:=q) (v:=x) h
    | tup vs=>
     simp only at h ⊢
     cases hv:vs[j]? with
     | none=>rw[hv] at h; cases h
     | some x=>rw[hv] at h; exact G1 (q:=q) (v:=x) h
    | _=>cases h
  | _=>cases h
 | .key k::q,v,w,i,h=>by
  cases v with
  | ref a=>
   simp only[List.cons_append,S9] at h ⊢
   cases hH:H a with
   | none=>rw[hH] at h; cases h
   | some o=>
    rw[hH] at h
    cases o with
    | dK kvs=>
     simp only at h ⊢
     cases hv:valV kvs k with
     | none=>rw[hv] at h; cases h
     | some x=>rw[hv] at h; exact G1 (q:=q) (v:=x) h
    | _=>cases h
  | _=>cases h
 | .fld k::q,v,w,i,h=>by
  cases v with
  | ref a=>
   simp only[List.cons_append,S9] at h ⊢
   cases hH:H a with
   | none=>rw[hH] at h; cases h
   | some o=>
    rw[hH] at h
    cases o with
    | ins Ca dx kvs=>
     simp only at h ⊢
     cases hv:valV kvs k with
     | none=>rw[hv] at h; cases h
     | some x=>rw[hv] at h; exact G1 (q:=q) (v:=x) h
    | _=>cases h
  | _=>cases h
 | .un::q,v,w,i,h=>G1 (q:=q) (v:=v) h
section
variable {K:PySem.W.Frag} {A:Addr->Prop} {H0 Hb H:Hp} {F:Nat->List Addr} {G:List (D×V)} {ρ:Env} {σ:L2.St}
theorem zk3.same {H':Hp} {x:Nat×List Ix×D} {v:V} (h:zk3 ρ σ H x v) (s:Same H H'):zk3 ρ σ H' x v:=let ⟨d,vj,h1,h2,h3,h4⟩:=h; ⟨d,vj,h1,h2,h3,z1H s h4⟩
def X5 (ρ:Env) (x:Nat×List Ix×D) (d0':D):Option Env:=(W8 x.2.1 ((slD ρ[x.1]?).getD .non) d0').map fun d'=>(inv x.1 ρ).set x.1 (.ow d')
theorem zk3.open {x:Nat×List Ix×D} {v:V} (sr:SR K A H0 F G ρ σ Hb) (s:Same Hb H) (h:zk3 ρ σ H x v):∃ f0,Rep K H x.2.2 v f0/\f0.Nodup/\(∀ b∈f0,Hb b≠none/\Mu (H b)) ∧
  ∀ (a:Addr) (o:HO) (d0':D) (f0':List Addr),v=.ref a->a∈f0->zE5 (some o)->Rep K (upd H a o) d0' v f0'->f0'.Nodup->(∀ b∈f0',b∈f0\/Hb b=none)->(∀ b∈f0',Mu ((upd H a o) b)) ->
   ∃ ρ' F',X5 ρ x d0'=some ρ'/\SR K A H0 F' G ρ' σ (upd H a o):=by
 have sr1:=sr.same s
 obtain ⟨d,vj,h1,h2,h3,h4⟩:=h
 obtain ⟨vj',h5,rj⟩:=sr1.slo _ d h1
 rw[h2] at h5; cases h5
 obtain ⟨v0,f0,k1,k2,k3,k4,k5⟩:=zq5 rj h3
 rw[h4] at k1; cases k1
 have own:=sr1.own x.1
 refine ⟨f0,k2,k4 own.1,fun b hb=>⟨((sr.own x.1).2 b (k3 b hb)).2.ne,(own.2 b (k3 b hb)).2⟩,fun a o d0' f0' ea ha hm r nf hf hmu=>?_⟩
 subst ea
 have hne:a∈F x.1:=k3 a ha
 have mua:=(own.2 a hne).2
 have nt:∀ b ob,H b=some ob->IsT ob->(upd H a o) b=some ob:=fun b ob e t=>by
  by_cases z:b=a
  ·subst z
   rw[e] at mua
   have:=mua.m
   cases ob <;> first | exact t.elim | exact this.elim
  ·rw[upd_ne z]; exact e
 obtain ⟨d',f',e1,e2,e3,e4⟩:=k5 own.1 (upd H a o) d0' f0' nt (fun b hb hn ob e=>by
  have hba:b≠a:=fun z=>hn (z ▸ ha)
  rw[upd_ne hba]; exact e) r nf (fun b hb=>(hf b hb).imp id fun z w=>((sr.own x.1).2 b w).2.ne z)
 refine ⟨(inv x.1 ρ).set x.1 (.ow d'),w9 F x.1 f',by unfold X5; rw[h1]; simp only[slD,Option.getD_some]; rw[e1]; rfl,?_⟩
 refine sr.mutS s hne hm h1 h2 e2 e3 (fun b hb=>?_) fun b hb=>?_
 ·rcases e4 b hb with z | z
  ·exact (hf b z).imp (k3 b) id
  ·exact .inl z.1
 ·rcases e4 b hb with z | z
  ·exact hmu b z
  ·have hba:b≠a:=fun w=>z.2 (w ▸ ha)
   rw[upd_ne hba]; exact (own.2 b z.1).2
end
abbrev MOp:=D->List KD->Option (D×D)
inductive MT where
 | l | d
def MT.T:MT->String
 | .l => "list"
 | .d => "dict"
def MT.ok:MT->D->Bool
 | .l,.lst _=>true
 | .d,.dic _=>true
 | _,_=>false
theorem MT.ty {K:PySem.W.Frag} {H:Hp} {T:MT} {d0:D} {v:V} {f0:List Addr} (r:Rep K H d0 v f0) (h:T.ok d0=true):tyV K T.T v H:=by
 cases T with
 | l=>
  cases d0 with
  | lst ds=>cases r with | lst hl rs=>exact .inl ⟨rfl,_,.of hl⟩
  | _=>cases h
 | d=>
  cases d0 with
  | dic ds=>cases r with | dic hl _ rs=>exact .inr (.inr (.inl ⟨rfl,.inl ⟨_,hl⟩⟩))
  | _=>cases h
def z26 (K:PySem.W.Frag) (op:MOp) (r:V->List V->Hp->VK->Prop):Prop:=
 ∀ {A:Addr->Prop} {H0 Hb H:Hp} {F:Nat->List Addr} {d0:D} {v:V} {f0 g:List Addr} {xs:List KD} {vs:List V} {y:D×D} {Q:VK},Rep K H d0 v f0->f0.Nodup->(∀ b∈f0,Hb b≠none/\Mu (H b))->Reps K H (xs.map (·.2)) vs g->KOk A H0 F Hb H (jn xs) g->op d0 xs=some y ->
  (∀ (a:Addr) (o:HO) (f0':List Addr) (w:V),v=.ref a->a∈f0->zE5 (some o)->Rep K (upd H a o) y.2 v f0'->f0'.Nodup->(∀ b∈f0',b∈f0\/Hb b=none)->(∀ b∈f0',Mu ((upd H a o) b))->Rep K (upd H a o) y.1 w []->Q w (upd H a o))->r v vs H Q
def mtS (T:MT) (p:SPh) (s:SA) (op:MOp):SS:=fun ρ=>(p ρ).out ρ fun x=>if T.ok x.2.2=true then (s ρ).out ρ fun xs=>match op x.2.2 xs with
 | some y=>(match X5 ρ x y.2 with
  | some ρ'=>.nx ρ'
  | none=>.st)
 | none=>.st else .st
section
variable {X:Cx} {CA:String->Addr} {W:WX} {pos pos' p1 p2 p3:Pos} {a b e o:Expr} {es:List Expr} {se:SE} {sp:SPh} {s:SA} {op:MOp} {T id:String} {name:Str} {r:V->List V->Hp->VK->Prop}
theorem zc0 (i:Nat) {x:Str} (hN:X.N[i]? = some x:=by rfl) (hv:Vis X.env.scope x:=by first | exact Or.inl rfl | exact Or.inr (Or.inl rfl) | exact Or.inr (Or.inr rfl)) (hd:(x == ("__debug__" : Str))=false:=by decide)
  (hcd:(x == ("__classdict__" : Str))=false:=by decide):PE X (.Name x pos) (tP CA W X.K (O7 i)):=by
 refine peI (pe_var hN hv hd hcd) fun σ H Q ⟨A,H0,F,G,ρ,sr,h⟩=>?_
 unfold O7 at h
 cases e:ρ[i]? with
 | none=>rw[e] at h; exact h.elim
 | some sl=>
  rw[e] at h
  cases sl with
  | ow d=>
   obtain ⟨v,hv,r⟩:=sr.slo i d e
   exact ⟨v,hv,h v H (Same.refl H) ⟨d,v,e,hv,rfl,rfl⟩⟩
  | _=>exact h.elim
theorem z81 (hu:X.A.units + 65 < cLine) (ha:PE X a (tP CA W X.K sp)) (hb:PE X b (tE X.K CA W se)) (hs:PlainIx b:=by exact fun _ _=>rfl):PE X (.Subscript a b pos) (tP CA W X.K (z0T sp se)):=by
 refine peI (pe_ix (z2i (by omega)) ha hb hs) fun σ H Q ⟨A,H0,F,G,ρ,sr,h⟩=>?_
 refine ⟨A,H0,F,G,ρ,sr,h.bind fun ⟨j,q,d0⟩ h1=>?_⟩
 intro v1 H1 s1 at1
 refine ⟨A,H0,F,G,ρ,sr.same s1,(h1.later s1).bind fun ⟨k2,d2⟩ h2=>?_⟩
 intro v2 H2 f2 s2 r2 o2
 have at2:=at1.same s2
 obtain ⟨f0,r0,_,_,_⟩:=at2.open (sr.same s1) s2
 obtain ⟨dw,vj,e1,e2,e3,e4⟩:=at2
 cases d0 with
 | lst ds=>
  cases d2 with
  | int n=>
   cases hi:ixN ds.length n with
   | none=>simp only[C8,hi] at h2; exact h2.elim
   | some m=>
    cases hd:ds[m]? with
    | none=>simp only[C8,hi,Option.bind_some,hd] at h2; exact h2.elim
    | some dm=>
     simp only[C8,hi,Option.bind_some,hd,Option.map_some] at h2
     cases r0 with
     | @lst a0 vs _ f1 hl rs=>
     cases r2
     obtain ⟨vm,g,hv,_⟩:=rs.get hd
     refine .inl (.inl ⟨a0,vs,n,vm,rfl,rfl,.of hl,by unfold atI; rw[<- rs.length,hi]; exact hv,h2 vm H2 (s1.trans s2) ⟨dw,vj,e1,e2,?_,?_⟩⟩)
     ·rw[G7 e3]
      simp[V2,hd]
     ·rw[G1 e4]
      simp[S9,hl,hv]
  | _=>exact h2.elim
 | tup ds=>
  cases d2 with
  | int n=>
   cases hi:ixN ds.length n with
   | none=>simp only[C8,hi] at h2; exact h2.elim
   | some m=>
    cases hd:ds[m]? with
    | none=>simp only[C8,hi,Option.bind_some,hd] at h2; exact h2.elim
    | some dm=>
     simp only[C8,hi,Option.bind_some,hd,Option.map_some] at h2
     cases r0 with
     | @tup a0 vs _ f1 hl rs=>
     cases r2
     obtain ⟨vm,g,hv,_⟩:=rs.get hd
     refine .inl (.inr (.inl ⟨a0,vs,n,vm,rfl,rfl,.of hl,by unfold atI; rw[<- rs.length,hi]; exact hv,h2 vm H2 (s1.trans s2) ⟨dw,vj,e1,e2,?_,?_⟩⟩))
     ·rw[G7 e3]
      simp[V2,hd]
     ·rw[G1 e4]
      simp[S9,hl,hv]
  | _=>exact h2.elim
 | dic kds=>
  cases hk:W4 d2 with
  | none=>simp only[C8,hk] at h2; exact h2.elim
  | some k=>
   cases hd:w6 kds k with
   | none=>simp only[C8,hk,Option.bind_some,hd] at h2; exact h2.elim
   | some dm=>
    simp only[C8,hk,Option.bind_some,hd,Option.map_some] at h2
    cases r0 with
    | @dic a0 kvs _ f1 hl nk rs=>
    have ev:=zc2 r2 hk
    subst ev
    obtain ⟨vm,_,_,_,hv,_⟩:=rs.at nk hd
    refine .inr ⟨a0,vm,rfl,hv ▸ DGet.k hl,h2 vm H2 (s1.trans s2) ⟨dw,vj,e1,e2,?_,?_⟩⟩
    ·rw[G7 e3]
     simp[V2,hd]
    ·rw[G1 e4]
     simp[S9,hl,hv]
 | _=>cases d2 <;> exact h2.elim
theorem z5M {T:MT} (hok:z26 X.K op r) {A:Addr->Prop} {H0 H:Hp} {F:Nat->List Addr} {G:List (D×V)} {ρ:Env} {σ:L2.St} {De:Ends} (sr:SR X.K A H0 F G ρ σ H) {R':V->Hp->Prop} {k:D->Env->Out}
  (h:n8 X.K CA W A H0 G De ((sp ρ).out ρ fun x=>if T.ok x.2.2=true then (s ρ).out ρ fun xs=>match op x.2.2 xs with
   | some y=>(match X5 ρ x y.2 with
    | some ρ'=>k y.1 ρ'
    | none=>.st)
   | none=>.st else .st)) (hR:∀ w H' F' ρ' d,Rep X.K H' d w []->SR X.K A H0 F' G ρ' σ H'->n8 X.K CA W A H0 G De (k d ρ')->R' w H'):tBM X.K T.T r (tP CA W X.K sp) (tA X.K CA W s) σ H R':=by
 refine ⟨A,H0,F,G,ρ,sr,(lift h sr).imp fun x _ q v H1 s1 at1=>?_⟩
 by_cases hT:T.ok x.2.2=true
 ·have q:n8 X.K CA W A H0 G De (if T.ok x.2.2=true then (s ρ).out ρ fun xs=>match op x.2.2 xs with
   | some y=>(match X5 ρ x y.2 with
    | some ρ'=>k y.1 ρ'
    | none=>.st)
   | none=>.st else .st):=q
  rw[if_pos hT] at q
  obtain ⟨f0,r0,_⟩:=at1.open sr s1
  refine ⟨MT.ty r0 hT,A,H0,F,G,ρ,sr.same s1,(lift q (sr.same s1)).imp fun xs _ q2 vs H2 g s2 rs os=>?_⟩
  cases ho:op x.2.2 xs with
  | none=>simp only[ho] at q2; exact q2.elim
  | some y=>
   simp only[ho] at q2
   have at2:=at1.same s2
   obtain ⟨f0,r0,n0,m0,wr⟩:=at2.open (sr.same s1) s2
   refine hok r0 n0 m0 rs os ho fun a o f0' w ea ha hm r' nf hf hmu rw'=>?_
   obtain ⟨ρ',F',e1,sr'⟩:=wr a o y.2 f0' ea ha hm r' nf hf hmu
   rw[e1] at q2
   exact hR w _ F' ρ' y.1 rw' sr' q2
 ·have q:n8 X.K CA W A H0 G De (if T.ok x.2.2=true then (s ρ).out ρ fun xs=>match op x.2.2 xs with
   | some y=>(match X5 ρ x y.2 with
    | some ρ'=>k y.1 ρ'
    | none=>.st)
   | none=>.st else .st):=q
  rw[if_neg hT] at q
  exact q.elim
variable {T:MT}
theorem z3r (pa:PlainAttrs T.T) (slot:Slot T.T name id) (hty:typeOf (.builtin id)=pure (.type "method_descriptor")) (hm:MtR X id r) (hok:z26 X.K op r) (ho:PE X o (tP CA W X.K sp)) (ha:PA X (e::es) (tA X.K CA W s))
  (hs:swapsWith (.Call (.Attribute o name p2) (e::es) [] p3) none pos.line X.env=pure false:=by rfl) (hbase:attributeBase o name X.env (eval o X.env)=eval o X.env:=by rfl)
  (hfew:((backTo p3 (starEach (e::es) X.env)).all (fun x=>!x.1)&&(backToKw p3 (keywordEach [] X.env)).all (fun x=>x.1.isSome)&&decide ((e::es).length + ([]:List Keyword).length + (if ([]:List Keyword).isEmpty then 0 else 1) < 30))=true:=by rfl)
  (hline:(p2.endLine == p3.line)=true:=by rfl) (hst:starEach (e::es) X.env=(false,eval e X.env)::starEach es X.env:=by rfl) (hplain:(backTo p3 (starEach es X.env)).any (·.1)=false:=by rfl) :
  PS X (.Expr (.Call (.Attribute o name p2) (e::es) [] p3) pos) (tS X.K CA W (mtS T sp s op)):=by
 refine psI (ps_expr (pe_bm pa slot hty hm ho ha hbase hfew hline hst hplain) hs) fun D σ H ⟨A,H0,F,G,ρ,sr,h⟩=>?_
 exact z5M (k:=fun _ ρ'=>.nx ρ') hok sr h fun w H' F' ρ' d _ sr' q=>q σ H' F' sr'
end
def zj1:MOp:=fun d xs=>match d,xs with
 | .lst ds,[x]=>if D3 x.1 [x.2]=true/\ds.length < LIM then some (.non,.lst (ds++[x.2])) else none
 | _,_=>none
section
variable {K:PySem.W.Frag} {H Hb:Hp}
theorem z4U {a:Addr} {vs vs':List V} {ds':List D} {f1 g:List Addr} (hl:H a=some (.lst vs)) (nf:(a::f1).Nodup) (m:∀ b∈a::f1,Hb b≠none/\Mu (H b)) (r:Reps K H ds' vs' g) (ng:g.Nodup) (hg:∀ b∈g,b∈f1\/(Hb b=none/\Mu (H b))) :
  Rep K (upd H a (.lst vs')) (.lst ds') (.ref a) (a::g)/\(a::g).Nodup/\(∀ b∈a::g,b∈a::f1\/Hb b=none)/\∀ b∈a::g,Mu ((upd H a (.lst vs')) b):=by
 have n1:=List.nodup_cons.mp nf
 have na:∀ b∈g,b≠a:=fun b hb e=>by
  rcases hg b hb with z | z
  ·exact n1.1 (e ▸ z)
  ·exact (m a List.mem_cons_self).1 (e ▸ z.1)
 have nt:∀ b o,H b=some o->IsT o->(upd H a (.lst vs')) b=some o:=fun b o e t=>by
  by_cases z:b=a
  ·subst z; rw[hl] at e; cases e; exact t.elim
  ·rw[upd_ne z]; exact e
 refine ⟨.lst upd_same (r.frame nt fun b hb o e=>by rw[upd_ne (na b hb)]; exact e),List.nodup_cons.mpr ⟨fun z=>na a z rfl,ng⟩,fun b hb=>?_,fun b hb=>?_⟩
 ·rcases List.mem_cons.mp hb with z | z
  ·exact .inl (by simp[z])
  ·exact (hg b z).imp (fun w=>List.mem_cons_of_mem _ w) (·.1)
 ·by_cases z:b=a
  ·subst z; exact ⟨by rw[upd_same]; trivial⟩
  ·rw[upd_ne z]
   rcases List.mem_cons.mp hb with w | w
   ·exact absurd w z
   ·exact (hg b w).elim (fun w=>(m b (List.mem_cons_of_mem _ w)).2) (·.2)
theorem zR8:z26 K zj1 rAppend:=by
 intro A H0 Hb H F d0 v f0 g xs vs y Q r0 n0 m0 rs os ho k
 unfold zj1 at ho
 split at ho
 ·rename_i ds x
  split at ho
  ·rename_i hc
   cases ho
   cases r0 with
   | @lst a vs0 _ f1 hl q0=>
   have os':KOk A H0 F Hb H (nk x.1 x.2) g:=by rw[<- zY7]; exact os
   obtain ⟨w,rfl,rw'⟩:=rs.one (d:=x.2) rfl
   obtain ⟨n1,m1⟩:=zD0 hc.1 rs (KOk.nk' rw' os')
   have n2:=List.nodup_cons.mp n0
   have dis:∀ b∈f1,∀ c∈g,b≠c:=fun b hb c hc' e=>(m0 b (List.mem_cons_of_mem _ hb)).1 (e ▸ (m1 c hc').1)
   obtain ⟨e1,e2,e3,e4⟩:=z4U (Hb:=Hb) hl n0 m0 (q0.app rs) (List.nodup_append.mpr ⟨n2.2,n1,dis⟩) fun b hb=>(List.mem_append.mp hb).imp id fun z=>m1 b z
   exact ⟨a,vs0,w,rfl,rfl,hl,by rw[<- O4,<- q0.length]; exact hc.2,k a _ _ .non rfl List.mem_cons_self trivial e1 e2 e3 e4 .non⟩
  ·cases ho
 ·cases ho
end
def zy4 (d0:D) (i:D) (x:KD):Option D:=if D3 x.1 [x.2]=true then match d0,i with
 | .lst ds,.int n=>(ixN ds.length n).map fun j=>.lst (ds.set j x.2)
 | .dic kvs,i=>(W4 i).bind fun k=>if kvs.length < LIM then some (.dic (Y2 kvs k x.2)) else none
 | .dtk kvs,i=>(S1 i).bind fun k=>if kvs.length < LIM then some (.dtk (Y2 kvs k x.2)) else none
 | _,_=>none else none
def z4i:TSet:=fun o i v H Q=>rSetL o i v H Q\/rSetD o i v H Q
theorem z5w {X:Cx} (hu:X.A.units + 1 < cLine):PSet X z4i:=by
 intro pins s σ H o i v ov iv u Q I ro ri rv h
 rcases h with h | h
 ·exact set_list pins s σ H o i v ov iv u Q I ro ri rv h
 ·exact set_dict hu pins s σ H o i v ov iv u Q I ro ri rv h
section
variable {K:PySem.W.Frag} {A:Addr->Prop} {H0 Hb H:Hp} {F:Nat->List Addr}
theorem Reps.atN:∀ {ds:List D} {vs:List V} {f:List Addr} {j:Nat} {d:D},Reps K H ds vs f->ds[j]? = some d->∃ v p g r,vs[j]? = some v/\f=p++g++r/\Rep K H d v g ∧
  ∀ (H':Hp) d' g' v',(∀ b o,H b=some o->IsT o->H' b=some o)->(∀ b,b∈p\/b∈r->∀ o,H b=some o->H' b=some o)->Rep K H' d' v' g'->Reps K H' (ds.set j d') (vs.set j v') (p++g'++r)
 | _,_,_,0,d,.cons (f:=f1) (g:=g1) r t,e=>by
  simp at e; subst e
  refine ⟨_,[],f1,g1,rfl,rfl,r,fun H' d' g' v' ht hk r'=>?_⟩
  exact .cons r' (t.frame ht fun a ha=>hk a (.inr ha))
 | _,_,_,j + 1,d,.cons (f:=f1) (g:=g1) r t,e=>by
  obtain ⟨v,p,g,q,h1,h2,h3,h4⟩:=Reps.atN (j:=j) (d:=d) t (by simpa using e)
  subst h2
  refine ⟨v,f1++p,g,q,by simpa using h1,by simp,h3,fun H' d' g' v' ht hk r'=>?_⟩
  have:=Reps.cons (r.frame ht fun a ha=>hk a (.inl (List.mem_append_left _ ha))) (h4 H' d' g' v' ht (fun b hb=>hk b (hb.imp (fun z=>List.mem_append_right _ z) id)) r')
  simpa using this
theorem RepK.app {κ:Type}:∀ {ds es:List (κ×D)} {vs ws:List (κ×V)} {f g:List Addr},RepK K H ds vs f->RepK K H es ws g->RepK K H (ds++es) (vs++ws) (f++g)
 | _,_,_,_,_,_,.nil,s=>s
 | _,_,_,_,_,_,.cons r t,s=>by rw[List.append_assoc]; exact .cons r (RepK.app t s)
theorem zV9 {κ:Type} [DecidableEq κ] {kvs:List (κ×V)} {k:κ} (v:V) (h:k∉kvs.map (·.1)):putK kvs k v=kvs++[(k,v)]:=by
 unfold putK
 have h2:¬ (kvs.any fun kv=>decide (kv.1=k))=true:=fun z=>by
  obtain ⟨p,hp,e⟩:=List.any_eq_true.mp z
  exact h (List.mem_map.mpr ⟨p,hp,of_decide_eq_true e⟩)
 rw[if_neg h2]
theorem zy5 {κ:Type} [DecidableEq κ] {kvs:List (κ×D)} {k:κ}:w6 kvs k=none->k∉kvs.map (·.1):=by
 induction kvs with
 | nil=>intro _ h; cases h
 | cons p r ih=>
  obtain ⟨k',d⟩:=p
  intro h z
  by_cases e:k'=k
  ·simp[w6,e] at h
  ·have h':w6 r k=none:=by simpa [w6,e] using h
   rcases List.mem_cons.mp z with w | w
   ·exact e w.symm
   ·exact ih h' w
theorem z5y {d0 i d0':D} {v vi vx:V} {f0 fi g:List Addr} {x:KD} {Q:Hp->Prop} (r0:Rep K H d0 v f0) (n0:f0.Nodup) (m0:∀ b∈f0,Hb b≠none/\Mu (H b)) (ri:Rep K H i vi fi) (rx:Rep K H x.2 vx g) (ox:KOk A H0 F Hb H x.1 g) (e:zy4 d0 i x=some d0')
  (k:∀ (a:Addr) (o:HO) (f0':List Addr),v=.ref a->a∈f0->zE5 (some o)->Rep K (upd H a o) d0' v f0'->f0'.Nodup->(∀ b∈f0',b∈f0\/Hb b=none)->(∀ b∈f0',Mu ((upd H a o) b))->Q (upd H a o)):z4i v vi vx H Q:=by
 unfold zy4 at e
 split at e
 ·rename_i hc
  have rs:Reps K H [x.2] [vx] g:=by
   have:=Reps.cons rx (Reps.nil (K:=K) (H:=H))
   rw[List.append_nil] at this
   exact this
  obtain ⟨ng,mg⟩:=zD0 hc rs ox
  have fin:∀ {a:Addr} {p g0 s:List Addr} {o:HO},f0=a::(p++g0++s)->zE5 (some o)->(a::(p++g++s)).Nodup/\(∀ b∈a::(p++g++s),b∈f0\/Hb b=none)/\∀ b∈a::(p++g++s),Mu ((upd H a o) b):=fun {a p g0 s o} ef hm=>by
   rw[ef] at n0
   have n1:=List.nodup_cons.mp n0
   obtain ⟨n2,n3,n4⟩:=List.nodup_append.mp n1.2
   obtain ⟨n5,n6,n7⟩:=List.nodup_append.mp n2
   have out:∀ b∈f0,b∉g:=fun b hb z=>(m0 b hb).1 (mg b z).1
   have inn:∀ b,b=a\/b∈p\/b∈s->b∈f0:=fun b hb=>by
    rw[ef]
    rcases hb with z | z | z
    ·simp[z]
    ·simp[z]
    ·simp[z]
   refine ⟨List.nodup_cons.mpr ⟨fun z=>?_,List.nodup_append.mpr ⟨List.nodup_append.mpr ⟨n5,ng,fun x hx y hy e=>out x (inn x (.inr (.inl hx))) (e ▸ hy)⟩,n3,fun x hx y hy=>?_⟩⟩,fun b hb=>?_,fun b hb=>?_⟩
   ·rcases List.mem_append.mp z with z | z
    ·rcases List.mem_append.mp z with z | z
     ·exact n1.1 (by simp[z])
     ·exact out a (inn a (.inl rfl)) z
    ·exact n1.1 (by simp[z])
   ·rcases List.mem_append.mp hx with z | z
    ·exact n4 x (List.mem_append_left _ z) y hy
    ·exact fun e=>out y (inn y (.inr (.inr hy))) (e ▸ z)
   ·rcases List.mem_cons.mp hb with z | z
    ·exact .inl (inn b (.inl z))
    ·rcases List.mem_append.mp z with z | z
     ·rcases List.mem_append.mp z with z | z
      ·exact .inl (inn b (.inr (.inl z)))
      ·exact .inr (mg b z).1
     ·exact .inl (inn b (.inr (.inr z)))
   ·by_cases e:b=a
    ·subst e; exact ⟨by rw[upd_same]; exact hm⟩
    ·rw[upd_ne e]
     rcases List.mem_cons.mp hb with z | z
     ·exact absurd z e
     ·rcases List.mem_append.mp z with z | z
      ·rcases List.mem_append.mp z with z | z
       ·exact (m0 b (inn b (.inr (.inl z)))).2
       ·exact (mg b z).2
      ·exact (m0 b (inn b (.inr (.inr z)))).2
  have keep:∀ {a:Addr} {p g0 s:List Addr} {o ob:HO},H a=some ob->¬ IsT ob->f0=a::(p++g0++s)->(∀ b o',H b=some o'->IsT o'->(upd H a o) b=some o')/\(∀ b,b∈p\/b∈s->∀ o',H b=some o'->(upd H a o) b=some o')/\∀ b∈g,∀ o',H b=some o'->(upd H a o) b=some o':=fun {a p g0 s o ob} ha nt ef=>by
   rw[ef] at n0
   have n1:=List.nodup_cons.mp n0
   refine ⟨fun b o' eb t=>?_,fun b hb o' eb=>?_,fun b hb o' eb=>?_⟩
   ·have:b≠a:=fun z=>by subst z; rw[ha] at eb; cases eb; exact nt t
    rw[upd_ne this]; exact eb
   ·have:b≠a:=fun z=>n1.1 (by subst z; rcases hb with z | z <;> simp[z])
    rw[upd_ne this]; exact eb
   ·have:b≠a:=fun z=>(m0 a (by rw[ef]; simp)).1 (z ▸ (mg b hb).1)
    rw[upd_ne this]; exact eb
  cases d0 with
  | lst ds=>
   cases i with
   | int n=>
    cases hj:ixN ds.length n with
    | none=>simp[hj] at e
    | some j=>
     simp only[hj,Option.map_some,Option.some.injEq] at e
     subst e
     cases ri
     cases r0 with
     | @lst a vs _ f1 hl q0=>
     obtain ⟨hj1,_,_,hj4⟩:=ixN_seq hj
     have hjl:j < ds.length:=by
      have:=hj
      unfold ixN at this
      first | omega | (split at this <;> first | (cases this; omega) | (split at this <;> first | (cases this; omega) | cases this))
     obtain ⟨w,p,g0,s,h1,h2,h3,h4⟩:=q0.atN (List.getElem?_eq_getElem hjl)
     subst h2
     obtain ⟨k1,k2,k3⟩:=keep (o:=.lst (vs.set j vx)) hl (fun z=>z) rfl
     obtain ⟨f1',f2',f3'⟩:=fin (o:=.lst (vs.set j vx)) rfl trivial
     exact .inl ⟨a,vs,n,j,rfl,rfl,hl,by rw[<- q0.length]; exact hj,k a _ _ rfl List.mem_cons_self trivial (.lst upd_same (h4 _ x.2 g vx k1 k2 (rx.frame k1 k3))) f1' f2' f3'⟩
   | _=>cases e
  | dic kds=>
   cases hk:W4 i with
   | none=>simp[hk] at e
   | some kk=>
    simp only[hk,Option.bind_some] at e
    split at e
    ·rename_i hz
     cases e
     have ev:=zc2 ri hk
     subst ev
     cases r0 with
     | @dic a kvs _ f1 hl nk q0=>
     have hz':kvs.length < sizeLine:=by rw[<- O4,<- q0.length]; exact hz
     refine .inr ⟨a,_,rfl,DPut.k hl hz',?_⟩
     cases hd:w6 kds kk with
     | some d=>
      obtain ⟨w,p,g0,s,h1,h2,h3,h4⟩:=q0.at nk hd
      subst h2
      obtain ⟨k1,k2,k3⟩:=keep (o:=.dK (putK kvs kk vx)) hl (fun z=>z) rfl
      obtain ⟨f1',f2',f3'⟩:=fin (o:=.dK (putK kvs kk vx)) rfl trivial
      exact k a _ _ rfl List.mem_cons_self trivial (.dic upd_same (E4 nk) (h4 _ x.2 g vx k1 k2 (rx.frame k1 k3))) f1' f2' f3'
     | none=>
      have no:=zy5 hd
      have nv:kk∉kvs.map (·.1):=by rw[q0.keys]; exact no
      have e1:f1=f1++[]++[]:=by simp
      obtain ⟨k1,k2,k3⟩:=keep (p:=f1) (g0:=[]) (s:=[]) (o:=.dK (putK kvs kk vx)) hl (fun z=>z) (by rw[<- e1])
      obtain ⟨f1',f2',f3'⟩:=fin (p:=f1) (g0:=[]) (s:=[]) (o:=.dK (putK kvs kk vx)) (by rw[<- e1]) trivial
      have r1:RepK K (upd H a (.dK (putK kvs kk vx))) (kds++[(kk,x.2)]) (kvs++[(kk,vx)]) (f1++(g++[])):=
       (q0.frame k1 fun b hb=>k2 b (.inl hb)).app (.cons (rx.frame k1 k3) .nil)
      rw[<- zi3 x.2 no,<- zV9 vx nv,List.append_nil] at r1
      have e2:f1++g++[]=f1++g:=by simp
      rw[e2] at f1' f2' f3'
      exact k a _ _ rfl List.mem_cons_self trivial (.dic upd_same (E4 nk) r1) f1' f2' f3'
    ·cases e
  | dtk kds=>
   cases hk:S1 i with
   | none=>simp[hk] at e
   | some kk=>
    simp only[hk,Option.bind_some] at e
    split at e
    ·rename_i hz
     cases e
     obtain ⟨bk,ev,eb⟩:=zu7 ri hk
     subst ev
     cases r0 with
     | @dtk a kvs _ f1 hl nk q0=>
     have hz':kvs.length < sizeLine:=by rw[<- O4,<- q0.length]; exact hz
     refine .inr ⟨a,_,rfl,DPut.t hl eb hz',?_⟩
     cases hd:w6 kds kk with
     | some d=>
      obtain ⟨w,p,g0,s,h1,h2,h3,h4⟩:=q0.at nk hd
      subst h2
      obtain ⟨k1,k2,k3⟩:=keep (o:=.dT (putK kvs kk vx)) hl (fun z=>z) rfl
      obtain ⟨f1',f2',f3'⟩:=fin (o:=.dT (putK kvs kk vx)) rfl trivial
      exact k a _ _ rfl List.mem_cons_self trivial (.dtk upd_same (E4 nk) (h4 _ x.2 g vx k1 k2 (rx.frame k1 k3))) f1' f2' f3'
     | none=>
      have no:=zy5 hd
      have nv:kk∉kvs.map (·.1):=by rw[q0.keys]; exact no
      have e1:f1=f1++[]++[]:=by simp
      obtain ⟨k1,k2,k3⟩:=keep (p:=f1) (g0:=[]) (s:=[]) (o:=.dT (putK kvs kk vx)) hl (fun z=>z) (by rw[<- e1])
      obtain ⟨f1',f2',f3'⟩:=fin (p:=f1) (g0:=[]) (s:=[]) (o:=.dT (putK kvs kk vx)) (by rw[<- e1]) trivial
      have r1:RepK K (upd H a (.dT (putK kvs kk vx))) (kds++[(kk,x.2)]) (kvs++[(kk,vx)]) (f1++(g++[])):=
       (q0.frame k1 fun b hb=>k2 b (.inl hb)).app (.cons (rx.frame k1 k3) .nil)
      rw[<- zi3 x.2 no,<- zV9 vx nv,List.append_nil] at r1
      have e2:f1++g++[]=f1++g:=by simp
      rw[e2] at f1' f2' f3'
      exact k a _ _ rfl List.mem_cons_self trivial (.dtk upd_same (E4 nk) r1) f1' f2' f3'
    ·cases e
  | _=>cases e
 ·cases e
end
def zc5 (p:SPh) (i s:SE):SS:=fun ρ=>(s ρ).out ρ fun x=>(p ρ).out ρ fun y=>(i ρ).out ρ fun z=>match zy4 y.2.2 z.2 x with
 | some d=>(match X5 ρ y d with
  | some ρ'=>.nx ρ'
  | none=>.st)
 | none=>.st
section
variable {X:Cx} {CA:String->Addr} {W:WX} {pos pos' p1 p2 p3:Pos} {o i e:Expr} {se si:SE} {sp:SPh}
theorem zu1 (hu:X.A.units + 65 < cLine) (he:PE X e (tE X.K CA W se)) (ho:PE X o (tP CA W X.K sp)) (hi:PE X i (tE X.K CA W si))
  (ha:∀ v,assign (.Subscript o i pos') X.env v=(do
   let ov <- holding [v] (eval o X.env)
   let iv <- holding [v,ov] (eval i X.env)
   standAt pos'
   holding [v,ov,iv] (setItem ov iv v)
   release [v,ov,iv] []):=by intro _; rfl)
  (hs:swapsWithSole [.Subscript o i pos'] e pos.line X.env=pure false:=by rfl) (hw:swappedStores [.Subscript o i pos'] e X.env=pure none:=by rfl)
  (h1:(assignEach [.Subscript o i pos'] X.env).map (·.2)=[assign (.Subscript o i pos') X.env]:=by rfl) :
  PS X (.Assign [.Subscript o i pos'] e pos) (tS X.K CA W (zc5 sp si se)):=by
 refine psI (ps_asg he (pg_sub ho hi (z5w (by omega)) ha) hs hw h1) fun De σ H ⟨A,H0,F,G,ρ,sr,h⟩=>?_
 refine ⟨A,H0,F,G,ρ,sr,(lift h sr).imp fun x _ q vx H1 g s1 rx ox=>?_⟩
 refine ⟨A,H0,F,G,ρ,sr.same s1,(lift q (sr.same s1)).imp fun y _ q2 v H2 s2 at2=>?_⟩
 have s12:=s1.trans s2
 refine ⟨A,H0,F,G,ρ,sr.same s12,(lift q2 (sr.same s12)).imp fun z _ q3 vi H3 fi s3 ri oi=>?_⟩
 have s13:=s12.trans s3
 have s23:=s2.trans s3
 cases hb:zy4 y.2.2 z.2 x with
 | none=>simp only[hb] at q3; exact q3.elim
 | some d'=>
  simp only[hb] at q3
  obtain ⟨f0,r0,n0,m0,wr⟩:=(at2.same s3).open sr s13
  refine z5y r0 n0 m0 ri (rx.same s23) (ox.wide (Same.refl _) s23) hb fun a ob f0' ea ha' hm r' nf hf hmu=>?_
  obtain ⟨ρ',F',e1,sr'⟩:=wr a ob d' f0' ea ha' hm r' nf hf hmu
  rw[e1] at q3
  exact q3 σ _ F' sr'
end
def whN (t:STs) (b:SS):Nat->SS
 | 0=>fun _=>.st
 | n + 1=>fun ρ=>(t ρ).out ρ fun c=>if c=true then (match b ρ with
  | .nx ρ2=>whN t b n ρ2
  | .ct ρ2=>whN t b n ρ2
  | .bk ρ2=>.nx ρ2
  | o=>o) else .nx ρ
open Classical in
noncomputable def whS (t:STs) (b:SS):SS:=fun ρ=>if h:∃ n,whN t b n ρ≠.st then whN t b h.choose ρ else .st
theorem zS6 {t:STs} {b:SS}:∀ {n m:Nat} {ρ:Env},n<=m->whN t b n ρ≠.st->whN t b m ρ=whN t b n ρ:=by
 intro n
 induction n with
 | zero=>intro m ρ _ h; exact absurd rfl h
 | succ n ih=>
  intro m ρ hm h
  obtain ⟨m,rfl⟩:∃ k,m=k + 1:=⟨m - 1,by omega⟩
  unfold whN at h ⊢
  cases ht:t ρ with
  | ok c=>
   rw[ht] at h
   simp only[R.out_ok] at h ⊢
   cases c with
   | true=>
    rw[if_pos rfl] at h ⊢
    cases hb:b ρ with
    | nx ρ2=>simp only[hb] at h ⊢; exact ih (by omega) h
    | ct ρ2=>simp only[hb] at h ⊢; exact ih (by omega) h
    | _=>rfl
   | false=>rfl
  | ex c=>rfl
  | st=>rfl
theorem zC7 {t:STs} {b:SS} {n:Nat} {ρ:Env} (h:whN t b n ρ≠.st):whS t b ρ=whN t b n ρ:=by
 have hx:∃ n,whN t b n ρ≠.st:=⟨n,h⟩
 unfold whS
 rw[dif_pos hx]
 rcases Nat.le_total hx.choose n with q | q
 ·exact (zS6 q hx.choose_spec).symm
 ·exact zS6 q h
theorem z1h {t:STs} {b:SS} {ρ:Env} (h:∀ n,whN t b n ρ=.st):whS t b ρ=.st:=by
 unfold whS
 rw[dif_neg fun ⟨n,z⟩=>z (h n)]
theorem zJ7 {t:STs} {b:SS} {ρ:Env}:∃ n,whS t b ρ=whN t b n ρ:=by
 rcases Classical.em (∃ n,whN t b n ρ≠.st) with h | h
 ·exact ⟨h.choose,zC7 h.choose_spec⟩
 ·exact ⟨0,z1h fun n=>Classical.byContradiction fun z=>h ⟨n,z⟩⟩
theorem zh7 {t:STs} {b:SS} {ρ:Env}:whS t b ρ=(t ρ).out ρ fun c=>if c=true then (match b ρ with
  | .nx ρ2=>whS t b ρ2
  | .ct ρ2=>whS t b ρ2
  | .bk ρ2=>.nx ρ2
  | o=>o) else .nx ρ:=by
 have up:∀ n,whN t b (n + 1) ρ=(t ρ).out ρ fun c=>if c=true then (match b ρ with
  | .nx ρ2=>whN t b n ρ2
  | .ct ρ2=>whN t b n ρ2
  | .bk ρ2=>.nx ρ2
  | o=>o) else .nx ρ:=fun n=>rfl
 have key:∃ n,((t ρ).out ρ fun c=>if c=true then (match b ρ with
  | .nx ρ2=>whS t b ρ2
  | .ct ρ2=>whS t b ρ2
  | .bk ρ2=>.nx ρ2
  | o=>o) else .nx ρ)=whN t b (n + 1) ρ:=by
  cases ht:t ρ with
  | ok c=>
   cases c with
   | true=>
    cases hb:b ρ with
    | nx ρ2=>obtain ⟨n,e⟩:=zJ7 (t:=t) (b:=b) (ρ:=ρ2); exact ⟨n,by rw[up,ht,hb]; simp only[R.out_ok,if_true]; exact e⟩
    | ct ρ2=>obtain ⟨n,e⟩:=zJ7 (t:=t) (b:=b) (ρ:=ρ2); exact ⟨n,by rw[up,ht,hb]; simp only[R.out_ok,if_true]; exact e⟩
    | _=>exact ⟨0,by rw[up,ht,hb]⟩
   | false=>exact ⟨0,by rw[up,ht]; rfl⟩
  | ex c=>exact ⟨0,by rw[up,ht]; rfl⟩
  | st=>exact ⟨0,by rw[up,ht]; rfl⟩
 obtain ⟨n,e⟩:=key
 rw[e]
 by_cases h:whN t b (n + 1) ρ=.st
 ·rw[h]
  refine z1h fun m=>?_
  cases m with
  | zero=>rfl
  | succ m=>
   rw[h] at e
   rw[up]
   cases ht:t ρ with
   | ok c=>
    rw[ht] at e
    cases c with
    | true=>
     simp only[R.out_ok,if_true] at e ⊢
     cases hb:b ρ with
     | nx ρ2=>
      simp only[hb] at e ⊢
      refine Classical.byContradiction fun z=>z ?_
      rw[<- zC7 z]; exact e
     | ct ρ2=>
      simp only[hb] at e ⊢
      refine Classical.byContradiction fun z=>z ?_
      rw[<- zC7 z]; exact e
     | bk ρ2=>rw[hb] at e; exact e
     | rt k d=>rw[hb] at e; exact e
     | ex c ρ2=>rw[hb] at e; exact e
     | st=>rfl
     | ri ρ2 k d=>rw[hb] at e; exact e
    | false=>exact e
   | ex c=>rw[ht] at e; exact e
   | st=>rfl
 ·exact zC7 h
section
variable {X:Cx} {CA:String->Addr} {W:WX} {pos pos':Pos} {c:Expr} {body:List Stmt} {t:STs} {sb:SS}
theorem zN2 (hp:PassesOwn (model X.prog X.w) X.A X.env X.xe) (hc:PT X c (tT X.K CA W t)) (hb:PSs X body (tS X.K CA W sb)):PS X (.While c body [] pos) (tS X.K CA W (whS t sb)):=by
 refine psI (ps_while hp hc hb) fun D σ H ⟨A,H0,F,G,ρ,sr,h⟩=>?_
 obtain ⟨n,e⟩:=zJ7 (t:=t) (b:=sb) (ρ:=ρ)
 have h:n8 X.K CA W A H0 G D (whS t sb ρ):=h
 rw[e] at h
 refine ⟨fun m σ H=>∃ F ρ,SR X.K A H0 F G ρ σ H/\n8 X.K CA W A H0 G D (whN t sb m ρ),⟨n,F,ρ,sr,h⟩,?_⟩
 rintro m σ2 H2 ⟨F2,ρ2,sr2,o2⟩
 cases m with
 | zero=>exact o2.elim
 | succ m=>
  have o2:n8 X.K CA W A H0 G D ((t ρ2).out ρ2 fun c=>if c=true then (match sb ρ2 with
  | .nx ρ2=>whN t sb m ρ2
  | .ct ρ2=>whN t sb m ρ2
  | .bk ρ2=>.nx ρ2
  | o=>o) else .nx ρ2):=o2
  refine ⟨A,H0,F2,G,ρ2,sr2,(lift o2 sr2).imp fun b _ q H3 s3=>?_⟩
  cases b with
  | true=>
   rw[if_pos rfl] at q ⊢
   refine ⟨fun σ H=>∃ F ρ,SR X.K A H0 F G ρ σ H/\n8 X.K CA W A H0 G D (whN t sb m ρ),fun σ' H' z=>⟨m,Nat.lt_succ_self m,z⟩,A,H0,F2,G,ρ2,sr2.same s3,?_⟩
   cases h2:sb ρ2 with
   | nx ρ4=>simp only[h2] at q; exact fun σ4 H4 F4 sr4=>⟨F4,ρ4,sr4,q⟩
   | ct ρ4=>simp only[h2] at q; exact fun σ4 H4 F4 sr4=>⟨F4,ρ4,sr4,q⟩
   | bk ρ4=>simp only[h2] at q; exact fun σ4 H4 F4 sr4=>q σ4 H4 F4 sr4
   | rt k' d'=>simp only[h2] at q; exact q
   | ex c ρ4=>simp only[h2] at q; exact q
   | st=>simp only[h2] at q; exact q.elim
   | ri ρ4 k' d'=>simp only[h2] at q; exact q
  | false=>
   rw[if_neg Bool.false_ne_true] at q ⊢
   exact q σ2 H3 F2 (sr2.same s3)
end
def N9 (c D:String):Bool:=c == D||D == "CenserError"
def Out.nox:Out->Out
 | .ex _ _=>.st
 | o=>o
def zf7 (c:Ec):List (String×(Ec->SS))->SS
 | []=>fun ρ=>.ex c ρ
 | (D,s)::r=>fun ρ=>if N9 c.nm D=true then (s c ρ).nox else zf7 c r ρ
def z3m (xs:List String) (b:SS) (hs:List (String×(Ec->SS))):SS:=fun ρ=>match b ρ with
 | .ex c ρ'=>if xs.contains c.nm=true then zf7 c hs ρ' else .st
 | o=>o
inductive Hds (X:Cx) (CA:String->Addr) (xs:List String):List ExceptHandler->List (String×(Ec->SS))->Prop
 | nil:Hds X CA xs [] []
 | cons {D:String} {s:Ec->SS} {b₀:Stmt} {suite:List Stmt} {np pos':Pos} {hds:List ExceptHandler} {l:List (String×(Ec->SS))} (hc:Names X (Str.ofString D) (.ref (CA D))) (hx:∀ c∈xs,PySem.W.exmOne X.K (.ref (CA c)) (.ref (CA D))=some (N9 c D))
   (hsu:∀ (e:Ec) (a:Addr) (oe:Obj) (pn:List (Addr×Obj)),PSs (X.suite a ((a,oe)::pn)) (b₀::suite) (tS X.K CA W0 (s e))) (r:Hds X CA xs hds l):Hds X CA xs (.ExceptHandler (some (.Name (Str.ofString D) np)) none (b₀::suite) pos'::hds) ((D,s)::l)
def z4k (X:Cx) (CA:String->Addr) (l:List (String×(Ec->SS))):List (Value×(Addr->Value->Option Addr->TS)):=l.map fun p=>(.ref (CA p.1),fun _ _ _ D σ H=>∃ e,tS X.K CA W0 (p.2 e) D σ H)
theorem Hds.ok {X:Cx} {CA:String->Addr} {xs:List String}:∀ {hds:List ExceptHandler} {l:List (String×(Ec->SS))},Hds X CA xs hds l->HdsOk X hds (z4k X CA l)
 | _,_,.nil=>.nil
 | _,_,.cons hc hx hsu r=>.cons hc (fun a oe cls d pn _ _=>⟨fun pins s σ H D I ⟨e,q⟩=>(hsu e a oe pn).run pins s σ H D I q⟩) r.ok
theorem z7u {K:PySem.W.Frag} {CA:String->Addr} {W:WX} {A:Addr->Prop} {H0:Hp} {G:List (D×V)} {De:Ends} {o:Out} (h:n8 K CA W A H0 G De o.nox):n8 K CA W0 A H0 G De o:=by
 cases o with
 | ex c ρ=>exact h.elim
 | nx ρ=>exact h
 | rt k d=>exact h
 | bk ρ=>exact h
 | ct ρ=>exact h
 | st=>exact h.elim
 | ri ρ k d=>exact h
section
variable {X:Cx} {CA:String->Addr} {W:WX} {pos:Pos} {xs:List String} {body:List Stmt} {h₀:ExceptHandler} {hds:List ExceptHandler} {l:List (String×(Ec->SS))} {sb:SS}
theorem Hds.catch {A:Addr->Prop} {H0 H:Hp} {F:Nat->List Addr} {G:List (D×V)} {ρ:Env} {σ:L2.St} {D:Ends} {c:Ec} {od:Option Addr} (hcx:c.nm∈xs):∀ {hds:List ExceptHandler} {l:List (String×(Ec->SS))},Hds X CA xs hds l->SR X.K A H0 F G ρ σ H->(zf7 c l ρ=.ex c ρ->n8 X.K CA W A H0 G D (zf7 c l ρ)->W (.ref (CA c.nm)) od σ H)->n8 X.K CA W A H0 G D (zf7 c l ρ)->wMany X.K W D (z4k X CA l) (.ref (CA c.nm)) od σ H
 | _,_,.nil,sr,k,o=>k rfl o
 | _,_,.cons (D:=E) (s:=s) (l:=l) hc hx hsu r,sr,k,o=>by
  have o:n8 X.K CA W A H0 G D (if N9 c.nm E=true then (s c ρ).nox else zf7 c l ρ):=o
  have k:((if N9 c.nm E=true then (s c ρ).nox else zf7 c l ρ)=.ex c ρ->n8 X.K CA W A H0 G D (if N9 c.nm E=true then (s c ρ).nox else zf7 c l ρ)->W (.ref (CA c.nm)) od σ H):=k
  refine ⟨N9 c.nm E,hx _ hcx,fun hy a ha=>?_,fun hn=>?_⟩
  ·rw[if_pos hy] at o
   exact ⟨c,A,H0,F,G,ρ,sr,z7u o⟩
  ·have hne:¬ N9 c.nm E=true:=by rw[hn]; exact Bool.false_ne_true
   rw[if_neg hne] at o k
   exact Hds.catch hcx r sr k o
theorem z8I (tk:Takes X W) (hb:∀ (W':WX) (pn:List (Addr×Obj)) (xe:Value->Shared->Prop),Takes (X.tr pn xe) W'->PassesOwn (model X.prog X.w) X.A X.env xe->PSs (X.tr pn xe) body (tS X.K CA W' sb))
  (hh:Hds X CA xs (h₀::hds) l) (hs:X.stack=X.env::X.outer:=by rfl) (hf:X.env.frame=some X.env.locals:=by rfl):PS X (.Try body (h₀::hds) [] [] pos) (tS X.K CA W (z3m xs sb l)):=by
 refine psI (ps_try_many hs hf tk hb hh.ok) fun D σ H ⟨A,H0,F,G,ρ,sr,h⟩=>?_
 refine ⟨A,H0,F,G,ρ,sr,?_⟩
 have h:n8 X.K CA W A H0 G D (match sb ρ with
 | .ex c ρ'=>if xs.contains c.nm=true then zf7 c l ρ' else .st
 | o=>o):=h
 cases ho:sb ρ with
 | nx ρ'=>rw[ho] at h; exact h
 | rt k d=>rw[ho] at h; exact h
 | bk ρ'=>rw[ho] at h; exact h
 | ct ρ'=>rw[ho] at h; exact h
 | st=>rw[ho] at h; exact h.elim
 | ri ρ' k d=>rw[ho] at h; exact h
 | ex c ρ'=>
  rw[ho] at h
  by_cases hc:xs.contains c.nm=true
  ·simp only[hc,if_true] at h
   have hc':c.nm∈xs:=by simpa using hc
   intro σ' H' F' sr'
   cases c with
   | n nm=>exact hh.catch (c:=.n nm) hc' sr' (fun e o=>by rw[e] at o; exact o σ' H' F' sr') h
   | p nm fld d=>exact fun dx v hdx rv=>hh.catch (c:=.p nm fld d) hc' sr' (fun e o=>by rw[e] at o; exact o σ' H' F' sr' dx v hdx rv) h
  ·simp only[hc,if_false,Bool.false_eq_true] at h
   exact h.elim
end
theorem zz1 {P:String->Prop}:∀ c∈([]:List String),P c:=fun _ h=>nomatch h
theorem O6 {K:PySem.W.Frag} {CA:String->Addr} {c D:String} {b:Bool} {l:List String} (h:PySem.W.exmOne K (.ref (CA c)) (.ref (CA D))=some b) (r:∀ c∈l,PySem.W.exmOne K (.ref (CA c)) (.ref (CA D))=some (N9 c D)) (hb:N9 c D=b:=by decide) :
  ∀ x∈c::l,PySem.W.exmOne K (.ref (CA x)) (.ref (CA D))=some (N9 x D):=fun x hx=>by
 rcases List.mem_cons.mp hx with e | e
 ·subst e; rw[hb]; exact h
 ·exact r x e
theorem ze3 {K:PySem.W.Frag} {h:Heap} {mg:Str->Option Value} {C D:Addr} {x y:String} {b:Bool} (X:K.In h) (G:h.Ns mainGlobals mg) (a:PySem.W.nsIn K mainGlobals (Str.ofString x)=some (some (.ref C))) (a':PySem.W.nsIn K mainGlobals (Str.ofString y)=some (some (.ref D)))
  (e:PySem.W.exmOne K (.ref C) (.ref D)=some b):PySem.W.exmOne K (.ref (T1 mg x)) (.ref (T1 mg y))=some b:=by
 have e1:mg (Str.ofString x)=some (.ref C):=PySem.W.mg_of X G a
 have e2:mg (Str.ofString y)=some (.ref D):=PySem.W.mg_of X G a'
 have e3:T1 mg x=C:=by unfold T1; rw[e1]
 have e4:T1 mg y=D:=by unfold T1; rw[e2]
 rw[e3,e4]; exact e
theorem ze8 {K:PySem.W.Frag} {C D:Addr} {b:Bool} (h1:PySem.W.subIn K (.ref D) (.type "BaseException")=some true) (h2:PySem.W.isClsIn K D=true) (h3:PySem.W.typeIn K (.ref D)=some (.type "type")) (h4:PySem.W.subIn K (.ref C) (.ref D)=some b) :
  PySem.W.exmOne K (.ref C) (.ref D)=some b:=by
 have e1:(PySem.W.subIn K (.ref D) (.type "BaseException") == some true)=true:=by rw[h1]; rfl
 have e2:((PySem.W.clsIn K D).isSome&&PySem.W.typeIn K (.ref D) == some (.type "type"))=true:=by
  have h2':(PySem.W.clsIn K D).isSome=true:=h2
  rw[h2',h3]; rfl
 show (if (PySem.W.subIn K (.ref D) (.type "BaseException") == some true)=true then (if ((PySem.W.clsIn K D).isSome&&PySem.W.typeIn K (.ref D) == some (.type "type"))=true then PySem.W.subIn K (.ref C) (.ref D) else none) else none)=some b
 rw[if_pos e1,if_pos e2]
 exact h4
abbrev QOp:=D->List D->Option D
def ddI:List Int->List Int
 | []=>[]
 | n::r=>if n∈r then ddI r else n::ddI r
def rlb (j i:Nat):Sl->Sl
 | .bo is d=>.bo (is.map fun x=>if x=j then i else x) d
 | s=>s
def mvS (i j:Nat):SS:=fun ρ=>match ρ[j]? with
 | some (.ow d)=>if i≠j/\i < ρ.length then .nx (((ρ.map (rlb j i)).set j (.bo [i] d)).set i (.ow d)) else .st
 | some (.bo is d)=>.nx (ρ.set i (mkS (.bor is) d))
 | _=>.st
section
variable {K:PySem.W.Frag} {A:Addr->Prop} {H0 H:Hp} {F:Nat->List Addr} {G:List (D×V)} {ρ:Env} {σ:L2.St}
theorem SR.move {i j:Nat} {d:D} {v:V} (sr:SR K A H0 F G ρ σ H) (hij:i≠j) (hi:i < ρ.length) (hd:ρ[j]? = some (.ow d)) (hv:σ[j]? = some (some v)) (r:Rep K H d v (F j)) :
  SR K A H0 (w9 (w9 F j []) i (F j)) G (((ρ.map (rlb j i)).set j (.bo [i] d)).set i (.ow d)) (σ.set i (some v)) H:=by
 have hji:j≠i:=Ne.symm hij
 have Fi:w9 (w9 F j []) i (F j) i=F j:=x5
 have Fj:w9 (w9 F j []) i (F j) j=[]:=by rw[y5 hji,x5]
 have Fo:∀ k,k≠i->k≠j->w9 (w9 F j []) i (F j) k=F k:=fun k h1 h2=>by rw[y5 h1,y5 h2]
 have sub:∀ k a,a∈w9 (w9 F j []) i (F j) k->∃ m,a∈F m:=fun k a h=>by
  by_cases h1:k=i
  ·subst h1; rw[Fi] at h; exact ⟨_,h⟩
  ·by_cases h2:k=j
   ·subst h2; rw[Fj] at h; cases h
   ·rw[Fo k h1 h2] at h; exact ⟨_,h⟩
 have sh:∀ {a:Addr},Sh A H0 F a->Sh A H0 (w9 (w9 F j []) i (F j)) a:=fun {a} h=>⟨h.1,fun k hk=>let ⟨m,hm⟩:=sub k a hk; h.2 m hm⟩
 have hjl:j < ρ.length:=(List.getElem?_eq_some_iff.mp hd).1
 have at':∀ k,(((ρ.map (rlb j i)).set j (.bo [i] d)).set i (.ow d))[k]? = if k=i then some (.ow d) else if k=j then some (.bo [i] d) else ρ[k]?.map (rlb j i):=fun k=>by
  by_cases h1:k=i
  ·subst h1; rw[if_pos rfl,List.getElem?_set_self (by simpa using hi)]
  ·rw[if_neg h1,List.getElem?_set_ne (Ne.symm h1)]
   by_cases h2:k=j
   ·subst h2; rw[if_pos rfl,List.getElem?_set_self (by simpa using hjl)]
   ·rw[if_neg h2,List.getElem?_set_ne (Ne.symm h2),List.getElem?_map]
 refine ⟨by simpa using sr.len,sr.fr,fun k=>?_,fun k m a hk hm=>?_,fun k d' e=>?_,fun k is d' e=>?_,fun p hp=>?_,fun k hk hn=>?_,V8 (V8 sr.fin),sr.tbS (fun z=>zT1 (fun x hx=>by
  cases x with
  | bo is d=>unfold rlb at hx; first | cases hx | (simp only at hx; split at hx <;> cases hx)
  | _=>exact hx) (R4 rfl (R4 rfl z))) fun _ _ e _=>e⟩
 ·by_cases h1:k=i
  ·subst h1; rw[Fi]; exact sr.own j
  ·by_cases h2:k=j
   ·subst h2; rw[Fj]; exact ⟨List.nodup_nil,fun a ha=>nomatch ha⟩
   ·rw[Fo k h1 h2]; exact sr.own k
 ·have src:∀ k,a∈w9 (w9 F j []) i (F j) k->(k=i/\a∈F j)\/(k≠i/\k≠j/\a∈F k):=fun k h=>by
   by_cases h1:k=i
   ·subst h1; rw[Fi] at h; exact .inl ⟨rfl,h⟩
   ·by_cases h2:k=j
    ·subst h2; rw[Fj] at h; cases h
    ·rw[Fo k h1 h2] at h; exact .inr ⟨h1,h2,h⟩
  rcases src k hk with ⟨e1,q1⟩ | ⟨e1,e1',q1⟩ <;> rcases src m hm with ⟨e2,q2⟩ | ⟨e2,e2',q2⟩
  ·rw[e1,e2]
  ·exact absurd (sr.dis m j a q2 q1) e2'
  ·exact absurd (sr.dis k j a q1 q2) e1'
  ·exact sr.dis k m a q1 q2
 ·rw[at'] at e
  by_cases h1:k=i
  ·subst h1
   rw[if_pos rfl] at e; cases e
   exact ⟨v,by rw[List.getElem?_set_self (by rw[<- sr.len]; exact hi)],by rw[Fi]; exact r⟩
  ·rw[if_neg h1] at e
   by_cases h2:k=j
   ·subst h2; rw[if_pos rfl] at e; cases e
   ·rw[if_neg h2] at e
    rw[List.getElem?_set_ne (Ne.symm h1),Fo k h1 h2]
    cases hs:ρ[k]? with
    | none=>rw[hs] at e; cases e
    | some s=>
     rw[hs] at e
     cases s with
     | no=>cases e
     | tb=>cases e
     | ow d2=>cases e; exact sr.slo k _ hs
     | bo is d2=>cases e
 ·rw[at'] at e
  by_cases h1:k=i
  ·subst h1; rw[if_pos rfl] at e; cases e
  ·rw[if_neg h1] at e
   rw[List.getElem?_set_ne (Ne.symm h1)]
   by_cases h2:k=j
   ·subst h2
    rw[if_pos rfl] at e; cases e
    exact ⟨v,F k,hv,r,fun a ha=>.inl ⟨i,by simp,by rw[Fi]; exact ha⟩⟩
   ·rw[if_neg h2] at e
    cases hs:ρ[k]? with
    | none=>rw[hs] at e; cases e
    | some s=>
     rw[hs] at e
     cases s with
     | no=>cases e
     | tb=>cases e
     | ow d2=>cases e
     | bo is0 d2=>
      cases e
      obtain ⟨v2,f,h3,h4,h5⟩:=sr.slb k is0 _ hs
      refine ⟨v2,f,h3,h4,fun a ha=>?_⟩
      rcases h5 a ha with ⟨m,hm,q⟩ | q
      ·by_cases e1:m=j
       ·subst e1
        exact .inl ⟨i,List.mem_map.mpr ⟨m,hm,by simp⟩,by rw[Fi]; exact q⟩
       ·by_cases e2:m=i
        ·subst e2
         refine .inr ⟨.inr ((sr.own m).2 a q).1,fun n hn=>?_⟩
         by_cases e3:n=m
         ·subst e3; rw[Fi] at hn; exact e1 (sr.dis n j a q hn)
         ·by_cases e4:n=j
          ·subst e4; rw[Fj] at hn; cases hn
          ·rw[Fo n e3 e4] at hn; exact e3 (sr.dis n m a hn q)
        ·exact .inl ⟨m,List.mem_map.mpr ⟨m,hm,by simp[e1]⟩,by rw[Fo m e2 e1]; exact q⟩
      ·exact .inr (sh q)
 ·obtain ⟨f,h1,h2⟩:=sr.gho p hp
  exact ⟨f,h1,fun a ha=>sh (h2 a ha)⟩
 ·rw[at']
  by_cases h1:k=i
  ·subst h1; exact ⟨d,by rw[if_pos rfl]⟩
  ·rw[if_neg h1]
   by_cases h2:k=j
   ·subst h2; rw[Fj] at hn; exact absurd rfl hn
   ·rw[if_neg h2]
    rw[Fo k h1 h2] at hn
    obtain ⟨d2,e2⟩:=sr.emp k (by simpa using hk) hn
    exact ⟨d2,by rw[e2]; rfl⟩
end
section
variable {X:Cx} {CA:String->Addr} {W:WX} {pos p1 p2:Pos}
theorem z6Y (i j:Nat) {x y:Str} (hN:X.N.Nodup) (hi:X.N[i]? = some x:=by rfl) (hj:X.N[j]? = some y:=by rfl) (hx:Loc X.env.scope x:=by first | exact Or.inl rfl | exact Or.inr rfl) (hs:swapsWith (.Name y p2) (some (.Name x p1)) pos.line X.env=pure false:=by rfl)
  (hf:X.fn x=true\/X.env.scope.names.lookup x=some .local:=by first | exact .inl rfl | exact .inr rfl | assumption)
  (hv:Vis X.env.scope y:=by first | exact Or.inl rfl | exact Or.inr (Or.inl rfl) | exact Or.inr (Or.inr rfl)) (hd:(y == ("__debug__" : Str))=false:=by decide) (hcd:(y == ("__classdict__" : Str))=false:=by decide) :
  PS X (.Assign [.Name x p1] (.Name y p2) pos) (tS X.K CA W (mvS i j)):=by
 refine psI (ps_set hN hi hx (pe_var hj hv hd hcd) hs hf) fun D σ H ⟨A,H0,F,G,ρ,sr,h⟩=>?_
 have h:n8 X.K CA W A H0 G D (mvS i j ρ):=h
 unfold mvS at h
 cases e:ρ[j]? with
 | none=>rw[e] at h; exact h.elim
 | some s=>
  rw[e] at h
  cases s with
  | no=>exact h.elim
  | tb=>exact h.elim
  | ow d=>
   obtain ⟨v,hv,r⟩:=sr.slo j d e
   by_cases hc:i≠j/\i < ρ.length
   ·simp only[if_pos hc] at h
    exact ⟨v,hv,h _ _ _ (sr.move hc.1 hc.2 e hv r)⟩
   ·simp only[if_neg hc] at h
    exact h.elim
  | bo is d=>
   obtain ⟨v,f,hv,r,b⟩:=sr.slb j is d e
   obtain ⟨f',sr',_⟩:=sr.set (k:=.bor is) (Same.refl H) r b i
   exact ⟨v,hv,h _ _ _ sr'⟩
end
end Cz
namespace Cz.St
open PySem PySem.Spec PyProof.Rows L2 SrtO
end Cz.St
namespace Cz
open PySem PySem.Spec PyProof.Rows L2
def z3A:SE:=fun _=>.ok (.own,.dtk [])
theorem z8z {X:Cx} {CA:String->Addr} {W:WX} {pos:Pos}:PE X (.Dict [] [] pos) (tE X.K CA W z3A):=by
 refine peI pe_dnewT fun σ H Q ⟨A,H0,F,G,ρ,sr,h⟩=>?_
 intro d hd
 refine h _ _ [d] (V6 hd) (.dtk upd_same List.nodup_nil .nil) ⟨List.nodup_cons.mpr ⟨by simp,List.nodup_nil⟩,fun a ha=>?_⟩
 rw[List.mem_singleton.mp ha]
 exact ⟨hd,⟨by rw[upd_same]; trivial⟩⟩
abbrev SM:=Env->Out
def FrE (o:HO) (x:Option HO):Prop:=x=some o\/∃ ps,o=.tbl ps
def NoX (x:Option HO):Prop:=x=none\/∃ ps,x=some (.tbl ps)
theorem FrE.eq {o:HO} {x:Option HO} (h:FrE o x) (n:¬ ∃ ps,o=.tbl ps):x=.some o:=h.resolve_right n
theorem FrE.back {o:HO} {x:Option HO} (h:FrE o x) (n:NoX x):NoX (.some o):=by
 rcases h with h | ⟨ps,h⟩
 ·rw[<- h]; exact n
 ·exact .inr ⟨ps,by rw[h]⟩
theorem FrE.same {o:HO} {x y:Option HO} (h:FrE o x) (k:∀ o1,x=.some o1->y=.some o1):FrE o y:=h.imp (k o) id
theorem IsT.ne {o:HO} (h:IsT o):¬ ∃ ps,o=.tbl ps:=fun ⟨_,e⟩=>by subst e; exact h
theorem NoX.no {o:HO} {x:Option HO} (h:NoX x) (e:x=.some o) (n:¬ ∃ ps,o=.tbl ps):False:=by
 rcases h with h | ⟨ps,h⟩
 ·rw[e] at h; cases h
 ·rw[e] at h; exact n ⟨ps,Option.some.inj h⟩
structure Eff (n:Nat) (F F':Nat->List Addr) (H H':Hp):Prop where
 hid:∀ j,n<=j->F' j=F j
 fr:∀ a o,H a=some o->(∀ j,j < n->a∉F j)->FrE o (H' a)
 vis:∀ j,j < n->∀ a∈F' j,(∃ i,i < n/\a∈F i)\/NoX (H a)
theorem Eff.of {n:Nat} {F:Nat->List Addr} {H H':Hp} (s:Same H H'):Eff n F F H H':=⟨fun _ _=>rfl,fun a o e _=>.inl (s a o e),fun j hj a ha=>.inl ⟨j,hj,ha⟩⟩
theorem Eff.trans {n:Nat} {F F1 F2:Nat->List Addr} {H H1 H2:Hp} (a:Eff n F F1 H H1) (b:Eff n F1 F2 H1 H2):Eff n F F2 H H2 where
 hid:=fun j hj=>(b.hid j hj).trans (a.hid j hj)
 fr:=fun x o e h=>by
  rcases Classical.em (∃ ps,o=HO.tbl ps) with t | t
  ·exact .inr t
  ·exact b.fr x o ((a.fr x o e h).eq t) fun j hj z=>by
    rcases a.vis j hj x z with ⟨i,hi,w⟩ | w
    ·exact h i hi w
    ·exact w.no e t
 vis:=fun j hj x hx=>by
  rcases b.vis j hj x hx with ⟨i,hi,w⟩ | w
  ·exact a.vis i hi x w
  ·rcases Classical.em (∃ i,i < n/\x∈F i) with z | z
   ·exact .inl z
   ·right
    cases e:H x with
    | none=>exact .inl rfl
    | some o=>exact (a.fr x o e fun i hi q=>z ⟨i,hi,q⟩).back w
theorem Eff.later {n:Nat} {F F1:Nat->List Addr} {H H0 H1:Hp} (s:Same H H0) (b:Eff n F F1 H0 H1):Eff n F F1 H H1:=(Eff.of s).trans b
def MOk (K:PySem.W.Frag) (CA:String->Addr) (W:WX) (A:Addr->Prop) (H0:Hp) (F:Nat->List Addr) (n:Nat) (G:List (D×V)) (σ:L2.St) (H:Hp) (o:Out) (Q:VK):Prop:=match o with
 | .ri ρ k d=>∀ v Hx H' F' f,SR K A H0 F' G ρ σ Hx->Eff n F F' H Hx->Same Hx H'->Rep K H' d v f->KOk A H0 F' Hx H' k f->Q v H'
 | .ex c ρ=>∀ H' F',SR K A H0 F' G ρ σ H'->zy6 K CA c (fun cls od=>W cls od σ) H'
 | _=>False
def tM (K:PySem.W.Frag) (CA:String->Addr) (W:WX) (s:SM):TE:=fun σ H Q=>∃ A H0 F G ρ,SR K A H0 F G ρ σ H/\MOk K CA W A H0 F ρ.length G σ H (s ρ) Q
section
variable {K:PySem.W.Frag} {CA:String->Addr} {W:WX} {A:Addr->Prop} {H0 H H1:Hp} {F:Nat->List Addr} {G:List (D×V)} {ρ:Env} {σ:L2.St} {n:Nat} {Q Q':VK}
theorem MOk.lift {α:Type} {r:R α} {f:α->Out} (h:MOk K CA W A H0 F n G σ H (r.out ρ f) Q) (sr:SR K A H0 F G ρ σ H):i7 K CA W σ H r fun a=>MOk K CA W A H0 F n G σ H (f a) Q:=by
 cases r with
 | ok a=>exact h
 | ex c=>exact fun H' s=>h H' F (sr.same s)
 | st=>exact h.elim
theorem MOk.later {o:Out} (h:MOk K CA W A H0 F n G σ H o Q) (s:Same H H1):MOk K CA W A H0 F n G σ H1 o Q:=by
 cases o with
 | ri ρ k d=>exact fun v Hx H' F' f sr e1 s2 r o=>h v Hx H' F' f sr (e1.later s) s2 r o
 | ex c ρ=>exact h
 | _=>exact h.elim
theorem MOk.imp {o:Out} (h:MOk K CA W A H0 F n G σ H o Q) (k:∀ v H,Q v H->Q' v H):MOk K CA W A H0 F n G σ H o Q':=by
 cases o with
 | ri ρ _ d=>exact fun v Hx H' F' f sr e1 s2 r o=>k _ _ (h v Hx H' F' f sr e1 s2 r o)
 | ex c ρ=>exact h
 | _=>exact h.elim
end
def mE (s:SE):SM:=fun ρ=>(s ρ).out ρ fun x=>.ri ρ x.1 x.2
section
variable {X:Cx} {CA:String->Addr} {W:WX} {pos pos' p1 p2 p3:Pos} {a b e o tg:Expr} {es:List Expr} {se:SE} {sp:SPh} {s:SA} {sm:SM} {op:MOp} {T:MT} {id:String} {name:Str} {r:V->List V->Hp->VK->Prop} {tt:Tgt} {sl:List Nat}
theorem z1C (h:PE X e (tE X.K CA W se)):PE X e (tM X.K CA W (mE se)):=by
 refine peI h fun σ H Q ⟨A,H0,F,G,ρ,sr,h⟩=>⟨A,H0,F,G,ρ,sr,(MOk.lift h sr).imp fun ⟨k,d⟩ _ q v H' f s r o=>?_⟩
 exact q v H H' F f sr (Eff.of (Same.refl _)) s r o
def Out.thenM (o:Out) (f:Env->Kd->D->Out):Out:=match o with
 | .ri ρ k d=>f ρ k d
 | .ex c ρ=>.ex c ρ
 | _=>.st
def z0N (t:Tgt) (s:SM):SS:=fun ρ=>(s ρ).thenM fun ρ k d=>match t k d ρ with
 | some ρ'=>.nx ρ'
 | none=>.st
def zu4 (s:SM):SS:=fun ρ=>(s ρ).thenM fun ρ _ _=>.nx ρ
def z0H (s:SM):SS:=fun ρ=>(s ρ).thenM fun _ k d=>.rt k d
def z0A (s:SM):SS:=fun ρ=>(s ρ).thenM fun ρ k d=>.ri ρ k d
theorem zn2 {K:PySem.W.Frag} {A:Addr->Prop} {H0 H:Hp} {F:Nat->List Addr} {G:List (D×V)} {σ:L2.St} {De:Ends} {o:Out} {n:Nat} {f:Env->Kd->D->Out} {Q:VK} (h:n8 K CA W A H0 G De (o.thenM f))
  (k:∀ ρ' kk d v Hx H' F' g,o=.ri ρ' kk d->SR K A H0 F' G ρ' σ Hx->Same Hx H'->Rep K H' d v g->KOk A H0 F' Hx H' kk g->n8 K CA W A H0 G De (f ρ' kk d)->Q v H'):MOk K CA W A H0 F n G σ H o Q:=by
 cases o with
 | ri ρ' kk d=>exact fun v Hx H' F' g sr _ s r o=>k ρ' kk d v Hx H' F' g rfl sr s r o h
 | ex c ρ'=>exact fun H' F' sr=>h σ H' F' sr
 | _=>exact h.elim
theorem z7y (he:PE X e (tM X.K CA W sm)) (hg:PG X tg (tG X.K sl tt)) (hs:swapsWithSole [tg] e pos.line X.env=pure false:=by rfl) (hw:swappedStores [tg] e X.env=pure none:=by rfl) (h1:(assignEach [tg] X.env).map (·.2)=[assign tg X.env]:=by rfl) :
  PS X (.Assign [tg] e pos) (tS X.K CA W (z0N tt sm)):=by
 refine psI (ps_asg he hg hs hw h1) fun D σ H ⟨A,H0,F,G,ρ,sr,h⟩=>⟨A,H0,F,G,ρ,sr,zn2 h fun ρ' kk d v Hx H' F' g _ sr' s r o q=>?_⟩
 refine ⟨A,H0,Hx,F',G,ρ',kk,d,g,sr',s,r,o,?_⟩
 cases ht:tt kk d ρ' with
 | none=>rw[ht] at q; exact q.elim
 | some ρ2=>rw[ht] at q; exact fun σ' F2 p=>q σ' H' F2 p.sr
theorem z0d (he:PE X e (tM X.K CA W sm)) (hs:swapsWith e none pos.line X.env=pure false:=by rfl):PS X (.Expr e pos) (tS X.K CA W (zu4 sm)):=by
 refine psI (ps_expr he hs) fun D σ H ⟨A,H0,F,G,ρ,sr,h⟩=>⟨A,H0,F,G,ρ,sr,zn2 h fun ρ' kk d v Hx H' F' g _ sr' s r o q=>?_⟩
 exact q σ H' F' (sr'.same s)
theorem z7Z (he:PE X e (tM X.K CA W sm)):PS X (.Return (some e) pos) (tS X.K CA W (z0H sm)):=by
 refine psI (ps_ret he) fun D σ H ⟨A,H0,F,G,ρ,sr,h⟩=>⟨A,H0,F,G,ρ,sr,zn2 h fun ρ' kk d v Hx H' F' g _ sr' s r o q=>?_⟩
 exact q v H' g (sr'.fr.trans s) r (o.ret sr')
theorem z7C (he:PE X e (tM X.K CA W sm)):PS X (.Return (some e) pos) (tS X.K CA W (z0A sm)):=by
 refine psI (ps_ret he) fun D σ H ⟨A,H0,F,G,ρ,sr,h⟩=>⟨A,H0,F,G,ρ,sr,zn2 h fun ρ' kk d v Hx H' F' g _ sr' s r o q=>?_⟩
 exact q v σ Hx H' F' g sr' s r o
end
def V7 (ρ:Env):Bool:=ρ.all fun s=>match s with
 | .bo is _=>is.all fun j=>decide (j < ρ.length)
 | _=>true
section
variable {K:PySem.W.Frag} {A:Addr->Prop} {H0 H H1:Hp} {F:Nat->List Addr} {G:List (D×V)} {ρ:Env} {σ:L2.St} {CA:String->Addr} {Q:VK}
theorem zP8 {ρ:Env} (h:V7 ρ=true) {i:Nat} {is:List Nat} {d:D} (e:ρ[i]? = some (.bo is d)) {L:Nat} (hL:ρ.length<=L):L∉is:=fun z=>by
 have hm:Sl.bo is d∈ρ:=List.mem_of_getElem? e
 have:=List.all_eq_true.mp h _ hm
 simp only[List.all_eq_true,decide_eq_true_eq] at this
 have:=this L z
 omega
end
noncomputable def zV5 (n m:Nat) (b:Fn->SS):Nat->Fn
 | 0=>mkF n m fun _=>.st
 | i + 1=>mkF n m (b (zV5 n m b i))
theorem J8 {n m:Nat} {b:SS} {as:List D} (h:mkF n m b as≠.st):as.length=n:=by
 unfold mkF at h
 split at h
 ·assumption
 ·exact absurd rfl h
theorem z3M {n m i:Nat} {b:Fn->SS} {as:List D} (h:zV5 n m b i as≠.st):as.length=n:=by
 cases i with
 | zero=>exact J8 h
 | succ i=>exact J8 h
theorem z8M {X:Cx} {CA:String->Addr} {W:WX} {sts:List Stmt} (h:PSs X sts (fun _ _ _=>False)):PSs X sts (tS X.K CA W fun _=>.st):=z3G h fun D σ H ⟨A,H0,F,G,ρ,sr,h⟩=>h
theorem z8A {X:Cx} {sts:List Stmt}:PSs X sts (fun _ _ _=>False):=⟨fun _ _ _ _ _ _ h=>h.elim⟩
section
variable {P:Program} {w:World} {K:PySem.W.Frag} {mg:Str->Option Value} {base:Heap} {CA:String->Addr}
theorem z84 {k:Nat} {x:String} {n m i:Nat} {b:Fn->SS} {ps:List Str} {f:Addr} {fd:FuncData} (hm:mg (Str.ofString x)=some (.ref f)) (h:FnOk P w K mg base (L2.CX P w) k f fd ps (spF K CA (zV5 n m b i) ps.length))
  (kp:PySem.W.keepIn K (.ref f)=true) (bi:Binds K fd ps []) (hn:n=ps.length):FnG P w K mg base CA (zV5 n m b i) k x []:=
 ⟨f,fd,ps,[],[],hm,h,kp,bi,.nil,fun _=>.nil,fun as z=>hn ▸ z3M z⟩
end
open Classical in
noncomputable def Y3 (H:Hp) (g:List Addr):Hp:=fun a=>if a∈g then none else H a
theorem N4 {H:Hp} {g:List Addr} {a:Addr} (h:a∈g):Y3 H g a=none:=if_pos h
theorem i5 {H:Hp} {g:List Addr} {a:Addr} (h:a∉g):Y3 H g a=H a:=if_neg h
theorem zP4 {H:Hp} {g:List Addr} {a:Addr} (h:Y3 H g a=none):a∈g\/H a=none:=by
 by_cases q:a∈g
 ·exact .inl q
 ·rw[i5 q] at h; exact .inr h
theorem O0 (H:Hp) (g:List Addr):Same (Y3 H g) H:=fun a o e=>by
 by_cases q:a∈g
 ·rw[N4 q] at e; cases e
 ·rw[i5 q] at e; exact e
def zl4 (K:PySem.W.Frag) (H:Hp):Nat->List D->List V->List Addr->List Addr->Prop
 | 0,d::ds,v::vs,f,g=>Rep K H d v g/\Reps K H ds vs f
 | i + 1,d::ds,v::vs,f,g=>∃ f1 f2,f=f1++f2/\Rep K H d v f1/\zl4 K H i ds vs f2 g
 | _,_,_,_,_=>False
theorem zl4.length {K:PySem.W.Frag} {H:Hp}:∀ {i:Nat} {ds:List D} {vs:List V} {f g:List Addr},zl4 K H i ds vs f g->ds.length=vs.length
 | 0,d::ds,v::vs,f,g,h=>by simp[h.2.length]
 | i + 1,d::ds,v::vs,f,g,h=>by obtain ⟨f1,f2,_,_,h⟩:=h; simp[zl4.length h]
 | 0,[],_,_,_,h=>h.elim
 | 0,_::_,[],_,_,h=>h.elim
 | _ + 1,[],_,_,_,h=>h.elim
 | _ + 1,_::_,[],_,_,h=>h.elim
theorem zl4.get {K:PySem.W.Frag} {H:Hp}:∀ {i:Nat} {ds:List D} {vs:List V} {f g:List Addr},zl4 K H i ds vs f g->∀ {j:Nat} {d:D},ds[j]? = some d->∃ v,vs[j]? = some v/\((j=i/\Rep K H d v g)\/(j≠i/\∃ f',Rep K H d v f'/\∀ b∈f',b∈f))
 | 0,d::ds,v::vs,f,g,h,0,e,he=>by simp at he; subst he; exact ⟨v,rfl,.inl ⟨rfl,h.1⟩⟩
 | 0,d::ds,v::vs,f,g,h,j + 1,e,he=>by
  obtain ⟨w,f',h1,h2,h3,_⟩:=h.2.get (i:=j) (d:=e) (by simpa using he)
  exact ⟨w,by simpa using h1,.inr ⟨by omega,f',h2,h3⟩⟩
 | i + 1,d::ds,v::vs,f,g,h,0,e,he=>by
  obtain ⟨f1,f2,rfl,r,h⟩:=h
  simp at he; subst he
  exact ⟨v,rfl,.inr ⟨by omega,f1,r,fun b hb=>List.mem_append_left _ hb⟩⟩
 | i + 1,d::ds,v::vs,f,g,h,j + 1,e,he=>by
  obtain ⟨f1,f2,rfl,r,h⟩:=h
  obtain ⟨w,h1,h2⟩:=zl4.get h (j:=j) (d:=e) (by simpa using he)
  refine ⟨w,by simpa using h1,?_⟩
  rcases h2 with ⟨h2,h3⟩ | ⟨h2,f',h3,h4⟩
  ·exact .inl ⟨by omega,h3⟩
  ·exact .inr ⟨by omega,f',h3,fun b hb=>List.mem_append_right _ (h4 b hb)⟩
 | 0,[],_,_,_,h,_,_,_=>h.elim
 | 0,_::_,[],_,_,h,_,_,_=>h.elim
 | _ + 1,[],_,_,_,h,_,_,_=>h.elim
 | _ + 1,_::_,[],_,_,h,_,_,_=>h.elim
def zh6:Kd->Bool
 | .own=>true
 | _=>false
theorem zK3 {k:Kd} (h:zh6 k=true):k=.own:=by cases k <;> first | rfl | cases h
def slO:Nat->List D->List Sl
 | 0,d::ds=>mkS .own d::ds.map (Sl.bo [])
 | i + 1,d::ds=>.bo [] d::slO i ds
 | _,[]=>[]
theorem zq4:∀ (i:Nat) (ds:List D),(slO i ds).length=ds.length
 | 0,[]=>rfl
 | 0,d::ds=>by simp[slO]
 | i + 1,[]=>rfl
 | i + 1,d::ds=>by simp[slO,zq4 i ds]
theorem zT9:∀ (i:Nat) (ds:List D) (j:Nat),(slO i ds)[j]? = ds[j]?.map fun d=>if j=i then mkS .own d else .bo [] d
 | 0,[],j=>by simp[slO]
 | 0,d::ds,0=>by simp[slO]
 | 0,d::ds,j + 1=>by simp[slO]
 | i + 1,[],j=>by simp[slO]
 | i + 1,d::ds,0=>by simp[slO]
 | i + 1,d::ds,j + 1=>by simp[slO,zT9 i ds j]
theorem z2c {d d':D} (h:mkS .own d=.ow d'):d'=d:=by cases d <;> simp[mkS] at h <;> exact h.symm
theorem z1S {d d':D} {is:List Nat} (h:mkS .own d=.bo is d'):is=[]/\d'=d/\noL d=true:=by cases d <;> simp[mkS] at h <;> (obtain ⟨rfl,rfl⟩:=h; exact ⟨rfl,rfl,by simp[noL]⟩)
theorem SR.initO {K:PySem.W.Frag} {A:Addr->Prop} {H:Hp} {i:Nat} {ds:List D} {vs:List V} {f g:List Addr} {N:List Str} (r:zl4 K H i ds vs f g) (hA:∀ a∈f,A a) (hg:g.Nodup/\∀ a∈g,Mu (H a)/\a∉f) (hN:ds.length<=N.length) (hi:i < ds.length) :
  ∃ F,SR K A (Y3 H g) F [] (slO i ds++List.replicate (N.length - ds.length) Sl.no) (start N vs) H:=by
 obtain ⟨di,hdi⟩:∃ d,ds[i]? = some d:=⟨_,List.getElem?_eq_getElem hi⟩
 have no:∀ (j:Nat) (x:Sl),(slO i ds++List.replicate (N.length - ds.length) Sl.no)[j]? = some x->x=.no\/∃ d,ds[j]? = some d/\x=if j=i then mkS .own d else .bo [] d:=fun j x e=>by
  by_cases hj:j < ds.length
  ·rw[List.getElem?_append_left (by rw[zq4]; exact hj),zT9] at e
   cases hd:ds[j]? with
   | none=>rw[hd] at e; cases e
   | some d=>rw[hd] at e; cases e; exact .inr ⟨d,rfl,rfl⟩
  ·rw[List.getElem?_append_right (by rw[zq4]; omega),List.getElem?_replicate] at e
   split at e
   ·cases e; exact .inl rfl
   ·cases e
 have st:∀ {j:Nat} {v:V},vs[j]? = some v->(start N vs)[j]? = some (some v):=fun {j v} h1=>by
  have hj:j < vs.length:=(List.getElem?_eq_some_iff.mp h1).1
  unfold L2.start
  rw[List.getElem?_append_left (by simpa using hj),List.getElem?_map,h1]
  rfl
 obtain ⟨vi,hvi,ri0⟩:=r.get hdi
 have ri:Rep K H di vi g:=by
  rcases ri0 with ⟨_,q⟩ | ⟨q,_⟩
  ·exact q
  ·exact absurd rfl q
 have fr:∀ {f':List Addr},(∀ b∈f',b∈f)->∀ a∈f',Sh A (Y3 H g) (fun j=>if j=i then g else []) a:=fun {f'} h a ha=>⟨.inl (hA a (h a ha)),fun j hj=>by
  have hj:a∈(if j=i then g else []):=hj
  split at hj
  ·exact (hg.2 a hj).2 (h a ha)
  ·cases hj⟩
 refine ⟨fun j=>if j=i then g else [],?_,O0 H g,fun j=>?_,fun j m a hj hm=>?_,fun j d e=>?_,fun j is d e=>?_,(fun p hp=>nomatch hp),fun j hj hn=>?_,⟨i + 1,fun j hj=>if_neg (by omega)⟩,fun z=>by
  obtain ⟨j,e⟩:=zc8.mp z
  rcases no j _ e with q | ⟨d',_,q⟩
  ·cases q
  ·split at q
   ·have:=z0s .own d'; rw[<- q] at this; cases this
   ·cases q⟩
 ·unfold L2.start
  rw[List.length_append,List.length_append,List.length_map,zq4,List.length_replicate,List.length_replicate,r.length]
 ·show (if j=i then g else []).Nodup/\_
  by_cases e:j=i
  ·simp only[e,if_true]; exact ⟨hg.1,fun a ha=>⟨N4 ha,(hg.2 a ha).1⟩⟩
  ·simp only[e,if_false]; exact ⟨List.nodup_nil,fun a ha=>nomatch ha⟩
 ·have hj:a∈(if j=i then g else []):=hj
  have hm:a∈(if m=i then g else []):=hm
  split at hj
  ·split at hm
   ·omega
   ·cases hm
  ·cases hj
 ·rcases no j _ e with q | ⟨d',hd,q⟩
  ·cases q
  ·by_cases z:j=i
   ·rw[if_pos z] at q
    have:=z2c q.symm
    subst this
    subst z
    rw[hdi] at hd; cases hd
    refine ⟨vi,st hvi,?_⟩
    show Rep K H _ vi (if j=j then g else [])
    rw[if_pos rfl]; exact ri
   ·rw[if_neg z] at q; cases q
 ·rcases no j _ e with q | ⟨d',hd,q⟩
  ·cases q
  ·by_cases z:j=i
   ·rw[if_pos z] at q
    obtain ⟨e1,e2,e3⟩:=z1S q.symm
    subst e1; subst e2; subst z
    rw[hdi] at hd; cases hd
    have:=ri.noL e3
    refine ⟨vi,g,st hvi,ri,fun a ha=>?_⟩
    rw[this] at ha; cases ha
   ·rw[if_neg z] at q
    cases q
    obtain ⟨v,h1,h2⟩:=r.get hd
    rcases h2 with ⟨h2,_⟩ | ⟨_,f',h3,h4⟩
    ·exact absurd h2 z
    ·exact ⟨v,f',st h1,h3,fun a ha=>.inr (fr h4 a ha)⟩
 ·have hn:(if j=i then g else [])≠[]:=hn
  split at hn
  ·rename_i z
   subst z
   refine ⟨di,?_⟩
   rw[List.getElem?_append_left (by rw[zq4]; exact hi),zT9,hdi]
   simp only[Option.map_some,if_true,Option.some.injEq]
   cases q:mkS .own di with
   | ow d=>rw[z2c q]
   | bo is d=>
    obtain ⟨_,_,e3⟩:=z1S q
    exact absurd (ri.noL e3) (by simpa using hn)
   | no=>cases di <;> simp[mkS] at q
   | tb=>cases di <;> simp[mkS] at q
  ·exact absurd rfl hn
structure ClsF (K:PySem.W.Frag) (C:String) (f:Str):Prop where
 is:∃ Ca,PySem.W.nsIn K mainGlobals (Str.ofString C)=some (some (.ref Ca))/\Cls K Ca/\NoAttr K Ca f
theorem ClsF.at {K:PySem.W.Frag} {C:String} {f:Str} (h:ClsF K C f) {Ca:Addr} (e:PySem.W.nsIn K mainGlobals (Str.ofString C)=some (some (.ref Ca))):Cls K Ca/\NoAttr K Ca f:=by
 obtain ⟨Cb,h1,h2,h3⟩:=h.is
 rw[h1] at e; cases e
 exact ⟨h2,h3⟩
theorem zi6 (f:Str):∀ fs:List (Str×V),fs.lookup f=valV fs f
 | []=>rfl
 | (g,v)::r=>by
  by_cases h:g=f
  ·subst h
   rw[List.lookup_cons_self,valV_pos (p:=(g,v)) rfl]
  ·have:(f == g)=false:=by simpa using fun e:f=g=>h e.symm
   rw[List.lookup_cons,this,valV_neg (p:=(g,v)) h]
   exact zi6 f r
theorem zO3 (f:Str) (y:V):∀ {fs:List (Str×V)},(fs.map (·.1)).Nodup->putF f y fs=putK fs f y
 | [],_=>rfl
 | (g,v)::r,n=>by
  rw[List.map_cons,List.nodup_cons] at n
  by_cases h:g=f
  ·subst h
   unfold putK
   rw[if_pos (by simp),List.map_cons,zs7 n.1]
   simp[putF]
  ·rw[zo0 h,<- zO3 f y n.2]
   simp[putF,h]
def ze2 (cs:List String) (f:Str):KD->Option KD
 | (k,.obj _ C fs)=>if cs.contains C=true then (w6 fs f).map fun d=>(k,d) else none
 | (_,.sob C fs)=>if cs.contains C=true then (w6 fs f).map fun d=>(.own,d) else none
 | _=>none
def K7 (cs:List String) (f:Str) (a:SE):SE:=fun ρ=>(a ρ).bind fun x=>R.of (ze2 cs f x)
def z86 (K:PySem.W.Frag) (ta:TE) (f:Str):TE:=fun σ H Q=>ta σ H fun x H1=>∃ a C dx fs v,x=.ref a/\Rd H1 a (.ins C dx fs)/\Cls K C/\NoAttr K C f/\fs.lookup f=some v/\Q v H1
section
variable {X:Cx} {e:Expr} {f:Str} {pos:Pos} {ta:TE} {P:Program} {w:World} {H:Hp} {h:Heap} {a C dx:Addr} {fs:List (Str×V)}
theorem zR7 (hok:HOk P w H h) (e:Rd H a (.ins C dx fs)):∃ mA,ObjM h a dx C mA/\(∀ f,RelO (fs.lookup f) (mA f)):=by
 obtain ⟨d,z,ne,ob,mA,n,r,q⟩:=(show ObjOk P w H h a (.ins C dx fs) from e.ok hok)
 exact ⟨mA,⟨ob,n,ne⟩,r⟩
theorem zY8 (he:PE X e ta) (hb:attributeBase e f X.env (eval e X.env)=eval e X.env:=by rfl):PE X (.Attribute e f pos) (z86 X.K ta f):=by
 refine ⟨fun pins s σ H Q I h=>?_⟩
 refine attr_of hb (thn (he.run pins s σ H _ I h) fun u s1 ⟨x,H1,I1,rx,a,C,dx,fs,v,ex,ea,c,n,l,q⟩=>?_)
 subst ex
 obtain rfl:u=Value.ref a:=rx
 obtain ⟨mA,O,r⟩:=zR7 I1.hok ea
 obtain ⟨u,hu,ru⟩:=RelO.some_of (v:=v) (o:=mA f) (by rw[<- l]; exact r f)
 exact get_map I1.kIn O (c.get f) c.hd n hu (handed_of ru) ⟨v,H1,I1.tok _,ru,q⟩
end
theorem RepK.getD {K:PySem.W.Frag} {H:Hp} {κ:Type} [DecidableEq κ]:∀ {kds:List (κ×D)} {kvs:List (κ×V)} {g:List Addr} {k:κ} {d:D},RepK K H kds kvs g->w6 kds k=some d->∃ v g',valV kvs k=some v/\Rep K H d v g'/\(∀ b∈g',b∈g)/\(g.Nodup->g'.Nodup)
 | _,_,_,k,d,.cons (k:=k0) (d:=d0) (v:=v0) (f:=f1) (g:=g1) r t,e=>by
  by_cases h:k0=k
  ·have e:d0=d:=by simpa [w6,h] using e
   subst e; subst h
   exact ⟨v0,f1,valV_pos rfl,r,fun b hb=>List.mem_append_left _ hb,fun n=>(List.nodup_append.mp n).1⟩
  ·obtain ⟨v,g',h1,h2,h3,h4⟩:=RepK.getD (k:=k) (d:=d) t (by simpa [w6,h] using e)
   exact ⟨v,g',by rw[valV_neg (p:=(k0,v0)) h]; exact h1,h2,fun b hb=>List.mem_append_right _ (h3 b hb),fun n=>h4 (List.nodup_append.mp n).2.1⟩
section
variable {X:Cx} {CA:String->Addr} {W:WX} {pos pos':Pos} {a e o:Expr} {sa se:SE} {sp:SPh} {f:Str} {cs:List String}
theorem G4 (hc:∀ C∈cs,ClsF X.K C f) (ha:PE X a (tE X.K CA W sa)) (hb:attributeBase a f X.env (eval a X.env)=eval a X.env:=by rfl):PE X (.Attribute a f pos) (tE X.K CA W (K7 cs f sa)):=by
 refine peI (zY8 ha hb) fun σ H Q ⟨A,H0,F,G,ρ,sr,h⟩=>?_
 refine ⟨A,H0,F,G,ρ,sr,h.bind fun ⟨k,d⟩ h1=>?_⟩
 intro v H1 g s r o
 obtain ⟨kd,e,q⟩:=h1.of
 cases d with
 | obj t C fs=>
  simp only[ze2] at e
  split at e
  ·rename_i hC
   cases hv:w6 fs f with
   | none=>rw[hv] at e; cases e
   | some d=>
    rw[hv] at e
    simp only[Option.map_some,Option.some.injEq] at e
    subst e
    cases r with
    | @obj _ _ a Ca dx fvs _ f1 hl hCa nk rs htg=>
     obtain ⟨c1,c2⟩:=(hc C (by simpa using hC)).at hCa
     obtain ⟨v,g',h1,h2,h3,h4⟩:=rs.getD hv
     exact ⟨a,Ca,dx,fvs,v,rfl,.of hl,c1,c2,by rw[zi6]; exact h1,q v H1 g' s h2 (o.sub (fun b hb=>List.mem_cons_of_mem _ (h3 b hb)) fun n=>h4 (List.nodup_cons.mp n).2)⟩
  ·cases e
 | sob C fs=>
  simp only[ze2] at e
  split at e
  ·rename_i hC
   cases hv:w6 fs f with
   | none=>rw[hv] at e; cases e
   | some d=>
    rw[hv] at e
    simp only[Option.map_some,Option.some.injEq] at e
    subst e
    cases r with
    | @sob _ a Ca dx ob fvs _ hl hCa nk rs=>
     obtain ⟨c1,c2⟩:=(hc C (by simpa using hC)).at hCa
     obtain ⟨v,g',h1,h2,h3,h4⟩:=rs.getD hv
     have:g'=[]:=List.eq_nil_iff_forall_not_mem.mpr fun b hb=>nomatch h3 b hb
     subst this
     exact ⟨a,Ca,dx,fvs,v,rfl,.inr ⟨ob,hl⟩,c1,c2,by rw[zi6]; exact h1,q.atom s h2⟩
  ·cases e
 | _=>cases e
def zT7 (cs:List String) (f:Str) (p:SPh):SPh:=fun ρ=>(p ρ).bind fun x=>match x.2.2 with
 | .obj _ C fs=>if cs.contains C=true then (match w6 fs f with
  | some d=>.ok (x.1,x.2.1++[.fld f],d)
  | none=>.st) else .st
 | _=>.st
theorem z4s (hc:∀ C∈cs,ClsF X.K C f) (ha:PE X a (tP CA W X.K sp)) (hb:attributeBase a f X.env (eval a X.env)=eval a X.env:=by rfl):PE X (.Attribute a f pos) (tP CA W X.K (zT7 cs f sp)):=by
 refine peI (zY8 ha hb) fun σ H Q ⟨A,H0,F,G,ρ,sr,h⟩=>?_
 refine ⟨A,H0,F,G,ρ,sr,i7.bind h fun ⟨j,q,d0⟩ h1=>?_⟩
 intro v1 H1 s1 at1
 obtain ⟨f0,r0,_,_,_⟩:=at1.open sr s1
 obtain ⟨dw,vj,e1,e2,e3,e4⟩:=at1
 cases d0 with
 | obj t C fs=>
  have h1:i7 X.K CA W σ H (if cs.contains C=true then (match w6 fs f with
   | some d=>(.ok (j,q++[.fld f],d):R (Nat×List Ix×D))
   | none=>.st) else .st) fun x=>∀ v H',Same H H'->zk3 ρ σ H' x v->Q v H':=h1
  by_cases hC:cs.contains C=true
  ·rw[if_pos hC] at h1
   cases hv:w6 fs f with
   | none=>rw[hv] at h1; exact h1.elim
   | some d=>
    rw[hv] at h1
    cases r0 with
    | @obj _ _ a0 Ca dx fvs _ f1 hl hCa nk rs htg=>
     obtain ⟨c1,c2⟩:=(hc C (by simpa using hC)).at hCa
     obtain ⟨v,g',k1,_⟩:=rs.getD hv
     refine ⟨a0,Ca,dx,fvs,v,rfl,.of hl,c1,c2,by rw[zi6]; exact k1,h1 v H1 s1 ⟨dw,vj,e1,e2,?_,?_⟩⟩
     ·rw[G7 e3]
      simp[V2,hv]
     ·rw[G1 e4]
      simp[S9,hl,k1]
  ·rw[if_neg hC] at h1; exact h1.elim
 | _=>exact h1.elim
def z02 (cs:List String) (p:SPh) (f:Str) (b:SE):SS:=fun ρ=>(b ρ).out ρ fun x=>(p ρ).out ρ fun y=>match y.2.2 with
 | .obj t C fs=>if cs.contains C=true/\D3 x.1 [x.2]=true/\fs.length < 1000 then (match X5 ρ y (.obj t C (Y2 fs f x.2)) with
  | some ρ'=>.nx ρ'
  | none=>.st) else .st
 | _=>.st
theorem RepK.put {K:PySem.W.Frag} {H H':Hp} {κ:Type} [DecidableEq κ] {fs:List (κ×D)} {fvs:List (κ×V)} {g:List Addr} (rs:RepK K H fs fvs g) (nk:(fs.map (·.1)).Nodup) {k:κ} {d:D} {v:V} {gx:List Addr}
  (ht:∀ b o,H b=some o->IsT o->H' b=some o) (hk:∀ b∈g,∀ o,H b=some o->H' b=some o) (rx:Rep K H' d v gx) (hn:g.Nodup) (nx:gx.Nodup) (hd:∀ b∈gx,b∉g) :
  ∃ g',RepK K H' (Y2 fs k d) (putK fvs k v) g'/\g'.Nodup/\∀ b∈g',b∈g\/b∈gx:=by
 cases hv:w6 fs k with
 | some d0=>
  obtain ⟨v0,p,g0,r,h1,h2,h3,h4⟩:=rs.at nk hv
  subst h2
  obtain ⟨n1,n2,n3⟩:=List.nodup_append.mp hn
  obtain ⟨n4,n5,n6⟩:=List.nodup_append.mp n1
  refine ⟨p++gx++r,h4 H' d gx v ht (fun b hb=>hk b (by rcases hb with z | z <;> simp[z])) rx,?_,fun b hb=>?_⟩
  ·refine List.nodup_append.mpr ⟨List.nodup_append.mpr ⟨n4,nx,fun x hx y hy e=>hd y hy (by simp[<- e,hx])⟩,n2,fun x hx y hy e=>?_⟩
   rcases List.mem_append.mp hx with z | z
   ·exact n3 x (List.mem_append_left _ z) y hy e
   ·exact hd x z (by simp[e,hy])
  ·rcases List.mem_append.mp hb with z | z
   ·rcases List.mem_append.mp z with z | z
    ·exact .inl (by simp[z])
    ·exact .inr z
   ·exact .inl (by simp[z])
 | none=>
  have hout:k∉fs.map (·.1):=fun z=>by
   clear rs
   induction fs with
   | nil=>cases z
   | cons p fs ih=>
    obtain ⟨k0,d0⟩:=p
    by_cases e:k0=k
    ·simp[w6,e] at hv
    ·rw[List.map_cons,List.nodup_cons] at nk
     rcases List.mem_cons.mp z with z | z
     ·exact e z.symm
     ·exact ih nk.2 (by simpa [w6,e] using hv) z
  have houtV:k∉fvs.map (·.1):=by rw[rs.keys]; exact hout
  have e1:putK fvs k v=fvs++[(k,v)]:=by
   unfold putK
   rw[if_neg]
   intro z
   obtain ⟨p,hp,e⟩:=List.any_eq_true.mp z
   exact houtV (List.mem_map.mpr ⟨p,hp,of_decide_eq_true e⟩)
  rw[zi3 d hout,e1]
  have app:∀ {κ:Type} {x:List (κ×D)} {y:List (κ×V)} {p:List Addr} {x':List (κ×D)} {y':List (κ×V)} {q:List Addr},RepK K H' x y p->RepK K H' x' y' q->RepK K H' (x++x') (y++y') (p++q):=by
   intro κ x y p x' y' q h h'
   induction x generalizing y p with
   | nil=>cases h; exact h'
   | cons z x ih=>
    cases h with
    | cons r t=>rw[List.append_assoc]; exact .cons r (ih t)
  have one:RepK K H' [(k,d)] [(k,v)] gx:=by
   have:=RepK.cons (k:=k) rx (RepK.nil (K:=K) (H:=H') (κ:=κ))
   rw[List.append_nil] at this; exact this
  exact ⟨g++gx,app (rs.frame ht hk) one,List.nodup_append.mpr ⟨hn,nx,fun x hx y hy e=>hd y hy (e ▸ hx)⟩,fun b hb=>List.mem_append.mp hb⟩
theorem z4t (hc:∀ C∈cs,ClsF X.K C f) (he:PE X e (tE X.K CA W se)) (ho:PE X o (tP CA W X.K sp)) (hs:swapsWith e (some (.Attribute o f pos')) pos.line X.env=pure false:=by rfl):PS X (.Assign [.Attribute o f pos'] e pos) (tS X.K CA W (z02 cs sp f se)):=by
 refine psI (ps_fld ho he hs) fun De σ H ⟨A,H0,F,G,ρ,sr,h⟩=>?_
 refine ⟨A,H0,F,G,ρ,sr,(lift h sr).imp fun x _ q vx H1 g s1 rx ox=>?_⟩
 refine ⟨A,H0,F,G,ρ,sr.same s1,(lift q (sr.same s1)).imp fun y _ q2 v H2 s2 at2=>?_⟩
 obtain ⟨j,qq,d0⟩:=y
 have s12:=s1.trans s2
 cases d0 with
 | obj t C fs=>
  have q2:n8 X.K CA W A H0 G De (if cs.contains C=true/\D3 x.1 [x.2]=true/\fs.length < 1000 then (match X5 ρ (j,qq,.obj t C fs) (.obj t C (Y2 fs f x.2)) with
   | some ρ'=>.nx ρ'
   | none=>.st) else .st):=q2
  by_cases hh:cs.contains C=true/\D3 x.1 [x.2]=true/\fs.length < 1000
  ·rw[if_pos hh] at q2
   obtain ⟨hC,hi,hz⟩:=hh
   obtain ⟨f0,r0,n0,m0,wr⟩:=at2.open sr s12
   cases r0 with
   | @obj _ _ a Ca dx fvs _ f1 hl hCa nk rs htg=>
    obtain ⟨c1,c2⟩:=(hc C (by simpa using hC)).at hCa
    have rxs:Reps X.K H2 [x.2] [vx] g:=by
     have:=Reps.cons (rx.same s2) (Reps.nil (K:=X.K) (H:=H2))
     rw[List.append_nil] at this; exact this
    obtain ⟨gn,gm⟩:=zD0 hi rxs (ox.wide (Same.refl _) s2)
    have nn:=List.nodup_cons.mp n0
    have gd:∀ b∈g,b∉a::f1:=fun b hb z=>(m0 b z).1 (gm b hb).1
    have nt:∀ b ob,H2 b=some ob->IsT ob->(upd H2 a (.ins Ca dx (putK fvs f vx))) b=some ob:=fun b ob e t=>by
     have:b≠a:=fun z=>by subst z; rw[hl] at e; cases e; exact t.elim
     rw[upd_ne this]; exact e
    have kp:∀ b∈f1,∀ ob,H2 b=some ob->(upd H2 a (.ins Ca dx (putK fvs f vx))) b=some ob:=fun b hb ob e=>by
     have hne:b≠a:=fun z=>nn.1 (by rw[<- z]; exact hb)
     rw[upd_ne hne]; exact e
    have rx':Rep X.K (upd H2 a (.ins Ca dx (putK fvs f vx))) x.2 vx g:=(rx.same s2).frame nt fun b hb ob e=>by
     have hne:b≠a:=fun z=>gd b hb (by rw[z]; simp)
     rw[upd_ne hne]; exact e
    obtain ⟨g',k1,k2,k3⟩:=rs.put nk (k:=f) nt kp rx' nn.2 gn fun b hb z=>gd b hb (List.mem_cons_of_mem _ z)
    have ga:a∉g':=fun z=>by
     rcases k3 a z with w | w
     ·exact nn.1 w
     ·exact gd a w (by simp)
    obtain ⟨ρ',F',e1,sr'⟩:=wr a (.ins Ca dx (putK fvs f vx)) (.obj t C (Y2 fs f x.2)) (a::g') rfl (by simp) trivial (.obj upd_same hCa (E4 nk) k1 htg) (List.nodup_cons.mpr ⟨ga,k2⟩) (fun b hb=>by
     rcases List.mem_cons.mp hb with z | z
     ·subst z; exact .inl (by simp)
     ·rcases k3 b z with w | w
      ·exact .inl (List.mem_cons_of_mem _ w)
      ·exact .inr (gm b w).1) (fun b hb=>by
     by_cases z:b=a
     ·subst z; exact ⟨by rw[upd_same]; trivial⟩
     ·rw[upd_ne z]
      rcases List.mem_cons.mp hb with w | w
      ·exact absurd w z
      ·rcases k3 b w with w | w
       ·exact (m0 b (List.mem_cons_of_mem _ w)).2
       ·exact (gm b w).2)
    rw[e1] at q2
    have nkv:(fvs.map (·.1)).Nodup:=by rw[rs.keys]; exact nk
    refine ⟨a,Ca,dx,fvs,rfl,hl,c1,c2,by rw[<- rs.length]; exact hz,?_⟩
    rw[zO3 f vx nkv]
    exact q2 σ _ F' sr'
  ·rw[if_neg hh] at q2; exact q2.elim
 | _=>exact q2.elim
end
inductive RG where
 | ok (fs:List (Str×D)) (d:D) | ex (c:Ec) (fs:List (Str×D)) | st
abbrev GFn:=Nat->List (Str×D)->List D->RG
def zl6 (t:Nat) (C:String) (ρ:Env):Option (List (Str×D)):=match (ρ[0]?:Option Sl) with
 | some (.ow (.obj t' C' fs'))=>if t'=t/\C'=C then some fs' else none
 | _=>none
def finG (t:Nat) (C:String) (ρ:Env) (d:D):RG:=match zl6 t C ρ with
 | some fs'=>.ok fs' d
 | none=>.st
def exG (t:Nat) (C:String) (ρ:Env) (c:Ec):RG:=match zl6 t C ρ with
 | some fs'=>.ex c fs'
 | none=>.st
def Out.finG (o:Out) (t:Nat) (C:String):RG:=match o with
 | .nx ρ=>Cz.finG t C ρ .non
 | .ri ρ k d=>if zh6 k=true then Cz.finG t C ρ d else .st
 | .ex c ρ=>exG t C ρ c
 | _=>.st
def zN4 (C:String) (m:Nat) (body:SS):GFn:=fun t fs ds=>(body (.ow (.obj t C fs)::(ds.map (Sl.bo [])++List.replicate (m - (ds.length + 1)) .no))).finG t C
def mkG (C:String) (n m:Nat) (body:SS):GFn:=fun t fs ds=>if ds.length + 1=n then zN4 C m body t fs ds else .st
theorem zU7 {C:String} {n m:Nat} {body:SS} {t:Nat} {fs:List (Str×D)} {ds:List D} (h:ds.length + 1=n):mkG C n m body t fs ds=zN4 C m body t fs ds:=if_pos h
theorem zJ6 {C:String} {n m:Nat} {b:SS} {t:Nat} {fs:List (Str×D)} {ds:List D} (h:mkG C n m b t fs ds≠.st):ds.length + 1=n:=by
 unfold mkG at h
 split at h
 ·assumption
 ·exact absurd rfl h
def spG (K:PySem.W.Frag) (CA:String->Addr) (C:String) (g:GFn) (n:Nat):Sp:=fun vs H Q E=>∃ (a0:Addr) (fs0:List (Str×D)) (ds:List D) (f f0:List Addr),ds.length + 1=n/\zl4 K H 0 (.obj (a0 + 1) C fs0::ds) vs f f0/\vs.head? = some (.ref a0)/\f0.Nodup/\(∀ a∈f0,Mu (H a)/\a∉f) ∧
 match g (a0 + 1) fs0 ds with
 | .ok fs' d=>∀ v H' f0' g',Same (Y3 H f0) H'->Rep K H' (.obj (a0 + 1) C fs') (.ref a0) f0'->Rep K H' d v g'->(f0'++g').Nodup->(∀ a∈f0'++g',(a∈f0\/H a=none)/\Mu (H' a))->Q v H'
 | .ex c fs'=>∀ H' f0',Same (Y3 H f0) H'->Rep K H' (.obj (a0 + 1) C fs') (.ref a0) f0'->f0'.Nodup->(∀ a∈f0',(a∈f0\/H a=none)/\Mu (H' a))->zy6 K CA c E H'
 | .st=>False
section
variable {P:Program} {w:World} {K:PySem.W.Frag} {mg:Str->Option Value} {base:Heap} {CA:String->Addr}
theorem zG7 {A:Addr->Prop} {H0 H:Hp} {F:Nat->List Addr} {G:List (D×V)} {ρ:Env} {σ:L2.St} {a0:Addr} {C:String} {fs':List (Str×D)} (sr:SR K A H0 F G ρ σ H) (h:zl6 (a0 + 1) C ρ=some fs'):Rep K H (.obj (a0 + 1) C fs') (.ref a0) (F 0):=by
 unfold zl6 at h
 split at h
 ·rename_i t' C' fs2 e
  split at h
  ·rename_i hz
   obtain ⟨rfl,rfl⟩:=hz
   cases h
   obtain ⟨v,_,r⟩:=sr.slo 0 _ e
   obtain ⟨f,hf⟩:∃ f,F 0=f:=⟨_,rfl⟩
   rw[hf] at r ⊢
   cases r with
   | obj q c n r z=>
    rcases z with z | z
    ·omega
    ·have:_=a0:=(Nat.succ.inj z).symm
     subst this
     exact .obj q c n r (.inr rfl)
  ·cases h
 ·cases h
theorem zT4 {C:String} {g:GFn} {x qual:Str} {st:Stmt} {f:Addr} {fd:FuncData} {N ps:List Str} {k:Nat} {body:SS} {dvs:List V} (Fu:FunD K x qual (defArgs st) (defBody st) (defScope st) dvs [] f fd) (S:FnScope N ps (defScope st))
  (hb:∀ (cdv:Value) (A:Around) (outer:List PySem.Env) (s:Shared) (H:Hp) (E:XK),Room k (A.deeper (envOfC qual (defScope st) s.heap.objs.size f cdv)) ->
   PSs (cxOf (L2.CX P w) P w K mg base N qual (defScope st) f cdv A outer s H E) (defBody st) (tS K CA (fun cls d _ H=>E cls d H) body))
  (hx:∀ t fs ds,ds.length + 1=ps.length->g t fs ds=zN4 C N.length body t fs ds)
  (hN:ps.length<=N.length):FnOk P w K mg base (L2.CX P w) (k + 1) f fd ps (spG K CA C g ps.length):=by
 refine Fu.ok S (fun vs H Q E ⟨a0,fs0,ds,f,f0,h1,h2,_⟩=>by rw[<- h2.length]; simpa using h1) fun cdv Ar outer s H vs Q E hr ⟨a0,fs0,ds,f,f0,h1,h2,h0,h3,h4,h5⟩=>?_
 obtain ⟨F,sr⟩:=SR.initO (N:=N) (A:=fun a=>a∈f) h2 (fun a ha=>ha) ⟨h3,h4⟩ (by rw[List.length_cons,h1]; exact hN) (by simp)
 refine ⟨_,hb cdv Ar outer s H E hr,fun a=>a∈f,Y3 H f0,F,[],_,sr,?_⟩
 have e0:slO 0 (D.obj (a0 + 1) C fs0::ds)++List.replicate (N.length - (D.obj (a0 + 1) C fs0::ds).length) Sl.no=.ow (.obj (a0 + 1) C fs0)::(ds.map (Sl.bo [])++List.replicate (N.length - (ds.length + 1)) .no):=rfl
 rw[e0]
 rw[hx (a0 + 1) fs0 ds h1] at h5
 unfold zN4 at h5
 have fr:∀ {a:Addr},Y3 H f0 a=none->a∈f0\/H a=none:=fun {a} z=>zP4 z
 cases hbo:body (.ow (.obj (a0 + 1) C fs0)::(ds.map (Sl.bo [])++List.replicate (N.length - (ds.length + 1)) .no)) with
 | nx ρ=>
  rw[hbo] at h5
  simp only[Out.finG,Cz.finG] at h5
  cases hs:zl6 (a0 + 1) C ρ with
  | none=>rw[hs] at h5; exact h5.elim
  | some fs'=>
   rw[hs] at h5
   refine fun σ' H' F' sr'=>h5 .non H' (F' 0) [] sr'.fr (zG7 sr' hs) .non (by rw[List.append_nil]; exact (sr'.own 0).1) fun a ha=>?_
   rw[List.append_nil] at ha
   exact ⟨fr ((sr'.own 0).2 a ha).1,((sr'.own 0).2 a ha).2⟩
 | ri ρ k d=>
  rw[hbo] at h5
  simp only[Out.finG] at h5
  by_cases hk:zh6 k=true
  ·rw[if_pos hk] at h5
   have:=zK3 hk
   subst this
   simp only[Cz.finG] at h5
   cases hs:zl6 (a0 + 1) C ρ with
   | none=>rw[hs] at h5; exact h5.elim
   | some fs'=>
    rw[hs] at h5
    refine fun v σ Hx H' F' g' sr' s' r' o'=>h5 v H' (F' 0) g' (sr'.fr.trans s') ((zG7 sr' hs).same s') r' ?_ fun a ha=>?_
    ·exact List.nodup_append.mpr ⟨(sr'.own 0).1,o'.1,fun a ha b hb e=>by subst e; exact ((sr'.own 0).2 a ha).2.ne (o'.2 a hb).1⟩
    ·rcases List.mem_append.mp ha with z | z
     ·exact ⟨fr ((sr'.own 0).2 a z).1,((sr'.own 0).2 a z).2.same s'⟩
     ·exact ⟨fr (sr'.fr.free (o'.2 a z).1),(o'.2 a z).2⟩
  ·rw[if_neg hk] at h5; exact h5.elim
 | ex c ρ=>
  rw[hbo] at h5
  simp only[Out.finG,Cz.exG] at h5
  cases hs:zl6 (a0 + 1) C ρ with
  | none=>rw[hs] at h5; exact h5.elim
  | some fs'=>
   rw[hs] at h5
   exact fun σ' H' F' sr'=>h5 H' (F' 0) sr'.fr (zG7 sr' hs) (sr'.own 0).1 fun a ha=>⟨fr ((sr'.own 0).2 a ha).1,((sr'.own 0).2 a ha).2⟩
 | rt k d=>rw[hbo] at h5; exact h5.elim
 | bk ρ=>rw[hbo] at h5; exact h5.elim
 | ct ρ=>rw[hbo] at h5; exact h5.elim
 | st=>rw[hbo] at h5; exact h5.elim
end
open Classical in
noncomputable def G3 (f:Nat->RG):RG:=if h:∃ r,∀ t,f t=r then h.choose else .st
theorem zu5 {f:Nat->RG} {r:RG} (h:∀ t,f t=r):G3 f=r:=by
 unfold G3
 rw[dif_pos ⟨r,h⟩]
 have:∃ r,∀ t,f t=r:=⟨r,h⟩
 exact (this.choose_spec 0).symm.trans (h 0)
theorem zd1 {f:Nat->RG} (h:G3 f≠.st) (t:Nat):f t=G3 f:=by
 unfold G3 at h ⊢
 split
 ·rename_i hz; exact hz.choose_spec t
 ·rename_i hz; rw[dif_neg hz] at h; exact absurd rfl h
section
variable {K:PySem.W.Frag} {A:Addr->Prop} {H0 Hb H H':Hp} {F:Nat->List Addr} {G:List (D×V)} {ρ:Env} {σ:L2.St}
theorem SR.mutG {j:Nat} {d d':D} {v:V} {f':List Addr} (sr:SR K A H0 F G ρ σ Hb) (fr:∀ a o,Hb a=some o->a∉F j->H a=some o) (hs:ρ[j]? = some (.ow d)) (hv:σ[j]? = some (some v))
  (r:Rep K H d' v f') (nf:f'.Nodup) (hf:∀ b∈f',b∈F j\/Hb b=none) (hmu:∀ b∈f',Mu (H b)):SR K A H0 (w9 F j f') G ((inv j ρ).set j (.ow d')) σ H:=by
 have hj:j < ρ.length:=(List.getElem?_eq_some_iff.mp hs).1
 have nt:∀ b ob,Hb b=some ob->IsT ob->H b=some ob:=fun b ob e t=>by
  refine fr b ob e fun z=>?_
  have:=((sr.own j).2 b z).2.m
  rw[e] at this
  cases ob <;> first | exact t.elim | exact this.elim
 have kp:∀ {f:List Addr},(∀ b∈f,b∉F j)->∀ b∈f,∀ ob,Hb b=some ob->H b=some ob:=fun {f} hf b hb ob e=>fr b ob e (hf b hb)
 have mu:∀ {b:Addr},b∉F j->Mu (Hb b)->Mu (H b):=fun {b} h m=>by
  cases e:Hb b with
  | none=>exact absurd e m.ne
  | some o=>rw[fr b o e h]; rw[e] at m; exact m
 have sh:∀ {b:Addr},Hb b≠none->Sh A H0 F b->b∉F j/\Sh A H0 (w9 F j f') b:=fun {b} hb h=>by
  refine ⟨h.2 j,h.1,fun m hm'=>?_⟩
  by_cases e:m=j
  ·subst e
   rw[x5] at hm'
   exact (hf b hm').elim (h.2 m) hb
  ·rw[y5 e] at hm'; exact h.2 m hm'
 refine ⟨by rw[List.length_set,Q8]; exact sr.len,fun b ob e=>?_,fun i=>?_,fun i m b hi hm'=>?_,fun i d2 e=>?_,fun i is d2 e=>?_,fun p hp=>?_,fun i hi hn=>?_,V8 sr.fin,sr.tbS (fun z=>zm6 (R4 rfl z)) fun b o e t=>fr b o e fun z=>sr.teF z e t⟩
 ·exact fr b ob (sr.fr b ob e) fun z=>by rw[((sr.own j).2 b z).1] at e; cases e
 ·by_cases e:i=j
  ·subst e
   rw[x5]
   exact ⟨nf,fun b hb=>⟨(hf b hb).elim (fun q=>((sr.own i).2 b q).1) fun q=>sr.fr.free q,hmu b hb⟩⟩
  ·rw[y5 e]
   exact ⟨(sr.own i).1,fun b hb=>⟨((sr.own i).2 b hb).1,mu (fun z=>e (sr.dis i j b hb z)) ((sr.own i).2 b hb).2⟩⟩
 ·by_cases e:i=j
  ·by_cases e':m=j
   ·rw[e,e']
   ·rw[e,x5] at hi; rw[y5 e'] at hm'
    rcases hf b hi with q | q
    ·exact e.trans (sr.dis j m b q hm')
    ·exact absurd q ((sr.own m).2 b hm').2.ne
  ·by_cases e':m=j
   ·rw[e',x5] at hm'; rw[y5 e] at hi
    rcases hf b hm' with q | q
    ·exact (sr.dis i j b hi q).trans e'.symm
    ·exact absurd q ((sr.own i).2 b hi).2.ne
   ·rw[y5 e] at hi; rw[y5 e'] at hm'; exact sr.dis i m b hi hm'
 ·by_cases h:j=i
  ·subst h
   rw[List.getElem?_set_self (by rw[Q8]; exact hj)] at e
   cases e
   exact ⟨v,hv,by rw[x5]; exact r⟩
  ·rw[List.getElem?_set_ne h] at e
   obtain ⟨v2,h1,h2⟩:=sr.slo i d2 (zf6.mp e)
   rw[y5 (Ne.symm h)]
   exact ⟨v2,h1,h2.frame nt (kp fun b hb z=>h (sr.dis j i b z hb))⟩
 ·by_cases h:j=i
  ·subst h
   rw[List.getElem?_set_self (by rw[Q8]; exact hj)] at e
   cases e
  ·rw[List.getElem?_set_ne h] at e
   obtain ⟨e1,hji⟩:=zB3 e
   obtain ⟨v2,g,h1,h2,h3⟩:=sr.slb i is d2 e1
   have key:∀ b∈g,b∉F j/\((∃ m∈is,b∈w9 F j f' m)\/Sh A H0 (w9 F j f') b):=fun b hb=>by
    rcases h3 b hb with ⟨m,hm',q⟩ | q
    ·have hmj:m≠j:=fun z=>hji (z ▸ hm')
     exact ⟨fun z=>hmj (sr.dis m j b q z),.inl ⟨m,hm',by rw[y5 hmj]; exact q⟩⟩
    ·obtain ⟨q1,q2⟩:=sh (h2.trk b hb) q
     exact ⟨q1,.inr q2⟩
   exact ⟨v2,g,h1,h2.frame nt (kp fun b z=>(key b z).1),fun b hb=>(key b hb).2⟩
 ·obtain ⟨g,h1,h2⟩:=sr.gho p hp
  exact ⟨g,h1.frame nt (kp fun b z=>(sh (h1.trk b z) (h2 b z)).1),fun b hb=>(sh (h1.trk b hb) (h2 b hb)).2⟩
 ·rw[List.length_set,Q8] at hi
  by_cases h:j=i
  ·subst h; exact ⟨d',by rw[List.getElem?_set_self (by rw[Q8]; exact hi)]⟩
  ·rw[y5 (Ne.symm h)] at hn
   obtain ⟨d2,e⟩:=sr.emp i hi hn
   exact ⟨d2,by rw[List.getElem?_set_ne h]; exact zf6.mpr e⟩
theorem zk3.openG {x:Nat×List Ix×D} {v:V} (sr:SR K A H0 F G ρ σ Hb) (s:Same Hb H) (h:zk3 ρ σ H x v):∃ f0,Rep K H x.2.2 v f0/\f0.Nodup/\(∀ b∈f0,b∈F x.1/\Hb b≠none/\Mu (H b)) ∧
  ∀ (H':Hp) (d0':D) (f0':List Addr),(∀ b o,H b=some o->b∉f0->H' b=some o)->Rep K H' d0' v f0'->f0'.Nodup->(∀ b∈f0',b∈f0\/Hb b=none)->(∀ b∈f0',Mu (H' b)) ->
   ∃ ρ' F',X5 ρ x d0'=some ρ'/\SR K A H0 F' G ρ' σ H'/\Eff ρ.length F F' Hb H':=by
 obtain ⟨d,vj,h1,h2,h3,h4⟩:=h
 have hx:x.1 < ρ.length:=(List.getElem?_eq_some_iff.mp h1).1
 obtain ⟨vj',h5,rjb⟩:=sr.slo _ d h1
 rw[h2] at h5; cases h5
 have rj:=rjb.same s
 have own:=sr.own x.1
 obtain ⟨v0,f0,k1,k2,k3,k4,k5⟩:=zq5 rj h3
 rw[h4] at k1; cases k1
 refine ⟨f0,k2,k4 own.1,fun b hb=>⟨k3 b hb,(own.2 b (k3 b hb)).2.ne,(own.2 b (k3 b hb)).2.same s⟩,fun H' d0' f0' fr r nf hf hmu=>?_⟩
 have hnt:∀ b o,H b=some o->IsT o->H' b=some o:=fun b o e t=>fr b o e fun z=>by
  have:=((own.2 b (k3 b z)).2.same s).m
  rw[e] at this
  cases o <;> first | exact t.elim | exact this.elim
 obtain ⟨d',f',e1,e2,e3,e4⟩:=k5 own.1 H' d0' f0' hnt (fun b hb hn ob e=>fr b ob e hn) r nf (fun b hb=>(hf b hb).imp id fun z w=>(own.2 b w).2.ne z)
 refine ⟨(inv x.1 ρ).set x.1 (.ow d'),w9 F x.1 f',by unfold X5; rw[h1]; simp only[slD,Option.getD_some]; rw[e1]; rfl,?_,fun j hj=>y5 (by omega),fun b ob eb hb=>?_,fun j hj b hb=>?_⟩
 ·refine sr.mutG (fun b ob eb hb=>fr b ob (s b ob eb) fun z=>hb (k3 b z)) h1 h2 e2 e3 (fun b hb=>?_) fun b hb=>?_
  ·rcases e4 b hb with z | z
   ·exact (hf b z).imp (k3 b) id
   ·exact .inl z.1
  ·rcases e4 b hb with z | z
   ·exact hmu b z
   ·have m:=(own.2 b z.1).2
    cases e:Hb b with
    | none=>exact absurd e m.ne
    | some o=>rw[fr b o (s b o e) z.2]; rw[e] at m; exact m
 ·exact .inl <| fr b ob (s _ _ eb) fun z=>hb x.1 hx (k3 b z)
 ·by_cases e:j=x.1
  ·subst e
   rw[x5] at hb
   rcases e4 b hb with z | z
   ·exact (hf b z).imp (fun w=>⟨x.1,hx,k3 b w⟩) .inl
   ·exact .inl ⟨x.1,hx,z.1⟩
  ·rw[y5 e] at hb; exact .inl ⟨j,hj,hb⟩
end
def zZ5 (C:Addr) (m:Str) (sp:Sp) (E:L2.St->XK) (ta:TE) (t:TA):TE:=fun σ H Q=>ta σ H fun x H1=>∃ a dx fs,x=.ref a/\Rd H1 a (.ins C dx fs)/\fs.lookup m=none/\t σ H1 fun vs H2=>sp (x::vs) H2 Q (E σ)
def z5s (C:Addr) (sp:Sp) (E:L2.St->XK) (t:TA):TE:=fun σ H Q=>t σ H fun vs H1=>∀ x dx,H1 x=none->H1 dx=none->dx≠x ->
 sp (.ref x::vs) (upd (upd H1 dx (.own x)) x (.ins C dx [])) (fun v H2=>v=.non/\Q (.ref x) H2) (E σ)
section
variable {X:Cx} {CXx:CXT} {k:Nat} {f C:Addr} {fd:FuncData} {ps:List Str} {sp:Sp} {E:L2.St->XK} {x m:Str} {p pos apos:Pos} {e o:Expr} {es:List Expr} {ta:TE} {t:TA}
theorem zD8 {pins:List (Addr×Obj)} {σ:L2.St} {H:Hp} {s:Shared} {A:Around} {E:Value->Shared->Prop} {a dx:Addr} {fs:List (Str×V)} {m:Str} {g:Addr} {pl:Sem Bool} {Q:Value×List Value->Shared->Prop} (I:Inv X pins σ H s) (e:Rd H a (.ins C dx fs)) (c:Cls X.K C) (k:Meth X.K C m g) (l:fs.lookup m=none)
  (h:Q (.ref g,[.ref a]) s):wpAny (model X.prog X.w) A (getMethod (.ref a) m pl) Q E s:=by
 obtain ⟨mA,O,r⟩:=zR7 I.hok e
 have hn:mA m=none:=RelO.none_of (by rw[<- l]; exact r m)
 exact get_meth I.kIn O (c.get m) k.at_ k.fn hn h
theorem zQ0 {pl:Sem Bool} (he:PE X o ta) (c:Cls X.K C) (hm:Meth X.K C m f) (F:FnOk X.prog X.w X.K X.mg X.base CXx k f fd ps sp) (hr:Room k X.A) (hb:Binds X.K fd ps []) (hx:∀ σ,PassesAt CXx X σ (E σ)) (ha:PA X (e::es) t)
  (hst:starEach (e::es) X.env=(false,eval e X.env)::starEach es X.env:=by rfl) (hpl:(backTo pos (starEach es X.env)).any (·.1)=false:=by rfl)
  (ht:eval (.Call (.Attribute o m apos) (e::es) [] pos) X.env=(do
   let ov <- eval o X.env
   standAt apos.atName
   let (f,first) <- holding [ov] (getMethod ov m pl)
   callWith pos f first (backTo pos (starEach (e::es) X.env)) (backToKw pos (keywordEach [] X.env))):=by rfl) :
  PE X (.Call (.Attribute o m apos) (e::es) [] pos) (zZ5 C m sp E ta t):=by
 refine ⟨fun pins s σ H Q I h=>?_⟩
 refine PySem.W.methodCall_KW (pl:=pl) (thn (he.run pins s σ H _ I h) fun u s1 ⟨x,H1,I1,rx,a,dx,fs,ex,ea,l,q⟩=>?_) ht
 subst ex
 obtain rfl:u=Value.ref a:=rx
 refine zD8 I1 ea c hm l ?_
 refine PySem.W.callWith_K (first:=[.ref a]) (h₀:=X.base) I.ok.mod.kin hm.kp (thn (ha.run pos pins s1 σ H1 _ I1 q) fun us s2 ⟨vs,H2,I2,r,q2⟩=>⟨I2.kIn,?_⟩) hst hpl
 exact zE2 (us:=.ref a::us) (vs:=.ref a::vs) (dvs:=[]) F hr hb .nil (hx σ) I2 (.cons rfl r) (by rw[List.append_nil]; exact q2)
theorem z0L {pl:Sem Bool} (he:PE X o ta) (c:Cls X.K C) (hm:Meth X.K C m f) (F:FnOk X.prog X.w X.K X.mg X.base CXx k f fd ps sp) (hr:Room k X.A) (hb:Binds X.K fd ps []) (hx:∀ σ,PassesAt CXx X σ (E σ))
  (ht:eval (.Call (.Attribute o m apos) [] [] pos) X.env=(do
   let ov <- eval o X.env
   standAt apos.atName
   let (f,first) <- holding [ov] (getMethod ov m pl)
   callWith pos f first (backTo pos (starEach [] X.env)) (backToKw pos (keywordEach [] X.env))):=by rfl) :
  PE X (.Call (.Attribute o m apos) [] [] pos) (zZ5 C m sp E ta tNil):=by
 refine ⟨fun pins s σ H Q I h=>?_⟩
 refine PySem.W.methodCall_KW (pl:=pl) (thn (he.run pins s σ H _ I h) fun u s1 ⟨x,H1,I1,rx,a,dx,fs,ex,ea,l,q⟩=>?_) ht
 subst ex
 obtain rfl:u=Value.ref a:=rx
 refine zD8 I1 ea c hm l ?_
 exact PySem.W.callWith_K0 (first:=[.ref a]) I1.kIn hm.kp (zE2 (us:=[.ref a]) (vs:=[.ref a]) (dvs:=[]) F hr hb .nil (hx σ) I1 (.cons rfl .nil) q)
theorem z0I {pins:List (Addr×Obj)} {σ:L2.St} {H:Hp} {s:Shared} {Q:VK} {us:List Value} {vs:List V} (M:Mk X.K C f) (F:FnOk X.prog X.w X.K X.mg X.base CXx k f fd ps sp) (hr:Room (k + 1) X.A) (hb:Binds X.K fd ps [])
  (hx:PassesAt CXx X σ (E σ)) (I:Inv X pins σ H s) (r:Vals vs us)
  (h:∀ x dx,H x=none->H dx=none->dx≠x->sp (.ref x::vs) (upd (upd H dx (.own x)) x (.ins C dx [])) (fun v H2=>v=.non/\Q (.ref x) H2) (E σ)) :
  wpAny (model X.prog X.w) X.A (call (.ref C) us) (EP X pins σ Q) X.xe s:=by
 have hq:=h (s.heap.objs.size + 1) s.heap.objs.size (I.hok.fresh (Nat.le_succ _)) (I.hok.fresh (Nat.le_refl _)) (Nat.ne_of_lt (Nat.lt_succ_self _))
 have I2:=Inv.made (C:=C) I
 have r2:Vals (V.ref (s.heap.objs.size + 1)::vs) (Value.ref (s.heap.objs.size + 1)::us):=.cons rfl r
 have hl:(Value.ref (s.heap.objs.size + 1)::us++[]).length=ps.length:=by
  have e:=r2.length
  rw[F.len _ _ _ _ hq] at e
  rw[List.append_nil]; exact e.symm
 refine wpAny_call (make_map (f:=f) I.kIn M.makes M.init (beq_iff_eq.mp M.fn) (codeAny_mono (F.run _ X.stack _ _ ⟨Value.ref (s.heap.objs.size + 1)::us,[]⟩ (Value.ref (s.heap.objs.size + 1)::us) _ _ (E σ) (hr.make C us [])
  (I2.env0.make C us []) (by have:=hb _ (Value.ref (s.heap.objs.size + 1)::us) I2.kIn hl; rw[List.append_nil] at this; exact this) r2 hq) fun r s' hq'=>?_))
 cases r with
 | error e=>exact hx pins _ _ e s' I2 hq'
 | ok fl=>
  cases fl with
  | ret u=>
   obtain ⟨v,H',I3,rv,ev,q3⟩:=I2.after hq'
   subst ev
   exact ⟨rv,⟨V.ref (s.heap.objs.size + 1),H',I3,rfl,q3⟩⟩
  | next=>exact False.elim hq'
  | brk=>exact False.elim hq'
  | cont=>exact False.elim hq'
theorem z1p (M:Mk X.K C f) (F:FnOk X.prog X.w X.K X.mg X.base CXx k f fd ps sp) (hr:Room (k + 1) X.A) (hg:Gl X x) (hm:X.mg x=some (.ref C)) (hb:Binds X.K fd ps []) (hx:∀ σ,PassesAt CXx X σ (E σ))
  (ha:PA X (e::es) t) (hdb:(x == ("__debug__" : Str))=false) (he:starEach (e::es) X.env=(false,eval e X.env)::starEach es X.env) (hpl:(backTo pos (starEach es X.env)).any (·.1)=false) :
  PE X (.Call (.Name x p) (e::es) [] pos) (z5s C sp E t):=by
 refine ⟨fun pins s σ H Q I h=>?_⟩
 refine wpAny_Call_Name_kw (ld_glob I hg hm ?_ hdb)
 refine PySem.W.callWith_K (h₀:=X.base) I.ok.mod.kin M.kp (thn (ha.run pos pins s σ H _ I h) fun us s1 ⟨vs,H1,I1,r,q⟩=>⟨I1.kIn,?_⟩) he hpl
 exact z0I M F hr hb (hx σ) I1 r q
end
structure MtC (P:Program) (w:World) (K:PySem.W.Frag) (mg:Str->Option Value) (base:Heap) (CA:String->Addr) (C m:String) (g:GFn) (k:Nat):Prop where
 is:∃ (Ca f:Addr) (fd:FuncData) (ps:List Str),PySem.W.nsIn K mainGlobals (Str.ofString C)=some (some (.ref Ca))/\Cls K Ca/\Meth K Ca (Str.ofString m) f/\FnOk P w K mg base (L2.CX P w) k f fd ps (spG K CA C g ps.length)/\Binds K fd ps []/\∀ t fs ds,g t fs ds≠.st->ds.length + 1=ps.length
structure MtR (P:Program) (w:World) (K:PySem.W.Frag) (mg:Str->Option Value) (base:Heap) (CA:String->Addr) (C m:String) (fn:Fn) (k:Nat):Prop where
 is:∃ (Ca f:Addr) (fd:FuncData) (ps:List Str),PySem.W.nsIn K mainGlobals (Str.ofString C)=some (some (.ref Ca))/\Cls K Ca/\Meth K Ca (Str.ofString m) f/\FnOk P w K mg base (L2.CX P w) k f fd ps (spF K CA fn ps.length)/\Binds K fd ps []/\∀ as,fn as≠.st->as.length=ps.length
structure MtI (P:Program) (w:World) (K:PySem.W.Frag) (mg:Str->Option Value) (base:Heap) (CA:String->Addr) (C:String) (g:GFn) (k:Nat):Prop where
 is:∃ (Ca f:Addr) (fd:FuncData) (ps:List Str),PySem.W.nsIn K mainGlobals (Str.ofString C)=some (some (.ref Ca))/\mg (Str.ofString C)=some (.ref Ca)/\Mk K Ca f/\FnOk P w K mg base (L2.CX P w) k f fd ps (spG K CA C g ps.length)/\Binds K fd ps []/\∀ t fs ds,g t fs ds≠.st->ds.length + 1=ps.length
def J1 (fs:List (Str×D)) (m:Str):Bool:=fs.all fun p=>decide (p.1≠m)
theorem zE3 {K:PySem.W.Frag} {H:Hp} {fs:List (Str×D)} {fvs:List (Str×V)} {g:List Addr} {m:Str} (r:RepK K H fs fvs g) (h:J1 fs m=true):fvs.lookup m=none:=by
 have hk:m∉fvs.map (·.1):=by
  rw[r.keys]
  intro z
  obtain ⟨p,hp,e⟩:=List.mem_map.mp z
  have:=List.all_eq_true.mp h p hp
  simp at this
  exact this e
 clear r h
 induction fvs with
 | nil=>rfl
 | cons p r ih=>
  obtain ⟨k0,v⟩:=p
  have:(m == k0)=false:=by simpa using fun e:m=k0=>hk (by simp[e])
  rw[List.lookup_cons,this]
  exact ih fun z=>hk (by simp at z ⊢; exact .inr z)
noncomputable def mcM (C m:String) (g:GFn) (p:SPh) (s:SA):SM:=fun ρ=>(p ρ).out ρ fun x=>match x.2.2 with
 | .obj t C' fs=>if C'=C/\J1 fs (Str.ofString m)=true then (s ρ).out ρ fun xs=>if x.1∈(jn xs).is then .st else match G3 fun t=>g t fs (xs.map (·.2)) with
  | .ok fs' d=>(match X5 ρ x (.obj t C fs') with
   | some ρ'=>.ri ρ' .own d
   | none=>.st)
  | .ex c fs'=>(match X5 ρ x (.obj t C fs') with
   | some ρ'=>.ex c ρ'
   | none=>.st)
  | .st=>.st else .st
 | _=>.st
section
variable {X:Cx} {CA:String->Addr} {W:WX} {C m:String} {g:GFn} {k:Nat} {p pos apos:Pos} {e o:Expr} {es:List Expr} {s:SA} {sp:SPh}
theorem z5J {A:Addr->Prop} {H0 H H2:Hp} {F:Nat->List Addr} {G:List (D×V)} {ρ:Env} {σ:L2.St} {Q:VK} {x:Nat×List Ix×D} {v:V} {t:Nat} {fs:List (Str×D)} {xs:List KD} {vs:List V} {gx:List Addr} {n:Nat} {a:Addr}
  (sr:SR X.K A H0 F G ρ σ H) (s2:Same H H2) (at2:zk3 ρ σ H2 x v) (ex:x.2.2=.obj t C fs) (ev:v=.ref a) (rs:Reps X.K H2 (xs.map (·.2)) vs gx) (bo:BOk A H0 F (jn xs).is gx) (hj:x.1∉(jn xs).is) (hn:(xs.map (·.2)).length + 1=n)
  (h:MOk X.K CA W A H0 F ρ.length G σ H (match G3 fun t=>g t fs (xs.map (·.2)) with
   | .ok fs' d=>(match X5 ρ x (.obj t C fs') with
    | some ρ'=>.ri ρ' .own d
    | none=>.st)
   | .ex c fs'=>(match X5 ρ x (.obj t C fs') with
    | some ρ'=>.ex c ρ'
    | none=>.st)
   | .st=>.st) Q):spG X.K CA C g n (.ref a::vs) H2 Q (WE W σ):=by
 obtain ⟨f0,r0,n0,m0,wr⟩:=at2.openG sr s2
 rw[ex,ev] at r0
 have htag:t=0\/t=a + 1:=by cases r0 with | obj q c n r z=>exact z
 have hca:∃ Ca,PySem.W.nsIn X.K mainGlobals (Str.ofString C)=some (some (.ref Ca)):=by cases r0 with | obj q c n r z=>exact ⟨_,c⟩
 have r1:Rep X.K H2 (.obj (a + 1) C fs) (.ref a) f0:=by cases r0 with | obj q c n r z=>exact .obj q c n r (.inr rfl)
 have retag:∀ {H':Hp} {fs':List (Str×D)} {f':List Addr},Rep X.K H' (.obj (a + 1) C fs') (.ref a) f'->Rep X.K H' (.obj t C fs') v f':=fun {H' fs' f'} r=>by
  rw[ev]; cases r with | obj q c n r z=>exact .obj q c n r htag
 refine ⟨a,fs,xs.map (·.2),gx,f0,hn,⟨r1,rs⟩,rfl,n0,fun b hb=>⟨(m0 b hb).2.2,fun z=>?_⟩,?_⟩
 ·rcases bo b z with ⟨j',hj',q⟩ | q
  ·exact hj (sr.dis j' x.1 b q (m0 b hb).1 ▸ hj')
  ·exact q.2 x.1 (m0 b hb).1
 ·cases hall:G3 fun t=>g t fs (xs.map (·.2)) with
  | st=>rw[hall] at h; exact h.elim
  | ok fs' d=>
   have hg:=zd1 (f:=fun t=>g t fs (xs.map (·.2))) (by rw[hall]; simp) (a + 1)
   simp only[hall] at hg h
   rw[hg]
   intro w H' f0' g' sH r' rv nd cond
   obtain ⟨nd1,nd2,nd3⟩:=List.nodup_append.mp nd
   have mg:∀ b∈g',Mu (H' b):=fun b hb=>(cond b (List.mem_append_right _ hb)).2
   have rx:Rep X.K (Y3 H' g') (.obj t C fs') v f0':=(retag r').frame (fun b ob e tt=>by
    have:b∉g':=fun z=>by
     have:=(mg b z).m
     rw[e] at this
     cases ob <;> first | exact tt.elim | exact this.elim
    rw[i5 this]; exact e) fun b hb ob e=>by rw[i5 fun z=>nd3 b hb b z rfl]; exact e
   obtain ⟨ρ',F',e1,sr',eff⟩:=wr (Y3 H' g') (.obj t C fs') f0' (fun b ob e hb=>by
    have hh:H' b=some ob:=sH b ob (by rw[i5 hb]; exact e)
    rw[i5 fun z=>?_]; exact hh
    rcases (cond b (List.mem_append_right _ z)).1 with w | w
    ·exact hb w
    ·rw[w] at e; cases e) rx nd1 (fun b hb=>(cond b (List.mem_append_left _ hb)).1.imp id fun z=>s2.free z) (fun b hb=>by
    rw[i5 fun z=>nd3 b hb b z rfl]; exact (cond b (List.mem_append_left _ hb)).2)
   simp only[e1] at h
   exact h w (Y3 H' g') H' F' g' sr' eff (O0 H' g') rv ⟨nd2,fun b hb=>⟨N4 hb,mg b hb⟩⟩
  | ex c fs'=>
   have hg:=zd1 (f:=fun t=>g t fs (xs.map (·.2))) (by rw[hall]; simp) (a + 1)
   simp only[hall] at hg h
   rw[hg]
   intro H' f0' sH r' nd cond
   obtain ⟨ρ',F',e1,sr',eff⟩:=wr H' (.obj t C fs') f0' (fun b ob e hb=>sH b ob (by rw[i5 hb]; exact e)) (retag r') nd (fun b hb=>(cond b hb).1.imp id fun z=>s2.free z) (fun b hb=>(cond b hb).2)
   simp only[e1] at h
   exact h H' F' sr'
theorem z2y (tk:Takes X W) (hr:Room k X.A) (hm:MtC X.prog X.w X.K X.mg X.base CA C m g k) (ho:PE X o (tP CA W X.K sp)) (ha:PA X (e::es) (tA X.K CA W s)) {pl:Sem Bool}
  (hst:starEach (e::es) X.env=(false,eval e X.env)::starEach es X.env:=by rfl) (hpl:(backTo pos (starEach es X.env)).any (·.1)=false:=by rfl)
  (ht:eval (.Call (.Attribute o (Str.ofString m) apos) (e::es) [] pos) X.env=(do
   let ov <- eval o X.env
   standAt apos.atName
   let (f,first) <- holding [ov] (getMethod ov (Str.ofString m) pl)
   callWith pos f first (backTo pos (starEach (e::es) X.env)) (backToKw pos (keywordEach [] X.env))):=by rfl) :
  PE X (.Call (.Attribute o (Str.ofString m) apos) (e::es) [] pos) (tM X.K CA W (mcM C m g sp s)):=by
 obtain ⟨Ca,f,fd,ps,hC,c,mt,Fn,hb,hz⟩:=hm.is
 refine peI (zQ0 ho c mt Fn hr hb (fun σ=>passAt tk σ) ha hst hpl ht) fun σ H Q ⟨A,H0,F,G,ρ,sr,h⟩=>?_
 refine ⟨A,H0,F,G,ρ,sr,(MOk.lift h sr).imp fun x _ q v H1 s1 at1=>?_⟩
 obtain ⟨f0,r0,_,_,_⟩:=at1.openG sr s1
 obtain ⟨j,qq,d0⟩:=x
 cases d0 with
 | obj t C' fs=>
  simp only at q
  by_cases hh:C'=C/\J1 fs (Str.ofString m)=true
  ·rw[if_pos hh] at q
   obtain ⟨rfl,hk⟩:=hh
   cases r0 with
   | @obj _ _ a Ca' dx fvs _ f1 hl hCa nk rs0 htg=>
    rw[hC] at hCa; cases hCa
    refine ⟨a,dx,fvs,rfl,.of hl,zE3 rs0 hk,A,H0,F,G,ρ,sr.same s1,(MOk.lift (q.later s1) (sr.same s1)).imp fun xs _ q3 vs H2 gx s2 rs os=>?_⟩
    by_cases hj:j∈(jn xs).is
    ·rw[if_pos hj] at q3; exact q3.elim
    ·rw[if_neg hj] at q3
     have hl:(xs.map (·.2)).length + 1=ps.length:=by
      cases hall:G3 fun t=>g t fs (xs.map (·.2)) with
      | st=>rw[hall] at q3; exact q3.elim
      | ok fs' d=>exact hz 0 fs _ (by rw[zd1 (f:=fun t=>g t fs (xs.map (·.2))) (by rw[hall]; simp) 0,hall]; simp)
      | ex c fs'=>exact hz 0 fs _ (by rw[zd1 (f:=fun t=>g t fs (xs.map (·.2))) (by rw[hall]; simp) 0,hall]; simp)
     exact z5J (x:=(j,qq,.obj t C' fs)) (sr.same s1) s2 (at1.same s2) rfl rfl rs (os.bok (sr.same s1)) hj hl q3
  ·rw[if_neg hh] at q; exact q.elim
 | _=>exact q.elim
end
def rmK (C m:String) (fn:Fn) (x:KD) (xs:List KD):R KD:=(fn (x.2::xs.map (·.2))).bind fun kd=>.ok (zE1 kd.1 (jn (x::xs)),kd.2)
def rmE (C m:String) (fn:Fn) (a:SE) (s:SA):SE:=fun ρ=>(a ρ).bind fun x=>match x.2 with
 | .obj _ C' fs=>if C'=C/\J1 fs (Str.ofString m)=true then (s ρ).bind fun xs=>rmK C m fn x xs else .st
 | .sob C' fs=>if C'=C/\J1 fs (Str.ofString m)=true then (s ρ).bind fun xs=>rmK C m fn x xs else .st
 | _=>.st
section
variable {X:Cx} {CA:String->Addr} {W:WX} {C m:String} {fn:Fn} {k:Nat} {p pos apos:Pos} {e o:Expr} {es:List Expr} {s:SA} {so:SE}
theorem z1R {K:PySem.W.Frag} {H:Hp} {x:KD} {v:V} {f:List Addr} {Ca:Addr} {ok:KD->Prop} {W:WX} {σ:L2.St} {Hs:Hp} {s:SA} {ρ:Env} (r0:Rep K H x.2 v f) (hC:PySem.W.nsIn K mainGlobals (Str.ofString C)=some (some (.ref Ca)))
  (h:i7 K CA W σ Hs (match x.2 with
   | .obj _ C' fs=>if C'=C/\J1 fs (Str.ofString m)=true then (s ρ).bind fun xs=>rmK C m fn x xs else .st
   | .sob C' fs=>if C'=C/\J1 fs (Str.ofString m)=true then (s ρ).bind fun xs=>rmK C m fn x xs else .st
   | _=>.st) ok):(∃ a dx fvs,v=.ref a/\Rd H a (.ins Ca dx fvs)/\fvs.lookup (Str.ofString m)=none)/\i7 K CA W σ Hs ((s ρ).bind fun xs=>rmK C m fn x xs) ok:=by
 obtain ⟨kx,d⟩:=x
 cases d with
 | obj t C' fs=>
  simp only at h
  by_cases hh:C'=C/\J1 fs (Str.ofString m)=true
  ·rw[if_pos hh] at h
   obtain ⟨rfl,hk⟩:=hh
   cases r0 with
   | @obj _ _ a Ca' dx fvs _ f1 hl hCa nk rs0 htg=>
    rw[hC] at hCa; cases hCa
    exact ⟨⟨a,dx,fvs,rfl,.of hl,zE3 rs0 hk⟩,h⟩
  ·rw[if_neg hh] at h; exact h.elim
 | sob C' fs=>
  simp only at h
  by_cases hh:C'=C/\J1 fs (Str.ofString m)=true
  ·rw[if_pos hh] at h
   obtain ⟨rfl,hk⟩:=hh
   cases r0 with
   | @sob _ a Ca' dx ob fvs _ hl hCa nk rs0=>
    rw[hC] at hCa; cases hCa
    exact ⟨⟨a,dx,fvs,rfl,.inr ⟨ob,hl⟩,zE3 rs0 hk⟩,h⟩
  ·rw[if_neg hh] at h; exact h.elim
 | _=>exact h.elim
theorem zF6 (tk:Takes X W) (hr:Room k X.A) (hm:MtR X.prog X.w X.K X.mg X.base CA C m fn k) (ho:PE X o (tE X.K CA W so)) (ha:PA X (e::es) (tA X.K CA W s)) {pl:Sem Bool}
  (hst:starEach (e::es) X.env=(false,eval e X.env)::starEach es X.env:=by rfl) (hpl:(backTo pos (starEach es X.env)).any (·.1)=false:=by rfl)
  (ht:eval (.Call (.Attribute o (Str.ofString m) apos) (e::es) [] pos) X.env=(do
   let ov <- eval o X.env
   standAt apos.atName
   let (f,first) <- holding [ov] (getMethod ov (Str.ofString m) pl)
   callWith pos f first (backTo pos (starEach (e::es) X.env)) (backToKw pos (keywordEach [] X.env))):=by rfl) :
  PE X (.Call (.Attribute o (Str.ofString m) apos) (e::es) [] pos) (tE X.K CA W (rmE C m fn so s)):=by
 obtain ⟨Ca,f,fd,ps,hC,c,mt,Fn,hb,hz⟩:=hm.is
 refine peI (zQ0 ho c mt Fn hr hb (fun σ=>passAt tk σ) ha hst hpl ht) fun σ H Q ⟨A,H0,F,G,ρ,sr,h⟩=>?_
 refine ⟨A,H0,F,G,ρ,sr,i7.bind h fun x h1=>?_⟩
 intro v H1 f1 s1 r1 o1
 obtain ⟨⟨a,dx,fvs,ev,hR,hL⟩,h2⟩:=z1R (x:=x) r1 hC h1
 refine ⟨a,dx,fvs,ev,hR,hL,A,H0,F,G,ρ,sr.same s1,i7.bind (h2.later s1) fun xs h3=>?_⟩
 intro vs H2 f2 s2 rs os
 have rr:Reps X.K H2 ((x::xs).map (·.2)) (v::vs) (f1++f2):=.cons (r1.same s2) rs
 have oo:KOk A H0 F H H2 (jn (x::xs)) (f1++f2):=KOk.join sr s1 s2 r1.trk (KOk.nk r1 o1) os
 have hl:((x::xs).map (·.2)).length=ps.length:=hz _ fun z=>by
  have h3:i7 X.K CA W σ H1 (rmK C m fn x xs) _:=h3
  unfold rmK at h3
  rw[List.map_cons] at z
  rw[z] at h3; exact h3
 have:=zK0 (CA:=CA) (W:=W) (fn:=fn) (dvs:=[]) (dd:=[]) sr (s1.trans s2) rr oo .nil (n:=ps.length) (by rw[List.append_nil,<- rr.length]; exact hl) (Q:=Q) (by
  rw[List.append_nil]; exact h3.later s2)
 rw[List.append_nil] at this
 exact this
theorem zR4 (tk:Takes X W) (hr:Room k X.A) (hm:MtR X.prog X.w X.K X.mg X.base CA C m fn k) (ho:PE X o (tE X.K CA W so)) {pl:Sem Bool}
  (ht:eval (.Call (.Attribute o (Str.ofString m) apos) [] [] pos) X.env=(do
   let ov <- eval o X.env
   standAt apos.atName
   let (f,first) <- holding [ov] (getMethod ov (Str.ofString m) pl)
   callWith pos f first (backTo pos (starEach [] X.env)) (backToKw pos (keywordEach [] X.env))):=by rfl) :
  PE X (.Call (.Attribute o (Str.ofString m) apos) [] [] pos) (tE X.K CA W (rmE C m fn so y6)):=by
 obtain ⟨Ca,f,fd,ps,hC,c,mt,Fn,hb,hz⟩:=hm.is
 refine peI (z0L ho c mt Fn hr hb (fun σ=>passAt tk σ) ht) fun σ H Q ⟨A,H0,F,G,ρ,sr,h⟩=>?_
 refine ⟨A,H0,F,G,ρ,sr,i7.bind h fun x h1=>?_⟩
 intro v H1 f1 s1 r1 o1
 obtain ⟨⟨a,dx,fvs,ev,hR,hL⟩,h2⟩:=z1R (x:=x) r1 hC h1
 have h3:i7 X.K CA W σ H (rmK C m fn x []) fun kd=>S8 X.K A H0 F H kd Q:=h2
 refine ⟨a,dx,fvs,ev,hR,hL,?_⟩
 have rr:Reps X.K H1 (([x]:List KD).map (·.2)) [v] (f1++[]):=.cons r1 .nil
 have oo:KOk A H0 F H H1 (jn [x]) (f1++[]):=KOk.join (k':=.own) sr s1 (Same.refl _) r1.trk (KOk.nk r1 o1) (KOk.nil _)
 have hl:(([x]:List KD).map (·.2)).length=ps.length:=hz _ fun z=>by
  unfold rmK at h3
  have z':fn (x.2::([]:List KD).map (·.2))=.st:=z
  rw[z'] at h3; exact h3
 have:=zK0 (CA:=CA) (W:=W) (fn:=fn) (dvs:=[]) (dd:=[]) sr s1 rr oo .nil (n:=ps.length) (by rw[List.append_nil,<- rr.length]; exact hl) (Q:=Q) (by
  rw[List.append_nil]; exact h3.later s1)
 rw[List.append_nil] at this
 exact this
noncomputable def mkE (C:String) (g:GFn) (s:SA):SE:=fun ρ=>(s ρ).bind fun xs=>match G3 fun t=>g t [] (xs.map (·.2)) with
 | .ok fs' .non=>.ok (.own,.obj 0 C fs')
 | .ex c _=>.ex c
 | _=>.st
theorem z4R {A:Addr->Prop} {H0 H H1:Hp} {F:Nat->List Addr} {G:List (D×V)} {ρ:Env} {σ:L2.St} {Q:VK} {xs:List KD} {vs:List V} {gx:List Addr} {n:Nat} {Ca x dx:Addr} {ok:List (Str×D)->Prop}
  (sr:SR X.K A H0 F G ρ σ H) (s1:Same H H1) (hC:PySem.W.nsIn X.K mainGlobals (Str.ofString C)=some (some (.ref Ca))) (rs:Reps X.K H1 (xs.map (·.2)) vs gx) (hn:(xs.map (·.2)).length + 1=n) (nx:H1 x=none) (nd:H1 dx=none) (ne:dx≠x) {g:GFn}
  (h:i7 X.K CA W σ H (match G3 fun t=>g t [] (xs.map (·.2)) with
   | .ok fs' .non=>(.ok fs':R (List (Str×D)))
   | .ex c _=>.ex c
   | _=>.st) ok)
  (hq:∀ fs',ok fs'->∀ H' f',Same H H'->Rep X.K H' (.obj 0 C fs') (.ref x) f'->f'.Nodup->(∀ a∈f',H a=none/\Mu (H' a))->Q (.ref x) H') :
  spG X.K CA C g n (.ref x::vs) (upd (upd H1 dx (.own x)) x (.ins Ca dx [])) (fun v H2=>v=.non/\Q (.ref x) H2) (WE W σ):=by
 have sH:Same H1 (upd (upd H1 dx (.own x)) x (.ins Ca dx [])):=fun b o e=>by
  rw[upd_ne (ne_of_none e nx),upd_ne (ne_of_none e nd)]; exact e
 have sH2:∀ {H':Hp},Same (Y3 (upd (upd H1 dx (.own x)) x (.ins Ca dx [])) [x]) H'->Same H H':=fun {H'} s b o e=>by
  have e1:=s1 b o e
  have hb:b∉[x]:=fun z=>by rw[List.mem_singleton.mp z] at e1; rw[nx] at e1; cases e1
  exact s b o (by rw[i5 hb]; exact sH b o e1)
 have mu:Mu ((upd (upd H1 dx (.own x)) x (.ins Ca dx [])) x):=⟨by rw[upd_same]; trivial⟩
 refine ⟨x,[],xs.map (·.2),gx,[x],hn,⟨.obj upd_same hC List.nodup_nil .nil (.inr rfl),rs.same sH⟩,rfl,by simp,fun b hb=>?_,?_⟩
 ·rw[List.mem_singleton.mp hb]
  exact ⟨mu,fun z=>rs.trk x z nx⟩
 ·have fr:∀ {a:Addr} {H':Hp},(a∈[x]\/(upd (upd H1 dx (.own x)) x (.ins Ca dx [])) a=none)->H a=none:=fun {a H'} z=>by
   rcases z with z | z
   ·rw[List.mem_singleton.mp z]; exact s1.free nx
   ·exact s1.free (sH.free z)
  cases hall:G3 fun t=>g t [] (xs.map (·.2)) with
  | st=>rw[hall] at h; exact h.elim
  | ok fs' d=>
   have hg:=zd1 (f:=fun t=>g t [] (xs.map (·.2))) (by rw[hall]; simp) (x + 1)
   simp only[hall] at hg h
   rw[hg]
   intro v H' f0' g' s' r' rv nd' cond
   cases d with
   | non=>
    cases rv
    refine ⟨rfl,hq fs' h H' f0' (sH2 s') (by cases r' with | obj q c n r z=>exact .obj q c n r (.inl rfl)) (by simpa using nd') fun a ha=>?_⟩
    have:=cond a (List.mem_append_left _ ha)
    exact ⟨fr (H':=H') this.1,this.2⟩
   | _=>exact h.elim
  | ex c fs'=>
   have hg:=zd1 (f:=fun t=>g t [] (xs.map (·.2))) (by rw[hall]; simp) (x + 1)
   simp only[hall] at hg h
   rw[hg]
   intro H' f0' s' r' nd' cond
   exact h H' (sH2 s')
theorem z7Y {g:GFn} {n:Nat} {ds:List D} {ok:List (Str×D)->Prop} {K:PySem.W.Frag} {σ:L2.St} {H:Hp} (hz:∀ t fs ds,g t fs ds≠.st->ds.length + 1=n)
  (h:i7 K CA W σ H (match G3 fun t=>g t [] ds with
   | .ok fs' .non=>(.ok fs':R (List (Str×D)))
   | .ex c _=>.ex c
   | _=>.st) ok):ds.length + 1=n:=by
 cases hall:G3 fun t=>g t [] ds with
 | st=>rw[hall] at h; exact h.elim
 | ok fs' d=>exact hz 0 [] _ (by rw[zd1 (f:=fun t=>g t [] ds) (by rw[hall]; simp) 0,hall]; simp)
 | ex c fs'=>exact hz 0 [] _ (by rw[zd1 (f:=fun t=>g t [] ds) (by rw[hall]; simp) 0,hall]; simp)
theorem z21 {g:GFn} {ds:List D} {K:PySem.W.Frag} {σ:L2.St} {H:Hp} {ok:KD->Prop} {f:List (Str×D)->R KD} (h:i7 K CA W σ H (match G3 fun t=>g t [] ds with
   | .ok fs' .non=>f fs'
   | .ex c _=>.ex c
   | _=>.st) ok):i7 K CA W σ H (match G3 fun t=>g t [] ds with
   | .ok fs' .non=>(.ok fs':R (List (Str×D)))
   | .ex c _=>.ex c
   | _=>.st) fun fs'=>i7 K CA W σ H (f fs') ok:=by
 cases hall:G3 fun t=>g t [] ds with
 | st=>rw[hall] at h; exact h.elim
 | ok fs' d=>rw[hall] at h; cases d <;> first | exact h | exact h.elim
 | ex c fs'=>rw[hall] at h; exact h
theorem yd4 {g:GFn} (tk:Takes X W) (hr:Room (k + 1) X.A) (hm:MtI X.prog X.w X.K X.mg X.base CA C g k) (ha:PA X (e::es) (tA X.K CA W s)) (hg:Gl X (Str.ofString C):=by rfl) (hdb:(Str.ofString C == ("__debug__" : Str))=false:=by decide)
  (he:starEach (e::es) X.env=(false,eval e X.env)::starEach es X.env:=by rfl) (hpl:(backTo pos (starEach es X.env)).any (·.1)=false:=by rfl):PE X (.Call (.Name (Str.ofString C) p) (e::es) [] pos) (tE X.K CA W (mkE C g s)):=by
 obtain ⟨Ca,f,fd,ps,hC,hmg,M,Fn,hb,hz⟩:=hm.is
 refine peI (z1p M Fn hr hg hmg hb (fun σ=>passAt tk σ) ha hdb he hpl) fun σ H Q ⟨A,H0,F,G,ρ,sr,h⟩=>?_
 refine ⟨A,H0,F,G,ρ,sr,i7.bind h fun xs h1=>?_⟩
 intro vs H1 gx s1 rs os x dx nx nd ne
 have h2:=z21 h1
 exact z4R sr s1 hC rs (z7Y hz h2) nx nd ne h2 fun fs' hk H' f' s' r n m=>hk (.ref x) H' f' s' r ⟨n,m⟩
end
open Classical in
noncomputable def zt7 (H:Hp) (L:List Addr) (os:Addr->Obj):Hp:=fun a=>if a∈L then (H a).map fun u=>.frz (os a) u else H a
theorem z0a {H:Hp} {L:List Addr} {os:Addr->Obj} {a:Addr} {u:HO} (h:a∈L) (e:H a=some u):zt7 H L os a=some (.frz (os a) u):=by unfold zt7; rw[if_pos h,e]; rfl
theorem E3 {H:Hp} {L:List Addr} {os:Addr->Obj} {a:Addr} (h:a∉L):zt7 H L os a=H a:=if_neg h
section
variable {X:Cx} {pins:List (Addr×Obj)} {σ:L2.St} {H:Hp} {s:Shared}
theorem Inv.frzL (I:Inv X pins σ H s) (L:List Addr) (hL:∀ a∈L,L2.Mut (H a)):∃ os,Inv X pins σ (zt7 H L os) s:=by
 have hex:∀ a,a∈L->∃ o,s.heap.get? a=some o:=fun a ha=>by
  have m:=hL a ha
  cases e:H a with
  | none=>rw[e] at m; exact m.elim
  | some u=>
   have:=I.hok a u e
   cases u with
   | lst xs=>obtain ⟨_,_,_,_,q⟩:=this; exact ⟨_,q⟩
   | dK kvs=>obtain ⟨_,_,_,_,o,_,_,q,_⟩:=this; exact ⟨o,q⟩
   | dT kvs=>obtain ⟨_,_,_,_,o,_,_,q,_⟩:=this; exact ⟨o,q⟩
   | set S n=>obtain ⟨o,_,_,_,q,_⟩:=this; exact ⟨o,q⟩
   | ins C dx fs=>obtain ⟨_,_,_,q,_⟩:=this; exact ⟨_,q⟩
   | ext φ=>obtain ⟨_,⟨o,q⟩,_⟩:=this; exact ⟨o,q⟩
   | _=>rw[e] at m; exact m.elim
 refine ⟨fun a=>((s.heap.get? a).getD default),?_⟩
 have nL:∀ {a:Addr} {u:HO},H a=some u->¬ L2.Mut (some u)->a∉L:=fun {a u} e n z=>by
  have:=hL a z
  rw[e] at this; exact n this
 have stay:∀ {a:Addr} {u:HO},ObjOk X.prog X.w H s.heap a u->ObjOk X.prog X.w (zt7 H L fun a=>((s.heap.get? a).getD default)) s.heap a u:=fun {a u} x=>
  x.stay (fun _ _ _ q=>q) (fun b e=>by rw[E3 (nL e fun z=>z)]; exact e) fun b xs e=>by rw[E3 (nL e fun z=>z)]; exact e
 refine I.un (t':=s.toks) ⟨fun b o q _ _ _=>q,fun b o q _ _ _=>⟨o.slots,q⟩,fun b o q n _=>?_,fun b o q _=>⟨o,q⟩,fun b xs e=>?_,fun b o u e=>?_,fun b ps e=>⟨#[],?_⟩⟩ fun a u e=>?_
 ·by_cases h:b∈L
  ·have:=hL b h
   rw[n] at this; exact this.elim
  ·rw[E3 h]; exact n
 ·rw[E3 (nL e fun z=>z)]; exact e
 ·rw[E3 (nL e fun z=>z)]; exact e
 ·rw[E3 (nL e fun z=>z),e]; simp
 ·by_cases h:a∈L
  ·obtain ⟨o,ho⟩:=hex a h
   cases eu:H a with
   | none=>unfold zt7 at e; rw[if_pos h,eu] at e; cases e
   | some u0=>
    rw[z0a h eu] at e
    cases e
    refine ⟨?_,stay (I.hok a u0 eu)⟩
    show s.heap.get? a=some ((s.heap.get? a).getD default)
    rw[ho]; rfl
  ·rw[E3 h] at e
   exact stay (I.hok a u e)
end
theorem z8d {X:Cx} {e:Expr} {t:TE} (h:PE X e t):PE X e (fun σ H Q=>t σ H fun v H1=>∃ L:List Addr,(∀ a∈L,L2.Mut (H1 a))/\∀ os,Q v (zt7 H1 L os)):=by
 refine ⟨fun pins s σ H Q I q=>?_⟩
 refine thn (h.run pins s σ H _ I q) fun u s1 ⟨v,H1,I1,r1,L,hL,k⟩=>?_
 obtain ⟨os,I2⟩:=Inv.frzL I1 L hL
 exact ⟨v,_,I2,r1,k os⟩
section
variable {X:Cx} {CA:String->Addr} {W:WX} {pos p apos cpos:Pos} {e:Expr} {sa:SE}
theorem RepK.ints {K:PySem.W.Frag} {H:Hp} {κ:Type}:∀ {kds:List (κ×D)} {kvs:List (κ×V)} {f:List Addr} {is:List Int},RepK K H kds kvs f->kds.map (·.2)=is.map D.int->kvs.map (·.2)=is.map V.int:=by
 intro kds
 induction kds with
 | nil=>
  intro kvs f is r e
  cases r
  cases is with | nil=>rfl | cons a b=>cases e
 | cons p kds ih=>
  intro kvs f is r e
  cases r with
  | cons r t=>
   cases is with
   | nil=>cases e
   | cons a b=>
    rw[List.map_cons,List.map_cons] at e
    injection e with h1 h2
    simp only at h1
    subst h1
    cases r
    rw[List.map_cons,List.map_cons,ih t h2]
end
def I0 (a:SE):SS:=fun ρ=>(a ρ).out ρ fun x=>.ri ρ (nk x.1 x.2) x.2
def zW1 (i:Nat):SS:=fun ρ=>match ρ[i]? with
 | some (.ow d)=>if V7 (ρ.set i .no)=true/\(ρ.all fun s=>match s with
  | .bo is _=>!is.contains i
  | _=>true)=true then .ri (ρ.set i .no) .own d else .st
 | some (.bo _ d)=>if noL d=true then .ri ρ .own d else .st
 | _=>.st
section
variable {X:Cx} {CA:String->Addr} {W:WX} {pos pos' p1 p2 p3:Pos} {e o:Expr} {se so:SE}
theorem zr6 (he:PE X e (tE X.K CA W se)):PS X (.Return (some e) pos) (tS X.K CA W (I0 se)):=by
 refine psI (ps_ret he) fun D σ H ⟨A,H0,F,G,ρ,sr,h⟩=>?_
 refine ⟨A,H0,F,G,ρ,sr,(lift h sr).imp fun ⟨k,d⟩ _ q v H' f s r o=>?_⟩
 exact q v σ H H' F f sr s r (KOk.nk r o)
end
section
variable {K:PySem.W.Frag} {A:Addr->Prop} {H0 H:Hp} {F:Nat->List Addr} {G:List (D×V)} {ρ:Env} {σ:L2.St}
theorem SR.lose {i:Nat} {d:D} (sr:SR K A H0 F G ρ σ H) (e:ρ[i]? = some (.ow d)) (hb:∀ s∈ρ,∀ is d',s=.bo is d'->i∉is):SR K A H0 (w9 F i []) G (ρ.set i .no) σ (Y3 H (F i)):=by
 have hi:i < ρ.length:=(List.getElem?_eq_some_iff.mp e).1
 have out:∀ {b:Addr},b∉F i->Y3 H (F i) b=H b:=fun {b} h=>i5 h
 have nt:∀ b ob,H b=some ob->IsT ob->(Y3 H (F i)) b=some ob:=fun b ob e t=>by
  rw[out fun z=>?_]; exact e
  have:=((sr.own i).2 b z).2.m
  rw[e] at this
  cases ob <;> first | exact t.elim | exact this.elim
 have kp:∀ {f:List Addr},(∀ b∈f,b∉F i)->∀ b∈f,∀ ob,H b=some ob->(Y3 H (F i)) b=some ob:=fun {f} hf b hb ob e=>by rw[out (hf b hb)]; exact e
 have shU:∀ {b:Addr},Sh A H0 F b->b∉F i/\Sh A H0 (w9 F i []) b:=fun {b} h=>⟨h.2 i,h.1,fun m hm=>by
  by_cases z:m=i
  ·subst z; rw[x5] at hm; cases hm
  ·rw[y5 z] at hm; exact h.2 m hm⟩
 refine ⟨by rw[List.length_set]; exact sr.len,fun b ob eb=>?_,fun j=>?_,fun j m b hj hm=>?_,fun j d2 e2=>?_,fun j is d2 e2=>?_,fun p hp=>?_,fun j hj hn=>?_,V8 sr.fin,sr.tbS (R4 rfl) fun b o e t=>by
  rw[out fun z=>sr.teF z e t]; exact e⟩
 ·rw[out fun z=>by rw[((sr.own i).2 b z).1] at eb; cases eb]; exact sr.fr b ob eb
 ·by_cases z:j=i
  ·subst z; rw[x5]; exact ⟨List.nodup_nil,fun a ha=>nomatch ha⟩
  ·rw[y5 z]
   refine ⟨(sr.own j).1,fun b hb=>⟨((sr.own j).2 b hb).1,?_⟩⟩
   have:=((sr.own j).2 b hb).2
   exact ⟨by rw[out fun y=>z (sr.dis j i b hb y)]; exact this.mx⟩
 ·by_cases z:j=i
  ·subst z; rw[x5] at hj; cases hj
  ·by_cases y:m=i
   ·subst y; rw[x5] at hm; cases hm
   ·rw[y5 z] at hj; rw[y5 y] at hm; exact sr.dis j m b hj hm
 ·by_cases z:i=j
  ·subst z; rw[List.getElem?_set_self hi] at e2; cases e2
  ·rw[List.getElem?_set_ne z] at e2
   obtain ⟨v,h1,h2⟩:=sr.slo j d2 e2
   rw[y5 (Ne.symm z)]
   exact ⟨v,h1,h2.frame nt (kp fun b hb y=>z (sr.dis i j b y hb))⟩
 ·by_cases z:i=j
  ·subst z; rw[List.getElem?_set_self hi] at e2; cases e2
  ·rw[List.getElem?_set_ne z] at e2
   obtain ⟨v,f,h1,h2,h3⟩:=sr.slb j is d2 e2
   have hni:=hb _ (List.mem_of_getElem? e2) is d2 rfl
   have key:∀ b∈f,b∉F i/\((∃ m∈is,b∈w9 F i [] m)\/Sh A H0 (w9 F i []) b):=fun b hb=>by
    rcases h3 b hb with ⟨m,hm,q⟩ | q
    ·have hmi:m≠i:=fun y=>hni (y ▸ hm)
     exact ⟨fun y=>hmi (sr.dis m i b q y),.inl ⟨m,hm,by rw[y5 hmi]; exact q⟩⟩
    ·exact ⟨(shU q).1,.inr (shU q).2⟩
   exact ⟨v,f,h1,h2.frame nt (kp fun b hb=>(key b hb).1),fun b hb=>(key b hb).2⟩
 ·obtain ⟨f,h1,h2⟩:=sr.gho p hp
  exact ⟨f,h1.frame nt (kp fun b hb=>(shU (h2 b hb)).1),fun b hb=>(shU (h2 b hb)).2⟩
 ·rw[List.length_set] at hj
  by_cases z:i=j
  ·subst z; rw[x5] at hn; exact absurd rfl hn
  ·rw[y5 (Ne.symm z)] at hn
   obtain ⟨d2,q⟩:=sr.emp j hj hn
   exact ⟨d2,by rw[List.getElem?_set_ne z]; exact q⟩
end
section
variable {X:Cx} {CA:String->Addr} {W:WX} {pos pos' p1 p2 p3:Pos} {e o:Expr} {se so:SE}
theorem z6P (i:Nat) {x:Str} (hN:X.N[i]? = some x:=by rfl) (hv:Vis X.env.scope x:=by first | exact Or.inl rfl | exact Or.inr (Or.inl rfl) | exact Or.inr (Or.inr rfl)) (hd:(x == ("__debug__" : Str))=false:=by decide)
  (hcd:(x == ("__classdict__" : Str))=false:=by decide):PS X (.Return (some (.Name x pos')) pos) (tS X.K CA W (zW1 i)):=by
 refine psI (ps_ret (pe_var hN hv hd hcd)) fun D σ H ⟨A,H0,F,G,ρ,sr,h⟩=>?_
 have h:n8 X.K CA W A H0 G D (zW1 i ρ):=h
 unfold zW1 at h
 cases e:ρ[i]? with
 | none=>rw[e] at h; exact h.elim
 | some sl=>
  rw[e] at h
  cases sl with
  | no=>exact h.elim
  | tb=>exact h.elim
  | ow d=>
   obtain ⟨v,hv,r⟩:=sr.slo i d e
   have h:n8 X.K CA W A H0 G D (if V7 (ρ.set i .no)=true/\(ρ.all fun s=>match s with
    | .bo is _=>!is.contains i
    | _=>true)=true then .ri (ρ.set i .no) .own d else .st):=h
   by_cases hc:V7 (ρ.set i .no)=true/\(ρ.all fun s=>match s with
    | .bo is _=>!is.contains i
    | _=>true)=true
   ·rw[if_pos hc] at h
    have sr2:=sr.lose e fun s hs is d' es=>by
     have:=List.all_eq_true.mp hc.2 s hs
     subst es
     simpa using this
    exact ⟨v,hv,h v σ _ H _ (F i) sr2 (O0 H (F i)) r ⟨(sr.own i).1,fun a ha=>⟨N4 ha,((sr.own i).2 a ha).2⟩⟩⟩
   ·rw[if_neg hc] at h; exact h.elim
  | bo is d=>
   obtain ⟨v,f,hv,r,b⟩:=sr.slb i is d e
   have h:n8 X.K CA W A H0 G D (if noL d=true then .ri ρ .own d else .st):=h
   by_cases hz:noL d=true
   ·rw[if_pos hz] at h
    have:=r.noL hz
    subst this
    exact ⟨v,hv,h v σ H H F [] sr (Same.refl _) r (KOk.nil _)⟩
   ·rw[if_neg hz] at h; exact h.elim
end
end Cz
namespace PySem
open PySem.Spec PyProof.Rows Cz
end PySem
namespace Cz
open PySem PySem.Spec PyProof.Rows L2
structure TbF (K:PySem.W.Frag) (w:World) (mg:Str->Option Value) (x:String) (kvs:List (String×Int)):Prop where
 is:∃ a es n,mg (Str.ofString x)=some (.ref a)/\KDict K w a es n/\es.toList.map He.keyOf=He.keysIn w.params (kvs.map fun p=>Str.ofString p.1)/\∀ p∈kvs,∃ t,PySem.W.nsIn K a (Str.ofString p.1)=some (some (.int p.2 t))
theorem z45 {K:PySem.W.Frag} {a:Addr} {es:Array DictEntry} {n:Nat} {P:Params} {ks:List Str} (hl:K.lookup a=some ⟨.type "dict",none,.dict es n,#[]⟩) (hk:es.toList.map He.keyOf=He.keysIn P ks) {z:Str} (hz:z∉ks):PySem.W.nsIn K a z=some none:=by
 have key:∀ (l:List DictEntry) (ks:List Str),l.map He.keyOf=He.keysIn P ks->z∉ks->l.find? (·.key.isStr z)=none/\l.any (·.refKey)=false:=by
  intro l
  induction l with
  | nil=>intro ks _ _; exact ⟨rfl,rfl⟩
  | cons e l ih=>
   intro ks h hz
   cases ks with
   | nil=>cases h
   | cons k ks=>
    have h1:He.keyOf e::l.map He.keyOf=some (k,PyData.keyHash P k)::He.keysIn P ks:=h
    injection h1 with h2 h3
    obtain ⟨i1,i2⟩:=ih ks h3 (fun q=>hz (List.mem_cons_of_mem _ q))
    have hkz:¬ k=z:=fun q=>hz (q ▸ List.mem_cons_self)
    unfold He.keyOf at h2
    split at h2
    ·rename_i x t q
     have h4:=(Prod.mk.inj (Option.some.inj h2)).1
     have e1:e.key.isStr z=false:=by
      rw[q]
      show (x == z)=false
      rw[h4]; exact beq_eq_false_iff_ne.mpr hkz
     refine ⟨by rw[List.find?_cons,e1]; exact i1,?_⟩
     rw[List.any_cons,i2]
     have:e.refKey=false:=by unfold DictEntry.refKey; rw[q]
     rw[this]; rfl
    ·cases h2
 obtain ⟨k1,k2⟩:=key es.toList ks hk hz
 unfold PySem.W.nsIn
 rw[hl]
 dsimp only
 rw[k1,k2]
 rfl
def z3J (neg:Bool) (kvs:List (String×Int)) (a:SE):STs:=fun ρ=>(a ρ).bind fun x=>match x.2 with
 | .str z=>.ok (if neg then !((kvs.any fun p=>decide (Str.ofString p.1=z))) else (kvs.any fun p=>decide (Str.ofString p.1=z)))
 | _=>.st
def zd5:List (String×Int)->Str->Option Int
 | [],_=>none
 | (x,i)::r,z=>if Str.ofString x=z then some i else zd5 r z
def z2V (kvs:List (String×Int)) (a:SE):SE:=fun ρ=>(a ρ).bind fun x=>match x.2 with
 | .str z=>(R.of (zd5 kvs z)).bind fun i=>.ok (.own,.int i)
 | _=>.st
theorem zN5 {z:Str} {i:Int}:∀ {kvs:List (String×Int)},zd5 kvs z=some i->∃ p∈kvs,Str.ofString p.1=z/\p.2=i
 | [],h=>by cases h
 | (x,j)::r,h=>by
  unfold zd5 at h
  split at h
  ·rename_i q; cases h; exact ⟨_,List.mem_cons_self,q,rfl⟩
  ·obtain ⟨p,h1,h2⟩:=zN5 h; exact ⟨p,List.mem_cons_of_mem _ h1,h2⟩
section
variable {X:Cx} {CA:String->Addr} {W:WX} {pos p:Pos} {x:String} {kvs:List (String×Int)} {a:Expr} {sa:SE}
theorem z7N (h:TbF X.K X.w X.mg x kvs):∃ d es n,X.mg (Str.ofString x)=some (.ref d)/\KDict X.K X.w d es n/\∀ z:Str,∃ r,PySem.W.nsIn X.K d z=some r/\r.isSome=(kvs.any fun p=>decide (Str.ofString p.1=z)):=by
 obtain ⟨d,es,n,hm,D,hk,hv⟩:=h.is
 refine ⟨d,es,n,hm,D,fun z=>?_⟩
 cases c:kvs.any fun p=>decide (Str.ofString p.1=z) with
 | true=>
  obtain ⟨p,hp,e⟩:=List.any_eq_true.mp c
  have e:=of_decide_eq_true e
  obtain ⟨t,ht⟩:=hv p hp
  exact ⟨_,by rw[<- e]; exact ht,rfl⟩
 | false=>
  refine ⟨none,z45 D.at_ hk fun hz=>?_,rfl⟩
  obtain ⟨p,hp,e⟩:=List.mem_map.mp hz
  have:(kvs.any fun p=>decide (Str.ofString p.1=z))=true:=List.any_eq_true.mpr ⟨p,hp,decide_eq_true e⟩
  rw[c] at this; cases this
theorem z74 (h:TbF X.K X.w X.mg x kvs) (ha:PE X a (tE X.K CA W sa)) (hg:Gl X (Str.ofString x):=by rfl) (hd:(Str.ofString x == ("__debug__" : Str))=false:=by decide) (hm:behindInMarks .NotIn (.Name (Str.ofString x) p)=false:=by first | exact nomark _ | rfl) :
  PT X (.Compare a [.NotIn] [.Name (Str.ofString x) p] pos) (tT X.K CA W (z3J true kvs sa)):=by
 obtain ⟨d,es,n,hmg,D,hz⟩:=z7N h
 refine ptI (pt_cmpR (op_notIn_kd D) ha (pe_glob (v:=.ref d) hg hmg rfl hd) hm) fun σ H Q ⟨A,H0,F,G,ρ,sr,h⟩=>?_
 refine ⟨A,H0,F,G,ρ,sr,h.bind fun ⟨k1,d1⟩ h1=>?_⟩
 intro v1 H1 f1 s1 r1 o1
 cases d1 with
 | str z=>
  cases r1
  obtain ⟨r,e1,e2⟩:=hz z
  exact ⟨z,r,rfl,rfl,e1,!r.isSome,rfl,by rw[e2]; exact h1 H1 s1⟩
 | _=>exact h1.elim
theorem z80 (h:TbF X.K X.w X.mg x kvs) (ha:PE X a (tE X.K CA W sa)) (hs:PlainIx a:=by exact fun _ _=>rfl) (hg:Gl X (Str.ofString x):=by rfl) (hd:(Str.ofString x == ("__debug__" : Str))=false:=by decide) :
  PE X (.Subscript (.Name (Str.ofString x) p) a pos) (tE X.K CA W (z2V kvs sa)):=by
 obtain ⟨d,es,n,hmg,kd0,hk,hv⟩:=h.is
 refine peI (pe_ix ix_kdict (pe_glob (v:=.ref d) hg hmg rfl hd) ha hs) fun σ H Q ⟨A,H0,F,G,ρ,sr,h⟩=>?_
 show tE X.K CA W sa σ H _
 refine ⟨A,H0,F,G,ρ,sr,h.bind fun ⟨k1,d1⟩ h1=>?_⟩
 intro v1 H1 f1 s1 r1 o1
 cases d1 with
 | str z=>
  cases r1
  have h1:i7 X.K CA W σ H ((R.of (zd5 kvs z)).bind fun i=>.ok ((Kd.own,D.int i):KD)) fun kd=>S8 X.K A H0 F H kd Q:=h1
  cases g:zd5 kvs z with
  | none=>rw[g] at h1; exact h1.elim
  | some i=>
   rw[g] at h1
   obtain ⟨q,hq,e1,e2⟩:=zN5 g
   obtain ⟨t,ht⟩:=hv q hq
   rw[e1,e2] at ht
   exact ⟨d,z,.int i,rfl,rfl,⟨es,n,_,kd0.at_,kd0.lit,ht,⟨t,rfl⟩⟩,h1 _ _ [] s1 (.int i) (KOk.nil _)⟩
 | _=>exact h1.elim
end
theorem z16 {X:Cx} {k v:Expr} {pos:Pos} {tk tv:TE} (hu:X.A.units + 1 < cLine) (hk:PE X k tk) (hv:PE X v tv) :
  PE X (.Dict [some k] [v] pos) (fun σ H Q=>∀ p,H p=none->tk σ (upd H p (.dT [])) fun x H1=>tv σ H1 fun y H2=>H2 p=some (.dT [])/\∃ (b:Addr) (ks:List Key),x=.ref b/\H2 b=some (.tup (ks.map kV))/\Q (.ref p) (upd H2 p (.dT [(ks,y)]))):=by
 refine ⟨fun pins s σ H Q I q=>?_⟩
 have hn:=I.hok.fresh (Nat.le_refl s.heap.objs.size)
 have I1:=I.laid (a:=s.heap.objs.size) (o:=.dT []) (h':=s.heap.push { cls:=.type "dict",data:=.dict #[] }) (t':=s.toks) (fun _ _ q=>Heap.get?_push_of_some _ q) (Nat.le_refl _) (dt_empty s.heap I.big)
 have hroom:(tupleKind (mixKind X.prog X.w)).room X.A:=by show X.A.units < cLine; omega
 rw[arm_eval_Dict,zip_pairTrees [some k] [v] X.env pos rfl rfl,dictDisplay_pairs (pairTrees [some k] [v] X.env pos) (by intro e; cases e) (by show (1:Nat) < 17; decide)]
 refine wpAny_bind (wpAny_standAt (wpAny_bind (wpAny_subDictH (knd:=tupleKind (mixKind X.prog X.w)) (Q:=fun d s'=>wpAny (model X.prog X.w) X.A (pure (Value.ref d)) _ _ s') hroom (by show (1:Nat)<=15; decide) ?_)))
 refine pairTrees_cons_walk (thn (hk.run pins _ σ _ _ (I1.tok _) (q _ hn)) fun u s1 ⟨x,H1,I2,rx,q1⟩=>thn (hv.run pins s1 σ H1 _ I2 q1) fun r s2 ⟨y,H2,I3,ry,e,b,ks,ex,eb,q2⟩=>pairTrees_nil_walk ?_)
 subst ex
 cases (show u=Value.ref b from rx)
 obtain ⟨z,hd,xs,rel,dd⟩:=dt_of I3.hok e
 cases rel
 refine ⟨[(ks,b,r)],⟨rfl,rfl,key_of I3.hok eb,trivial⟩,dd,fun h' tk' dd' hs=>?_⟩
 obtain ⟨ob,es,ep,hq,h2,h3,h4,_,h5⟩:=dd'
 have kt:KT H2 [(ks,y)] (storedAllH [] [(ks,b,r)]):=.cons ⟨rfl,eb,ry⟩ .nil
 refine wpAny_pure ⟨.ref s.heap.objs.size,upd H2 s.heap.objs.size (.dT [(ks,y)]),d_write I3 (by rw[e]; exact True.intro) hs ⟨ob,hq⟩ ⟨by show (1:Nat)<=_; rw[sizeLine_eq]; omega,hd,_,kt.keeps fun c ys ec=>?_,ob,es,ep,hq,h2,h3,h4,h5⟩,rfl,q2⟩
 rw[upd_ne (ne_of ec e (fun z=>nomatch z))]
 exact ec
def z09 (a b:SE):SE:=fun ρ=>(a ρ).bind fun x=>(b ρ).bind fun y=>match S1 x.2 with
 | some ks=>if noL y.2=true then .ok (.own,.dtk [(ks,y.2)]) else .st
 | none=>.st
theorem z4g {X:Cx} {CA:String->Addr} {W:WX} {pos:Pos} {k v:Expr} {a b:SE} (hu:X.A.units + 1 < cLine) (hk:PE X k (tE X.K CA W a)) (hv:PE X v (tE X.K CA W b)):PE X (.Dict [some k] [v] pos) (tE X.K CA W (z09 a b)):=by
 refine peI (z16 hu hk hv) fun σ H Q ⟨A,H0,F,G,ρ,sr,h⟩=>?_
 intro p np
 have s0:Same H (upd H p (.dT [])):=V6 np
 refine ⟨A,H0,F,G,ρ,sr.same s0,i7.bind (h.later s0) fun x h1=>?_⟩
 intro v1 H1 f1 s1 r1 o1
 refine ⟨A,H0,F,G,ρ,(sr.same s0).same s1,i7.bind (h1.later s1) fun y h2=>?_⟩
 intro v2 H2 f2 s2 r2 o2
 have e0:H2 p=some (.dT []):=s2 p _ (s1 p _ upd_same)
 refine ⟨e0,?_⟩
 have h2:i7 X.K CA W σ H1 (match S1 x.2 with
 | some ks=>if noL y.2=true then (.ok (Kd.own,D.dtk [(ks,y.2)]):R KD) else .st
 | none=>.st) fun kd=>S8 X.K A H0 F H kd Q:=h2
 cases ek:S1 x.2 with
 | none=>rw[ek] at h2; exact h2.elim
 | some ks=>
  rw[ek] at h2
  simp only at h2
  split at h2
  ·rename_i hn
   obtain ⟨b',ev,et⟩:=zu7 (r1.same s2) ek
   refine ⟨b',ks,ev,et,?_⟩
   have f2n:=r2.noL hn
   subst f2n
   have sH:Same H (upd H2 p (.dT [(ks,v2)])):=fun c o e=>by
    have hc:c≠p:=ne_of_none e np
    rw[upd_ne hc]; exact s2 c o (s1 c o (s0 c o e))
   have r2':Rep X.K (upd H2 p (.dT [(ks,v2)])) y.2 v2 []:=r2.frame (fun c o e t=>by
    have hc:c≠p:=fun z=>by rw[z,e0] at e; cases e; exact t.elim
    rw[upd_ne hc]; exact e) fun a ha=>nomatch ha
   have rk:RepK X.K (upd H2 p (.dT [(ks,v2)])) [(ks,y.2)] [(ks,v2)] []:=.cons (f:=[]) (g:=[]) r2' .nil
   exact h2 _ _ [p] sH (.dtk upd_same (by simp) rk) ⟨List.nodup_cons.mpr ⟨by simp,List.nodup_nil⟩,fun a ha=>by
    rw[List.mem_singleton.mp ha]
    exact ⟨np,⟨by rw[upd_same]; trivial⟩⟩⟩
  ·exact h2.elim
section
variable {X:Cx} {e:Expr} {es:List Expr} {ta:TA} {p1 p2 pos:Pos} {B:Str} {CB:Addr}
theorem zP2 {pl:Sem Bool} (hm:X.mg B=some (.ref CB)) (hs:PySem.W.specialIn X.K (.ref CB) "__getattribute__" = some (some (.builtin "type.__getattribute__"))) (hr:PySem.W.readsIn X.K CB (.type "type")=true)
  (vV:PySem.W.findCls X.K (.ref CB) (.type "type") "__init__" = some (.val (.builtin "ValueError.__init__"))) (ha:PA X (e::es) ta) (hg:Gl X B:=by rfl) (hdb:(B == ("__debug__" : Str))=false:=by decide)
  (hc:eval (.Call (.Attribute (.Name B p1) "__init__" p2) (e::es) [] pos) X.env=(do
   let ov <- eval (.Name B p1) X.env
   standAt p2.atName
   let (f,first) <- holding [ov] (getMethod ov "__init__" pl)
   callWith pos f first (backTo pos (starEach (e::es) X.env)) (backToKw pos (keywordEach [] X.env))):=by rfl)
  (he:starEach (e::es) X.env=(false,eval e X.env)::starEach es X.env:=by rfl) (hpl:(backTo pos (starEach es X.env)).any (·.1)=false:=by rfl) :
  PE X (.Call (.Attribute (.Name B p1) "__init__" p2) (e::es) [] pos) (tVeI X.K ta):=by
 refine ⟨fun pins s σ H Q I h=>?_⟩
 refine PySem.W.methodCall_KW (ld_glob I hg hm ?_ hdb) hc
 refine PySem.W.method_cls I.kIn hs (PySem.W.cls_value I.kIn hr vV (by decide +kernel) ?_)
 show wpAny _ _ (callWith pos (Value.builtin "ValueError.__init__") [] (backTo pos (starEach (e::es) X.env)) []) _ _ _
 refine PyProof.Rows.callWith_method1 (thn (ha.run pos pins _ σ H _ (I.tok _) h) fun us s1 ⟨vs,H1,I1,r1,a,C,ws,ev,hl,T,ea,q⟩=>?_) he hpl
 subst ev
 cases r1 with
 | @cons _ u0 _ ur ra rw'=>
  obtain rfl:u0=Value.ref a:=ra
  have hlen:ur.length<=sizeLine:=by
   rw[<- Paired.length rw',sizeLine_eq]
   omega
  exact oinit_ok T I1 ea hlen fun s' J=>⟨.non,H1,J,rfl,q⟩
end
def z3U (K:PySem.W.Frag) (C:Addr) (fld:Str):Sp:=fun vs H Q _=>∃ (a:Addr) (v:V),vs=[.ref a,v]/\OexC K C/\PySem.W.findIn K (.ref C) fld=some none/\H a=some (exo a C none)/\∀ dx,H dx=none->dx≠a->Q .non (upd (upd H dx (exd dx [(fld,v)])) a (exo a C (some dx)))
def tXi (K:PySem.W.Frag) (fld m:Str):TS:=tSeq (tDrop (tVeI K (tCons (tVar 0) (tCons (tC (.str m)) tNil)))) (tOst K fld (tVar 0) (tVar 1))
section
variable {P:Program} {w:World} {K:PySem.W.Frag} {mg:Str->Option Value} {base:Heap} {CA:String->Addr}
theorem z4v {C:Addr} {k:Nat} {x qual fld y m:Str} {st:Stmt} {f:Addr} {fd:FuncData} (Fu:FunD K x qual (defArgs st) (defBody st) (defScope st) [] [] f fd) (S:FnScope ["self",y] ["self",y] (defScope st))
  (hb:∀ (cdv:Value) (A:Around) (outer:List PySem.Env) (s:Shared) (H:Hp) (E:XK),Room k (A.deeper (envOfC qual (defScope st) s.heap.objs.size f cdv)) ->
   PSs (cxOf (L2.CX P w) P w K mg base ["self",y] qual (defScope st) f cdv A outer s H E) (defBody st) (tXi K fld m)):FnOk P w K mg base (L2.CX P w) (k + 1) f fd ["self",y] (z3U K C fld):=by
 refine Fu.ok S (fun vs H Q E ⟨a,v,e,_⟩=>by rw[e]; rfl) fun cdv Ar outer s H vs Q E hr ⟨a,v,e,T,hno,ea,q⟩=>?_
 subst e
 refine ⟨_,hb cdv Ar outer s H E hr,?_⟩
 refine ⟨.ref a,rfl,a,C,[.str m],rfl,by simp,T,ea,?_⟩
 exact ⟨v,rfl,.ref a,rfl,a,C,rfl,T,hno,.inl ⟨ea,fun dx h1 h2=>q dx h1 h2⟩⟩
structure XrI (P:Program) (w:World) (K:PySem.W.Frag) (mg:Str->Option Value) (base:Heap) (CA:String->Addr) (C fld:String) (k:Nat):Prop where
 is:∃ (f:Addr) (fd:FuncData) (ps:List Str),mg (Str.ofString C)=some (.ref (CA C))/\OexC K (CA C)/\PySem.W.findIn K (.ref (CA C)) "__init__" = some (some (.ref f))/\PySem.W.typeIn K (.ref f)=some (.type "function") ∧
  FnOk P w K mg base (L2.CX P w) k f fd ps (z3U K (CA C) (Str.ofString fld))/\Binds K fd ps []/\PySem.W.findIn K (.ref (CA C)) (Str.ofString fld)=some none
end
def zM1 (C fld:String) (a:SE):SS:=fun ρ=>(a ρ).out ρ fun x=>if noL x.2=true then .ex (.p C fld x.2) ρ else .st
section
variable {X:Cx} {CA:String->Addr} {W:WX} {e:Expr} {a:SE} {C fld:String} {k:Nat} {p pos pos':Pos}
theorem z4q (hc:X.calm=true) (tk:Takes X W) (hr:Room (k + 1) X.A) (h:XrI X.prog X.w X.K X.mg X.base CA C fld k) (ha:PE X e (tE X.K CA W a)) (hg:Gl X (Str.ofString C):=by rfl) (hdb:(Str.ofString C == ("__debug__" : Str))=false:=by decide)
  (he:starEach (e::[]) X.env=(false,eval e X.env)::starEach [] X.env:=by rfl) (hpl:(backTo pos (starEach [] X.env)).any (·.1)=false:=by rfl) :
  PS X (.Raise (some (.Call (.Name (Str.ofString C) p) [e] [] pos)) none pos') (tS X.K CA W (zM1 C fld a)):=by
 obtain ⟨f,fd,ps,hm,T,iC,tI,F1,hb,hno⟩:=h.is
 refine psI (ps_raise hc tk (pmk_oex (dvs:=[]) (ds:=[]) T iC tI F1 hr hb .nil (passes_call tk fun _ _ _ _ z=>z.elim) hg hm (pa_cons ha pa_nil he) hdb he hpl)) fun D σ H ⟨A,H0,F,G,ρ,sr,h⟩=>?_
 refine ⟨A,H0,F,G,ρ,sr,(lift h sr).imp fun ⟨k1,d1⟩ _ h1=>?_⟩
 intro v H1 f1 s1 r1 o1
 refine ⟨by simp,fun b hb1=>⟨b,v,rfl,T,hno,upd_same,fun dx hd hne=>⟨rfl,dx,[(Str.ofString fld,v)],upd_same,?_,?_,?_⟩⟩⟩
 ·rw[upd_ne hne]; exact upd_same
 ·rw[upd_ne hne] at hd; exact hd
 ·have hd1:H1 dx=none:=by rw[upd_ne hne] at hd; exact hd
  have h1:n8 X.K CA W A H0 G D (if noL d1=true then .ex (.p C fld d1) ρ else .st):=h1
  split at h1
  ·rename_i hn
   have f1n:=r1.noL hn
   subst f1n
   have sF:Same H1 (upd (del (upd (upd (upd H1 b (exo b (CA C) none)) dx (exd dx [(Str.ofString fld,v)])) b (exo b (CA C) (some dx))) b) dx (.xd [(Str.ofString fld,v)])):=fun c o e=>by
    have n1:c≠dx:=ne_of_none e hd1
    have n2:c≠b:=ne_of_none e hb1
    rw[upd_ne n1,del_ne n2,upd_ne n2,upd_ne n1,upd_ne n2]; exact e
   exact h1 σ _ F (sr.same (s1.trans sF)) dx v upd_same (r1.same sF)
  ·exact h1.elim
end
abbrev NmL:=List (Value×Nat×(Addr->Value->Option Addr->TS))
def wNm (K:PySem.W.Frag) (Wout:WX) (D:Ends):NmL->WX
 | []=>Wout
 | (c,i,ts)::r=>fun cls d σ H=>∃ b,PySem.W.exmOne K cls c=some b ∧
   (b=true->∀ a,H a=none->ts a cls d { nx:=fun σ' H'=>D.nx (σ'.set i none) H',rt:=D.rt,bk:=fun σ' H'=>D.bk (σ'.set i none) H',ct:=fun σ' H'=>D.ct (σ'.set i none) H' } (σ.set i (some (.ref a))) H) ∧
   (b=false->wNm K Wout D r cls d σ H)
inductive NmOk (X:Cx):List ExceptHandler->NmL->Prop
 | nil:NmOk X [] []
 | cons {x n:Str} {c:Value} {i:Nat} {ts:Addr->Value->Option Addr->TS} {b₀:Stmt} {suite:List Stmt} {np pos':Pos} {hds:List ExceptHandler} {l:NmL} (hc:Names X x c) (hi:X.N[i]? = some n) (hln:X.env.kindOf n=some .local)
   (hsu:∀ (a:Addr) (oe:Obj) (cls:Value) (d:Option Addr) (pn:List (Addr×Obj)),Zc cls d oe->(∃ vs,oe.data=.fields vs)->PSs (X.suite a ((a,oe)::pn)) (b₀::suite) (ts a cls d)) (r:NmOk X hds l) :
   NmOk X (.ExceptHandler (some (.Name x np)) (some n) (b₀::suite) pos'::hds) ((c,i,ts)::l)
section
variable {X:Cx} {body:List Stmt} {h₀:ExceptHandler} {hds:List ExceptHandler} {l:NmL} {pos:Pos} {tb:WX->TS} {Wout:WX}
theorem z1U (hs:X.stack=X.env::X.outer) (hf:X.env.frame=some X.env.locals) (hN:X.N.Nodup) (tk:Takes X Wout)
  (hb:∀ (W:WX) (pn:List (Addr×Obj)) (xe:Value->Shared->Prop),Takes (X.tr pn xe) W->PassesOwn (model X.prog X.w) X.A X.env xe->PSs (X.tr pn xe) body (tb W))
  (hh:NmOk X (h₀::hds) l):PS X (.Try body (h₀::hds) [] [] pos) (fun D σ H=>tb (wNm X.K Wout D l) D σ H):=by
 refine ⟨fun pins s σ H D I h=>?_⟩
 have ok:=I.ok
 have hfr:X.A.frames=some (X.env::X.outer):=by rw[ok.frames,hs]
 refine wpAny_Try_except ?_
 refine wpAny_mono ((hb (wNm X.K Wout D l) (X.pn++pins) (fun e s₁=>wpAny (model X.prog X.w) X.A (noteFrame e X.env) (fun _ s₂=>wpAny (model X.prog X.w) X.A (setFlight e none) (fun _ s₃=>
  wpAny (model X.prog X.w) X.A (handleBy e X.env (h₀::hds)) (SP X pins D) X.xe s₃) X.xe s₂) X.xe s₁) (fun u s' xx=>?_) PassesOwn.looking).run [] s σ H D (I.toTry _) h) (fun f s1 hsp=>?_) (fun e s1 he=>he)
 ·obtain ⟨a,B,sI,pins',σ',H',cls,d,rfl,J',nb,up,sky,na,os,ag,w⟩:=xx
  have J:Inv X pins σ' H' sI:=J'.ofTry ok
  have sky':Sky B (X.env::X.outer) a (Zc cls d) X.env.locals s'.heap:=by rw[<- hs]; exact sky
  refine Sky.land Zc.steady hfr hf sky' fun h3 fl3 up3=>?_
  have J3:Inv X pins σ' H' { s' with heap:=h3 }:=J.landed nb fl3.1 (up.trans up3) os ag
  obtain ⟨oe3,vs3,he3,hz3,hd3⟩:=fl3.there
  have nfr:a∉frs (X.env::X.outer):=fun hm=>by
   obtain ⟨_,o',e',hnf⟩:=fl3.2.2.1.mem hm
   rw[he3] at e'
   cases e'
   exact hnf _ hd3
  have nL:a≠X.env.locals:=fun z=>nfr (List.mem_filterMap.mpr ⟨X.env,List.mem_cons_self,by rw[hf,z]⟩)
  have nF:a∉X.fs:=fun hm=>by
   obtain ⟨e,he,q⟩:=List.mem_filterMap.mp hm
   exact nfr (List.mem_filterMap.mpr ⟨e,List.mem_cons_of_mem _ he,q⟩)
  have S3:=J3.suite he3 hd3 na nL nF
  have go:∀ {hds':List ExceptHandler} {l':NmL},NmOk X hds' l'->wNm X.K Wout D l' cls d σ' H'->wpAny (model X.prog X.w) X.A (handleBy (.ref a) X.env hds') (SP X pins D) X.xe { s' with heap:=h3 }:=by
   intro hds' l' hk
   induction hk with
   | nil=>
    intro w
    refine wpAny_handleBy_nil ?_
    obtain ⟨k1,k2,k3,oe,vs,T,oT,ts',he,hz,hd,h1,hr⟩:=id fl3
    unfold PySem.passOn
    refine wpAny_bind (wpAny_field he hd h1 ?_)
    rw[if_neg (show ¬ ((Value.ref T == Value.none)=true) from by simp)]
    have fin:wpAny (model X.prog X.w) X.A (setFlight (.ref a) X.env.frame) (fun _ s4=>wpAny (model X.prog X.w) X.A (throw (.ref a):Sem Flow) (SP X pins D) X.xe s4) X.xe { s' with heap:=h3 }:=by
     rw[hf]
     refine HandSPX.setFlight_upZ fl3 fun h4 hh4 up4=>wpAny_throw (tk _ _ ?_)
     exact ⟨a,B,sI,pins,σ',H',cls,d,rfl,J,nb,(up.trans up3).trans up4,.inr (.inr (by rw[hs]; exact hh4)),na,os,ag,w⟩
    first
     | exact wpAny_bind (wpAny_pure (wpAny_bind fin))
     | exact wpAny_bind fin
   | @cons x n c i ts b₀ suite np pos' hds2 l2 hc hi hln hsu r ih=>
    intro w
    obtain ⟨b,hb1,hyes,hno⟩:=w
    refine wpAny_handleBy_cons (codeAny_handlers_test ?_) (by intro q; cases q)
    have LT:PySem.W.Looks (model X.prog X.w) h3 (typeOf (.ref a)) cls:=fun A Q E s k q=>wpAny_typeOf_ref (k _ _ he3) (by rw[hz3.1]; exact q)
    have LM:=PySem.W.exm_one (M:=model X.prog X.w) (J3.kIn) LT hb1
    have test:∀ {Q:Value->Shared->Prop} {E:Value->Shared->Prop},Q c { s' with heap:=h3 }->wpAny (model X.prog X.w) (X.A.mark (some (.ref a))) (eval (.Name x np) X.env) Q E { s' with heap:=h3 }:=fun {Q E} q=>by
     obtain ⟨hg,hdbg,hm | ⟨hm,hv,hnn⟩⟩:=hc
     ·exact ld_glob (X:=X.suite a ((a,oe3)::(X.pn++pins))) S3 hg hm q hdbg
     ·exact ld_blt (X:=X.suite a ((a,oe3)::(X.pn++pins))) S3 hg hm hv q hnn hdbg
    refine test (LM.here ?_)
    cases b with
    | false=>
     show wpAny _ X.A (handleBy (.ref a) X.env hds2) _ _ _
     exact ih (hno rfl)
    | true=>
     have hloc:Loc X.env.scope n:=.inl hln
     refine codeAny_handlers_suite_as (HandSPX.lands_againZ fl3 fun h4 fl4 up4=>?_)
     have J4:Inv X pins σ' H' { s' with heap:=h4 }:=J.landed nb fl4.1 ((up.trans up3).trans up4) os ag
     obtain ⟨oe4,vs4,he4,hz4,hd4⟩:=fl4.there
     refine store_ok (X:=X.suite a ((a,oe4)::(X.pn++pins))) (v:=.ref a) (J4.suite he4 hd4 na nL nF) hN hi hloc rfl (fun s5 S5=>?_) (.inr hln)
     refine wpAny_mono ((hsu a oe4 cls d (X.pn++pins) hz4 ⟨_,hd4⟩).run [] s5 _ H' _ S5 (hyes rfl a na)) (fun f s6 hsp=>?_) (fun _ _ z=>False.elim z)
     have end_:∀ {σ6:L2.St} {H6:Hp} {Q:Shared->Prop},Inv (X.suite a ((a,oe4)::(X.pn++pins))) [] σ6 H6 s6->(∀ s7,Inv X pins (σ6.set i none) H6 s7->Q s7) ->
       wpAny (model X.prog X.w) X.A (do bindName X.env n .none; unbindBehindTheSuite X.env n pos') (fun _ s7=>Q s7) X.xe s6:=fun {σ6 H6 Q} S6 hq=>gone_ok (S6.unsuite ok) hN hi hln hq
     cases f with
     | next=>obtain ⟨σ6,H6,S6,q6⟩:=hsp; exact end_ S6 fun s7 J7=>⟨_,_,J7,q6⟩
     | brk=>obtain ⟨σ6,H6,S6,q6⟩:=hsp; exact end_ S6 fun s7 J7=>⟨_,_,J7,q6⟩
     | cont=>obtain ⟨σ6,H6,S6,q6⟩:=hsp; exact end_ S6 fun s7 J7=>⟨_,_,J7,q6⟩
     | ret u=>obtain ⟨v6,σ6,H6,S6,r6,q6⟩:=hsp; exact end_ S6 fun s7 J7=>⟨_,_,_,J7,r6,q6⟩
  exact go hh w
 ·cases f with
  | next=>obtain ⟨σ',H',J',q⟩:=hsp; exact wpAny_execs_nil ⟨σ',H',J'.ofTry ok,q⟩
  | brk=>obtain ⟨σ',H',J',q⟩:=hsp; exact ⟨σ',H',J'.ofTry ok,q⟩
  | cont=>obtain ⟨σ',H',J',q⟩:=hsp; exact ⟨σ',H',J'.ofTry ok,q⟩
  | ret u=>obtain ⟨v,σ',H',J',r,q⟩:=hsp; exact ⟨v,σ',H',J'.ofTry ok,r,q⟩
end
open Classical in
noncomputable def zt6 (f:Addr->Addr->Out):Out:=if h:∃ o,∀ a dx,f a dx=o then h.choose else .st
theorem zH7 {f:Addr->Addr->Out} {o:Out} (h:∀ a dx,f a dx=o):zt6 f=o:=by
 have:∃ o,∀ a dx,f a dx=o:=⟨o,h⟩
 unfold zt6
 rw[dif_pos this]
 exact (this.choose_spec 0 0).symm.trans (h 0 0)
theorem z59 {f:Addr->Addr->Out} (h:zt6 f≠.st) (a dx:Addr):f a dx=zt6 f:=by
 unfold zt6 at h ⊢
 split
 ·rename_i hz; exact hz.choose_spec a dx
 ·rename_i hz; rw[dif_neg hz] at h; exact absurd rfl h
def Out.rtO (i:Nat):Out->Out
 | .rt k d=>.rt k d
 | .ri ρ k d=>if G8 ρ i=true then .ri (ρ.set i .no) k d else .st
 | _=>.st
abbrev NmS:=List (String×Nat×(Addr->Addr->SS))
noncomputable def zK4 (i:Nat) (s:Addr->Addr->SS) (ρ:Env):Ec->Out
 | .p _ fld d=>zt6 fun a dx=>(s a dx (ρ.set i (.bo [] (.exv a dx fld d)))).rtO i
 | .n _=>.st
noncomputable def zc9 (c:Ec):NmS->SS
 | []=>fun ρ=>.ex c ρ
 | (D,i,s)::r=>fun ρ=>if c.nm=D then zK4 i s ρ c else if N9 c.nm D=true then .st else zc9 c r ρ
noncomputable def z08 (xs:List String) (b:SS) (hs:NmS):SS:=fun ρ=>match b ρ with
 | .ex c ρ'=>if xs.contains c.nm=true then zc9 c hs ρ' else .st
 | o=>o
def zn6 (i:Nat) (a dx:Addr) (fld:String):SE:=fun ρ=>match ρ[i]? with
 | some (.bo _ (.exv a' dx' f d))=>if a'=a/\dx'=dx/\f=fld/\noL d=true then .ok (.own,d) else .st
 | _=>.st
inductive HdN (X:Cx) (CA:String->Addr) (xs:List String):List ExceptHandler->NmS->Prop
 | nil:HdN X CA xs [] []
 | cons {D:String} {i:Nat} {n:Str} {s:Addr->Addr->SS} {b₀:Stmt} {suite:List Stmt} {np pos':Pos} {hds:List ExceptHandler} {l:NmS} (hc:Names X (Str.ofString D) (.ref (CA D))) (hi:X.N[i]? = some n) (hln:X.env.kindOf n=some .local)
   (hx:∀ c∈xs,PySem.W.exmOne X.K (.ref (CA c)) (.ref (CA D))=some (N9 c D))
   (hsu:∀ (a dx:Addr) (oe:Obj) (pn:List (Addr×Obj)),Zc (.ref (CA D)) (some dx) oe->(∃ vs,oe.data=.fields vs)->PSs (X.suite a ((a,oe)::pn)) (b₀::suite) (tS X.K CA W0 (s a dx))) (r:HdN X CA xs hds l) :
   HdN X CA xs (.ExceptHandler (some (.Name (Str.ofString D) np)) (some n) (b₀::suite) pos'::hds) ((D,i,s)::l)
def z78 (X:Cx) (CA:String->Addr) (l:NmS):NmL:=l.map fun p=>(.ref (CA p.1),p.2.1,fun a cls od D σ H=>∃ dx,od=some dx/\cls=.ref (CA p.1)/\tS X.K CA W0 (p.2.2 a dx) D σ H)
theorem HdN.ok {X:Cx} {CA:String->Addr} {xs:List String}:∀ {hds:List ExceptHandler} {l:NmS},HdN X CA xs hds l->NmOk X hds (z78 X CA l)
 | _,_,.nil=>.nil
 | _,_,.cons hc hi hln hx hsu r=>.cons hc hi hln (fun a oe cls d pn hz hd=>⟨fun pins s σ H D I ⟨dx,e1,e2,q⟩=>by subst e1; subst e2; exact (hsu a dx oe pn hz hd).run pins s σ H D I q⟩) r.ok
section
variable {X:Cx} {CA:String->Addr} {W:WX} {pos:Pos} {xs:List String} {body:List Stmt} {h₀:ExceptHandler} {hds:List ExceptHandler} {l:NmS} {sb:SS}
theorem HdN.catch {A:Addr->Prop} {H0 H:Hp} {F:Nat->List Addr} {G:List (D×V)} {ρ:Env} {σ:L2.St} {D:Ends} {c:Ec} {od:Option Addr} (hcx:c.nm∈xs)
  (hod:∀ nm fld d,c=.p nm fld d->∃ dx v,od=some dx/\H dx=some (.xd [(Str.ofString fld,v)])/\Rep X.K H d v []):∀ {hds:List ExceptHandler} {l:NmS},HdN X CA xs hds l->SR X.K A H0 F G ρ σ H ->
  (zc9 c l ρ=.ex c ρ->n8 X.K CA W A H0 G D (zc9 c l ρ)->W (.ref (CA c.nm)) od σ H)->n8 X.K CA W A H0 G D (zc9 c l ρ)->wNm X.K W D (z78 X CA l) (.ref (CA c.nm)) od σ H
 | _,_,.nil,sr,k,o=>k rfl o
 | _,_,.cons (D:=E) (i:=i) (s:=s) (l:=l) hc hi hln hx hsu r,sr,k,o=>by
  have o:n8 X.K CA W A H0 G D (if c.nm=E then zK4 i s ρ c else if N9 c.nm E=true then .st else zc9 c l ρ):=o
  have k:((if c.nm=E then zK4 i s ρ c else if N9 c.nm E=true then .st else zc9 c l ρ)=.ex c ρ->n8 X.K CA W A H0 G D (if c.nm=E then zK4 i s ρ c else if N9 c.nm E=true then .st else zc9 c l ρ)->W (.ref (CA c.nm)) od σ H):=k
  refine ⟨N9 c.nm E,hx _ hcx,fun hy a ha=>?_,fun hn=>?_⟩
  ·by_cases hE:c.nm=E
   ·rw[if_pos hE] at o
    cases c with
    | n nm=>exact o.elim
    | p nm fld d=>
     obtain ⟨dx,v,e1,e2,rv⟩:=hod nm fld d rfl
     subst e1
     have o:n8 X.K CA W A H0 G D (zt6 fun a dx=>(s a dx (ρ.set i (.bo [] (.exv a dx fld d)))).rtO i):=o
     have hne:(zt6 fun a dx=>(s a dx (ρ.set i (.bo [] (.exv a dx fld d)))).rtO i)≠.st:=fun z=>by rw[z] at o; exact o.elim
     have hat:=z59 hne a dx
     rw[<- hat] at o
     have rx:Rep X.K H (.exv a dx fld d) (.ref a) []:=.exv e2 rv
     obtain ⟨f',sr',_⟩:=sr.set (k:=.bor []) (Same.refl H) rx (KOk.nil _) i
     refine ⟨dx,rfl,by rw[<- hE],A,H0,_,G,_,sr',?_⟩
     show n8 X.K CA W0 A H0 G _ (s a dx (ρ.set i (.bo [] (.exv a dx fld d))))
     cases ho:s a dx (ρ.set i (.bo [] (.exv a dx fld d))) with
     | rt k' d'=>rw[ho] at o; exact o
     | nx ρ'=>rw[ho] at o; exact o.elim
     | bk ρ'=>rw[ho] at o; exact o.elim
     | ct ρ'=>rw[ho] at o; exact o.elim
     | ex c' ρ'=>rw[ho] at o; exact o.elim
     | st=>rw[ho] at o; exact o.elim
     | ri ρ' k' d'=>
      rw[ho] at o
      have o:n8 X.K CA W A H0 G D (if G8 ρ' i=true then .ri (ρ'.set i .no) k' d' else .st):=o
      split at o
      ·rename_i hno
       exact fun v2 σ2 Hx H2 F2 f2 sr2 s2 r2 k2=>o v2 _ Hx H2 F2 f2 (sr2.wip [i] (by simpa using hno)) s2 r2 k2
      ·exact o.elim
   ·rw[if_neg hE,if_pos hy] at o
    exact o.elim
  ·have hE:¬ c.nm=E:=fun z=>by
    rw[z] at hn
    simp[N9] at hn
   have hne:¬ N9 c.nm E=true:=by rw[hn]; exact Bool.false_ne_true
   rw[if_neg hE,if_neg hne] at o k
   exact HdN.catch hcx hod r sr k o
theorem z7V (tk:Takes X W) (hN:X.N.Nodup) (hb:∀ (W':WX) (pn:List (Addr×Obj)) (xe:Value->Shared->Prop),Takes (X.tr pn xe) W'->PassesOwn (model X.prog X.w) X.A X.env xe->PSs (X.tr pn xe) body (tS X.K CA W' sb))
  (hh:HdN X CA xs (h₀::hds) l) (hs:X.stack=X.env::X.outer:=by rfl) (hf:X.env.frame=some X.env.locals:=by rfl):PS X (.Try body (h₀::hds) [] [] pos) (tS X.K CA W (z08 xs sb l)):=by
 refine psI (z1U hs hf hN tk hb hh.ok) fun D σ H ⟨A,H0,F,G,ρ,sr,h⟩=>?_
 refine ⟨A,H0,F,G,ρ,sr,?_⟩
 have h:n8 X.K CA W A H0 G D (match sb ρ with
 | .ex c ρ'=>if xs.contains c.nm=true then zc9 c l ρ' else .st
 | o=>o):=h
 cases ho:sb ρ with
 | nx ρ'=>rw[ho] at h; exact h
 | rt k d=>rw[ho] at h; exact h
 | bk ρ'=>rw[ho] at h; exact h
 | ct ρ'=>rw[ho] at h; exact h
 | st=>rw[ho] at h; exact h.elim
 | ri ρ' k d=>rw[ho] at h; exact h
 | ex c ρ'=>
  rw[ho] at h
  by_cases hc:xs.contains c.nm=true
  ·simp only[hc,if_true] at h
   have hc':c.nm∈xs:=by simpa using hc
   intro σ' H' F' sr'
   cases c with
   | n nm=>exact hh.catch (c:=.n nm) hc' (fun _ _ _ e=>by cases e) sr' (fun e o=>by rw[e] at o; exact o σ' H' F' sr') h
   | p nm fld d=>exact fun dx v hdx rv=>hh.catch (c:=.p nm fld d) hc' (fun _ _ _ e=>by cases e; exact ⟨dx,v,rfl,hdx,rv⟩) sr' (fun e o=>by rw[e] at o; exact o σ' H' F' sr' dx v hdx rv) h
  ·simp only[hc,if_false,Bool.false_eq_true] at h
   exact h.elim
theorem z4l {a dx:Addr} {oe:Obj} {pn:List (Addr×Obj)} {C fld:String} {i:Nat} {n:Str} {np:Pos} (T:XfC X.K (CA C)) (hno:PySem.W.findIn X.K (.ref (CA C)) (Str.ofString fld)=some none) (hz:Zc (.ref (CA C)) (some dx) oe) (hf:∃ vs,oe.data=.fields vs)
  (hi:X.N[i]? = some n:=by rfl) (hv:Vis X.env.scope n:=by first | exact Or.inl rfl | exact Or.inr (Or.inl rfl) | exact Or.inr (Or.inr rfl)) (hd:(n == ("__debug__" : Str))=false:=by decide) (hcd:(n == ("__classdict__" : Str))=false:=by decide)
  (hb:attributeBase (.Name n np) (Str.ofString fld) X.env (eval (.Name n np) X.env)=eval (.Name n np) X.env:=by rfl) :
  PE (X.suite a ((a,oe)::pn)) (.Attribute (.Name n np) (Str.ofString fld) pos) (tE X.K CA W0 (zn6 i a dx fld)):=by
 refine peI (pe_xf (X:=X) T hno hz hf (pe_var (X:=X.suite a ((a,oe)::pn)) hi hv hd hcd) hb) fun σ H Q ⟨A,H0,F,G,ρ,sr,h⟩=>?_
 unfold zn6 at h
 cases e:ρ[i]? with
 | none=>rw[e] at h; exact h.elim
 | some sl=>
  rw[e] at h
  cases sl with
  | no=>exact h.elim
  | tb=>exact h.elim
  | ow d=>exact h.elim
  | bo is d=>
   cases d with
   | exv a' dx' f d=>
    have h2:i7 X.K CA W0 σ H (if a'=a/\dx'=dx/\f=fld/\noL d=true then (.ok (Kd.own,d):R KD) else .st) fun kd=>S8 X.K A H0 F H kd Q:=h
    clear h
    split at h2
    ·rename_i hc
     obtain ⟨rfl,rfl,rfl,hn⟩:=hc
     obtain ⟨v,g,e1,r,_⟩:=sr.slb i is _ e
     cases r with
     | @exv _ _ _ v0 _ hx rv=>
      exact ⟨.ref a',e1,rfl,rfl,dx',_,v0,rfl,hx,by simp[List.lookup],h2 v0 H [] (Same.refl H) rv (KOk.nil _)⟩
    ·exact h2.elim
   | _=>exact h.elim
end
theorem hu1 {A:Around} (h:A.units + 65 < cLine):A.units + 1 < cLine:=by omega
structure ExX (K:PySem.W.Frag) (mg:Str->Option Value) (CA:String->Addr) (x fld:String):Prop where
 g:mg (Str.ofString x)=some (.ref (CA x))
 f:XfC K (CA x)
 no:PySem.W.findIn K (.ref (CA x)) (Str.ofString fld)=some none
theorem zZ0 {K:PySem.W.Frag} {h:Heap} {mg:Str->Option Value} {C:Addr} {x:String} (X:K.In h) (G:h.Ns mainGlobals mg) (a:PySem.W.nsIn K mainGlobals (Str.ofString x)=some (some (.ref C))):T1 mg x=C:=by
 have e:mg (Str.ofString x)=some (.ref C):=PySem.W.mg_of X G a
 unfold T1; rw[e]
theorem z2D {K:PySem.W.Frag} {h:Heap} {mg:Str->Option Value} {C:Addr} {x fld:String} (X:K.In h) (G:h.Ns mainGlobals mg) (a:PySem.W.nsIn K mainGlobals (Str.ofString x)=some (some (.ref C)))
  (ga:PySem.W.findIn K (.ref C) "__getattribute__" = some (some (.builtin "BaseException.__getattribute__"))) (gg:PySem.W.findIn K (.ref C) "__getattr__" = some none) (ex:PySem.W.subIn K (.ref C) (.type "BaseException")=some true) (hd:PySem.W.hasDictIn K C=true)
  (no:PySem.W.findIn K (.ref C) (Str.ofString fld)=some none):ExX K mg (T1 mg) x fld:=by
 have e:mg (Str.ofString x)=some (.ref C):=PySem.W.mg_of X G a
 have e2:=zZ0 X G a
 exact ⟨by rw[e2]; exact e,by rw[e2]; exact ⟨ga,gg,ex,hd⟩,by rw[e2]; exact no⟩
theorem z1D {P:Program} {w:World} {K:PySem.W.Frag} {mg:Str->Option Value} {base:Heap} {h:Heap} {C f:Addr} {fd:FuncData} {ps:List Str} {x fld:String} {k:Nat} {nm q:Str} {N:Addr} {bs bm:List Value} {sn:List Str} {sub:List Value} {ab:Bool} {col:Option Bool} {dd:Option Addr} {m0 m1 m2 m3 m5:Option Value}
  (X:K.In h) (G:h.Ns mainGlobals mg) (a:PySem.W.nsIn K mainGlobals (Str.ofString x)=some (some (.ref C))) (xL:K.lookup C=some (excClassObj nm q C N bs bm true sn sub ab col dd m0 m1 m2 m3 m5 "ValueError.__new__")) (hr:PySem.HandSPX.refsVE bm=true)
  (sa:PySem.W.findIn K (.ref C) "__setattr__" = some (some (.builtin "object.__setattr__"))) (ex:PySem.W.subIn K (.ref C) (.type "BaseException")=some true) (ty:PySem.W.typeIn K (.ref C)=some (.type "type")) (kC:PySem.W.keepIn K (.ref C)=true)
  (i:PySem.W.findIn K (.ref C) "__init__" = some (some (.ref f))) (ti:PySem.W.typeIn K (.ref f)=some (.type "function")) (F:FnOk P w K mg base (L2.CX P w) k f fd ps (z3U K C (Str.ofString fld))) (b:Binds K fd ps []) (no:PySem.W.findIn K (.ref C) (Str.ofString fld)=some none) :
  XrI P w K mg base (T1 mg) x fld k:=by
 have e:mg (Str.ofString x)=some (.ref C):=PySem.W.mg_of X G a
 have e2:=zZ0 X G a
 refine ⟨⟨f,fd,ps,?_⟩⟩
 rw[e2]
 exact ⟨e,⟨⟨nm,q,N,bs,bm,sn,sub,ab,col,dd,m0,m1,m2,m3,m5,xL,hr⟩,sa,ex,ty,kC⟩,i,ti,F,b,no⟩
def zG5 (i:Nat):SE:=fun ρ=>match ρ[i]? with
 | some (.ow (.tg _ d))=>.ok (.bor [i],d)
 | _=>.st
def K3 (i:Nat):SPh:=fun ρ=>match ρ[i]? with
 | some (.ow (.tg _ d))=>.ok (i,[.un],d)
 | _=>.st
theorem Rep.tgI {K:PySem.W.Frag} {H:Hp} {t:Nat} {d:D} {v:V} {f:List Addr} (r:Rep K H (.tg t d) v f):Rep K H d v f/\∃ a,v=.ref a/\t=a + 1:=by
 cases r with
 | tg r z=>exact ⟨r,_,rfl,z⟩
section
variable {X:Cx} {CA:String->Addr} {W:WX} {pos:Pos}
theorem z1i (i:Nat) {x:Str} (hN:X.N[i]? = some x:=by rfl) (hv:Vis X.env.scope x:=by first | exact Or.inl rfl | exact Or.inr (Or.inl rfl) | exact Or.inr (Or.inr rfl)) (hd:(x == ("__debug__" : Str))=false:=by decide)
  (hcd:(x == ("__classdict__" : Str))=false:=by decide):PE X (.Name x pos) (tE X.K CA W (zG5 i)):=by
 refine peI (pe_var hN hv hd hcd) fun σ H Q ⟨A,H0,F,G,ρ,sr,h⟩=>?_
 unfold zG5 at h
 cases e:ρ[i]? with
 | none=>rw[e] at h; exact h.elim
 | some sl=>
  rw[e] at h
  cases sl with
  | ow d=>
   cases d with
   | tg t d=>
    obtain ⟨v,hv,r⟩:=sr.slo i _ e
    exact ⟨v,hv,h v H (F i) (Same.refl H) r.tgI.1 fun a ha=>.inl ⟨i,by simp,ha⟩⟩
   | _=>exact h.elim
  | _=>exact h.elim
theorem zy7 (i:Nat) {x:Str} (hN:X.N[i]? = some x:=by rfl) (hv:Vis X.env.scope x:=by first | exact Or.inl rfl | exact Or.inr (Or.inl rfl) | exact Or.inr (Or.inr rfl)) (hd:(x == ("__debug__" : Str))=false:=by decide)
  (hcd:(x == ("__classdict__" : Str))=false:=by decide):PE X (.Name x pos) (tP CA W X.K (K3 i)):=by
 refine peI (pe_var hN hv hd hcd) fun σ H Q ⟨A,H0,F,G,ρ,sr,h⟩=>?_
 unfold K3 at h
 cases e:ρ[i]? with
 | none=>rw[e] at h; exact h.elim
 | some sl=>
  rw[e] at h
  cases sl with
  | ow d=>
   cases d with
   | tg t d=>
    obtain ⟨v,hv,r⟩:=sr.slo i _ e
    exact ⟨v,hv,h v H (Same.refl H) ⟨_,v,e,hv,rfl,rfl⟩⟩
   | _=>exact h.elim
  | _=>exact h.elim
end
inductive RH where
 | ok (cs:List D) (d:D) | ex (c:Ec) (cs:List D) | st
abbrev HFn:=(Nat->Nat)->List D->RH
def slH (ch:List Nat) (t:Nat->Nat):Nat->List D->Env
 | _,[]=>[]
 | i,d::ds=>(if ch.contains i=true then .ow (.tg (t i) d) else .bo [] d)::slH ch t (i + 1) ds
theorem zV0 (ch:List Nat) (t:Nat->Nat):∀ (ds:List D) (i j:Nat),(slH ch t i ds)[j]? = ds[j]?.map fun d=>if ch.contains (i + j)=true then .ow (.tg (t (i + j)) d) else .bo [] d
 | [],i,j=>by simp[slH]
 | d::ds,i,0=>by simp[slH]
 | d::ds,i,j + 1=>by
  have:=zV0 ch t ds (i + 1) j
  rw[show i + 1 + j=i + (j + 1) by omega] at this
  simpa [slH] using this
theorem zs0 (ch:List Nat) (t:Nat->Nat):∀ (ds:List D) (i:Nat),(slH ch t i ds).length=ds.length
 | [],i=>rfl
 | d::ds,i=>by simp[slH,zs0 ch t ds (i + 1)]
def zS5 (t:Nat->Nat) (ρ:Env) (i:Nat):Option D:=match (ρ[i]?:Option Sl) with
 | some (.ow (.tg t' d))=>if t'=t i then some d else none
 | _=>none
def M4 (t:Nat->Nat) (ρ:Env):List Nat->Option (List D)
 | []=>some []
 | i::is=>(zS5 t ρ i).bind fun d=>(M4 t ρ is).map (d::·)
theorem zO7 {t:Nat->Nat} {ρ:Env}:∀ {is:List Nat} {cs:List D},M4 t ρ is=some cs->cs.length=is.length/\∀ i d,(i,d)∈is.zip cs->ρ[i]? = some (.ow (.tg (t i) d))
 | [],cs,h=>by simp[M4] at h; subst h; exact ⟨rfl,fun i d z=>by simp at z⟩
 | i::is,cs,h=>by
  simp only[M4] at h
  cases e1:zS5 t ρ i with
  | none=>rw[e1] at h; cases h
  | some d=>
   rw[e1] at h
   simp only[Option.bind_some] at h
   cases e2:M4 t ρ is with
   | none=>rw[e2] at h; cases h
   | some cs'=>
    rw[e2] at h
    cases h
    obtain ⟨h1,h2⟩:=zO7 e2
    refine ⟨by simp[h1],fun j d' z=>?_⟩
    rw[List.zip_cons_cons] at z
    rcases List.mem_cons.mp z with z | z
    ·cases z
     unfold zS5 at e1
     split at e1
     ·rename_i t' d2 e3
      split at e1
      ·rename_i e4; cases e1; rw[<- e4]; exact e3
      ·cases e1
     ·cases e1
    ·exact h2 j d' z
def RH.of (f:List D->RH):Option (List D)->RH
 | some cs=>f cs
 | none=>.st
def Out.finH (o:Out) (ch:List Nat) (t:Nat->Nat):RH:=match o with
 | .nx ρ=>RH.of (fun cs=>.ok cs .non) (M4 t ρ ch)
 | .ri ρ k d=>if zh6 k=true then RH.of (fun cs=>.ok cs d) (M4 t ρ ch) else .st
 | .ex c ρ=>RH.of (fun cs=>.ex c cs) (M4 t ρ ch)
 | _=>.st
def zJ9 (ch:List Nat) (m:Nat) (body:SS):HFn:=fun t ds=>(body (slH ch t 0 ds++List.replicate (m - ds.length) .no)).finH ch t
def mkH (ch:List Nat) (n m:Nat) (body:SS):HFn:=fun t ds=>if ds.length=n then zJ9 ch m body t ds else .st
theorem z1Q {ch:List Nat} {n m:Nat} {body:SS} {t:Nat->Nat} {ds:List D} (h:ds.length=n):mkH ch n m body t ds=zJ9 ch m body t ds:=if_pos h
theorem zY6 {ch:List Nat} {n m:Nat} {b:SS} {t:Nat->Nat} {ds:List D} (h:mkH ch n m b t ds≠.st):ds.length=n:=by
 unfold mkH at h
 split at h
 ·assumption
 ·exact absurd rfl h
open Classical in
noncomputable def zq3 (f:(Nat->Nat)->RH):RH:=if h:∃ r,∀ t,f t=r then h.choose else .st
theorem z0w {f:(Nat->Nat)->RH} {r:RH} (h:∀ t,f t=r):zq3 f=r:=by
 unfold zq3
 rw[dif_pos ⟨r,h⟩]
 have:∃ r,∀ t,f t=r:=⟨r,h⟩
 exact (this.choose_spec (fun _=>0)).symm.trans (h _)
theorem zB9 {f:(Nat->Nat)->RH} (h:zq3 f≠.st) (t:Nat->Nat):f t=zq3 f:=by
 unfold zq3 at h ⊢
 split
 ·rename_i hz; exact hz.choose_spec t
 ·rename_i hz; rw[dif_neg hz] at h; exact absurd rfl h
structure ArgH (K:PySem.W.Frag) (H:Hp) (ch:List Nat) (t:Nat->Nat) (ds:List D) (vs:List V) (f:List Addr) (gs:Nat->List Addr):Prop where
 len:ds.length=vs.length
 lt:∀ i∈ch,i < ds.length
 chg:∀ i d v,ds[i]? = some d->vs[i]? = some v->i∈ch->Rep K H (.tg (t i) d) v (gs i)
 oth:∀ i d v,ds[i]? = some d->vs[i]? = some v->i∉ch->∃ f',Rep K H d v f'/\∀ b∈f',b∈f
 own:∀ i,(gs i).Nodup/\∀ a∈gs i,Mu (H a)/\a∉f
 dis:∀ i j a,a∈gs i->a∈gs j->i=j
 emp:∀ i,i∉ch->gs i=[]
def InG (gs:Nat->List Addr) (a:Addr):Prop:=∃ i,a∈gs i
structure AftH (K:PySem.W.Frag) (H H':Hp) (ch:List Nat) (t:Nat->Nat) (cs:List D) (vs:List V) (gs gs':Nat->List Addr):Prop where
 len:cs.length=ch.length
 rep:∀ i d v,(i,d)∈ch.zip cs->vs[i]? = some v->Rep K H' d v (gs' i)
 own:∀ i,(gs' i).Nodup/\∀ a∈gs' i,(InG gs a\/H a=none)/\Mu (H' a)
 dis:∀ i j a,a∈gs' i->a∈gs' j->i=j
def spH (K:PySem.W.Frag) (CA:String->Addr) (fn:HFn) (n:Nat) (ch:List Nat):Sp:=fun vs H Q E=>∃ (t:Nat->Nat) (ds:List D) (f:List Addr) (gs:Nat->List Addr),ds.length=n/\ArgH K H ch t ds vs f gs ∧
 match fn t ds with
 | .ok cs d=>∀ v H' gs' g',Same (Y3 H (ch.flatMap gs)) H'->AftH K H H' ch t cs vs gs gs'->Rep K H' d v g'->g'.Nodup->(∀ a∈g',(InG gs a\/H a=none)/\Mu (H' a)/\∀ i,a∉gs' i)->Q v H'
 | .ex c cs=>∀ H' gs',Same (Y3 H (ch.flatMap gs)) H'->AftH K H H' ch t cs vs gs gs'->zy6 K CA c E H'
 | .st=>False
section
variable {P:Program} {w:World} {K:PySem.W.Frag} {mg:Str->Option Value} {base:Heap} {CA:String->Addr}
theorem ArgH.inL {H:Hp} {ch:List Nat} {t:Nat->Nat} {ds:List D} {vs:List V} {f:List Addr} {gs:Nat->List Addr} (h:ArgH K H ch t ds vs f gs) {a:Addr}:a∈ch.flatMap gs↔InG gs a:=by
 refine ⟨fun z=>?_,fun ⟨i,hi⟩=>?_⟩
 ·obtain ⟨i,_,h2⟩:=List.mem_flatMap.mp z; exact ⟨i,h2⟩
 ·refine List.mem_flatMap.mpr ⟨i,?_,hi⟩
  rcases Classical.em (i∈ch) with z | z
  ·exact z
  ·rw[h.emp i z] at hi; cases hi
theorem SR.initH {H:Hp} {ch:List Nat} {t:Nat->Nat} {ds:List D} {vs:List V} {f:List Addr} {gs:Nat->List Addr} {N:List Str} (h:ArgH K H ch t ds vs f gs) (hN:ds.length<=N.length) :
  SR K (fun a=>a∈f) (Y3 H (ch.flatMap gs)) gs [] (slH ch t 0 ds++List.replicate (N.length - ds.length) Sl.no) (start N vs) H:=by
 have st:∀ {j:Nat} {v:V},vs[j]? = some v->(start N vs)[j]? = some (some v):=fun {j v} h1=>by
  have hj:j < vs.length:=(List.getElem?_eq_some_iff.mp h1).1
  unfold L2.start
  rw[List.getElem?_append_left (by simpa using hj),List.getElem?_map,h1]
  rfl
 have no:∀ (j:Nat) (x:Sl),(slH ch t 0 ds++List.replicate (N.length - ds.length) Sl.no)[j]? = some x->x=.no\/∃ d v,ds[j]? = some d/\vs[j]? = some v/\x=if ch.contains j=true then .ow (.tg (t j) d) else .bo [] d:=fun j x e=>by
  by_cases hj:j < ds.length
  ·rw[List.getElem?_append_left (by rw[zs0]; exact hj),zV0] at e
   obtain ⟨d,hd⟩:∃ d,ds[j]? = some d:=⟨_,List.getElem?_eq_getElem hj⟩
   obtain ⟨v,hv⟩:∃ v,vs[j]? = some v:=⟨_,List.getElem?_eq_getElem (by rw[<- h.len]; exact hj)⟩
   rw[hd] at e
   simp only[Option.map_some,Nat.zero_add,Option.some.injEq] at e
   exact .inr ⟨d,v,hd,hv,e.symm⟩
  ·rw[List.getElem?_append_right (by rw[zs0]; omega),List.getElem?_replicate] at e
   split at e
   ·cases e; exact .inl rfl
   ·cases e
 refine ⟨?_,O0 H _,fun j=>⟨(h.own j).1,fun a ha=>⟨N4 (h.inL.mpr ⟨j,ha⟩),((h.own j).2 a ha).1⟩⟩,h.dis,fun j d e=>?_,fun j is d e=>?_,(fun p hp=>nomatch hp),fun j hj hn=>?_,⟨ds.length,fun j hj=>h.emp j fun z=>?_⟩,fun z=>by
  obtain ⟨j,e⟩:=zc8.mp z
  rcases no j _ e with q | ⟨d',v,_,_,q⟩
  ·cases q
  ·split at q <;> cases q⟩
 ·unfold L2.start
  rw[List.length_append,List.length_append,List.length_map,zs0,List.length_replicate,List.length_replicate,h.len]
 ·rcases no j _ e with q | ⟨d',v,hd,hv,q⟩
  ·cases q
  ·by_cases z:ch.contains j=true
   ·rw[if_pos z] at q
    cases q
    exact ⟨v,st hv,h.chg j d' v hd hv (by simpa using z)⟩
   ·rw[if_neg z] at q; cases q
 ·rcases no j _ e with q | ⟨d',v,hd,hv,q⟩
  ·cases q
  ·by_cases z:ch.contains j=true
   ·rw[if_pos z] at q; cases q
   ·rw[if_neg z] at q
    cases q
    obtain ⟨f',r,hf⟩:=h.oth j _ v hd hv (by simpa using z)
    exact ⟨v,f',st hv,r,fun a ha=>.inr ⟨.inl (hf a ha),fun m hm=>((h.own m).2 a hm).2 (hf a ha)⟩⟩
 ·have hc:j∈ch:=by
   rcases Classical.em (j∈ch) with z | z
   ·exact z
   ·exact absurd (h.emp j z) hn
  have hl:=h.lt j hc
  refine ⟨.tg (t j) (ds[j]),?_⟩
  rw[List.getElem?_append_left (by rw[zs0]; exact hl),zV0,List.getElem?_eq_getElem hl]
  simp[hc]
 ·have:=h.lt j z; omega
theorem z1l {ch:List Nat} {fn:HFn} {x qual:Str} {st:Stmt} {f:Addr} {fd:FuncData} {N ps:List Str} {k:Nat} {body:SS} {dvs:List V} (Fu:FunD K x qual (defArgs st) (defBody st) (defScope st) dvs [] f fd) (S:FnScope N ps (defScope st))
  (hb:∀ (cdv:Value) (A:Around) (outer:List PySem.Env) (s:Shared) (H:Hp) (E:XK),Room k (A.deeper (envOfC qual (defScope st) s.heap.objs.size f cdv)) ->
   PSs (cxOf (L2.CX P w) P w K mg base N qual (defScope st) f cdv A outer s H E) (defBody st) (tS K CA (fun cls d _ H=>E cls d H) body))
  (hx:∀ t ds,ds.length=ps.length->fn t ds=zJ9 ch N.length body t ds)
  (hN:ps.length<=N.length):FnOk P w K mg base (L2.CX P w) (k + 1) f fd ps (spH K CA fn ps.length ch):=by
 refine Fu.ok S (fun vs H Q E ⟨t,ds,f,gs,h1,h2,_⟩=>by rw[<- h2.len]; exact h1) fun cdv Ar outer s H vs Q E hr ⟨t,ds,f,gs,h1,h2,h5⟩=>?_
 have sr:=SR.initH (N:=N) h2 (by rw[h1]; exact hN)
 refine ⟨_,hb cdv Ar outer s H E hr,fun a=>a∈f,_,gs,[],_,sr,?_⟩
 rw[hx t ds h1] at h5
 unfold zJ9 at h5
 have fr:∀ {a:Addr},Y3 H (ch.flatMap gs) a=none->InG gs a\/H a=none:=fun {a} z=>(zP4 z).imp h2.inL.mp id
 have aft:∀ {ρ:Env} {σ:L2.St} {H1 H':Hp} {F':Nat->List Addr} {cs:List D},SR K (fun a=>a∈f) (Y3 H (ch.flatMap gs)) F' [] ρ σ H1->Same H1 H'->M4 t ρ ch=some cs->AftH K H H' ch t cs vs gs F':=fun {ρ σ H1 H' F' cs} sr' s' hg=>by
  obtain ⟨g1,g2⟩:=zO7 hg
  refine ⟨g1,fun i d v hz hv=>?_,fun i=>⟨(sr'.own i).1,fun a ha=>⟨fr ((sr'.own i).2 a ha).1,((sr'.own i).2 a ha).2.same s'⟩⟩,sr'.dis⟩
  obtain ⟨v',hv',r⟩:=sr'.slo i _ (g2 i d hz)
  have hi:i∈ch:=(List.of_mem_zip hz).1
  have hl:=h2.lt i hi
  have r0:=h2.chg i _ v (List.getElem?_eq_getElem hl) hv hi
  obtain ⟨_,a0,e0,z0⟩:=r0.tgI
  obtain ⟨r1,a1,e1,z1⟩:=r.tgI
  have:a1=a0:=Nat.succ.inj (z1.symm.trans z0)
  subst this
  rw[e0,<- e1]
  exact r1.same s'
 cases hbo:body (slH ch t 0 ds++List.replicate (N.length - ds.length) .no) with
 | nx ρ=>
  rw[hbo] at h5
  simp only[Out.finH] at h5
  cases hs:M4 t ρ ch with
  | none=>rw[hs] at h5; exact h5.elim
  | some cs=>
   rw[hs] at h5
   exact fun σ' H' F' sr'=>h5 .non H' F' [] sr'.fr (aft sr' (Same.refl _) hs) .non List.nodup_nil fun a ha=>nomatch ha
 | ri ρ k d=>
  rw[hbo] at h5
  simp only[Out.finH] at h5
  by_cases hk:zh6 k=true
  ·rw[if_pos hk] at h5
   have:=zK3 hk
   subst this
   cases hs:M4 t ρ ch with
   | none=>rw[hs] at h5; exact h5.elim
   | some cs=>
    rw[hs] at h5
    exact fun v σ Hx H' F' g' sr' s' r' o'=>h5 v H' F' g' (sr'.fr.trans s') (aft sr' s' hs) r' o'.1 fun a ha=>⟨fr (sr'.fr.free (o'.2 a ha).1),(o'.2 a ha).2,fun i hi=>((sr'.own i).2 a hi).2.ne (o'.2 a ha).1⟩
  ·rw[if_neg hk] at h5; exact h5.elim
 | ex c ρ=>
  rw[hbo] at h5
  simp only[Out.finH] at h5
  cases hs:M4 t ρ ch with
  | none=>rw[hs] at h5; exact h5.elim
  | some cs=>
   rw[hs] at h5
   exact fun σ' H' F' sr'=>h5 H' F' sr'.fr (aft sr' (Same.refl _) hs)
 | rt k d=>rw[hbo] at h5; exact h5.elim
 | bk ρ=>rw[hbo] at h5; exact h5.elim
 | ct ρ=>rw[hbo] at h5; exact h5.elim
 | st=>rw[hbo] at h5; exact h5.elim
end
inductive AX where
 | v (x:KD) | p (x:Nat×List Ix×D)
def AX.d:AX->D
 | .v x=>x.2
 | .p x=>x.2.2
abbrev SAH:=Env->R (List AX)
def zE7:SAH:=fun _=>.ok []
def vH (a:SE) (r:SAH):SAH:=fun ρ=>(a ρ).bind fun x=>(r ρ).bind fun xs=>.ok (.v x::xs)
def pH (p:SPh) (r:SAH):SAH:=fun ρ=>(p ρ).bind fun x=>(r ρ).bind fun xs=>.ok (.p x::xs)
def isH:List AX->List Nat
 | []=>[]
 | .v x::r=>(nk x.1 x.2).is++isH r
 | .p _::r=>isH r
def pzH:Nat->List AX->List (Nat×(Nat×List Ix×D))
 | _,[]=>[]
 | i,.v _::r=>pzH (i + 1) r
 | i,.p x::r=>(i,x)::pzH (i + 1) r
theorem zd3 {k:Nat} {x:Nat×List Ix×D}:∀ {xs:List AX} {i:Nat},(k,x)∈pzH i xs↔∃ j,k=i + j/\xs[j]? = some (.p x)
 | [],i=>by simp[pzH]
 | .v y::r,i=>by
  rw[show pzH i (.v y::r)=pzH (i + 1) r from rfl,zd3 (xs:=r)]
  refine ⟨fun ⟨j,h1,h2⟩=>⟨j + 1,by omega,by simpa using h2⟩,fun ⟨j,h1,h2⟩=>?_⟩
  cases j with
  | zero=>simp at h2
  | succ j=>exact ⟨j,by omega,by simpa using h2⟩
 | .p y::r,i=>by
  rw[show pzH i (.p y::r)=(i,y)::pzH (i + 1) r from rfl,List.mem_cons,zd3 (xs:=r)]
  refine ⟨fun h=>?_,fun ⟨j,h1,h2⟩=>?_⟩
  ·rcases h with h | ⟨j,h1,h2⟩
   ·cases h; exact ⟨0,by omega,by simp⟩
   ·exact ⟨j + 1,by omega,by simpa using h2⟩
  ·cases j with
   | zero=>simp at h2; subst h2; left; simp at h1; rw[h1]
   | succ j=>exact .inr ⟨j,by omega,by simpa using h2⟩
def Q5:Env->List (Nat×(Nat×List Ix×D))->List D->Option Env
 | ρ,[],[]=>some ρ
 | ρ,x::r,c::cs=>(X5 ρ x.2 c).bind fun ρ'=>Q5 ρ' r cs
 | _,_,_=>none
def AtH (K:PySem.W.Frag) (A:Addr->Prop) (H0:Hp) (F:Nat->List Addr) (H:Hp) (ρ:Env) (σ:L2.St) (H':Hp):List AX->List V->List Addr->Prop
 | [],[],f=>f=[]
 | .v x::xs,v::vs,f=>∃ f1 f2,f=f1++f2/\Rep K H' x.2 v f1/\KOk A H0 F H H' x.1 f1/\AtH K A H0 F H ρ σ H' xs vs f2
 | .p x::xs,v::vs,f=>zk3 ρ σ H' x v/\AtH K A H0 F H ρ σ H' xs vs f
 | _,_,_=>False
def tAH (K:PySem.W.Frag) (CA:String->Addr) (W:WX) (s:SAH):TA:=fun σ H Q=>
 ∃ A H0 F G ρ,SR K A H0 F G ρ σ H/\i7 K CA W σ H (s ρ) fun xs=>∀ vs H' f,Same H H'->AtH K A H0 F H ρ σ H' xs vs f->Q vs H'
section
variable {K:PySem.W.Frag} {A:Addr->Prop} {H0 Ha H H':Hp} {F:Nat->List Addr} {ρ:Env} {σ:L2.St}
theorem AtH.earlier (s:Same Ha H):∀ {xs:List AX} {vs:List V} {f:List Addr},AtH K A H0 F H ρ σ H' xs vs f->AtH K A H0 F Ha ρ σ H' xs vs f
 | [],[],_,h=>h
 | .v x::xs,v::vs,f,⟨f1,f2,e,r,k,h⟩=>⟨f1,f2,e,r,k.wide s (Same.refl _),h.earlier s⟩
 | .p x::xs,v::vs,f,⟨h1,h2⟩=>⟨h1,h2.earlier s⟩
 | [],_::_,_,h=>h.elim
 | .v _::_,[],_,h=>h.elim
 | .p _::_,[],_,h=>h.elim
theorem AtH.len:∀ {xs:List AX} {vs:List V} {f:List Addr},AtH K A H0 F H ρ σ H' xs vs f->xs.length=vs.length
 | [],[],_,h=>rfl
 | .v x::xs,v::vs,f,⟨f1,f2,e,r,k,h⟩=>by simp[h.len]
 | .p x::xs,v::vs,f,⟨h1,h2⟩=>by simp[h2.len]
 | [],_::_,_,h=>h.elim
 | .v _::_,[],_,h=>h.elim
 | .p _::_,[],_,h=>h.elim
theorem AtH.place:∀ {xs:List AX} {vs:List V} {f:List Addr} {j:Nat} {x:Nat×List Ix×D} {v:V},AtH K A H0 F H ρ σ H' xs vs f->xs[j]? = some (.p x)->vs[j]? = some v->zk3 ρ σ H' x v
 | .v _::xs,_::vs,f,0,x,v,_,e,_=>by simp at e
 | .v _::xs,_::vs,f,j + 1,x,v,⟨f1,f2,_,_,_,h⟩,e,e2=>h.place (j:=j) (by simpa using e) (by simpa using e2)
 | .p _::xs,_::vs,f,0,x,v,h,e,e2=>by simp at e e2; subst e; subst e2; exact h.1
 | .p _::xs,_::vs,f,j + 1,x,v,h,e,e2=>h.2.place (j:=j) (by simpa using e) (by simpa using e2)
 | [],[],_,_,_,_,_,e,_=>by simp at e
 | [],_::_,_,_,_,_,h,_,_=>h.elim
 | .v _::_,[],_,_,_,_,h,_,_=>h.elim
 | .p _::_,[],_,_,_,_,h,_,_=>h.elim
theorem AtH.val:∀ {xs:List AX} {vs:List V} {f:List Addr} {j:Nat} {x:KD} {v:V},AtH K A H0 F H ρ σ H' xs vs f->xs[j]? = some (.v x)->vs[j]? = some v->∃ f',Rep K H' x.2 v f'/\∀ b∈f',b∈f
 | .v _::xs,_::vs,f,0,x,v,⟨f1,f2,ef,r,_,h⟩,e,e2=>by simp at e e2; subst e; subst e2; exact ⟨f1,r,fun b hb=>by rw[ef]; simp[hb]⟩
 | .v _::xs,_::vs,f,j + 1,x,v,⟨f1,f2,ef,_,_,h⟩,e,e2=>by
  obtain ⟨f',r,hf⟩:=h.val (j:=j) (by simpa using e) (by simpa using e2)
  exact ⟨f',r,fun b hb=>by rw[ef]; simp[hf b hb]⟩
 | .p _::xs,_::vs,f,0,x,v,h,e,e2=>by simp at e
 | .p _::xs,_::vs,f,j + 1,x,v,h,e,e2=>h.2.val (j:=j) (by simpa using e) (by simpa using e2)
 | [],[],_,_,_,_,_,e,_=>by simp at e
 | [],_::_,_,_,_,_,h,_,_=>h.elim
 | .v _::_,[],_,_,_,_,h,_,_=>h.elim
 | .p _::_,[],_,_,_,_,h,_,_=>h.elim
theorem AtH.bok {G:List (D×V)} (sr:SR K A H0 F G ρ σ H) (s:Same H H'):∀ {xs:List AX} {vs:List V} {f:List Addr},AtH K A H0 F H ρ σ H' xs vs f->BOk A H0 F (isH xs) f/\∀ a∈f,H' a≠none
 | [],[],_,h=>by
  have h:_=([]:List Addr):=h
  subst h
  exact ⟨(fun a ha=>nomatch ha),(fun a ha=>nomatch ha)⟩
 | .v x::xs,v::vs,f,⟨f1,f2,e,r,k,h⟩=>by
  obtain ⟨b1,b2⟩:=h.bok sr s
  have b3:=(KOk.nk r k).bok sr
  subst e
  refine ⟨fun a ha=>?_,fun a ha=>?_⟩
  ·rcases List.mem_append.mp ha with z | z
   ·rcases b3 a z with ⟨j,hj,q⟩ | q
    ·exact .inl ⟨j,List.mem_append_left _ hj,q⟩
    ·exact .inr q
   ·rcases b1 a z with ⟨j,hj,q⟩ | q
    ·exact .inl ⟨j,List.mem_append_right _ hj,q⟩
    ·exact .inr q
  ·rcases List.mem_append.mp ha with z | z
   ·exact r.trk a z
   ·exact b2 a z
 | .p x::xs,v::vs,f,⟨h1,h2⟩=>h2.bok sr s
 | [],_::_,_,h=>h.elim
 | .v _::_,[],_,h=>h.elim
 | .p _::_,[],_,h=>h.elim
end
section
variable {X:Cx} {CA:String->Addr} {W:WX} {e:Expr} {es:List Expr} {sa:SE} {sp:SPh} {s:SAH}
theorem z1r:PA X [] (tAH X.K CA W zE7):=by
 refine ⟨fun pos pins s' σ H Q I ⟨A,H0,F,G,ρ,sr,h⟩=>pa_nil.run pos pins s' σ H Q I ?_⟩
 exact h [] H [] (Same.refl H) rfl
theorem z37 (ha:PE X e (tE X.K CA W sa)) (hr:PA X es (tAH X.K CA W s)) (hs:starEach (e::es) X.env=(false,eval e X.env)::starEach es X.env:=by rfl):PA X (e::es) (tAH X.K CA W (vH sa s)):=by
 refine ⟨fun pos pins s' σ H Q I ⟨A,H0,F,G,ρ,sr,h⟩=>(pa_cons ha hr hs).run pos pins s' σ H Q I ?_⟩
 refine ⟨A,H0,F,G,ρ,sr,h.bind fun ⟨k1,d1⟩ h1=>?_⟩
 intro v1 H1 f1 s1 r1 o1
 refine ⟨A,H0,F,G,ρ,sr.same s1,(h1.later s1).bind fun xs h2=>?_⟩
 intro vs H2 f2 s2 r2
 exact h2 (v1::vs) H2 (f1++f2) (s1.trans s2) ⟨f1,f2,rfl,r1.same s2,o1.wide (Same.refl _) s2,r2.earlier s1⟩
theorem z33 (ha:PE X e (tP CA W X.K sp)) (hr:PA X es (tAH X.K CA W s)) (hs:starEach (e::es) X.env=(false,eval e X.env)::starEach es X.env:=by rfl):PA X (e::es) (tAH X.K CA W (pH sp s)):=by
 refine ⟨fun pos pins s' σ H Q I ⟨A,H0,F,G,ρ,sr,h⟩=>(pa_cons ha hr hs).run pos pins s' σ H Q I ?_⟩
 refine ⟨A,H0,F,G,ρ,sr,h.bind fun x h1=>?_⟩
 intro v1 H1 s1 at1
 refine ⟨A,H0,F,G,ρ,sr.same s1,(h1.later s1).bind fun xs h2=>?_⟩
 intro vs H2 f2 s2 r2
 exact h2 (v1::vs) H2 f2 (s1.trans s2) ⟨at1.same s2,r2.earlier s1⟩
end
section
variable {K:PySem.W.Frag} {A:Addr->Prop} {H0 Hb H:Hp} {F:Nat->List Addr} {G:List (D×V)} {ρ ρ':Env} {σ:L2.St}
def nwF (S:Nat->Option (D×List Addr)) (F:Nat->List Addr):Nat->List Addr:=fun j=>match S j with
 | some p=>p.2
 | none=>F j
theorem zc6 {S:Nat->Option (D×List Addr)} {j:Nat} {p:D×List Addr} (h:S j=some p):nwF S F j=p.2:=by unfold nwF; rw[h]
theorem N5 {S:Nat->Option (D×List Addr)} {j:Nat} (h:S j=none):nwF S F j=F j:=by unfold nwF; rw[h]
theorem SR.mutHs {S:Nat->Option (D×List Addr)} (sr:SR K A H0 F G ρ σ Hb) (fr:∀ a o,Hb a=some o->(∀ j p,S j=some p->a∉F j)->H a=some o) (hlen:ρ'.length=ρ.length)
  (c1:∀ j p,S j=some p->ρ'[j]? = some (.ow p.1)) (c0:∀ j p,S j=some p->j < ρ.length/\∃ v,σ[j]? = some (some v)/\Rep K H p.1 v p.2)
  (c2:∀ i d,S i=none->(ρ'[i]? = some (.ow d)↔ρ[i]? = some (.ow d))) (c3:∀ (i:Nat) (is:List Nat) (d:D),ρ'[i]? = some (Sl.bo is d)->ρ[i]? = some (Sl.bo is d)/\∀ j∈is,S j=none)
  (nf:∀ j p,S j=some p->p.2.Nodup) (hf:∀ j p,S j=some p->∀ b∈p.2,(∃ m q,S m=some q/\b∈F m)\/Hb b=none) (hd:∀ i j p q b,S i=some p->S j=some q->b∈p.2->b∈q.2->i=j)
  (hmu:∀ j p,S j=some p->∀ b∈p.2,Mu (H b)) (hfin:∃ L,∀ j,L<=j->S j=none) (htb:W3 ρ'=true->W3 ρ=true):SR K A H0 (nwF S F) G ρ' σ H:=by
 have nt:∀ b ob,Hb b=some ob->IsT ob->H b=some ob:=fun b ob e t=>by
  refine fr b ob e fun j p _ z=>?_
  have:=((sr.own j).2 b z).2.m
  rw[e] at this
  cases ob <;> first | exact t.elim | exact this.elim
 have kp:∀ {f:List Addr},(∀ b∈f,∀ j p,S j=some p->b∉F j)->∀ b∈f,∀ ob,Hb b=some ob->H b=some ob:=fun {f} hf b hb ob e=>fr b ob e (hf b hb)
 have mu:∀ {b:Addr},(∀ j p,S j=some p->b∉F j)->Mu (Hb b)->Mu (H b):=fun {b} h m=>by
  cases e:Hb b with
  | none=>exact absurd e m.ne
  | some o=>rw[fr b o e h]; rw[e] at m; exact m
 have sh:∀ {b:Addr},Hb b≠none->Sh A H0 F b->(∀ j p,S j=some p->b∉F j)/\Sh A H0 (nwF S F) b:=fun {b} hb h=>by
  refine ⟨fun j p _=>h.2 j,h.1,fun m hm'=>?_⟩
  cases e:S m with
  | some q=>
   rw[zc6 e] at hm'
   rcases hf m q e b hm' with ⟨m',_,_,z⟩ | z
   ·exact h.2 m' z
   ·exact hb z
  | none=>rw[N5 e] at hm'; exact h.2 m hm'
 have slo':∀ i d,ρ'[i]? = some (.ow d)->∃ v,σ[i]? = some (some v)/\Rep K H d v (nwF S F i):=fun i d e=>by
  cases es:S i with
  | some p=>
   have e1:=c1 i p es
   rw[e] at e1
   cases e1
   obtain ⟨_,v,h1,h2⟩:=c0 i p es
   exact ⟨v,h1,by rw[zc6 es]; exact h2⟩
  | none=>
   obtain ⟨v,h1,h2⟩:=sr.slo i d ((c2 i d es).mp e)
   rw[N5 es]
   exact ⟨v,h1,h2.frame nt (kp fun b hb j p hj z=>by have:=sr.dis i j b hb z; subst this; rw[es] at hj; cases hj)⟩
 refine ⟨by rw[hlen]; exact sr.len,fun b ob e=>?_,fun i=>?_,fun i m b hi hm'=>?_,slo',fun i is d2 e=>?_,fun p hp=>?_,fun i hi hn=>?_,?_,sr.tbS htb fun b o e t=>fr b o e fun j p _ z=>sr.teF z e t⟩
 ·exact fr b ob (sr.fr b ob e) fun j p _ z=>by rw[((sr.own j).2 b z).1] at e; cases e
 ·cases es:S i with
  | some p=>
   rw[zc6 es]
   exact ⟨nf i p es,fun b hb=>⟨(hf i p es b hb).elim (fun ⟨m,_,_,q⟩=>((sr.own m).2 b q).1) fun q=>sr.fr.free q,hmu i p es b hb⟩⟩
  | none=>
   rw[N5 es]
   exact ⟨(sr.own i).1,fun b hb=>⟨((sr.own i).2 b hb).1,mu (fun j p hj z=>by have:=sr.dis i j b hb z; subst this; rw[es] at hj; cases hj) ((sr.own i).2 b hb).2⟩⟩
 ·cases es:S i with
  | some p=>
   rw[zc6 es] at hi
   cases em:S m with
   | some q=>rw[zc6 em] at hm'; exact hd i m p q b es em hi hm'
   | none=>
    rw[N5 em] at hm'
    rcases hf i p es b hi with ⟨n,q,hn,z⟩ | z
    ·have:=sr.dis n m b z hm'; subst this; rw[em] at hn; cases hn
    ·exact absurd z ((sr.own m).2 b hm').2.ne
  | none=>
   rw[N5 es] at hi
   cases em:S m with
   | some q=>
    rw[zc6 em] at hm'
    rcases hf m q em b hm' with ⟨n,p,hn,z⟩ | z
    ·have:=sr.dis n i b z hi; subst this; rw[es] at hn; cases hn
    ·exact absurd z ((sr.own i).2 b hi).2.ne
   | none=>rw[N5 em] at hm'; exact sr.dis i m b hi hm'
 ·obtain ⟨e1,hji⟩:=c3 i is d2 e
  obtain ⟨v2,g,h1,h2,h3⟩:=sr.slb i is d2 e1
  have key:∀ b∈g,(∀ j p,S j=some p->b∉F j)/\((∃ m∈is,b∈nwF S F m)\/Sh A H0 (nwF S F) b):=fun b hb=>by
   rcases h3 b hb with ⟨m,hm',q⟩ | q
   ·have hmj:=hji m hm'
    exact ⟨(fun j p hj z=>by have:=sr.dis m j b q z; subst this; rw[hmj] at hj; cases hj),.inl ⟨m,hm',by rw[N5 hmj]; exact q⟩⟩
   ·obtain ⟨q1,q2⟩:=sh (h2.trk b hb) q
    exact ⟨q1,.inr q2⟩
  exact ⟨v2,g,h1,h2.frame nt (kp fun b z=>(key b z).1),fun b hb=>(key b hb).2⟩
 ·obtain ⟨g,h1,h2⟩:=sr.gho p hp
  exact ⟨g,h1.frame nt (kp fun b z=>(sh (h1.trk b z) (h2 b z)).1),fun b hb=>(sh (h1.trk b hb) (h2 b hb)).2⟩
 ·rw[hlen] at hi
  cases es:S i with
  | some p=>exact ⟨p.1,c1 i p es⟩
  | none=>
   rw[N5 es] at hn
   obtain ⟨d2,e⟩:=sr.emp i hi hn
   exact ⟨d2,(c2 i d2 es).mpr e⟩
 ·obtain ⟨L1,h1⟩:=hfin
  obtain ⟨L2',h2⟩:=sr.fin
  exact ⟨max L1 L2',fun j hj=>by rw[N5 (h1 j (by omega))]; exact h2 j (by omega)⟩
abbrev Tr:=Nat×(D×List Addr)
inductive PutR (ρ:Env):List (Nat×(Nat×List Ix×D))->List D->List Tr->Prop
 | nil:PutR ρ [] [] []
 | cons {k:Nat} {x:Nat×List Ix×D} {r:List (Nat×(Nat×List Ix×D))} {c:D} {cs:List D} {T:List Tr} {d d':D} {f:List Addr}:ρ[x.1]? = some (.ow d)->W8 x.2.1 d c=some d'->PutR ρ r cs T->PutR ρ ((k,x)::r) (c::cs) ((x.1,(d',f))::T)
theorem PutR.keys {pz:List (Nat×(Nat×List Ix×D))} {cs:List D} {T:List Tr} (h:PutR ρ pz cs T):T.map (·.1)=pz.map (·.2.1):=by
 induction h with
 | nil=>rfl
 | cons _ _ _ ih=>simp[ih]
theorem PutR.keep {ρ1:Env} {pz:List (Nat×(Nat×List Ix×D))} {cs:List D} {T:List Tr} (h:PutR ρ pz cs T):(∀ i d,i∈pz.map (·.2.1)->ρ[i]? = some (.ow d)->ρ1[i]? = some (.ow d))->PutR ρ1 pz cs T:=by
 induction h with
 | nil=>intro _; exact .nil
 | cons e1 e2 _ ih=>intro k; exact .cons (k _ _ (by simp) e1) e2 (ih fun i d hi=>k i d (by simp at hi ⊢; exact .inr hi))
theorem z4Y:∀ {pz:List (Nat×(Nat×List Ix×D))} {cs:List D} {T:List Tr} {ρ:Env},PutR ρ pz cs T->(T.map (·.1)).Nodup->∃ ρ',Q5 ρ pz cs=some ρ'/\ρ'.length=ρ.length/\(∀ j p,(j,p)∈T->ρ'[j]? = some (.ow p.1)) ∧
  (∀ i d,i∉T.map (·.1)->(ρ'[i]? = some (.ow d)↔ρ[i]? = some (.ow d)))/\∀ (i:Nat) (is:List Nat) (d:D),ρ'[i]? = some (Sl.bo is d)->ρ[i]? = some (Sl.bo is d)/\∀ j∈is,j∉T.map (·.1):=by
 intro pz
 induction pz with
 | nil=>
  intro cs T ρ h _
  cases h
  exact ⟨ρ,rfl,rfl,(fun j p z=>by simp at z),(fun i d _=>Iff.rfl),(fun i is d e=>⟨e,fun j _=>by simp⟩)⟩
 | cons y r ih=>
  intro cs T ρ h n
  cases h with
  | @cons k x _ c cs T d d' f e1 e2 hr=>
  rw[List.map_cons,List.nodup_cons] at n
  have hx:x.1 < ρ.length:=(List.getElem?_eq_some_iff.mp e1).1
  obtain ⟨ρ1,hρ1⟩:∃ ρ1,ρ1=(inv x.1 ρ).set x.1 (.ow d'):=⟨_,rfl⟩
  have ep:X5 ρ x c=some ρ1:=by unfold X5; rw[e1]; simp only[slD,Option.getD_some]; rw[e2,hρ1]; rfl
  have l1:ρ1.length=ρ.length:=by rw[hρ1,List.length_set,Q8]
  have s1:ρ1[x.1]? = some (.ow d'):=by rw[hρ1,List.getElem?_set_self (by rw[Q8]; exact hx)]
  have o1:∀ i d2,i≠x.1->(ρ1[i]? = some (.ow d2)↔ρ[i]? = some (.ow d2)):=fun i d2 hi=>by rw[hρ1,List.getElem?_set_ne (Ne.symm hi)]; exact zf6
  obtain ⟨ρ',q1,q2,q3,q4,q5⟩:=ih (hr.keep (ρ1:=ρ1) fun i d2 hi e=>(o1 i d2 fun z=>n.1 (by rw[hr.keys,<- z]; exact hi)).mpr e) n.2
  refine ⟨ρ',by unfold Q5; simp only[ep,Option.bind_some]; exact q1,q2.trans l1,fun j p z=>?_,fun i d2 hi=>?_,fun i is d2 e=>?_⟩
  ·rcases List.mem_cons.mp z with z | z
   ·cases z
    exact (q4 x.1 d' n.1).mpr s1
   ·exact q3 j p z
  ·rw[List.map_cons,List.mem_cons,not_or] at hi
   rw[q4 i d2 hi.2,o1 i d2 hi.1]
  ·obtain ⟨e3,h3⟩:=q5 i is d2 e
   have hi:x.1≠i:=fun z=>by rw[<- z,s1] at e3; cases e3
   rw[hρ1,List.getElem?_set_ne hi] at e3
   obtain ⟨e4,h4⟩:=zB3 e3
   exact ⟨e4,fun j hj z=>by
    rw[List.map_cons,List.mem_cons] at z
    rcases z with z | z
    ·exact h4 (z ▸ hj)
    ·exact h3 j hj z⟩
theorem zP3:∀ {pz:List (Nat×(Nat×List Ix×D))} {cs:List D} {ρ ρ':Env},Q5 ρ pz cs=some ρ'->W3 ρ'=true->W3 ρ=true
 | [],[],ρ,ρ',e,h=>by cases e; exact h
 | x::r,c::cs,ρ,ρ',e,h=>by
  simp only[Q5] at e
  cases e2:X5 ρ x.2 c with
  | none=>rw[e2] at e; cases e
  | some ρ1=>
   rw[e2] at e
   have h1:=zP3 (pz:=r) e h
   unfold X5 at e2
   cases e3:W8 x.2.2.1 ((slD ρ[x.2.1]?).getD .non) c with
   | none=>rw[e3] at e2; cases e2
   | some d'=>
    rw[e3] at e2
    cases e2
    exact zm6 (R4 rfl h1)
 | [],_::_,_,_,e,_=>by cases e
 | _::_,[],_,_,e,_=>by cases e
theorem A0 {T:List Tr} (n:(T.map (·.1)).Nodup) {j:Nat} {p:D×List Addr}:T.lookup j=some p↔(j,p)∈T:=by
 induction T with
 | nil=>simp
 | cons q r ih=>
  obtain ⟨k,p'⟩:=q
  rw[List.map_cons,List.nodup_cons] at n
  rw[List.lookup_cons]
  by_cases h:j=k
  ·subst h
   simp only[beq_self_eq_true,List.mem_cons]
   refine ⟨fun e=>.inl (by cases e; rfl),fun e=>?_⟩
   rcases e with e | e
   ·cases e; rfl
   ·exact absurd (List.mem_map.mpr ⟨_,e,rfl⟩) n.1
  ·have:(j == k)=false:=by simpa using h
   rw[this]
   simp only[List.mem_cons]
   rw[ih n.2]
   exact ⟨.inr,fun e=>e.resolve_left fun z=>by cases z; exact h rfl⟩
theorem zz8 {T:List Tr} {j:Nat}:T.lookup j=none↔j∉T.map (·.1):=by
 induction T with
 | nil=>simp
 | cons q r ih=>
  obtain ⟨k,p'⟩:=q
  rw[List.lookup_cons]
  by_cases h:j=k
  ·subst h; simp
  ·have:(j == k)=false:=by simpa using h
   rw[this]
   simp only[List.map_cons,List.mem_cons,not_or]
   rw[ih]
   exact ⟨fun z=>⟨h,z⟩,fun z=>z.2⟩
end
def zn8:D->Bool
 | .lst _=>true | .dic _=>true | .obj _ _ _=>true | .dtk _=>true
 | _=>false
theorem z0l {K:PySem.W.Frag} {H:Hp} {d:D} {v:V} {f:List Addr} (r:Rep K H d v f) (h:zn8 d=true):∃ a,v=.ref a:=by
 cases d with
 | lst ds=>cases r; exact ⟨_,rfl⟩
 | dic ds=>cases r; exact ⟨_,rfl⟩
 | obj t C ds=>cases r; exact ⟨_,rfl⟩
 | dtk ds=>cases r; exact ⟨_,rfl⟩
 | _=>cases h
noncomputable def hcM (fn:HFn) (ch:List Nat) (s:SAH):SM:=fun ρ=>(s ρ).out ρ fun xs=>if (pzH 0 xs).map (·.1)=ch/\((pzH 0 xs).map (·.2.1)).Nodup/\(∀ q∈(pzH 0 xs).map (·.2.1),q∉isH xs)/\(pzH 0 xs).all (fun q=>zn8 q.2.2.2)=true then match zq3 fun t=>fn t (xs.map AX.d) with
 | .ok cs d=>(match Q5 ρ (pzH 0 xs) cs with
  | some ρ'=>.ri ρ' .own d
  | none=>.st)
 | .ex c cs=>(match Q5 ρ (pzH 0 xs) cs with
  | some ρ'=>.ex c ρ'
  | none=>.st)
 | .st=>.st else .st
structure FnGH (P:Program) (w:World) (K:PySem.W.Frag) (mg:Str->Option Value) (base:Heap) (CA:String->Addr) (fn:HFn) (ch:List Nat) (k:Nat) (x:String):Prop where
 is:∃ (f:Addr) (fd:FuncData) (ps:List Str),mg (Str.ofString x)=some (.ref f)/\FnOk P w K mg base (L2.CX P w) k f fd ps (spH K CA fn ps.length ch)/\PySem.W.keepIn K (.ref f)=true/\Binds K fd ps []/\∀ t as,fn t as≠.st->as.length=ps.length
theorem zV4 {α β:Type} {f:α->β}:∀ {l:List α},(l.map f).Nodup->∀ x∈l,∀ y∈l,f x=f y->x=y
 | [],_,x,hx,_,_,_=>by simp at hx
 | a::l,n,x,hx,y,hy,e=>by
  rw[List.map_cons,List.nodup_cons] at n
  rcases List.mem_cons.mp hx with hx' | hx'
  ·rcases List.mem_cons.mp hy with hy' | hy'
   ·rw[hx',hy']
   ·exact absurd (List.mem_map.mpr ⟨y,hy',by rw[<- e,hx']⟩) n.1
  ·rcases List.mem_cons.mp hy with hy' | hy'
   ·exact absurd (List.mem_map.mpr ⟨x,hx',by rw[e,hy']⟩) n.1
   ·exact zV4 n.2 x hx' y hy' e
theorem z0f {ρ:Env} {P:Nat->D×List Addr->Prop}:∀ {pz:List (Nat×(Nat×List Ix×D))} {cs:List D},pz.length=cs.length->(∀ k x c,((k,x),c)∈pz.zip cs->∃ d d' f,ρ[x.1]? = some (.ow d)/\W8 x.2.1 d c=some d'/\P x.1 (d',f))->∃ T,PutR ρ pz cs T/\∀ j p,(j,p)∈T->P j p
 | [],[],_,_=>⟨[],.nil,fun j p z=>by simp at z⟩
 | (k,x)::r,c::cs,hl,h=>by
  obtain ⟨d,d',f,h1,h2,h3⟩:=h k x c (by simp)
  obtain ⟨T,q1,q2⟩:=z0f (pz:=r) (cs:=cs) (by simpa using hl) fun k x c hz=>h k x c (by simp only[List.zip_cons_cons]; exact List.mem_cons_of_mem _ hz)
  refine ⟨(x.1,(d',f))::T,.cons h1 h2 q1,fun j p z=>?_⟩
  rcases List.mem_cons.mp z with z | z
  ·cases z; exact h3
  ·exact q2 j p z
 | [],_::_,hl,_=>by simp at hl
 | _::_,[],hl,_=>by simp at hl
section
variable {K:PySem.W.Frag} {A:Addr->Prop} {H0 H H2 H':Hp} {F:Nat->List Addr} {G:List (D×V)} {ρ:Env} {σ:L2.St} {xs:List AX} {vs:List V} {f g':List Addr} {gs gs':Nat->List Addr} {t:Nat->Nat} {cs:List D} {ch:List Nat}
structure PlH (K:PySem.W.Frag) (H2:Hp) (F:Nat->List Addr) (ρ:Env) (σ:L2.St) (vs:List V) (k:Nat) (x:Nat×List Ix×D) (g:List Addr) (t:Nat):Prop where
 is:∃ v d vj,vs[k]? = some v/\ρ[x.1]? = some (.ow d)/\σ[x.1]? = some (some vj)/\Rep K H2 (.tg t x.2.2) v g/\(∀ b∈g,b∈F x.1)/\g.Nodup ∧
  ∀ (H':Hp) d0' f0',(∀ b o,H2 b=some o->IsT o->H' b=some o)->(∀ b∈F x.1,b∉g->∀ o,H2 b=some o->H' b=some o)->Rep K H' d0' v f0'->f0'.Nodup->(∀ b∈f0',b∈g\/b∉F x.1) ->
   ∃ d' f',W8 x.2.1 d d0'=some d'/\Rep K H' d' vj f'/\f'.Nodup/\∀ b∈f',b∈f0'\/(b∈F x.1/\b∉g)
theorem z7R (sr:SR K A H0 F G ρ σ H) (s2:Same H H2) (at2:AtH K A H0 F H ρ σ H2 xs vs f) (hr:(pzH 0 xs).all (fun q=>zn8 q.2.2.2)=true) :
  ∃ (gs:Nat->List Addr) (t:Nat->Nat),(∀ k,(∀ x,(k,x)∉pzH 0 xs)->gs k=[])/\∀ k x,(k,x)∈pzH 0 xs->PlH K H2 F ρ σ vs k x (gs k) (t k):=by
 have one:∀ k,∃ gt:List Addr×Nat,((∀ x,(k,x)∉pzH 0 xs)->gt.1=[])/\∀ x,(k,x)∈pzH 0 xs->PlH K H2 F ρ σ vs k x gt.1 gt.2:=fun k=>by
  rcases Classical.em (∃ x,(k,x)∈pzH 0 xs) with ⟨x,hx⟩ | hn
  ·obtain ⟨j,hj,e⟩:=zd3.mp hx
   have:j=k:=by omega
   subst this
   have hv:j < vs.length:=by rw[<- at2.len]; exact (List.getElem?_eq_some_iff.mp e).1
   have p:=at2.place e (List.getElem?_eq_getElem hv)
   obtain ⟨d,vj,h1,h2,h3,h4⟩:=p
   obtain ⟨vj',h5,rj⟩:=(sr.same s2).slo _ d h1
   rw[h2] at h5; cases h5
   obtain ⟨v0,f0,k1,k2,k3,k4,k5⟩:=zq5 rj h3
   rw[h4] at k1; cases k1
   obtain ⟨a,ea⟩:=z0l k2 (List.all_eq_true.mp hr (j,x) hx)
   have own:=(sr.own x.1).1
   refine ⟨(f0,a + 1),fun z=>absurd hx (z x),fun y hy=>?_⟩
   obtain ⟨j',hj',e'⟩:=zd3.mp hy
   have:j'=j:=by omega
   subst this
   rw[e] at e'; cases e'
   exact ⟨⟨_,d,vj,List.getElem?_eq_getElem hv,h1,h2,by rw[ea] at k2 ⊢; exact .tg k2 rfl,k3,k4 own,k5 own⟩⟩
  ·exact ⟨([],0),fun _=>rfl,fun x hx=>absurd ⟨x,hx⟩ hn⟩
 obtain ⟨gt,h⟩:=Classical.skolem.mp one
 exact ⟨fun k=>(gt k).1,fun k=>(gt k).2,fun k=>(h k).1,fun k=>(h k).2⟩
theorem z4T (sr:SR K A H0 F G ρ σ H) (s2:Same H H2) (at2:AtH K A H0 F H ρ σ H2 xs vs f) (hc:(pzH 0 xs).map (·.1)=ch) (hn:((pzH 0 xs).map (·.2.1)).Nodup) (hq:∀ q∈(pzH 0 xs).map (·.2.1),q∉isH xs)
  (h0:∀ k,(∀ x,(k,x)∉pzH 0 xs)->gs k=[]) (hp:∀ k x,(k,x)∈pzH 0 xs->PlH K H2 F ρ σ vs k x (gs k) (t k)):ArgH K H2 ch t (xs.map AX.d) vs f gs:=by
 have inch:∀ {i},i∈ch->∃ x,(i,x)∈pzH 0 xs:=fun {i} hi=>by
  rw[<- hc] at hi
  obtain ⟨q,h1,h2⟩:=List.mem_map.mp hi
  obtain ⟨k,x⟩:=q
  cases h2
  exact ⟨x,h1⟩
 have getx:∀ {i x},(i,x)∈pzH 0 xs->xs[i]? = some (.p x):=fun {i x} hx=>by
  obtain ⟨j,hj,e⟩:=zd3.mp hx
  rw[show i=j by omega]; exact e
 have sub:∀ {i a},a∈gs i->∃ x,(i,x)∈pzH 0 xs/\a∈F x.1:=fun {i a} ha=>by
  rcases Classical.em (∃ x,(i,x)∈pzH 0 xs) with ⟨x,hx⟩ | z
  ·obtain ⟨v,d,vj,_,_,_,_,h5,_⟩:=(hp i x hx).is
   exact ⟨x,hx,h5 a ha⟩
  ·rw[h0 i fun x hx=>z ⟨x,hx⟩] at ha; cases ha
 refine ⟨by rw[List.length_map]; exact at2.len,fun i hi=>?_,fun i d v hd hv hi=>?_,fun i d v hd hv hi=>?_,fun i=>⟨?_,fun a ha=>?_⟩,fun i j a hi hj=>?_,fun i hi=>h0 i fun x hx=>hi ?_⟩
 ·obtain ⟨x,hx⟩:=inch hi
  rw[List.length_map]
  exact (List.getElem?_eq_some_iff.mp (getx hx)).1
 ·obtain ⟨x,hx⟩:=inch hi
  rw[List.getElem?_map,getx hx] at hd
  cases hd
  obtain ⟨v',d,vj,h1,_,_,h4,_⟩:=(hp i x hx).is
  rw[hv] at h1; cases h1
  exact h4
 ·rw[List.getElem?_map] at hd
  cases ex:xs[i]? with
  | none=>rw[ex] at hd; cases hd
  | some y=>
   rw[ex] at hd
   cases y with
   | v y=>cases hd; exact at2.val ex hv
   | p y=>exact absurd (by rw[<- hc]; exact List.mem_map.mpr ⟨(i,y),zd3.mpr ⟨i,by omega,ex⟩,rfl⟩) hi
 ·rcases Classical.em (∃ x,(i,x)∈pzH 0 xs) with ⟨x,hx⟩ | z
  ·obtain ⟨v,d,vj,_,_,_,_,_,h6,_⟩:=(hp i x hx).is; exact h6
  ·rw[h0 i fun x hx=>z ⟨x,hx⟩]; exact List.nodup_nil
 ·obtain ⟨x,hx,hF⟩:=sub ha
  refine ⟨((sr.own x.1).2 a hF).2.same s2,fun z=>?_⟩
  rcases (at2.bok sr s2).1 a z with ⟨j,hj,q⟩ | q
  ·have:=sr.dis j x.1 a q hF
   subst this
   exact hq x.1 (List.mem_map.mpr ⟨(i,x),hx,rfl⟩) hj
  ·exact q.2 x.1 hF
 ·obtain ⟨x,hx,hF⟩:=sub hi
  obtain ⟨y,hy,hF'⟩:=sub hj
  have:=zV4 hn _ hx _ hy (sr.dis x.1 y.1 a hF hF')
  exact congrArg Prod.fst this
 ·rw[<- hc]; exact List.mem_map.mpr ⟨(i,x),hx,rfl⟩
theorem zZ3 (sr:SR K A H0 F G ρ σ H) (s2:Same H H2) (at2:AtH K A H0 F H ρ σ H2 xs vs f) (hc:(pzH 0 xs).map (·.1)=ch) (hn:((pzH 0 xs).map (·.2.1)).Nodup) (ag:ArgH K H2 ch t (xs.map AX.d) vs f gs)
  (h0:∀ k,(∀ x,(k,x)∉pzH 0 xs)->gs k=[]) (hp:∀ k x,(k,x)∈pzH 0 xs->PlH K H2 F ρ σ vs k x (gs k) (t k)) (sH:Same (Y3 H2 (ch.flatMap gs)) H') (aft:AftH K H2 H' ch t cs vs gs gs')
  (cond:∀ a∈g',(InG gs a\/H2 a=none)/\Mu (H' a)/\∀ i,a∉gs' i) :
  ∃ ρ' F',Q5 ρ (pzH 0 xs) cs=some ρ'/\SR K A H0 F' G ρ' σ (Y3 H' g')/\Eff ρ.length F F' H (Y3 H' g'):=by
 have sub:∀ {a},InG gs a->∃ i x,(i,x)∈pzH 0 xs/\a∈gs i/\a∈F x.1:=fun {a} ⟨i,ha⟩=>by
  rcases Classical.em (∃ x,(i,x)∈pzH 0 xs) with ⟨x,hx⟩ | z
  ·obtain ⟨v,d,vj,_,_,_,_,h5,_⟩:=(hp i x hx).is
   exact ⟨i,x,hx,ha,h5 a ha⟩
  ·rw[h0 i fun x hx=>z ⟨x,hx⟩] at ha; cases ha
 have keep:∀ {b o},H2 b=some o->¬ InG gs b->Y3 H' g' b=some o:=fun {b o} e nb=>by
  rw[i5 fun z=>?_]
  ·exact sH b o (by rw[i5 fun z=>nb (ag.inL.mp z)]; exact e)
  ·rcases (cond b z).1 with w | w
   ·exact nb w
   ·rw[w] at e; cases e
 have ht:∀ b o,H2 b=some o->IsT o->Y3 H' g' b=some o:=fun b o e tt=>keep e fun ⟨i,z⟩=>by
  have:=((ag.own i).2 b z).1.m
  rw[e] at this
  cases o <;> first | exact tt.elim | exact this.elim
 have same1:∀ {i x j y a},(i,x)∈pzH 0 xs->(j,y)∈pzH 0 xs->a∈F x.1->a∈F y.1->i=j:=fun {i x j y a} hx hy h1 h2=>congrArg Prod.fst (zV4 hn _ hx _ hy (sr.dis x.1 y.1 a h1 h2))
 have hlen:(pzH 0 xs).length=cs.length:=by rw[aft.len,<- hc,List.length_map]
 obtain ⟨T,pt,hT⟩:=z0f (ρ:=ρ) (P:=fun j p=>∃ k x vj,(k,x)∈pzH 0 xs/\x.1=j/\σ[j]? = some (some vj)/\Rep K (Y3 H' g') p.1 vj p.2/\p.2.Nodup/\∀ b∈p.2,b∈gs' k\/(b∈F j/\b∉gs k)) hlen fun k x c hz=>by
  have hx:(k,x)∈pzH 0 xs:=(List.of_mem_zip hz).1
  obtain ⟨v,d,vj,h1,h2,h3,h4,h5,h6,h7⟩:=(hp k x hx).is
  have hz2:(k,c)∈ch.zip cs:=by
   rw[<- hc,List.zip_map_left]
   exact List.mem_map.mpr ⟨((k,x),c),hz,rfl⟩
  have r':=aft.rep k c v hz2 h1
  have r2:Rep K (Y3 H' g') c v (gs' k):=r'.frame (fun b ob e tt=>by
   have:b∉g':=fun z=>by
    have:=(cond b z).2.1.m
    rw[e] at this
    cases ob <;> first | exact tt.elim | exact this.elim
   rw[i5 this]; exact e) fun b hb ob e=>by rw[i5 fun z=>(cond b z).2.2 k hb]; exact e
  obtain ⟨d',f',e1,e2,e3,e4⟩:=h7 (Y3 H' g') c (gs' k) ht (fun b hb hn' o e=>keep e fun z=>by
   obtain ⟨i,y,hy,hi,hF⟩:=sub z
   have:=same1 hy hx hF hb
   subst this
   exact hn' hi) r2 (aft.own k).1 fun b hb=>by
    rcases ((aft.own k).2 b hb).1 with z | z
    ·obtain ⟨i,y,hy,hi,hF⟩:=sub z
     by_cases hb2:b∈F x.1
     ·have:=same1 hy hx hF hb2
      subst this
      exact .inl hi
     ·exact .inr hb2
    ·exact .inr fun w=>((sr.own x.1).2 b w).2.ne (s2.free z)
  exact ⟨d,d',f',h2,e1,k,x,vj,hx,rfl,h3,e2,e3,e4⟩
 have keys:=pt.keys
 have nT:(T.map (·.1)).Nodup:=by rw[keys]; exact hn
 obtain ⟨ρ',q1,q2,q3,q4,q5⟩:=z4Y pt nT
 have inS:∀ {i x},(i,x)∈pzH 0 xs->∃ p,T.lookup x.1=some p:=fun {i x} hx=>by
  cases e:T.lookup x.1 with
  | some p=>exact ⟨p,rfl⟩
  | none=>exact absurd (by rw[keys]; exact List.mem_map.mpr ⟨(i,x),hx,rfl⟩) (zz8.mp e)
 have fr:∀ a o,H a=some o->(∀ j p,T.lookup j=some p->a∉F j)->Y3 H' g' a=some o:=fun a o e h=>keep (s2 a o e) fun z=>by
  obtain ⟨i,y,hy,hi,hF⟩:=sub z
  obtain ⟨p,hp'⟩:=inS hy
  exact h y.1 p hp' hF
 have lt:∀ {j p},T.lookup j=some p->j < ρ.length:=fun {j p} e=>by
  obtain ⟨k,x,vj,hx,hj,_⟩:=hT j p ((A0 nT).mp e)
  obtain ⟨v,d,vj',_,h2,_⟩:=(hp k x hx).is
  rw[<- hj]
  exact (List.getElem?_eq_some_iff.mp h2).1
 have hf:∀ j p,T.lookup j=some p->∀ b∈p.2,(∃ m q,T.lookup m=some q/\b∈F m)\/H b=none:=fun j p e b hb=>by
  obtain ⟨k,x,vj,hx,hj,_,_,_,h8⟩:=hT j p ((A0 nT).mp e)
  rcases h8 b hb with z | z
  ·rcases ((aft.own k).2 b z).1 with w | w
   ·obtain ⟨i,y,hy,hi,hF⟩:=sub w
    obtain ⟨p',hp'⟩:=inS hy
    exact .inl ⟨y.1,p',hp',hF⟩
   ·exact .inr (s2.free w)
  ·exact .inl ⟨j,p,e,z.1⟩
 refine ⟨ρ',nwF (fun j=>T.lookup j) F,q1,sr.mutHs fr q2 (fun j p e=>q3 j p ((A0 nT).mp e)) (fun j p e=>⟨lt e,?_⟩) (fun i d e=>q4 i d (zz8.mp e)) (fun i is d e=>⟨(q5 i is d e).1,fun j hj=>zz8.mpr ((q5 i is d e).2 j hj)⟩)
  (fun j p e=>?_) hf (fun i j p q b e1 e2 h1 h2=>?_) (fun j p e b hb=>?_) ⟨ρ.length,fun j hj=>?_⟩ (zP3 q1),fun j hj=>N5 ?_,fun a o e h=>.inl (fr a o e fun j p ej=>h j (lt ej)),fun j hj a ha=>?_⟩
 ·obtain ⟨k,x,vj,hx,hj,h3,h4,_⟩:=hT j p ((A0 nT).mp e)
  exact ⟨vj,h3,h4⟩
 ·obtain ⟨k,x,vj,hx,hj,h3,h4,h5,_⟩:=hT j p ((A0 nT).mp e); exact h5
 ·obtain ⟨k,x,vj,hx,hi,_,_,_,h8⟩:=hT i p ((A0 nT).mp e1)
  obtain ⟨m,y,wj,hy,hj,_,_,_,h9⟩:=hT j q ((A0 nT).mp e2)
  subst hi
  subst hj
  rcases h8 b h1 with z | z
  ·rcases h9 b h2 with w | w
   ·have:=aft.dis k m b z w
    subst this
    obtain ⟨j1,u1,u2⟩:=zd3.mp hx
    obtain ⟨j2,u3,u4⟩:=zd3.mp hy
    have:j1=j2:=by omega
    subst this
    rw[u2] at u4; cases u4; rfl
   ·rcases ((aft.own k).2 b z).1 with u | u
    ·obtain ⟨i,y',hy',hi',hF⟩:=sub u
     have:=same1 hy' hy hF w.1
     subst this
     exact absurd hi' w.2
    ·exact absurd (s2.free u) ((sr.own y.1).2 b w.1).2.ne
  ·rcases h9 b h2 with w | w
   ·rcases ((aft.own m).2 b w).1 with u | u
    ·obtain ⟨i,y',hy',hi',hF⟩:=sub u
     have:=same1 hy' hx hF z.1
     subst this
     exact absurd hi' z.2
    ·exact absurd (s2.free u) ((sr.own x.1).2 b z.1).2.ne
   ·exact sr.dis _ _ b z.1 w.1
 ·obtain ⟨k,x,vj,hx,hj,_,r,_,h8⟩:=hT j p ((A0 nT).mp e)
  rcases h8 b hb with z | z
  ·rw[i5 fun w=>(cond b w).2.2 k z]; exact ((aft.own k).2 b z).2
  ·subst hj
   have m:=((sr.own x.1).2 b z.1).2
   cases eb:H b with
   | none=>exact absurd eb m.ne
   | some o=>
    rw[keep (s2 b o eb) fun w=>?_]
    ·rw[eb] at m; exact m
    ·obtain ⟨i,y',hy',hi',hF⟩:=sub w
     have:=same1 hy' hx hF z.1
     subst this
     exact z.2 hi'
 ·cases e:T.lookup j with
  | none=>rfl
  | some p=>have:=lt e; omega
 ·cases e:T.lookup j with
  | none=>rfl
  | some p=>have:=lt e; omega
 ·cases e:T.lookup j with
  | none=>rw[N5 e] at ha; exact .inl ⟨j,hj,ha⟩
  | some p=>
   rw[zc6 e] at ha
   exact (hf j p e a ha).imp (fun ⟨m,q,hm,z⟩=>⟨m,lt hm,z⟩) .inl
end
section
variable {X:Cx} {CA:String->Addr} {W:WX} {fn:HFn} {ch:List Nat} {k:Nat} {x:String} {p pos:Pos} {e:Expr} {es:List Expr} {s:SAH}
theorem z4a (H:Hp):Y3 H []=H:=funext fun a=>i5 (by simp)
theorem z48 {A:Addr->Prop} {H0 H H2:Hp} {F:Nat->List Addr} {G:List (D×V)} {ρ:Env} {σ:L2.St} {Q:VK} {xs:List AX} {vs:List V} {f:List Addr} {n:Nat}
  (sr:SR X.K A H0 F G ρ σ H) (s2:Same H H2) (at2:AtH X.K A H0 F H ρ σ H2 xs vs f) (hc:(pzH 0 xs).map (·.1)=ch) (hn:((pzH 0 xs).map (·.2.1)).Nodup) (hq:∀ q∈(pzH 0 xs).map (·.2.1),q∉isH xs) (hr:(pzH 0 xs).all (fun q=>zn8 q.2.2.2)=true)
  (hl:(xs.map AX.d).length=n)
  (h:MOk X.K CA W A H0 F ρ.length G σ H (match zq3 fun t=>fn t (xs.map AX.d) with
   | .ok cs d=>(match Q5 ρ (pzH 0 xs) cs with
    | some ρ'=>.ri ρ' .own d
    | none=>.st)
   | .ex c cs=>(match Q5 ρ (pzH 0 xs) cs with
    | some ρ'=>.ex c ρ'
    | none=>.st)
   | .st=>.st) Q):spH X.K CA fn n ch vs H2 Q (WE W σ):=by
 obtain ⟨gs,t,h0,hp⟩:=z7R sr s2 at2 hr
 have ag:=z4T sr s2 at2 hc hn hq h0 hp
 refine ⟨t,xs.map AX.d,f,gs,hl,ag,?_⟩
 cases hall:zq3 fun t=>fn t (xs.map AX.d) with
 | st=>rw[hall] at h; exact h.elim
 | ok cs d=>
  have hg:=zB9 (f:=fun t=>fn t (xs.map AX.d)) (by rw[hall]; simp) t
  simp only[hall] at hg h
  rw[hg]
  intro v H' gs' g' sH aft rv nd cond
  obtain ⟨ρ',F',e1,sr',eff⟩:=zZ3 sr s2 at2 hc hn ag h0 hp sH aft cond
  rw[e1] at h
  exact h v (Y3 H' g') H' F' g' sr' eff (O0 H' g') rv ⟨nd,fun b hb=>⟨N4 hb,(cond b hb).2.1⟩⟩
 | ex c cs=>
  have hg:=zB9 (f:=fun t=>fn t (xs.map AX.d)) (by rw[hall]; simp) t
  simp only[hall] at hg h
  rw[hg]
  intro H' gs' sH aft
  obtain ⟨ρ',F',e1,sr',eff⟩:=zZ3 (g':=[]) sr s2 at2 hc hn ag h0 hp sH aft (fun a ha=>by simp at ha)
  rw[e1] at h
  rw[z4a] at sr'
  exact h H' F' sr'
theorem zY4 (tk:Takes X W) (hr:Room k X.A) (hf:FnGH X.prog X.w X.K X.mg X.base CA fn ch k x) (ha:PA X (e::es) (tAH X.K CA W s)) (hg:Gl X (Str.ofString x):=by rfl) (hdb:(Str.ofString x == ("__debug__" : Str))=false:=by decide)
  (he:starEach (e::es) X.env=(false,eval e X.env)::starEach es X.env:=by rfl) (hpl:(backTo pos (starEach es X.env)).any (·.1)=false:=by rfl):PE X (.Call (.Name (Str.ofString x) p) (e::es) [] pos) (tM X.K CA W (hcM fn ch s)):=by
 obtain ⟨f,fd,ps,hm,Fn,hk,hb,hz⟩:=hf.is
 refine peI (zO6 Fn hr hg hm hk hb .nil (fun σ=>passAt tk σ) ha hdb he hpl) fun σ H Q ⟨A,H0,F,G,ρ,sr,h⟩=>?_
 refine ⟨A,H0,F,G,ρ,sr,(MOk.lift h sr).imp fun xs _ q vs H1 f1 s1 r=>?_⟩
 show spH X.K CA fn ps.length ch (vs++[]) H1 Q (WE W σ)
 rw[List.append_nil]
 by_cases hh:(pzH 0 xs).map (·.1)=ch/\((pzH 0 xs).map (·.2.1)).Nodup/\(∀ q∈(pzH 0 xs).map (·.2.1),q∉isH xs)/\(pzH 0 xs).all (fun q=>zn8 q.2.2.2)=true
 ·rw[if_pos hh] at q
  obtain ⟨h1,h2,h3,h4⟩:=hh
  have hl:(xs.map AX.d).length=ps.length:=by
   cases hall:zq3 fun t=>fn t (xs.map AX.d) with
   | st=>rw[hall] at q; exact q.elim
   | ok cs d=>exact hz (fun _=>0) _ (by rw[zB9 (f:=fun t=>fn t (xs.map AX.d)) (by rw[hall]; simp) fun _=>0,hall]; simp)
   | ex c cs=>exact hz (fun _=>0) _ (by rw[zB9 (f:=fun t=>fn t (xs.map AX.d)) (by rw[hall]; simp) fun _=>0,hall]; simp)
  exact z48 sr s1 r h1 h2 h3 h4 hl q
 ·rw[if_neg hh] at q; exact q.elim
end
def cpE (a:SE):SE:=fun ρ=>(a ρ).bind fun x=>.ok (nk x.1 x.2,x.2)
theorem yi7 {X:Cx} {CA:String->Addr} {W:WX} {e:Expr} {a:SE} (h:PE X e (tE X.K CA W a)):PE X e (tE X.K CA W (cpE a)):=by
 refine peI h fun σ H Q ⟨A,H0,F,G,ρ,sr,h⟩=>⟨A,H0,F,G,ρ,sr,h.bind fun ⟨k,d⟩ h1=>?_⟩
 intro v H1 f s1 r o
 exact h1 v H1 f s1 r (KOk.nk r o)
end Cz
set_option maxHeartbeats 4000000
namespace PySem.Spec.L2
end PySem.Spec.L2
namespace Cz
open PySem PySem.Spec PyProof.Rows L2
def zn0:Sl->Sl
 | .bo is d=>if noL d=true then .bo is d else .no
 | .tb=>.no
 | s=>s
def R7 (ρ:Env):Env:=ρ.map zn0
theorem z3o {ρ:Env} {i:Nat} {d:D} (h:(R7 ρ)[i]? = some (.ow d)):ρ[i]? = some (.ow d):=by
 unfold R7 at h
 rw[List.getElem?_map] at h
 cases e:ρ[i]? with
 | none=>rw[e] at h; cases h
 | some s=>
  rw[e] at h
  cases s with
  | no=>simp[zn0] at h
  | tb=>simp[zn0] at h
  | ow d'=>simp[zn0] at h; subst h; rfl
  | bo is d'=>simp only[zn0,Option.map_some] at h; split at h <;> simp at h
theorem z2U {ρ:Env} {i:Nat} {is:List Nat} {d:D} (h:(R7 ρ)[i]? = some (.bo is d)):ρ[i]? = some (.bo is d)/\noL d=true:=by
 unfold R7 at h
 rw[List.getElem?_map] at h
 cases e:ρ[i]? with
 | none=>rw[e] at h; cases h
 | some s=>
  rw[e] at h
  cases s with
  | no=>simp[zn0] at h
  | tb=>simp[zn0] at h
  | ow d'=>simp[zn0] at h
  | bo is' d'=>
   simp only[zn0,Option.map_some] at h
   split at h
   ·rename_i hn; simp at h; obtain ⟨rfl,rfl⟩:=h; exact ⟨rfl,hn⟩
   ·simp at h
theorem z1J {ρ:Env} (h:W3 (R7 ρ)=true):False:=by
 obtain ⟨i,e⟩:=zc8.mp h
 unfold R7 at e
 rw[List.getElem?_map] at e
 cases e2:ρ[i]? with
 | none=>rw[e2] at e; cases e
 | some s=>
  rw[e2] at e
  cases s with
  | bo is d=>simp only[zn0,Option.map_some] at e; split at e <;> simp at e
  | _=>simp[zn0] at e
theorem z2E {ρ:Env} {i:Nat} {d:D} (h:ρ[i]? = some (.ow d)):(R7 ρ)[i]? = some (.ow d):=by
 unfold R7; rw[List.getElem?_map,h]; rfl
section
variable {K:PySem.W.Frag} {A:Addr->Prop} {H0 H:Hp} {F:Nat->List Addr} {G:List (D×V)} {ρ:Env} {σ:L2.St}
open Classical in
noncomputable def lkH (F:Nat->List Addr) (H:Hp):Hp:=fun b=>if ∃ j,b∈F j then none else H b
theorem z1M {F:Nat->List Addr} {H:Hp} {b:Addr} {j:Nat} (h:b∈F j):lkH F H b=none:=by unfold lkH; rw[if_pos ⟨j,h⟩]
theorem J6 {F:Nat->List Addr} {H:Hp} {b:Addr} (h:∀ j,b∉F j):lkH F H b=H b:=by unfold lkH; rw[if_neg fun ⟨j,hj⟩=>h j hj]
theorem z2O {F:Nat->List Addr} {H:Hp} {b:Addr} {o:HO} (h:lkH F H b=some o):H b=some o/\∀ j,b∉F j:=by
 by_cases c:∃ j,b∈F j
 ·obtain ⟨j,hj⟩:=c; rw[z1M hj] at h; cases h
 ·have c:∀ j,b∉F j:=fun j hj=>c ⟨j,hj⟩
  rw[J6 c] at h; exact ⟨h,c⟩
end
mutual
def X7:D->Option D
 | .lst ds=>(sealDs ds).map .scr
 | .tup ds=>(sealDs ds).map .tup
 | .non=>some .non
 | .bl b=>some (.bl b)
 | .int i=>some (.int i)
 | .str x=>some (.str x)
 | _=>none
def sealDs:List D->Option (List D)
 | []=>some []
 | d::ds=>(X7 d).bind fun d'=>(sealDs ds).map fun ds'=>d'::ds'
end
def z0V (a:SE):SE:=fun ρ=>(a ρ).bind fun x=>match x.1 with
 | .own=>R.of ((X7 x.2).map fun d=>(Kd.own,d))
 | .bor _=>.st
section
variable {K:PySem.W.Frag} {H H':Hp}
mutual
theorem zN6 (ht:∀ b o,H b=some o->IsT o->H' b=some o):∀ {d d':D} {v:V} {f:List Addr},Rep K H d v f->X7 d=some d'->(∀ a∈f,∀ u,H a=some u->∃ o,H' a=some (.frz o u))->Rep K H' d' v []
 | _,_,_,_,.non,e,_=>by simp only[X7] at e; cases e; exact .non
 | _,_,_,_,.bl b,e,_=>by simp only[X7] at e; cases e; exact .bl b
 | _,_,_,_,.int i,e,_=>by simp only[X7] at e; cases e; exact .int i
 | _,_,_,_,.str x,e,_=>by simp only[X7] at e; cases e; exact .str x
 | .tup ds,_,_,_,.tup q r,e,hz=>by
  simp only[X7] at e
  cases e2:sealDs ds with
  | none=>rw[e2] at e; cases e
  | some ds'=>
   rw[e2] at e
   cases e
   exact .tup (ht _ _ q trivial) (sealDs_rep ht r e2 hz)
 | .lst ds,_,_,_,.lst q r,e,hz=>by
  simp only[X7] at e
  cases e2:sealDs ds with
  | none=>rw[e2] at e; cases e
  | some ds'=>
   rw[e2] at e
   cases e
   obtain ⟨o,ho⟩:=hz _ List.mem_cons_self _ q
   exact .scr (.inr ⟨o,ho⟩) (sealDs_rep ht r e2 fun a ha=>hz a (List.mem_cons_of_mem _ ha))
 | _,_,_,_,.scr q r,e,_=>by simp only[X7] at e; cases e
 | _,_,_,_,.dic q n r,e,_=>by simp only[X7] at e; cases e
 | _,_,_,_,.fn q,e,_=>by simp only[X7] at e; cases e
 | _,_,_,_,.obj q c n r t,e,_=>by simp only[X7] at e; cases e
 | _,_,_,_,.dtk q n r,e,_=>by simp only[X7] at e; cases e
 | _,_,_,_,.sob q c n r,e,_=>by simp only[X7] at e; cases e
 | _,_,_,_,.fdc q n r,e,_=>by simp only[X7] at e; cases e
 | _,_,_,_,.exv q r,e,_=>by simp only[X7] at e; cases e
 | _,_,_,_,.nod q,e,_=>by simp only[X7] at e; cases e
 | _,_,_,_,.tg r t,e,_=>by simp only[X7] at e; cases e
 | _,_,_,_,.hol t,e,_=>by simp only[X7] at e; cases e
 | _,_,_,_,.dnk _ _ _ _,e,_=>by simp only[X7] at e; cases e
theorem sealDs_rep (ht:∀ b o,H b=some o->IsT o->H' b=some o):∀ {ds ds':List D} {vs:List V} {f:List Addr},Reps K H ds vs f->sealDs ds=some ds'->(∀ a∈f,∀ u,H a=some u->∃ o,H' a=some (.frz o u))->Reps K H' ds' vs []
 | _,_,_,_,.nil,e,_=>by simp only[sealDs] at e; cases e; exact .nil
 | d::ds,_,_,_,.cons r t,e,hz=>by
  simp only[sealDs] at e
  cases e1:X7 d with
  | none=>rw[e1] at e; cases e
  | some d'=>
   rw[e1] at e
   cases e2:sealDs ds with
   | none=>rw[e2] at e; cases e
   | some ds'=>
    rw[e2] at e
    cases e
    exact .cons (f:=[]) (g:=[]) (zN6 ht r e1 fun a ha=>hz a (List.mem_append_left _ ha)) (sealDs_rep ht t e2 fun a ha=>hz a (List.mem_append_right _ ha))
end
end
section
variable {X:Cx} {CA:String->Addr} {W:WX} {e:Expr} {a:SE}
theorem z8V (h:PE X e (tE X.K CA W a)):PE X e (tE X.K CA W (z0V a)):=by
 refine peI (z8d h) fun σ H Q ⟨A,H0,F,G,ρ,sr,h⟩=>?_
 refine ⟨A,H0,F,G,ρ,sr,i7.bind h fun ⟨k,d⟩ h1=>?_⟩
 intro v H' f s' r kk
 cases k with
 | bor is=>exact h1.elim
 | own=>
  have h1:i7 X.K CA W σ H (R.of ((X7 d).map fun d=>(Kd.own,d))) fun kd=>S8 X.K A H0 F H kd Q:=h1
  cases e2:X7 d with
  | none=>rw[e2] at h1; exact h1.elim
  | some d'=>
   rw[e2] at h1
   have m:∀ b∈f,H b=none/\Mu (H' b):=kk.2
   refine ⟨f,fun a ha=>(m a ha).2.m,fun os=>?_⟩
   have ht:∀ b o,H' b=some o->IsT o->zt7 H' f os b=some o:=fun b ob e t=>by
    have:b∉f:=fun z=>by
     have:=(m b z).2.m
     rw[e] at this
     cases ob <;> first | exact t.elim | exact this.elim
    rw[E3 this]; exact e
   have sF:Same H (zt7 H' f os):=fun b ob e=>by
    have:b∉f:=fun z=>by rw[(m b z).1] at e; cases e
    rw[E3 this]; exact s' b ob e
   exact h1 v _ [] sF (zN6 ht r e2 fun b hb u eu=>⟨_,z0a hb eu⟩) (KOk.nil _)
end
@[simp] theorem yo8 {a:SE} {ρ:Env}:z0V a ρ=(a ρ).bind fun x=>match x.1 with | .own=>R.of ((X7 x.2).map fun d=>(Kd.own,d)) | .bor _=>.st:=id rfl
section
variable {K:PySem.W.Frag} {A:Addr->Prop} {H0 H:Hp} {F:Nat->List Addr} {G:List (D×V)} {ρ:Env} {σ:L2.St}
theorem SR.mutM {j m0:Nat} {a:Addr} {o:HO} {d d0 d':D} {v:V} {f':List Addr} (sr:SR K A H0 F G ρ σ H) (ha:a∈F j) (hm:zE5 (some o)) (hjm:j≠m0) (hs:ρ[j]? = some (.ow d)) (hs0:ρ[m0]? = some (.ow d0)) (hv:σ[j]? = some (some v))
  (r:Rep K (upd H a o) d' v f') (nf:f'.Nodup) (hf:∀ b∈f',b∈F j\/b∈F m0) (hmu:∀ b∈f',Mu ((upd H a o) b)):SR K A H0 (w9 (w9 F m0 []) j f') G (((inv j (inv m0 ρ)).set m0 .no).set j (.ow d')) σ (upd H a o):=by
 have mua:=((sr.own j).2 a ha).2
 have hj:j < ρ.length:=(List.getElem?_eq_some_iff.mp hs).1
 have hm0:m0 < ρ.length:=(List.getElem?_eq_some_iff.mp hs0).1
 have Fj:w9 (w9 F m0 []) j f' j=f':=x5
 have Fm:w9 (w9 F m0 []) j f' m0=[]:=by rw[y5 (Ne.symm hjm),x5]
 have Fo:∀ k,k≠j->k≠m0->w9 (w9 F m0 []) j f' k=F k:=fun k h1 h2=>by rw[y5 h1,y5 h2]
 have src:∀ k b,b∈w9 (w9 F m0 []) j f' k->(k=j/\b∈f')\/(k≠j/\k≠m0/\b∈F k):=fun k b h=>by
  by_cases h1:k=j
  ·subst h1; rw[Fj] at h; exact .inl ⟨rfl,h⟩
  ·by_cases h2:k=m0
   ·subst h2; rw[Fm] at h; cases h
   ·rw[Fo k h1 h2] at h; exact .inr ⟨h1,h2,h⟩
 have il:(inv j (inv m0 ρ)).length=ρ.length:=by rw[Q8,Q8]
 have at':∀ k,(((inv j (inv m0 ρ)).set m0 .no).set j (.ow d'))[k]? = if k=j then some (.ow d') else if k=m0 then some .no else (inv j (inv m0 ρ))[k]?:=fun k=>by
  by_cases h1:k=j
  ·subst h1; rw[if_pos rfl,List.getElem?_set_self (by rw[List.length_set,il]; exact hj)]
  ·rw[if_neg h1,List.getElem?_set_ne (Ne.symm h1)]
   by_cases h2:k=m0
   ·subst h2; rw[if_pos rfl,List.getElem?_set_self (by rw[il]; exact hm0)]
   ·rw[if_neg h2,List.getElem?_set_ne (Ne.symm h2)]
 have nt:∀ b ob,H b=some ob->IsT ob->(upd H a o) b=some ob:=fun b ob e t=>by
  by_cases h:b=a
  ·subst h
   rw[e] at mua
   have:=mua.m
   cases ob <;> first | exact t.elim | exact this.elim
  ·rw[upd_ne h]; exact e
 have kp:∀ {f:List Addr},a∉f->∀ b∈f,∀ ob,H b=some ob->(upd H a o) b=some ob:=fun {f} hf b hb ob e=>by
  have hne:b≠a:=fun z=>hf (by rw[<- z]; exact hb)
  rw[upd_ne hne]; exact e
 have mu:∀ {b:Addr},Mu (H b)->Mu ((upd H a o) b):=fun {b} h=>by
  by_cases e:b=a
  ·subst e; exact ⟨by rw[upd_same]; exact hm⟩
  ·rw[upd_ne e]; exact h
 have sh:∀ {b:Addr},Sh A H0 F b->b≠a/\Sh A H0 (w9 (w9 F m0 []) j f') b:=fun {b} h=>by
  refine ⟨fun z=>h.2 j (z ▸ ha),h.1,fun m hm'=>?_⟩
  rcases src m b hm' with ⟨_,q⟩ | ⟨_,_,q⟩
  ·exact (hf b q).elim (h.2 j) (h.2 m0)
  ·exact h.2 m q
 refine ⟨by rw[List.length_set,List.length_set,il]; exact sr.len,fun b ob e=>?_,fun i=>?_,fun i m b hi hm'=>?_,fun i d2 e=>?_,fun i is d2 e=>?_,fun p hp=>?_,fun i hi hn=>?_,V8 (V8 sr.fin),sr.tbS (fun z=>zm6 (zm6 (R4 rfl (R4 rfl z)))) fun b o' e t=>by
  have hb:b≠a:=fun z=>by subst z; exact sr.teF ha e t
  rw[upd_ne hb]; exact e⟩
 ·have hb:b≠a:=fun z=>by subst z; rw[((sr.own j).2 b ha).1] at e; cases e
  rw[upd_ne hb]; exact sr.fr b ob e
 ·by_cases e:i=j
  ·subst e
   rw[Fj]
   exact ⟨nf,fun b hb=>⟨(hf b hb).elim (fun q=>((sr.own i).2 b q).1) fun q=>((sr.own m0).2 b q).1,hmu b hb⟩⟩
  ·by_cases e2:i=m0
   ·subst e2; rw[Fm]; exact ⟨List.nodup_nil,fun a ha=>nomatch ha⟩
   ·rw[Fo i e e2]
    exact ⟨(sr.own i).1,fun b hb=>⟨((sr.own i).2 b hb).1,mu ((sr.own i).2 b hb).2⟩⟩
 ·rcases src i b hi with ⟨e1,q1⟩ | ⟨e1,e1',q1⟩ <;> rcases src m b hm' with ⟨e2,q2⟩ | ⟨e2,e2',q2⟩
  ·rw[e1,e2]
  ·rcases hf b q1 with q | q
   ·exact absurd (sr.dis m j b q2 q) e2
   ·exact absurd (sr.dis m m0 b q2 q) e2'
  ·rcases hf b q2 with q | q
   ·exact absurd (sr.dis i j b q1 q) e1
   ·exact absurd (sr.dis i m0 b q1 q) e1'
  ·exact sr.dis i m b q1 q2
 ·rw[at'] at e
  by_cases h:i=j
  ·subst h
   rw[if_pos rfl] at e; cases e
   exact ⟨v,hv,by rw[Fj]; exact r⟩
  ·rw[if_neg h] at e
   by_cases h2:i=m0
   ·rw[if_pos h2] at e; cases e
   ·rw[if_neg h2] at e
    obtain ⟨v2,h1,h3⟩:=sr.slo i d2 (zf6.mp (zf6.mp e))
    rw[Fo i h h2]
    exact ⟨v2,h1,h3.frame nt (kp fun z=>h (sr.dis i j a z ha))⟩
 ·rw[at'] at e
  by_cases h:i=j
  ·rw[if_pos h] at e; cases e
  ·rw[if_neg h] at e
   by_cases h2:i=m0
   ·rw[if_pos h2] at e; cases e
   ·rw[if_neg h2] at e
    obtain ⟨e1,hji⟩:=zB3 e
    obtain ⟨e2,hmi⟩:=zB3 e1
    obtain ⟨v2,g,h1,h3,h4⟩:=sr.slb i is d2 e2
    have key:∀ b∈g,b≠a/\((∃ m∈is,b∈w9 (w9 F m0 []) j f' m)\/Sh A H0 (w9 (w9 F m0 []) j f') b):=fun b hb=>by
     rcases h4 b hb with ⟨m,hm',q⟩ | q
     ·have hmj:m≠j:=fun z=>hji (z ▸ hm')
      have hmm:m≠m0:=fun z=>hmi (z ▸ hm')
      exact ⟨fun z=>hmj (sr.dis m j a (z ▸ q) ha),.inl ⟨m,hm',by rw[Fo m hmj hmm]; exact q⟩⟩
     ·obtain ⟨q1,q2⟩:=sh q
      exact ⟨q1,.inr q2⟩
    exact ⟨v2,g,h1,h3.frame nt (kp fun z=>(key a z).1 rfl),fun b hb=>(key b hb).2⟩
 ·obtain ⟨g,h1,h2⟩:=sr.gho p hp
  exact ⟨g,h1.frame nt (kp fun z=>(sh (h2 a z)).1 rfl),fun b hb=>(sh (h2 b hb)).2⟩
 ·rw[at']
  by_cases h:i=j
  ·exact ⟨d',by rw[if_pos h]⟩
  ·rw[if_neg h]
   by_cases h2:i=m0
   ·subst h2; rw[Fm] at hn; exact absurd rfl hn
   ·rw[if_neg h2]
    rw[Fo i h h2] at hn
    have hi:i < ρ.length:=by simpa [il] using hi
    obtain ⟨d2,e⟩:=sr.emp i hi hn
    exact ⟨d2,zf6.mpr (zf6.mpr e)⟩
end
def zM0 (i j:Nat):SS:=fun ρ=>match ρ[i]?,ρ[j]? with
 | some (.ow (.lst ds)),some (.ow d)=>if i≠j/\ds.length < LIM then .nx (((inv i (inv j ρ)).set j .no).set i (.ow (.lst (ds++[d])))) else .st
 | _,_=>.st
section
variable {X:Cx} {CA:String->Addr} {W:WX} {pos p1 p2 p3 p4:Pos}
theorem z7U (i j:Nat) {x y:Str} (hi:X.N[i]? = some x:=by rfl) (hj:X.N[j]? = some y:=by rfl) (hv:Vis X.env.scope x:=by first | exact Or.inl rfl | exact Or.inr (Or.inl rfl) | exact Or.inr (Or.inr rfl)) (hd:(x == ("__debug__" : Str))=false:=by decide)
  (hcd:(x == ("__classdict__" : Str))=false:=by decide) (hvy:Vis X.env.scope y:=by first | exact Or.inl rfl | exact Or.inr (Or.inl rfl) | exact Or.inr (Or.inr rfl)) (hdy:(y == ("__debug__" : Str))=false:=by decide) (hcdy:(y == ("__classdict__" : Str))=false:=by decide)
  (hst:starEach [.Name y p4] X.env=[(false,eval (.Name y p4) X.env)]:=by rfl) (hs:swapsWith (.Call (.Attribute (.Name x p1) "append" p2) [.Name y p4] [] p3) none pos.line X.env=pure false:=by rfl)
  (hline:(p2.endLine == p3.line)=true:=by rfl) :
  PS X (.Expr (.Call (.Attribute (.Name x p1) "append" p2) [.Name y p4] [] p3) pos) (tS X.K CA W (zM0 i j)):=by
 refine psI (ps_expr (pe_bm PySem.F.plainAttrs_list PySem.F.slot_list_append PySem.F.type_list_append mt_append (pe_var hi hv hd hcd) (pa_cons (pe_var hj hvy hdy hcdy) pa_nil hst) rfl (by rw[hst]; rfl) hline hst rfl) hs) fun D σ H ⟨A,H0,F,G,ρ,sr,h⟩=>?_
 have h:n8 X.K CA W A H0 G D (zM0 i j ρ):=h
 unfold zM0 at h
 split at h
 ·rename_i ds d hsl hsj
  by_cases hc:i≠j/\ds.length < LIM
  ·simp only[if_pos hc] at h
   obtain ⟨v,hv,r0⟩:=sr.slo i _ hsl
   obtain ⟨y,hy,ry⟩:=sr.slo j _ hsj
   obtain ⟨Fi,hFi⟩:∃ f,F i=f:=⟨_,rfl⟩
   rw[hFi] at r0
   cases r0 with
   | @lst a vs _ f0 hl q0=>
    refine ⟨_,hv,.inl ⟨rfl,_,.of hl⟩,?_⟩
    refine ⟨y,hy,a,vs,y,rfl,rfl,hl,by rw[<- O4,<- q0.length]; exact hc.2,?_⟩
    have own:=sr.own i
    have ownj:=sr.own j
    rw[hFi] at own
    have haF:a∈F i:=by rw[hFi]; exact List.mem_cons_self
    have nd:=List.nodup_cons.mp own.1
    have ne1:∀ b∈F j,b≠a:=fun b hb z=>hc.1 (sr.dis i j a haF (z ▸ hb))
    have mua:=(own.2 a List.mem_cons_self).2
    have nt:∀ b ob,H b=some ob->IsT ob->(upd H a (.lst (vs++[y]))) b=some ob:=fun b ob e t=>by
     by_cases h:b=a
     ·subst h; rw[hl] at e; cases e; exact t.elim
     ·rw[upd_ne h]; exact e
    have kp:∀ {f:List Addr},(∀ b∈f,b≠a)->∀ b∈f,∀ ob,H b=some ob->(upd H a (.lst (vs++[y]))) b=some ob:=fun {f} hf b hb ob e=>by rw[upd_ne (hf b hb)]; exact e
    have rs:Reps X.K H [d] [y] (F j):=by
     have:=Reps.cons ry (Reps.nil (K:=X.K) (H:=H))
     rw[List.append_nil] at this
     exact this
    have r':Rep X.K (upd H a (.lst (vs++[y]))) (.lst (ds++[d])) (.ref a) (a::(f0++F j)):=
     .lst upd_same ((q0.frame nt (kp fun b hb z=>nd.1 (z ▸ hb))).app (rs.frame nt (kp ne1)))
    refine h σ _ _ (sr.mutM haF trivial hc.1 hsl hsj hv r' ?_ (fun b hb=>?_) fun b hb=>?_)
    ·refine List.nodup_cons.mpr ⟨fun z=>?_,List.nodup_append.mpr ⟨nd.2,ownj.1,fun b hb c hc' e=>?_⟩⟩
     ·rcases List.mem_append.mp z with z | z
      ·exact nd.1 z
      ·exact ne1 a z rfl
     ·subst e; exact hc.1 (sr.dis i j b (by rw[hFi]; exact List.mem_cons_of_mem _ hb) hc')
    ·rw[hFi]
     rcases List.mem_cons.mp hb with e | hb
     ·subst e; exact .inl List.mem_cons_self
     ·rcases List.mem_append.mp hb with hb | hb
      ·exact .inl (List.mem_cons_of_mem _ hb)
      ·exact .inr hb
    ·by_cases e:b=a
     ·subst e; exact ⟨by rw[upd_same]; trivial⟩
     ·rw[upd_ne e]
      rcases List.mem_cons.mp hb with z | hb
      ·exact absurd z e
      ·rcases List.mem_append.mp hb with hb | hb
       ·exact (own.2 b (List.mem_cons_of_mem _ hb)).2
       ·exact (ownj.2 b hb).2
  ·simp only[if_neg hc] at h
   exact h.elim
 ·exact h.elim
end
@[simp] theorem ym5 {i j:Nat} {ρ:Env}:zM0 i j ρ=match ρ[i]?,ρ[j]? with
 | some (.ow (.lst ds)),some (.ow d)=>if i≠j/\ds.length < LIM then .nx (((inv i (inv j ρ)).set j .no).set i (.ow (.lst (ds++[d])))) else .st
 | _,_=>.st:=id rfl
def OkO (i:Nat) (ds:List D) (L:Nat->Out) (o:Out):Prop:=match o with
 | .nx ρ'=>∃ ρ1:Env,i < ρ1.length/\(∀ t,L t=.nx (ρ1.set i (.bo [] (.tg t (.lst ds)))))/\ρ'=(R7 ρ1).set i (.ow (.lst ds))
 | .ex c ρ'=>∃ ρ1:Env,i < ρ1.length/\(∀ t,L t=.ex c (ρ1.set i (.bo [] (.tg t (.lst ds)))))/\ρ'=(R7 ρ1).set i (.ow (.lst ds))
 | .rt k d=>noL d=true/\∀ t,L t=.rt k d
 | _=>False
theorem zP6 (ρ:Env) (i:Nat) (s u:Sl):(R7 (ρ.set i s)).set i u=(R7 ρ).set i u:=by
 unfold R7
 rw[List.map_set,List.set_set]
theorem OkO.uniq {i:Nat} {ds:List D} {L:Nat->Out} {o o':Out} (h:OkO i ds L o) (h':OkO i ds L o'):o=o':=by
 have key:∀ {r1 r2:Env},r1.set i (.bo [] (.tg 0 (.lst ds)))=r2.set i (.bo [] (.tg 0 (.lst ds)))->(R7 r1).set i (.ow (.lst ds))=(R7 r2).set i (.ow (.lst ds)):=fun {r1 r2} e=>by
  rw[<- zP6 r1 i (.bo [] (.tg 0 (.lst ds))),e,zP6]
 cases o <;> cases o' <;> simp only[OkO] at h h'
 ·obtain ⟨r1,_,e1,rfl⟩:=h
  obtain ⟨r2,_,e2,rfl⟩:=h'
  have:=(e1 0).symm.trans (e2 0)
  rw[key (Out.nx.inj this)]
 ·obtain ⟨r1,_,e1,rfl⟩:=h
  have:=(e1 0).symm.trans (h'.2 0); cases this
 ·obtain ⟨r1,_,e1,rfl⟩:=h
  obtain ⟨r2,_,e2,rfl⟩:=h'
  have:=(e1 0).symm.trans (e2 0); cases this
 ·obtain ⟨r1,_,e1,rfl⟩:=h'
  have:=(e1 0).symm.trans (h.2 0); cases this
 ·have:=(h.2 0).symm.trans (h'.2 0)
  cases this; rfl
 ·obtain ⟨r2,_,e2,rfl⟩:=h'
  have:=(h.2 0).symm.trans (e2 0); cases this
 ·obtain ⟨r1,_,e1,rfl⟩:=h
  obtain ⟨r2,_,e2,rfl⟩:=h'
  have:=(e1 0).symm.trans (e2 0); cases this
 ·obtain ⟨r1,_,e1,rfl⟩:=h
  have:=(h'.2 0).symm.trans (e1 0); cases this
 ·obtain ⟨r1,_,e1,rfl⟩:=h
  obtain ⟨r2,_,e2,rfl⟩:=h'
  have:=(e1 0).symm.trans (e2 0)
  obtain ⟨a,b⟩:=Out.ex.inj this
  subst a
  rw[key b]
section
variable {K:PySem.W.Frag} {A:Addr->Prop} {H0 H:Hp} {F:Nat->List Addr} {G:List (D×V)} {ρ:Env} {σ:L2.St}
theorem SR.baseO (sr:SR K A H0 F G ρ σ H) {i:Nat} {F2:Nat->List Addr} {G2:List (D×V)} {ρ2:Env} {σ2:L2.St} {H2:Hp} (s2:SR K (fun _=>True) (lkH (w9 F i []) H) F2 G2 ρ2 σ2 H2):Same H0 H2:=fun b o e=>by
 have hb:=sr.fr b o e
 refine s2.fr b o ?_
 rw[J6 fun j hj=>?_]
 ·exact hb
 ·by_cases e2:j=i
  ·subst e2; rw[x5] at hj; cases hj
  ·rw[y5 e2] at hj
   rw[((sr.own j).2 b hj).1] at e; cases e
theorem SR.unlockO (sr:SR K A H0 F G ρ σ H) {i:Nat} {ds:List D} {a:Addr} (r:Rep K H (.lst ds) (.ref a) (F i)) {F2:Nat->List Addr} {G2:List (D×V)} {ρ1:Env} {σ2:L2.St} {H2:Hp} (hil:i < ρ1.length)
  (s2:SR K (fun _=>True) (lkH (w9 F i []) H) F2 G2 (ρ1.set i (.bo [] (.tg (a + 1) (.lst ds)))) σ2 H2):SR K A H0 (w9 F2 i (F i)) G ((R7 ρ1).set i (.ow (.lst ds))) σ2 H2:=by
 have out:∀ b∈F i,∀ j,b∉w9 F i [] j:=fun b hb j hj=>by
  by_cases e:j=i
  ·subst e; rw[x5] at hj; cases hj
  ·rw[y5 e] at hj; exact e (sr.dis j i b hj hb)
 have base:∀ b o,H b=some o->(∀ j,j≠i->b∉F j)->H2 b=some o:=fun b o e hj=>s2.fr b o (by
  rw[J6 fun j hj'=>?_]
  ·exact e
  ·by_cases e2:j=i
   ·subst e2; rw[x5] at hj'; cases hj'
   ·rw[y5 e2] at hj'; exact hj j e2 hj')
 have inb:∀ k b,b∈F2 k->H b=none\/∃ j,j≠i/\b∈F j:=fun k b hb=>by
  have n:=((s2.own k).2 b hb).1
  by_cases c:∃ j,b∈w9 F i [] j
  ·obtain ⟨j,hj⟩:=c
   by_cases e2:j=i
   ·subst e2; rw[x5] at hj; cases hj
   ·rw[y5 e2] at hj; exact .inr ⟨j,e2,hj⟩
  ·have c:∀ j,b∉w9 F i [] j:=fun j hj=>c ⟨j,hj⟩
   rw[J6 c] at n; exact .inl n
 have iF:∀ b∈F i,∀ k,b∉F2 k:=fun b hb k hk=>by
  rcases inb k b hk with n | ⟨j,hj,q⟩
  ·exact r.trk b hb n
  ·exact hj (sr.dis j i b q hb)
 have tupb:∀ b o,H b=some o->IsT o->H2 b=some o:=fun b o e t=>base b o e fun j _ hj=>by
  have m:=((sr.own j).2 b hj).2.m
  rw[e] at m
  cases o <;> first | exact t.elim | exact m.elim
 have ri:Rep K H2 (.lst ds) (.ref a) (F i):=r.frame tupb fun b hb o e=>base b o e fun j hj q=>hj (sr.dis j i b q hb)
 have vi:σ2[i]? = some (some (.ref a)):=by
  obtain ⟨v,f,h1,h2,_⟩:=s2.slb i [] (.tg (a + 1) (.lst ds)) (by rw[List.getElem?_set_self hil])
  obtain ⟨_,b,rfl,e⟩:=h2.tgI
  have:b=a:=(Nat.succ.inj e).symm
  subst this; exact h1
 refine ⟨?_,sr.baseO s2,fun k=>?_,fun k m b hk hm=>?_,fun k d e=>?_,fun k is d e=>?_,fun p hp=>?_,fun k hk hn=>?_,V8 s2.fin,fun z=>(z1J (R4 rfl z)).elim⟩
 ·have:=s2.len
  rw[List.length_set] at this ⊢
  simpa [R7] using this
 ·by_cases e:k=i
  ·subst e
   rw[x5]
   refine ⟨(sr.own k).1,fun b hb=>⟨((sr.own k).2 b hb).1,?_⟩⟩
   have m:=((sr.own k).2 b hb).2
   cases eb:H b with
   | none=>exact absurd eb (r.trk b hb)
   | some o=>
    have e2:=base b o eb fun j hj q=>hj (sr.dis j k b q hb)
    rw[eb] at m
    rw[e2]; exact m
  ·rw[y5 e]
   refine ⟨(s2.own k).1,fun b hb=>⟨?_,((s2.own k).2 b hb).2⟩⟩
   rcases inb k b hb with n | ⟨j,_,q⟩
   ·exact sr.fr.free n
   ·exact ((sr.own j).2 b q).1
 ·by_cases e:k=i
  ·by_cases e':m=i
   ·rw[e,e']
   ·rw[e,x5] at hk; rw[y5 e'] at hm
    exact absurd hm (iF b hk m)
  ·by_cases e':m=i
   ·rw[e',x5] at hm; rw[y5 e] at hk
    exact absurd hk (iF b hm k)
   ·rw[y5 e] at hk; rw[y5 e'] at hm
    exact s2.dis k m b hk hm
 ·by_cases h:k=i
  ·subst h
   rw[List.getElem?_set_self (by simpa [R7] using hil)] at e; cases e
   exact ⟨.ref a,vi,by rw[x5]; exact ri⟩
  ·rw[List.getElem?_set_ne (Ne.symm h)] at e
   rw[y5 h]
   exact s2.slo k d (by rw[List.getElem?_set_ne (Ne.symm h)]; exact z3o e)
 ·by_cases h:k=i
  ·subst h
   rw[List.getElem?_set_self (by simpa [R7] using hil)] at e; cases e
  ·rw[List.getElem?_set_ne (Ne.symm h)] at e
   obtain ⟨e1,e3⟩:=z2U e
   obtain ⟨v,f,h1,h2,h3⟩:=s2.slb k is d (by rw[List.getElem?_set_ne (Ne.symm h)]; exact e1)
   have:f=[]:=h2.noL e3
   subst this
   exact ⟨v,[],h1,h2,fun x hx=>nomatch hx⟩
 ·obtain ⟨f,rp,sh⟩:=sr.gho p hp
  refine ⟨f,rp.frame tupb fun x hx o e=>base x o e fun j _=>(sh x hx).2 j,fun x hx=>⟨(sh x hx).1,fun j hj=>?_⟩⟩
  by_cases e:j=i
  ·subst e; rw[x5] at hj; exact (sh x hx).2 j hj
  ·rw[y5 e] at hj
   rcases inb j x hj with n | ⟨m,_,q⟩
   ·exact rp.trk x hx n
   ·exact (sh x hx).2 m q
 ·by_cases h:k=i
  ·subst h; exact ⟨.lst ds,by rw[List.getElem?_set_self (by simpa [R7] using hil)]⟩
  ·rw[y5 h] at hn
   obtain ⟨d,e⟩:=s2.emp k (by simpa [R7] using hk) hn
   rw[List.getElem?_set_ne (Ne.symm h)] at e
   exact ⟨d,by rw[List.getElem?_set_ne (Ne.symm h)]; exact z2E e⟩
theorem OkO.out {CA:String->Addr} {W:WX} {De:Ends} {i:Nat} {ds:List D} {a:Addr} {L:Nat->Out} {o:Out} (ok:OkO i ds L o) (sr:SR K A H0 F G ρ σ H) (r:Rep K H (.lst ds) (.ref a) (F i)) (h:n8 K CA W A H0 G De o) :
  n8 K CA W (fun _=>True) (lkH (w9 F i []) H) [] De (L (a + 1)):=by
 cases o with
 | nx ρ'=>
  obtain ⟨ρ1,hl,e,rfl⟩:=ok
  rw[e]
  exact fun σ2 H2 F2 s2=>h σ2 H2 _ (sr.unlockO r hl s2)
 | ex c ρ'=>
  obtain ⟨ρ1,hl,e,rfl⟩:=ok
  rw[e]
  exact fun σ2 H2 F2 s2=>h σ2 H2 _ (sr.unlockO r hl s2)
 | rt k d=>
  obtain ⟨hn,e⟩:=ok
  rw[e]
  intro v H2 f sm rp ro
  have:f=[]:=rp.noL hn
  subst this
  refine h v H2 [] (fun b o eb=>?_) rp ?_
  ·have hb:=sr.fr b o eb
   refine sm b o ?_
   rw[J6 fun j hj=>?_]
   ·exact hb
   ·by_cases e2:j=i
    ·subst e2; rw[x5] at hj; cases hj
    ·rw[y5 e2] at hj
     rw[((sr.own j).2 b hj).1] at eb; cases eb
  ·cases k with
   | own=>exact ⟨List.nodup_nil,fun a ha=>nomatch ha⟩
   | bor is=>exact fun a ha=>nomatch ha
 | bk _=>exact ok.elim
 | ct _=>exact ok.elim
 | st=>exact ok.elim
 | ri _ _ _=>exact ok.elim
end
def zw0 (kvs:List (Key×D)) (k:Key):List (Key×D):=kvs.filter fun kv=>decide (kv.1≠k)
section
variable {K:PySem.W.Frag} {H Hb:Hp}
theorem RepK.drop:∀ {kds:List (Key×D)} {kvs:List (Key×V)} {f:List Addr} (k:Key),RepK K H kds kvs f->∃ g,RepK K H (zw0 kds k) (dropK kvs k) g/\(∀ b∈g,b∈f)/\(f.Nodup->g.Nodup)
 | _,_,_,_,.nil=>⟨[],.nil,by simp,by simp⟩
 | _,_,_,k,.cons (k:=q) (f:=f) (ds:=ds) (vs:=vs) (d:=d) (v:=v) r t=>by
  obtain ⟨g,h1,h2,h3⟩:=RepK.drop k t
  by_cases e:q=k
  ·refine ⟨g,?_,fun b hb=>List.mem_append_right _ (h2 b hb),fun n=>h3 (List.nodup_append.mp n).2.1⟩
   have e1:zw0 ((q,d)::ds) k=zw0 ds k:=by unfold zw0; rw[List.filter_cons_of_neg (by simp[e])]
   have e2:dropK ((q,v)::vs) k=dropK vs k:=by unfold dropK; rw[List.filter_cons_of_neg (by simp[e])]
   rw[e1,e2]; exact h1
  ·refine ⟨f++g,?_,fun b hb=>?_,fun n=>?_⟩
   ·have e1:zw0 ((q,d)::ds) k=(q,d)::zw0 ds k:=by unfold zw0; rw[List.filter_cons_of_pos (by simp[e])]
    have e2:dropK ((q,v)::vs) k=(q,v)::dropK vs k:=by unfold dropK; rw[List.filter_cons_of_pos (by simp[e])]
    rw[e1,e2]; exact .cons r h1
   ·rcases List.mem_append.mp hb with z | z
    ·exact List.mem_append_left _ z
    ·exact List.mem_append_right _ (h2 b z)
   ·obtain ⟨n1,n2,n3⟩:=List.nodup_append.mp n
    exact List.nodup_append.mpr ⟨n1,h3 n2,fun a ha b hb=>n3 a ha b (h2 b hb)⟩
end
inductive OL where
 | ok (ρ:Env) (xs:List KD) | ex (c:Ec) (ρ:Env) | st
abbrev SAM:=Env->OL
def AOk (K:PySem.W.Frag) (CA:String->Addr) (W:WX) (A:Addr->Prop) (H0:Hp) (F:Nat->List Addr) (n:Nat) (G:List (D×V)) (σ:L2.St) (H:Hp) (o:OL) (Q:List V->Hp->Prop):Prop:=match o with
 | .ok ρ xs=>∀ vs Hx H' F' f,SR K A H0 F' G ρ σ Hx->Eff n F F' H Hx->Same Hx H'->Reps K H' (xs.map (·.2)) vs f->KOk A H0 F' Hx H' (jn xs) f->Q vs H'
 | .ex c ρ=>∀ H' F',SR K A H0 F' G ρ σ H'->zy6 K CA c (fun cls od=>W cls od σ) H'
 | .st=>False
def tAM (K:PySem.W.Frag) (CA:String->Addr) (W:WX) (s:SAM):TA:=fun σ H Q=>∃ A H0 F G ρ,SR K A H0 F G ρ σ H/\AOk K CA W A H0 F ρ.length G σ H (s ρ) Q
def OL.outM (o:OL) (f:Env->List KD->Out):Out:=match o with
 | .ok ρ xs=>f ρ xs
 | .ex c ρ=>.ex c ρ
 | .st=>.st
def OL.more (o:OL) (f:Env->List KD->OL):OL:=match o with
 | .ok ρ xs=>f ρ xs
 | .ex c ρ=>.ex c ρ
 | .st=>.st
def cvA (m:SM) (s:SAM):SAM:=fun ρ=>match m ρ with
 | .ri ρ1 k d=>if noL d=true then (s ρ1).more fun ρ2 xs=>.ok ρ2 ((.own,d)::xs) else if zh6 k=true then (s ρ1).more fun ρ2 xs=>if V7 ρ2=true then .ok ρ2 ((.own,d)::xs) else .st else .st
 | .ex c ρ1=>.ex c ρ1
 | _=>.st
def clA (m:SM):SAM:=fun ρ=>match m ρ with
 | .ri ρ1 k d=>.ok ρ1 [(k,d)]
 | .ex c ρ1=>.ex c ρ1
 | _=>.st
def z0K (s:SAM):SM:=fun ρ=>(s ρ).outM fun ρ' xs=>if xs.length<=LIM then .ri ρ' (jn xs) (.tup (xs.map (·.2))) else .st
section
variable {K:PySem.W.Frag} {CA:String->Addr} {W:WX} {A:Addr->Prop} {H0 H H1 Hx:Hp} {F F1 F2:Nat->List Addr} {G:List (D×V)} {ρ ρ1:Env} {σ:L2.St} {n:Nat} {Q:List V->Hp->Prop} {QV:VK}
theorem AOk.imp {o:OL} {Q':List V->Hp->Prop} (h:AOk K CA W A H0 F n G σ H o Q) (k:∀ v H,Q v H->Q' v H):AOk K CA W A H0 F n G σ H o Q':=by
 cases o with
 | ok ρ xs=>exact fun v Hx H' F' f sr e1 s2 r o=>k _ _ (h v Hx H' F' f sr e1 s2 r o)
 | ex c ρ=>exact h
 | st=>exact h.elim
theorem z5k {o:OL} {f:Env->List KD->Out} (h:MOk K CA W A H0 F n G σ H (o.outM f) QV)
  (k:∀ ρ' xs vs Hx H' F' g,o=.ok ρ' xs->SR K A H0 F' G ρ' σ Hx->Eff n F F' H Hx->Same Hx H'->Reps K H' (xs.map (·.2)) vs g->KOk A H0 F' Hx H' (jn xs) g->MOk K CA W A H0 F n G σ H (f ρ' xs) QV->Q vs H'):AOk K CA W A H0 F n G σ H o Q:=by
 cases o with
 | ok ρ' xs=>exact fun vs Hx H' F' g sr e s r o=>k ρ' xs vs Hx H' F' g rfl sr e s r o h
 | ex c ρ'=>exact h
 | st=>exact h.elim
theorem z0i {o:OL} {f:Env->List KD->OL} {Q':List V->Hp->Prop} {n':Nat} {F':Nat->List Addr} {H':Hp} (h:AOk K CA W A H0 F n G σ H (o.more f) Q)
  (k:∀ ρ2 xs,o=.ok ρ2 xs->AOk K CA W A H0 F n G σ H (f ρ2 xs) Q->AOk K CA W A H0 F' n' G σ H' (.ok ρ2 xs) Q'):AOk K CA W A H0 F' n' G σ H' o Q':=by
 cases o with
 | ok ρ2 xs=>exact k ρ2 xs rfl h
 | ex c ρ2=>exact h
 | st=>exact h.elim
theorem SR.hideN {L:Nat} {f:List Addr} (sr:SR K A H0 F G ρ σ Hx) (s:Same Hx H1) (nf:f.Nodup) (hf:∀ a∈f,Hx a=none/\Mu (H1 a)) (hL:ρ.length<=L) (hF:F L=[]):SR K A H0 (w9 F L f) G ρ σ H1:=by
 have sr1:=sr.same s
 have nF:∀ j a,a∈F j->a∉f:=fun j a h z=>((sr.own j).2 a h).2.ne (hf a z).1
 have shU:∀ {a},Hx a≠none->Sh A H0 F a->Sh A H0 (w9 F L f) a:=fun {a} hn h=>⟨h.1,fun j hj=>by
  by_cases e:j=L
  ·subst e; rw[x5] at hj; exact hn (hf a hj).1
  ·rw[y5 e] at hj; exact h.2 j hj⟩
 refine ⟨sr.len,sr1.fr,fun i=>?_,fun i j a hi hj=>?_,fun i d e=>?_,fun i is d e=>?_,fun p hp=>?_,fun i hi hn=>?_,V8 sr.fin,sr1.tb⟩
 ·by_cases e:i=L
  ·subst e; rw[x5]; exact ⟨nf,fun a ha=>⟨sr.fr.free (hf a ha).1,(hf a ha).2⟩⟩
  ·rw[y5 e]; exact sr1.own i
 ·by_cases ei:i=L
  ·by_cases ej:j=L
   ·rw[ei,ej]
   ·rw[ei,x5] at hi; rw[y5 ej] at hj; exact absurd hi (nF j a hj)
  ·by_cases ej:j=L
   ·rw[y5 ei] at hi; rw[ej,x5] at hj; exact absurd hj (nF i a hi)
   ·rw[y5 ei] at hi; rw[y5 ej] at hj; exact sr.dis i j a hi hj
 ·obtain ⟨v,h1,h2⟩:=sr1.slo i d e
  have hi:i≠L:=by have:=(List.getElem?_eq_some_iff.mp e).1; omega
  exact ⟨v,h1,by rw[y5 hi]; exact h2⟩
 ·obtain ⟨v,g,h1,h2,h3⟩:=sr.slb i is d e
  refine ⟨v,g,h1,h2.same s,fun a ha=>?_⟩
  rcases h3 a ha with ⟨j,hj,q⟩ | q
  ·have:j≠L:=fun e=>by rw[e,hF] at q; cases q
   exact .inl ⟨j,hj,by rw[y5 this]; exact q⟩
  ·exact .inr (shU (h2.trk a ha) q)
 ·obtain ⟨g,h1,h2⟩:=sr.gho p hp
  exact ⟨g,h1.same s,fun a ha=>shU (h1.trk a ha) (h2 a ha)⟩
 ·have hi':i≠L:=by omega
  rw[y5 hi'] at hn
  exact sr.emp i hi hn
theorem SR.unhideN {L:Nat} {f:List Addr} (sr:SR K A H0 F G ρ σ H) (hF:F L=f) (hL:ρ.length<=L) (hb:V7 ρ=true):SR K A H0 (w9 F L []) G ρ σ (Y3 H f):=by
 subst hF
 have mu:=(sr.own L).2
 have nt:∀ b o,H b=some o->IsT o->(Y3 H (F L)) b=some o:=fun b o e t=>by
  have:b∉F L:=fun z=>by
   have m:=(mu b z).2.m
   rw[e] at m
   cases o <;> first | exact t.elim | exact m.elim
  rw[i5 this]; exact e
 have kp:∀ {g:List Addr},(∀ b∈g,b∉F L)->∀ b∈g,∀ o,H b=some o->(Y3 H (F L)) b=some o:=fun {g} hg b hb o e=>by rw[i5 (hg b hb)]; exact e
 have nF:∀ j,j≠L->∀ a∈F j,a∉F L:=fun j hj a ha z=>hj (sr.dis j L a ha z)
 have shU:∀ {a},Sh A H0 F a->Sh A H0 (w9 F L []) a:=fun {a} h=>⟨h.1,fun j hj=>by
  by_cases e:j=L
  ·subst e; rw[x5] at hj; cases hj
  ·rw[y5 e] at hj; exact h.2 j hj⟩
 refine ⟨sr.len,fun b o e=>?_,fun i=>?_,fun i j a hi hj=>?_,fun i d e=>?_,fun i is d e=>?_,fun p hp=>?_,fun i hi hn=>?_,V8 sr.fin,sr.tbS id fun b o e t=>by
  rw[i5 fun z=>sr.teF z e t]; exact e⟩
 ·have:b∉F L:=fun z=>by rw[(mu b z).1] at e; cases e
  rw[i5 this]; exact sr.fr b o e
 ·by_cases e:i=L
  ·subst e; rw[x5]; exact ⟨List.nodup_nil,fun a ha=>nomatch ha⟩
  ·rw[y5 e]
   refine ⟨(sr.own i).1,fun a ha=>⟨((sr.own i).2 a ha).1,?_⟩⟩
   rw[i5 (nF i e a ha)]; exact ((sr.own i).2 a ha).2
 ·have up:∀ {j a},a∈w9 F L [] j->a∈F j:=fun {j a} h=>by
   by_cases e:j=L
   ·subst e; rw[x5] at h; cases h
   ·rw[y5 e] at h; exact h
  exact sr.dis i j a (up hi) (up hj)
 ·obtain ⟨v,h1,h2⟩:=sr.slo i d e
  have hi:i≠L:=by have:=(List.getElem?_eq_some_iff.mp e).1; omega
  exact ⟨v,h1,by rw[y5 hi]; exact h2.frame nt (kp (nF i hi))⟩
 ·obtain ⟨v,g,h1,h2,h3⟩:=sr.slb i is d e
  have hLi:=zP8 hb e hL
  have hg:∀ b∈g,b∉F L:=fun b hb z=>by
   rcases h3 b hb with ⟨j,hj,q⟩ | q
   ·exact nF j (fun e=>hLi (by rw[<- e]; exact hj)) b q z
   ·exact q.2 L z
  refine ⟨v,g,h1,h2.frame nt (kp hg),fun a ha=>?_⟩
  rcases h3 a ha with ⟨j,hj,q⟩ | q
  ·have hjL:j≠L:=fun e=>hLi (by rw[<- e]; exact hj)
   exact .inl ⟨j,hj,by rw[y5 hjL]; exact q⟩
  ·exact .inr (shU q)
 ·obtain ⟨g,h1,h2⟩:=sr.gho p hp
  exact ⟨g,h1.frame nt (kp fun b hb z=>(h2 b hb).2 L z),fun a ha=>shU (h2 a ha)⟩
 ·have hi':i≠L:=by omega
  rw[y5 hi'] at hn
  exact sr.emp i hi hn
theorem Eff.tups (sr:SR K A H0 F G ρ σ H) (e:Eff n F F1 H Hx):∀ b o,H b=some o->IsT o->Hx b=some o:=fun b o eb t=>(e.fr b o eb fun j _ z=>by
 have m:=((sr.own j).2 b z).2.m
 rw[eb] at m
 cases o <;> first | exact t.elim | exact m.elim).eq t.ne
end
section
variable {X:Cx} {CA:String->Addr} {W:WX} {pos p2:Pos} {e:Expr} {es:List Expr} {sm:SM} {s:SA} {sa:SAM}
theorem z5F (ha:PE X e (tM X.K CA W sm)) (hs:starEach [e] X.env=[(false,eval e X.env)]:=by rfl):PA X [e] (tAM X.K CA W (clA sm)):=by
 refine ⟨fun pos pins s' σ H Q I ⟨A,H0,F,G,ρ,sr,hq⟩=>(pa_cons ha pa_nil hs).run pos pins s' σ H Q I ⟨A,H0,F,G,ρ,sr,?_⟩⟩
 unfold clA at hq
 cases e:sm ρ with
 | ri ρ1 k d=>
  rw[e] at hq
  intro v Hx H' F' f sr' ef s r o
  refine hq [v] Hx H' F' f sr' ef s (by have:=Reps.cons r (Reps.nil (K:=X.K) (H:=H')); rw[List.append_nil] at this; exact this) ?_
  show KOk A H0 F' Hx H' ((nk k d).join .own) f
  rw[Kd.join_own]
  exact KOk.nk r o
 | ex c ρ1=>rw[e] at hq; exact hq
 | nx _=>rw[e] at hq; exact hq.elim
 | rt _ _=>rw[e] at hq; exact hq.elim
 | bk _=>rw[e] at hq; exact hq.elim
 | ct _=>rw[e] at hq; exact hq.elim
 | st=>rw[e] at hq; exact hq.elim
theorem z8K (ha:PE X e (tM X.K CA W sm)) (hr:PA X es (tAM X.K CA W sa)) (hs:starEach (e::es) X.env=(false,eval e X.env)::starEach es X.env:=by rfl):PA X (e::es) (tAM X.K CA W (cvA sm sa)):=by
 refine ⟨fun pos pins s' σ H Q I ⟨A,H0,F,G,ρ,sr,hq⟩=>(pa_cons ha hr hs).run pos pins s' σ H Q I ⟨A,H0,F,G,ρ,sr,?_⟩⟩
 unfold cvA at hq
 cases em:sm ρ with
 | ri ρ1 k d=>
  rw[em] at hq
  intro v1 Hx1 H1 F1 f1 sr1 ef1 s1 r1 o1
  by_cases hz:noL d=true
  ·have hq:AOk X.K CA W A H0 F ρ.length G σ H ((sa ρ1).more fun ρ2 xs=>.ok ρ2 ((.own,d)::xs)) Q:=by simpa only[hz,if_true] using hq
   have:=r1.noL hz
   subst this
   have srm:=sr1.same s1
   refine ⟨A,H0,F1,G,ρ1,srm,z0i hq fun ρ2 xs _ hq2=>?_⟩
   intro vs Hx H' F' f sr' ef s r o
   have hlen:ρ1.length=ρ.length:=by rw[sr1.len,sr.len]
   rw[hlen] at ef
   refine hq2 (v1::vs) Hx H' F' ([]++f) sr' (ef1.trans (ef.later s1)) s (.cons ((r1.frame (ef.tups srm) (fun a ha=>nomatch ha)).same s) r) ?_
   show KOk A H0 F' Hx H' ((nk .own d).join (jn xs)) ([]++f)
   have:nk .own d=.own:=by unfold nk; split <;> rfl
   rw[this]
   cases hj:jn xs with
   | own=>rw[hj] at o; exact o
   | bor is=>rw[hj] at o; exact o
  ·by_cases hk:zh6 k=true
   case neg=>
    have hq:AOk X.K CA W A H0 F ρ.length G σ H .st Q:=by simpa only[hz,hk,if_false,Bool.false_eq_true] using hq
    exact hq.elim
   have hq9:AOk X.K CA W A H0 F ρ.length G σ H ((sa ρ1).more fun ρ2 xs=>if V7 ρ2=true then .ok ρ2 ((.own,d)::xs) else .st) Q:=by simpa only[hz,hk,if_false,if_true,Bool.false_eq_true] using hq
   have:=zK3 hk
   subst this
   have hlen:ρ1.length=ρ.length:=by rw[sr1.len,sr.len]
   obtain ⟨L0,hL0⟩:=sr1.fin
   obtain ⟨L,hLe⟩:∃ L,L=max L0 ρ.length:=⟨_,rfl⟩
   have hFL:F1 L=[]:=hL0 L (by omega)
   have hFL0:F L=[]:=by rw[<- ef1.hid L (by omega)]; exact hFL
   have srh:=sr1.hideN s1 o1.1 o1.2 (L:=L) (by omega) hFL
   refine ⟨A,H0,_,G,ρ1,srh,z0i hq9 fun ρ2 xs _ hq2=>?_⟩
   by_cases hb:V7 ρ2=true
   case neg=>
    have hq2:AOk X.K CA W A H0 F ρ.length G σ H .st Q:=by simpa only[hb,if_false,Bool.false_eq_true] using hq2
    exact hq2.elim
   have hq2:AOk X.K CA W A H0 F ρ.length G σ H (.ok ρ2 ((.own,d)::xs)) Q:=by simpa only[hb,if_true] using hq2
   intro vs Hx2 H2 F2 f2 sr2 ef2 s2 r2 o2
   rw[hlen] at ef2
   have hF2:F2 L=f1:=by rw[ef2.hid L (by omega),x5]
   have hl2:ρ2.length=ρ.length:=by rw[sr2.len,sr.len]
   have own1:=sr2.own L
   rw[hF2] at own1
   have nF1:∀ j a,a∈F1 j->a∉f1:=fun j a h z=>((sr1.own j).2 a h).2.ne (o1.2 a z).1
   have vis1:∀ {j a},j < ρ.length->a∈w9 F1 L f1 j->a∈F1 j:=fun {j a} hj h=>by rw[y5 (by omega)] at h; exact h
   have srf:=sr2.unhideN hF2 (by omega) hb
   refine hq2 (v1::vs) (Y3 Hx2 f1) H2 (w9 F2 L []) (f1++f2) srf ⟨fun j hj=>?_,fun a o e h=>?_,fun j hj a ha=>?_⟩ ((O0 Hx2 f1).trans s2) (.cons ((r1.frame (ef2.tups srh) fun a ha o e=>?_).same s2) r2) ?_
   ·by_cases e:j=L
    ·rw[e,x5,hFL0]
    ·rw[y5 e,ef2.hid j hj,y5 e,ef1.hid j hj]
   ·rcases Classical.em (∃ ps,o=HO.tbl ps) with t | t
    ·exact .inr t
    have h1:=(ef1.fr a o e h).eq t
    have nf1:a∉f1:=fun z=>by rw[(o1.2 a z).1] at h1; cases h1
    rw[i5 nf1]
    refine ef2.fr a o (s1 a o h1) fun j hj z=>?_
    rcases ef1.vis j hj a (vis1 hj z) with ⟨i,hi,w⟩ | w
    ·exact h i hi w
    ·exact w.no e t
   ·have hjL:j≠L:=by omega
    rw[y5 hjL] at ha
    rcases ef2.vis j hj a ha with ⟨i,hi,w⟩ | w
    ·exact ef1.vis i hi a (vis1 hi w)
    ·rcases Classical.em (∃ i,i < ρ.length/\a∈F i) with z | z
     ·exact .inl z
     ·right
      cases e:H a with
      | none=>exact .inl rfl
      | some o=>exact ((ef1.fr a o e fun i hi q=>z ⟨i,hi,q⟩).same fun o1 e1=>s1 a o1 e1).back w
   ·exact (ef2.fr a o e fun j hj z=>nF1 j a (vis1 hj z) ha).eq fun ⟨ps,q⟩=>by have m:=(o1.2 a ha).2; rw[e,q] at m; exact m.not trivial
   ·have nd2:∀ a∈f1,Hx2 a≠none:=fun a ha=>(own1.2 a ha).2.ne
    show KOk A H0 (w9 F2 L []) (Y3 Hx2 f1) H2 ((nk .own d).join (jn xs)) (f1++f2)
    have:nk .own d=.own:=by unfold nk; split <;> rfl
    rw[this]
    have sh:∀ {a},a∈f1->Sh A H0 (w9 F2 L []) a:=fun {a} ha=>⟨.inr (own1.2 a ha).1,fun j hj=>by
     by_cases e:j=L
     ·rw[e,x5] at hj; cases hj
     ·rw[y5 e] at hj; exact e (sr2.dis j L a hj (by rw[hF2]; exact ha))⟩
    cases hj:jn xs with
    | own=>
     rw[hj] at o2
     refine ⟨List.nodup_append.mpr ⟨o1.1,o2.1,fun a ha b hb e=>?_⟩,fun a ha=>?_⟩
     ·subst e; exact nd2 a ha (o2.2 a hb).1
     ·rcases List.mem_append.mp ha with ha | ha
      ·exact ⟨N4 ha,((own1.2 a ha).2).same s2⟩
      ·have:a∉f1:=fun z=>nd2 a z (o2.2 a ha).1
       exact ⟨by rw[i5 this]; exact (o2.2 a ha).1,(o2.2 a ha).2⟩
    | bor is=>
     rw[hj] at o2
     intro a ha
     rcases List.mem_append.mp ha with ha | ha
     ·exact .inr (sh ha)
     ·by_cases hf:a∈f1
      ·exact .inr (sh hf)
      ·rcases o2 a ha with ⟨j,hj',q⟩ | q
       ·have hjL:j≠L:=fun e=>by rw[e,hF2] at q; exact hf q
        exact .inl ⟨j,by simpa [Kd.is] using hj',by rw[y5 hjL]; exact q⟩
       ·exact .inr ⟨q.1,fun j hj=>by
         by_cases e:j=L
         ·rw[e,x5] at hj; cases hj
         ·rw[y5 e] at hj; exact q.2 j hj⟩
 | ex c ρ1=>rw[em] at hq; exact hq
 | nx _=>rw[em] at hq; exact hq.elim
 | rt _ _=>rw[em] at hq; exact hq.elim
 | bk _=>rw[em] at hq; exact hq.elim
 | ct _=>rw[em] at hq; exact hq.elim
 | st=>rw[em] at hq; exact hq.elim
theorem z8B {x1} (h:PA X es (tAM X.K CA W sa)):PE X (.Tuple es x1 pos) (tM X.K CA W (z0K sa)):=by
 refine peI (pe_tup h) fun σ H Q ⟨A,H0,F,G,ρ,sr,hq⟩=>⟨A,H0,F,G,ρ,sr,z5k hq fun ρ' xs vs Hx H' F' g _ sr' ef s r o q=>?_⟩
 by_cases hz:xs.length<=LIM
 case neg=>
  rw[if_neg hz] at q; exact q.elim
 rw[if_pos hz] at q
 refine ⟨by rw[<- r.length,List.length_map,<- O4]; exact hz,fun p np=>?_⟩
 exact q _ Hx _ F' g sr' ef (s.trans (V6 np)) (.tup upd_same (r.same (V6 np))) (o.wide (Same.refl _) (V6 np))
end
def TOk (K:PySem.W.Frag) (CA:String->Addr) (W:WX) (A:Addr->Prop) (H0:Hp) (F:Nat->List Addr) (n:Nat) (G:List (D×V)) (σ:L2.St) (H:Hp) (o:Out) (Q:Bool->Hp->Prop):Prop:=match o with
 | .ri ρ _ (.bl b)=>∀ Hx H' F',SR K A H0 F' G ρ σ Hx->Eff n F F' H Hx->Same Hx H'->Q b H'
 | .ex c ρ=>∀ H' F',SR K A H0 F' G ρ σ H'->zy6 K CA c (fun cls od=>W cls od σ) H'
 | _=>False
section
variable {K:PySem.W.Frag} {CA:String->Addr} {W:WX} {A:Addr->Prop} {H0 H Hx H':Hp} {F F':Nat->List Addr} {G:List (D×V)} {ρ:Env} {σ:L2.St} {n:Nat} {Q:Bool->Hp->Prop} {QV:VK}
theorem TOk.step {o:Out} (h:TOk K CA W A H0 F n G σ H o Q) (e:Eff n F F' H Hx) (s:Same Hx H'):TOk K CA W A H0 F' n G σ H' o Q:=by
 cases o with
 | ri ρ k d=>
  cases d with
  | bl b=>exact fun Hx2 H2 F2 sr e2 s2=>h Hx2 H2 F2 sr (e.trans (e2.later s)) s2
  | _=>exact h.elim
 | ex c ρ=>exact h
 | _=>exact h.elim
theorem MOk.step {o:Out} (h:MOk K CA W A H0 F n G σ H o QV) (e:Eff n F F' H Hx) (s:Same Hx H'):MOk K CA W A H0 F' n G σ H' o QV:=by
 cases o with
 | ri ρ k d=>exact fun v Hx2 H2 F2 f sr e2 s2 r o=>h v Hx2 H2 F2 f sr (e.trans (e2.later s)) s2 r o
 | ex c ρ=>exact h
 | _=>exact h.elim
theorem TOk.lift {α:Type} {r:R α} {f:α->Out} (h:TOk K CA W A H0 F n G σ H (r.out ρ f) Q) (sr:SR K A H0 F G ρ σ H):i7 K CA W σ H r fun a=>TOk K CA W A H0 F n G σ H (f a) Q:=by
 cases r with
 | ok a=>exact h
 | ex c=>exact fun H' s=>h H' F (sr.same s)
 | st=>exact h.elim
end
def zv4 (x i:Nat) (q:List Ix) (ρ:Env):Option Env:=match ρ[i]?,ρ[x]? with
 | some (.ow D),some (.bo _ _)=>(match V2 q D with
  | some (.tg _ d)=>(W8 q D d).map fun D'=>(ρ.set i (.ow D')).set x .no
  | _=>none)
 | _,_=>none
def Out.unt (x i:Nat) (q:List Ix) (o:Out):Out:=match o with
 | .nx ρ=>(match zv4 x i q ρ with
  | some ρ'=>.nx ρ'
  | none=>.st)
 | .bk ρ=>(match zv4 x i q ρ with
  | some ρ'=>.bk ρ'
  | none=>.st)
 | .ct ρ=>(match zv4 x i q ρ with
  | some ρ'=>.ct ρ'
  | none=>.st)
 | .ex c ρ=>(match zv4 x i q ρ with
  | some ρ'=>.ex c ρ'
  | none=>.st)
 | .ri ρ k d=>(match zv4 x i q ρ with
  | some ρ'=>if zh6 k=true then .ri ρ' k d else .st
  | none=>.st)
 | .rt k d=>.rt k d
 | .st=>.st
open HandSHeadRun PySem.W
def Out.finT:Out->R KD
 | .nx ρ=>if W3 ρ=true then .ok (.own,.non) else .st
 | .ri ρ k d=>if W3 ρ=true then .ok (nk k d,d) else .st
 | .ex c ρ=>if W3 ρ=true then .ex c else .st
 | _=>.st
def zl7 (j:Nat) (ρ:Env):Bool:=ρ.all fun s=>match s with
 | .bo is _=>!is.contains j
 | _=>true
section
variable {K:PySem.W.Frag} {A:Addr->Prop} {H0 H:Hp} {F:Nat->List Addr} {G:List (D×V)} {ρ:Env} {σ:L2.St}
theorem SR.moveOut (sr:SR K A H0 F G ρ σ H) {j L:Nat} {d:D} (hj:ρ[j]? = some (.ow d)) (hb:zl7 j (ρ.set j .no)=true) (hL:ρ.length<=L) (hFL:F L=[]):SR K A H0 (w9 (w9 F j []) L (F j)) G (ρ.set j .no) σ H:=by
 have hjl:j < ρ.length:=(List.getElem?_eq_some_iff.mp hj).1
 have hLj:L≠j:=by omega
 have up:∀ {k a},a∈w9 (w9 F j []) L (F j) k->(k=L/\a∈F j)\/(k≠L/\k≠j/\a∈F k):=fun {k a} h=>by
  by_cases e:k=L
  ·subst e; rw[x5] at h; exact .inl ⟨rfl,h⟩
  ·rw[y5 e] at h
   by_cases e2:k=j
   ·subst e2; rw[x5] at h; cases h
   ·rw[y5 e2] at h; exact .inr ⟨e,e2,h⟩
 have shU:∀ {a},Sh A H0 F a->Sh A H0 (w9 (w9 F j []) L (F j)) a:=fun {a} h=>⟨h.1,fun k hk=>by
  rcases up hk with ⟨_,z⟩ | ⟨_,_,z⟩
  ·exact h.2 j z
  ·exact h.2 k z⟩
 refine ⟨by rw[List.length_set]; exact sr.len,sr.fr,fun i=>?_,fun i k a hi hk=>?_,fun i d2 e=>?_,fun i is d2 e=>?_,fun p hp=>?_,fun i hi hn=>?_,V8 (V8 sr.fin),sr.tbS (fun z=>R4 rfl z) fun b o e _=>e⟩
 ·by_cases e:i=L
  ·subst e; rw[x5]; exact sr.own j
  ·rw[y5 e]
   by_cases e2:i=j
   ·subst e2; rw[x5]; exact ⟨List.nodup_nil,fun a ha=>nomatch ha⟩
   ·rw[y5 e2]; exact sr.own i
 ·rcases up hi with ⟨rfl,z⟩ | ⟨z1,z2,z⟩ <;> rcases up hk with ⟨rfl,y⟩ | ⟨y1,y2,y⟩
  ·rfl
  ·exact absurd (sr.dis k j a y z) y2
  ·exact absurd (sr.dis i j a z y) z2
  ·exact sr.dis i k a z y
 ·by_cases z:i=j
  ·subst z; rw[List.getElem?_set_self hjl] at e; cases e
  ·rw[List.getElem?_set_ne (Ne.symm z)] at e
   have hi:i < ρ.length:=(List.getElem?_eq_some_iff.mp e).1
   rw[y5 (by omega:i≠L),y5 z]
   exact sr.slo i d2 e
 ·have nb:j∉is:=fun z=>by
   have:=List.all_eq_true.mp hb _ (List.mem_of_getElem? e)
   simp at this
   exact this z
  by_cases z:i=j
  ·subst z; rw[List.getElem?_set_self hjl] at e; cases e
  ·rw[List.getElem?_set_ne (Ne.symm z)] at e
   obtain ⟨v,f,h1,h2,h3⟩:=sr.slb i is d2 e
   refine ⟨v,f,h1,h2,fun a ha=>?_⟩
   rcases h3 a ha with ⟨m,hm,q⟩ | q
   ·have m1:m≠j:=fun e=>nb (e ▸ hm)
    have m2:m≠L:=fun e=>by rw[e,hFL] at q; cases q
    exact .inl ⟨m,hm,by rw[y5 m2,y5 m1]; exact q⟩
   ·exact .inr (shU q)
 ·obtain ⟨g,h1,h2⟩:=sr.gho p hp
  exact ⟨g,h1,fun a ha=>shU (h2 a ha)⟩
 ·have hi':i < ρ.length:=by simpa using hi
  rw[y5 (by omega:i≠L)] at hn
  by_cases z:i=j
  ·subst z; rw[x5] at hn; exact absurd rfl hn
  ·rw[y5 z] at hn
   obtain ⟨d2,e⟩:=sr.emp i hi' hn
   exact ⟨d2,by rw[List.getElem?_set_ne (Ne.symm z)]; exact e⟩
end
def zE4 (j:Nat):SM:=fun ρ=>match ρ[j]? with
 | some (.ow d)=>if V7 (ρ.set j .no)=true/\zl7 j (ρ.set j .no)=true then .ri (ρ.set j .no) .own d else .st
 | _=>.st
section
variable {X:Cx} {CA:String->Addr} {W:WX} {pos:Pos}
theorem z4n (j:Nat) {y:Str} (hj:X.N[j]? = some y:=by rfl) (hv:Vis X.env.scope y:=by first | exact Or.inl rfl | exact Or.inr (Or.inl rfl) | exact Or.inr (Or.inr rfl)) (hd:(y == ("__debug__" : Str))=false:=by decide)
  (hcd:(y == ("__classdict__" : Str))=false:=by decide):PE X (.Name y pos) (tM X.K CA W (zE4 j)):=by
 refine peI (pe_var hj hv hd hcd) fun σ H Q ⟨A,H0,F,G,ρ,sr,h⟩=>?_
 unfold zE4 at h
 split at h
 case h_2=>exact h.elim
 rename_i d hs
 by_cases hc:V7 (ρ.set j .no)=true/\zl7 j (ρ.set j .no)=true
 case neg=>rw[if_neg hc] at h; exact h.elim
 rw[if_pos hc] at h
 obtain ⟨L0,hL0⟩:=sr.fin
 obtain ⟨L,hL,hFL⟩:∃ L,ρ.length<=L/\F L=[]:=⟨max L0 ρ.length,by omega,hL0 _ (by omega)⟩
 obtain ⟨u,hu,ru⟩:=sr.slo j _ hs
 have hjl:j < ρ.length:=(List.getElem?_eq_some_iff.mp hs).1
 have own:=sr.own j
 have sr1:=sr.moveOut hs hc.2 hL hFL
 have sr2:=sr1.unhideN (L:=L) (f:=F j) (by rw[x5]) (by rw[List.length_set]; exact hL) hc.1
 refine ⟨u,hu,h u _ _ _ (F j) sr2 (Eff.mk (fun k hk=>?_) (fun b ob e hb=>?_) (fun k hk b hb=>?_):Eff ρ.length F _ H _) (O0 _ _) ru ⟨own.1,fun b hb=>⟨N4 hb,(own.2 b hb).2⟩⟩⟩
 ·by_cases z:k=L
  ·subst z; rw[x5,hFL]
  ·rw[y5 z,y5 z,y5 (by omega)]
 ·left
  rw[i5 fun z=>hb j hjl z]; exact e
 ·left
  have kL:k≠L:=by omega
  rw[y5 kL,y5 kL] at hb
  by_cases z:k=j
  ·subst z; rw[x5] at hb; cases hb
  ·rw[y5 z] at hb; exact ⟨k,hk,hb⟩
end
section
variable {K:PySem.W.Frag} {A:Addr->Prop} {H0 H:Hp} {F:Nat->List Addr} {G:List (D×V)} {ρ:Env} {σ:L2.St}
theorem SR.splitL {j L:Nat} {d d':D} {v:V} {f' fd:List Addr} (sr:SR K A H0 F G ρ σ H) (hs:ρ[j]? = some (.ow d)) (hv:σ[j]? = some (some v)) (hb:zl7 j ρ=true) (hL:ρ.length<=L) (hFL:F L=[])
  (r:Rep K H d' v f') (nf:f'.Nodup) (hf:∀ b∈f',b∈F j) (nd:fd.Nodup) (hd:∀ b∈fd,b∈F j/\b∉f'):SR K A H0 (w9 (w9 F j f') L fd) G (ρ.set j (.ow d')) σ H:=by
 have hj:j < ρ.length:=(List.getElem?_eq_some_iff.mp hs).1
 have hjL:j≠L:=by omega
 have up:∀ {k b},b∈w9 (w9 F j f') L fd k->(k=L/\b∈fd)\/(k≠L/\k=j/\b∈f')\/(k≠L/\k≠j/\b∈F k):=fun {k b} h=>by
  by_cases e:k=L
  ·subst e; rw[x5] at h; exact .inl ⟨rfl,h⟩
  ·rw[y5 e] at h
   by_cases e2:k=j
   ·subst e2; rw[x5] at h; exact .inr (.inl ⟨e,rfl,h⟩)
   ·rw[y5 e2] at h; exact .inr (.inr ⟨e,e2,h⟩)
 have sh:∀ {b:Addr},Sh A H0 F b->Sh A H0 (w9 (w9 F j f') L fd) b:=fun {b} h=>by
  refine ⟨h.1,fun m hm'=>?_⟩
  rcases up hm' with ⟨_,z⟩ | ⟨_,_,z⟩ | ⟨_,_,z⟩
  ·exact h.2 j (hd b z).1
  ·exact h.2 j (hf b z)
  ·exact h.2 m z
 refine ⟨by rw[List.length_set]; exact sr.len,sr.fr,fun i=>?_,fun i m b hi hm'=>?_,fun i d2 e=>?_,fun i is d2 e=>?_,fun p hp=>?_,fun i hi hn=>?_,V8 (V8 sr.fin),sr.tbS (fun z=>R4 rfl z) fun b o e _=>e⟩
 ·by_cases eL:i=L
  ·subst eL; rw[x5]
   exact ⟨nd,fun b hb=>(sr.own j).2 b (hd b hb).1⟩
  ·rw[y5 eL]
   by_cases e:i=j
   ·subst e
    rw[x5]
    exact ⟨nf,fun b hb=>(sr.own i).2 b (hf b hb)⟩
   ·rw[y5 e]
    exact sr.own i
 ·rcases up hi with ⟨e1,q⟩ | ⟨e0,e1,q⟩ | ⟨e0,e1,q⟩ <;> rcases up hm' with ⟨y1,y⟩ | ⟨y0,y1,y⟩ | ⟨y0,y1,y⟩
  ·rw[e1,y1]
  ·exact absurd y (hd b q).2
  ·exact absurd (sr.dis m j b y (hd b q).1) y1
  ·exact absurd q (hd b y).2
  ·rw[e1,y1]
  ·exact absurd (sr.dis m j b y (hf b q)) y1
  ·exact absurd (sr.dis i j b q (hd b y).1) e1
  ·exact absurd (sr.dis i j b q (hf b y)) e1
  ·exact sr.dis i m b q y
 ·by_cases h:j=i
  ·subst h
   rw[List.getElem?_set_self hj] at e
   cases e
   exact ⟨v,hv,by rw[y5 hjL,x5]; exact r⟩
  ·rw[List.getElem?_set_ne h] at e
   have hi:i < ρ.length:=(List.getElem?_eq_some_iff.mp e).1
   rw[y5 (by omega:i≠L),y5 (Ne.symm h)]
   exact sr.slo i d2 e
 ·by_cases h:j=i
  ·subst h
   rw[List.getElem?_set_self hj] at e
   cases e
  ·rw[List.getElem?_set_ne h] at e
   have hji:j∉is:=fun z=>by
    have:=List.all_eq_true.mp hb _ (List.mem_of_getElem? e)
    simp at this
    exact this z
   obtain ⟨v2,g,h1,h2,h3⟩:=sr.slb i is d2 e
   refine ⟨v2,g,h1,h2,fun b hb=>?_⟩
   rcases h3 b hb with ⟨m,hm',q⟩ | q
   ·have hmj:m≠j:=fun z=>hji (z ▸ hm')
    have hmL:m≠L:=fun z=>by rw[z,hFL] at q; cases q
    exact .inl ⟨m,hm',by rw[y5 hmL,y5 hmj]; exact q⟩
   ·exact .inr (sh q)
 ·obtain ⟨g,h1,h2⟩:=sr.gho p hp
  exact ⟨g,h1,fun b hb=>sh (h2 b hb)⟩
 ·have hi':i < ρ.length:=by simpa using hi
  rw[y5 (by omega:i≠L)] at hn
  by_cases z:i=j
  ·subst z; exact ⟨d',by rw[List.getElem?_set_self hj]⟩
  ·rw[y5 z] at hn
   obtain ⟨d2,e⟩:=sr.emp i hi' hn
   exact ⟨d2,by rw[List.getElem?_set_ne (Ne.symm z)]; exact e⟩
theorem z2z {ρ:Env} {i:Nat} {d:D} (h:V7 ρ=true):V7 (ρ.set i (.ow d))=true:=by
 unfold V7 at h ⊢
 rw[List.length_set]
 refine List.all_eq_true.mpr fun s hs=>?_
 rcases List.mem_or_eq_of_mem_set hs with z | z
 ·exact List.all_eq_true.mp h s z
 ·rw[z]
theorem SR.take {x i:Nat} {q:List Ix} (sr:SR K A H0 F G ρ σ H) {D0 d:D} (hi:ρ[i]? = some (.ow D0)) (hg:V2 q D0=some d) (hr:zn8 d=true) (hb:zl7 i ρ=true) (ho:V7 ρ=true) {vj:V} (hvj:σ[i]? = some (some vj)) :
  ∃ (a:Addr) (D':D) (F':Nat->List Addr),S9 H q vj=some (.ref a)/\W8 q D0 (.hol (a + 1))=some D'/\SR K A H0 F' G ((ρ.set i (.ow D')).set x (.ow (.tg (a + 1) d))) (σ.set x (some (.ref a))) H:=by
 obtain ⟨v,hv,r⟩:=sr.slo i D0 hi
 rw[hvj] at hv; cases hv
 obtain ⟨v0,f0,k1,k2,k3,k4,k5⟩:=zq5 r hg
 obtain ⟨a,ea⟩:=z0l k2 hr
 subst ea
 have own:=sr.own i
 obtain ⟨D',f',g1,g2,g3,g4⟩:=k5 own.1 H (.hol (a + 1)) [] (fun b o e _=>e) (fun b _ _ o e=>e) (.hol (.inr rfl)) List.nodup_nil fun b hb=>nomatch hb
 have hf':∀ b∈f',b∈F i/\b∉f0:=fun b hb=>(g4 b hb).elim (fun z=>nomatch z) id
 obtain ⟨L0,hL0⟩:=sr.fin
 obtain ⟨L,hL,hFL⟩:∃ L,ρ.length<=L/\F L=[]:=⟨max L0 ρ.length,by omega,hL0 _ (by omega)⟩
 have sr1:=sr.splitL hi hvj hb hL hFL g2 g3 (fun b hb=>(hf' b hb).1) (k4 own.1) fun b hb=>⟨k3 b hb,fun z=>(hf' b z).2 hb⟩
 have sr2:=sr1.unhideN (L:=L) (f:=f0) (by rw[x5]) (by rw[List.length_set]; exact hL) (z2z ho)
 obtain ⟨f'',sr3,_⟩:=sr2.set (k:=.own) (d:=.tg (a + 1) d) (v:=.ref a) (f:=f0) (O0 _ _) (.tg k2 rfl) ⟨k4 own.1,fun b hb=>⟨N4 hb,(own.2 b (k3 b hb)).2⟩⟩ x
 exact ⟨a,D',_,k1,g1,sr3⟩
def unT (x i:Nat) (q:List Ix) (ρ:Env):Option Env:=match ρ[i]?,ρ[x]? with
 | some (.ow D),some (.ow (.tg t e))=>(match V2 q D with
  | some (.hol t')=>if t'=t/\t≠0/\i≠x/\zl7 x (ρ.set x .no)=true/\zl7 i ((ρ.set x .no).set i .no)=true/\V7 (ρ.set x .no)=true/\V7 ((ρ.set x .no).set i .no)=true then (W8 q D e).map fun D'=>((ρ.set x .no).set i .no).set i (mkS .own D') else none
  | _=>none)
 | _,_=>none
theorem SR.put {x i:Nat} {q:List Ix} {ρ':Env} (sr:SR K A H0 F G ρ σ H) (h:unT x i q ρ=some ρ'):∃ F',SR K A H0 F' G ρ' σ H:=by
 unfold unT at h
 split at h
 case h_2=>cases h
 rename_i D0 t e e1 e2
 split at h
 case h_2=>cases h
 rename_i t' e3
 split at h
 case isFalse=>cases h
 rename_i hc
 obtain ⟨rfl,ht,hix,hb1,hb2,ho1,ho2⟩:=hc
 obtain ⟨v,hv,r⟩:=sr.slo i D0 e1
 obtain ⟨w,hw,rx⟩:=sr.slo x _ e2
 obtain ⟨re,a,ew,et⟩:=rx.tgI
 subst ew
 obtain ⟨v0,f0,k1,k2,k3,k4,k5⟩:=zq5 r e3
 have hv0:v0=.ref a/\f0=[]:=by
  cases k2 with
  | hol z=>
   rcases z with z | z
   ·exact absurd z ht
   ·rw[et] at z; rw[Nat.succ.inj z]; exact ⟨rfl,rfl⟩
 obtain ⟨rfl,rfl⟩:=hv0
 have owni:=sr.own i
 have ownx:=sr.own x
 have hdis:∀ b,b∈F x->b∉F i:=fun b h1 h2=>hix (sr.dis i x b h2 h1)
 obtain ⟨D',f',g1,g2,g3,g4⟩:=k5 owni.1 H e (F x) (fun b o e _=>e) (fun b _ _ o e=>e) re ownx.1 fun b hb=>.inr (hdis b hb)
 rw[g1] at h
 cases h
 obtain ⟨L0,hL0⟩:=sr.fin
 obtain ⟨L,hL,hFL,hFL2⟩:∃ L,ρ.length<=L/\F L=[]/\F (L + 1)=[]:=⟨max L0 ρ.length,by omega,hL0 _ (by omega),hL0 _ (by omega)⟩
 have hil:i < ρ.length:=(List.getElem?_eq_some_iff.mp e1).1
 have hxl:x < ρ.length:=(List.getElem?_eq_some_iff.mp e2).1
 have sr1:=sr.moveOut e2 hb1 hL hFL
 have sr1u:=sr1.unhideN (L:=L) (f:=F x) (by rw[x5]) (by rw[List.length_set]; exact hL) ho1
 have e1':(ρ.set x .no)[i]? = some (.ow D0):=by rw[List.getElem?_set_ne (Ne.symm hix)]; exact e1
 have fi:w9 (w9 (w9 F x []) L (F x)) L [] i=F i:=by rw[y5 (by omega),y5 (by omega),y5 hix]
 have sr2:=sr1u.moveOut (L:=L + 1) e1' hb2 (by rw[List.length_set]; omega) (by rw[y5 (by omega),y5 (by omega),y5 (by omega)]; exact hFL2)
 rw[fi] at sr2
 have sr3:=sr2.unhideN (L:=L + 1) (f:=F i) (by rw[x5]) (by rw[List.length_set,List.length_set]; omega) ho2
 have sm:Same (Y3 (Y3 H (F x)) (F i)) H:=(O0 _ _).trans (O0 _ _)
 have hfr:∀ b∈f',Y3 (Y3 H (F x)) (F i) b=none/\Mu (H b):=fun b hb=>by
  rcases g4 b hb with z | ⟨z,_⟩
  ·refine ⟨?_,(ownx.2 b z).2⟩
   rw[i5 (hdis b z)]; exact N4 z
  ·exact ⟨N4 z,(owni.2 b z).2⟩
 obtain ⟨f'',sr4,_⟩:=sr3.set (k:=.own) (d:=D') (v:=v) (f:=f') sm g2 ⟨g3,hfr⟩ i
 have hsi:σ.set i (some v)=σ:=by
  refine List.ext_getElem? fun n=>?_
  by_cases z:n=i
  ·subst z
   rw[List.getElem?_set_self (by rw[<- sr.len]; exact hil),hv]
  ·rw[List.getElem?_set_ne (Ne.symm z)]
 rw[hsi] at sr4
 exact ⟨_,sr4⟩
end
def C1 (tg:Tgt) (body:SS):List D->Env->Out
 | [],ρ=>.nx ρ
 | d::ds,ρ=>if V7 ρ=true/\W3 ρ=false then (match tg .own d ρ with
  | none=>.st
  | some ρ1=>match body ρ1 with
   | .nx ρ2=>C1 tg body ds ρ2
   | .ct ρ2=>C1 tg body ds ρ2
   | .bk ρ2=>.nx ρ2
   | o=>o) else .st
def zK7 (m:SM) (tg:Tgt) (body:SS):SS:=fun ρ=>(m ρ).thenM fun ρ2 k d=>match k,d with
 | .own,.lst ds=>C1 tg body ds ρ2
 | _,_=>.st
def zB0 (i j k:Nat):Tgt:=fun kd d ρ=>match kd,d with
 | .own,.tup [d0,d1,d2]=>if noL d0=true/\noL d1=true/\V7 ((ρ.set i (mkS .own d0)).set j (mkS .own d1))=true then some (((ρ.set i (mkS .own d0)).set j (mkS .own d1)).set k (mkS .own d2)) else none
 | _,_=>none
section
variable {K:PySem.W.Frag} {A A':Addr->Prop} {H0 H0' H:Hp} {F:Nat->List Addr} {G:List (D×V)} {ρ:Env} {σ:L2.St}
structure Bas (A A':Addr->Prop) (H0 H0':Hp):Prop where
 same:Same H0 H0'
 sh:∀ a,A' a\/H0' a=none->A a\/H0 a=none
theorem Bas.Sh (b:Bas A A' H0 H0') {a:Addr} (h:Cz.Sh A' H0' F a):Cz.Sh A H0 F a:=⟨b.sh a h.1,h.2⟩
theorem Bas.bok (b:Bas A A' H0 H0') {is:List Nat} {f:List Addr} (h:BOk A' H0' F is f):BOk A H0 F is f:=fun a ha=>(h a ha).imp id b.Sh
theorem SR.bas (b:Bas A A' H0 H0') (sr:SR K A' H0' F G ρ σ H):SR K A H0 F G ρ σ H where
 len:=sr.len
 fr:=b.same.trans sr.fr
 own:=fun i=>⟨(sr.own i).1,fun a ha=>⟨b.same.free ((sr.own i).2 a ha).1,((sr.own i).2 a ha).2⟩⟩
 dis:=sr.dis
 slo:=sr.slo
 slb:=fun i is d e=>let ⟨v,f,h1,h2,h3⟩:=sr.slb i is d e; ⟨v,f,h1,h2,b.bok h3⟩
 gho:=fun p hp=>let ⟨f,h1,h2⟩:=sr.gho p hp; ⟨f,h1,fun a ha=>b.Sh (h2 a ha)⟩
 emp:=sr.emp
 fin:=sr.fin
 tb:=fun z=>⟨(sr.tb z).1,fun a ps e=>(sr.tb z).2 a ps (b.same a _ e)⟩
theorem KOk.bas {Hx:Hp} {k:Kd} {f:List Addr} (b:Bas A A' H0 H0') (h:KOk A' H0' F Hx H k f):KOk A H0 F Hx H k f:=by
 cases k with
 | own=>exact h
 | bor is=>exact b.bok h
theorem zN1.bas {k:Kd} {f:List Addr} (b:Bas A A' H0 H0') (h:zN1 A' H0' H k f):zN1 A H0 H k f:=by
 cases k with
 | own=>exact ⟨h.1,fun a ha=>⟨b.same.free (h.2 a ha).1,(h.2 a ha).2⟩⟩
 | bor is=>exact fun a ha=>b.sh a (h a ha)
theorem n8.bas {CA:String->Addr} {W:WX} {De:Ends} {o:Out} (b:Bas A A' H0 H0') (h:n8 K CA W A H0 G De o):n8 K CA W A' H0' G De o:=by
 cases o with
 | nx ρ=>exact fun σ H F sr=>h σ H F (sr.bas b)
 | rt k d=>exact fun v H f s r o=>h v H f (b.same.trans s) r (o.bas b)
 | bk ρ=>exact fun σ H F sr=>h σ H F (sr.bas b)
 | ct ρ=>exact fun σ H F sr=>h σ H F (sr.bas b)
 | ex c ρ=>exact fun σ H F sr=>h σ H F (sr.bas b)
 | st=>exact h
 | ri ρ k d=>exact fun v σ Hx H F f sr s r o=>h v σ Hx H F f (sr.bas b) s r (o.bas b)
def shA (A:Addr->Prop) (H0:Hp) (r:List Addr):Addr->Prop:=fun a=>(A a\/H0 a=none)/\a∉r
theorem SR.lockC (sr:SR K A H0 F G ρ σ H) (hT:W3 ρ=false) {L:Nat} {f g r:List Addr} (hL:ρ.length<=L) (hF:F L=f) (hg:∀ b∈g,b∈f) (hr:∀ b∈r,b∈f) (ng:g.Nodup) (hb:V7 ρ=true) :
  Bas A (shA A H0 r) H0 (lkH (w9 F L g) H)/\SR K (shA A H0 r) (lkH (w9 F L g) H) (w9 F L g) G ρ σ H:=by
 subst hF
 have sub:∀ {j b},b∈w9 F L g j->b∈F j:=fun {j b} h=>by
  by_cases e:j=L
  ·subst e; rw[x5] at h; exact hg b h
  ·rw[y5 e] at h; exact h
 have ba:Bas A (shA A H0 r) H0 (lkH (w9 F L g) H):=by
  refine ⟨fun b o e=>?_,fun a h=>?_⟩
  ·rw[J6 fun j hj=>?_]
   ·exact sr.fr b o e
   ·rw[((sr.own j).2 b (sub hj)).1] at e; cases e
  ·rcases h with h | h
   ·exact h.1
   ·refine .inr ?_
    cases e:H0 a with
    | none=>rfl
    | some o=>
     rw[J6 fun j hj=>?_,sr.fr a o e] at h
     ·cases h
     ·rw[((sr.own j).2 a (sub hj)).1] at e; cases e
 have shU:∀ {a},Sh A H0 F a->Sh (shA A H0 r) (lkH (w9 F L g) H) (w9 F L g) a:=fun {a} h=>⟨.inl ⟨h.1,fun z=>h.2 L (hr a z)⟩,fun j hj=>h.2 j (sub hj)⟩
 refine ⟨ba,sr.len,fun b o e=>(z2O e).1,fun i=>⟨?_,fun a ha=>⟨z1M ha,((sr.own i).2 a (sub ha)).2⟩⟩,fun i j a hi hj=>sr.dis i j a (sub hi) (sub hj),fun i d e=>?_,fun i is d e=>?_,fun p hp=>?_,fun i hi hn=>?_,V8 sr.fin,fun z=>by rw[hT] at z; cases z⟩
 ·by_cases e:i=L
  ·subst e; rw[x5]; exact ng
  ·rw[y5 e]; exact (sr.own i).1
 ·have hi:i≠L:=by have:=(List.getElem?_eq_some_iff.mp e).1; omega
  rw[y5 hi]; exact sr.slo i d e
 ·obtain ⟨v,f,h1,h2,h3⟩:=sr.slb i is d e
  refine ⟨v,f,h1,h2,fun a ha=>?_⟩
  rcases h3 a ha with ⟨j,hj,q⟩ | q
  ·have:j≠L:=fun z=>zP8 hb e hL (by rw[<- z]; exact hj)
   exact .inl ⟨j,hj,by rw[y5 this]; exact q⟩
  ·exact .inr (shU q)
 ·obtain ⟨f,h1,h2⟩:=sr.gho p hp
  exact ⟨f,h1,fun a ha=>shU (h2 a ha)⟩
 ·have hi':i≠L:=by omega
  rw[y5 hi'] at hn
  exact sr.emp i hi hn
theorem SR.unlockC (sr:SR K A H0 F G ρ σ H) {L:Nat} {f g r:List Addr} (hF:F L=f) (hg:∀ b∈g,b∈f) (hr:∀ b∈r,b∈f/\b∉g) (nr:r.Nodup) {F2:Nat->List Addr} {ρ2:Env} {σ2:L2.St} {H2:Hp}
  (ba:Bas A (shA A H0 r) H0 (lkH (w9 F L g) H)) (s2:SR K (shA A H0 r) (lkH (w9 F L g) H) F2 G ρ2 σ2 H2) {L2:Nat} (hL2:ρ2.length<=L2) (hF2:F2 L2=[]) :
  SR K A H0 (w9 F2 L2 r) G ρ2 σ2 H2/\(∀ b∈r,∀ o,H b=some o->H2 b=some o)/\∀ b o,H b=some o->IsT o->H2 b=some o:=by
 subst hF
 have sub:∀ {j b},b∈w9 F L g j->b∈F j:=fun {j b} h=>by
  by_cases e:j=L
  ·subst e; rw[x5] at h; exact hg b h
  ·rw[y5 e] at h; exact h
 have rout:∀ b∈r,∀ j,b∉w9 F L g j:=fun b hb j hj=>by
  by_cases e:j=L
  ·subst e; rw[x5] at hj; exact (hr b hb).2 hj
  ·rw[y5 e] at hj; exact e (sr.dis j L b hj (hr b hb).1)
 have k1:∀ b∈r,∀ o,H b=some o->H2 b=some o:=fun b hb o e=>s2.fr b o (by rw[J6 (rout b hb)]; exact e)
 have k2:∀ b o,H b=some o->IsT o->H2 b=some o:=fun b o e t=>s2.fr b o (by
  rw[J6 fun j hj=>?_]
  ·exact e
  ·have m:=((sr.own j).2 b (sub hj)).2.m
   rw[e] at m
   cases o <;> first | exact t.elim | exact m.elim)
 have rF2:∀ b∈r,∀ j,b∉F2 j:=fun b hb j hj=>by
  have n:=((s2.own j).2 b hj).1
  rw[J6 (rout b hb)] at n
  exact ((sr.own L).2 b (hr b hb).1).2.ne n
 have s3:=s2.bas ba
 have inr:∀ b∈r,H0 b=none/\Mu (H2 b):=fun b hb=>by
  obtain ⟨h1,h2⟩:=(sr.own L).2 b (hr b hb).1
  refine ⟨h1,?_⟩
  cases e:H b with
  | none=>exact absurd e h2.ne
  | some o=>rw[k1 b hb o e]; rw[e] at h2; exact h2
 have shF:∀ {a},Sh (shA A H0 r) (lkH (w9 F L g) H) F2 a->Sh A H0 (w9 F2 L2 r) a:=fun {a} h=>by
  have h0:a∉r:=fun z=>by
   rcases h.1 with w | w
   ·exact w.2 z
   ·rw[J6 (rout a z)] at w
    exact ((sr.own L).2 a (hr a z).1).2.ne w
  refine ⟨(ba.Sh h).1,fun j hj=>?_⟩
  by_cases e:j=L2
  ·subst e; rw[x5] at hj; exact h0 hj
  ·rw[y5 e] at hj; exact h.2 j hj
 refine ⟨⟨s3.len,s3.fr,fun i=>?_,fun i j a hi hj=>?_,fun i d e=>?_,fun i is d e=>?_,fun p hp=>?_,fun i hi hn=>?_,V8 s3.fin,s3.tb⟩,k1,k2⟩
 ·by_cases e:i=L2
  ·subst e; rw[x5]; exact ⟨nr,inr⟩
  ·rw[y5 e]; exact s3.own i
 ·by_cases e:i=L2
  ·by_cases e':j=L2
   ·rw[e,e']
   ·rw[e,x5] at hi; rw[y5 e'] at hj; exact absurd hj (rF2 a hi j)
  ·by_cases e':j=L2
   ·rw[e',x5] at hj; rw[y5 e] at hi; exact absurd hi (rF2 a hj i)
   ·rw[y5 e] at hi; rw[y5 e'] at hj; exact s3.dis i j a hi hj
 ·have hi:i≠L2:=by have:=(List.getElem?_eq_some_iff.mp e).1; omega
  rw[y5 hi]; exact s3.slo i d e
 ·obtain ⟨v,f,h1,h2,h3⟩:=s2.slb i is d e
  refine ⟨v,f,h1,h2,fun a ha=>?_⟩
  rcases h3 a ha with ⟨j,hj,q⟩ | q
  ·have:j≠L2:=fun z=>by rw[z,hF2] at q; cases q
   exact .inl ⟨j,hj,by rw[y5 this]; exact q⟩
  ·exact .inr (shF q)
 ·obtain ⟨f,h1,h2⟩:=s2.gho p hp
  exact ⟨f,h1,fun a ha=>shF (h2 a ha)⟩
 ·have hi':i≠L2:=by omega
  rw[y5 hi'] at hn
  exact s3.emp i hi hn
end
section
variable {X:Cx} {CA:String->Addr} {W:WX} {pos pos':Pos} {tg iter:Expr} {tt:Tgt} {sl:List Nat} {sm:SM}
theorem z11 {body:List Stmt} {sb:SS} (hp:PassesOwn (model X.prog X.w) X.A X.env X.xe) (hc:X.calm=true) (he:PE X iter (tM X.K CA W sm)) (hg:PG X tg (tG X.K sl tt)) (hb:PSs X body (tS X.K CA W sb))
  (hs:∀ y,foldedSetIterable iter X.env y=pure y:=by intro _; rfl):PS X (.For tg iter body [] pos) (tS X.K CA W (zK7 sm tt sb)):=by
 refine psI (ps_for hp hc (z1X he) hg hb hs) fun D σ H ⟨A,H0,F,G,ρ,sr,h⟩=>?_
 refine ⟨A,H0,F,G,ρ,sr,zn2 h fun ρ' kk d v Hx H1 F' f _ sr' s r o q=>?_⟩
 cases kk with
 | bor is=>exact q.elim
 | own=>
 cases d with
 | lst ds=>
  cases r with
  | @lst a vs _ g ha rs=>
   obtain ⟨on,om⟩:=o
   obtain ⟨L0,hL0⟩:=sr'.fin
   obtain ⟨L,hL,hFL⟩:∃ L,ρ'.length<=L/\F' L=[]:=⟨max L0 ρ'.length,by omega,hL0 _ (by omega)⟩
   have sr1:=sr'.hideN s on om hL hFL
   refine .inl ⟨a,rfl,⟨vs,.of ha⟩,?_⟩
   have len:ds.length=vs.length:=rs.length
   let Pv:Nat->L2.St->Hp->Prop:=fun j σ H=>∃ F ρ L g,SR X.K A H0 F G ρ σ H/\ρ.length<=L/\F L=a::g/\H a=some (.lst vs)/\Reps X.K H (ds.drop j) (vs.drop j) g/\n8 X.K CA W A H0 G D (C1 tt sb (ds.drop j) ρ)
   have p0:Pv 0 σ H1:=⟨_,ρ',L,g,sr1,hL,by rw[x5],ha,rs,q⟩
   have sqv:∀ {H:Hp},H a=some (.lst vs)->SqL X.K H a vs:=fun e=>.of e
   refine ⟨fun i m σ H=>m=ds.length - i/\i<=ds.length/\Pv i σ H,⟨ds.length,by simp,Nat.zero_le _,p0⟩,?_⟩
   rintro j m σ2 H2 ⟨rfl,hj,F2,ρ2,Lh,g2,sr2,hL2,hF2,ha2,rs2,o2⟩
   by_cases hlt:j < ds.length
   ·have hv:j < vs.length:=by omega
    refine .inr ⟨⟨vs,vs[j],sqv ha2,by simp[hv]⟩,Pv (j + 1),fun σ' H' p'=>⟨ds.length - (j + 1),by omega,rfl,hlt,p'⟩,fun x H3 y=>?_⟩
    obtain ⟨e,y⟩:=y
    have e:=e.symm
    subst e
    have hx:vs[j]? = some x:=y vs (sqv ha2)
    have hdrop:ds.drop j=ds[j]::ds.drop (j + 1):=List.drop_eq_getElem_cons hlt
    have vdrop:vs.drop j=x::vs.drop (j + 1):=by
     rw[List.drop_eq_getElem_cons hv]
     congr 1
     rw[List.getElem?_eq_getElem hv] at hx
     exact Option.some.inj hx
    rw[hdrop] at o2
    rw[hdrop,vdrop] at rs2
    generalize ds[j]=d at o2 rs2
    cases rs2 with
    | @cons _ _ gd _ _ gr rd rr=>
    have o2:n8 X.K CA W A H0 G D (if V7 ρ2=true/\W3 ρ2=false then (match tt .own d ρ2 with
     | none=>.st
     | some ρ1=>match sb ρ1 with
      | .nx ρ2=>C1 tt sb (ds.drop (j + 1)) ρ2
      | .ct ρ2=>C1 tt sb (ds.drop (j + 1)) ρ2
      | .bk ρ2=>.nx ρ2
      | o=>o) else .st):=o2
    split at o2
    case isFalse=>exact o2.elim
    rename_i hbt
    obtain ⟨hbo,hT⟩:=hbt
    obtain ⟨nall,mall⟩:=sr2.own Lh
    rw[hF2] at nall mall
    have na:=(List.nodup_cons.mp nall).1
    obtain ⟨nd,nr,ndr⟩:=List.nodup_append.mp (List.nodup_cons.mp nall).2
    have hgd:∀ b∈gd,b∈a::(gd++gr):=fun b hb=>List.mem_cons_of_mem _ (List.mem_append_left _ hb)
    have hgr:∀ b∈a::gr,b∈a::(gd++gr)/\b∉gd:=fun b hb=>by
     rcases List.mem_cons.mp hb with z | z
     ·subst z; exact ⟨List.mem_cons_self,fun w=>na (List.mem_append_left _ w)⟩
     ·exact ⟨List.mem_cons_of_mem _ (List.mem_append_right _ z),fun w=>ndr b w b z rfl⟩
    have nar:(a::gr).Nodup:=List.nodup_cons.mpr ⟨fun z=>na (List.mem_append_right _ z),nr⟩
    obtain ⟨ba,sr3⟩:=sr2.lockC (r:=a::gr) hT hL2 hF2 hgd (fun b hb=>(hgr b hb).1) nd hbo
    have sr4:=sr3.unhideN (L:=Lh) (f:=gd) (by rw[x5]) hL2 hbo
    refine ⟨_,_,Y3 H2 gd,_,G,ρ2,.own,d,gd,sr4,O0 _ _,rd,⟨nd,fun b hb=>⟨N4 hb,(mall b (hgd b hb)).2⟩⟩,?_⟩
    have next:∀ {ρ5:Env} {σ5:L2.St} {H5:Hp} {F5:Nat->List Addr},SR X.K (shA A H0 (a::gr)) (lkH (w9 F2 Lh gd) H2) F5 G ρ5 σ5 H5->n8 X.K CA W A H0 G D (C1 tt sb (ds.drop (j + 1)) ρ5)->Pv (j + 1) σ5 H5:=fun {ρ5 σ5 H5 F5} s5 o5=>by
     obtain ⟨M0,hM0⟩:=s5.fin
     obtain ⟨M,hM,hFM⟩:∃ M,ρ5.length<=M/\F5 M=[]:=⟨max M0 ρ5.length,by omega,hM0 _ (by omega)⟩
     obtain ⟨s6,k1,k2⟩:=sr2.unlockC hF2 hgd hgr nar ba s5 hM hFM
     exact ⟨_,ρ5,M,gr,s6,hM,by rw[x5],k1 a List.mem_cons_self _ ha2,rr.frame k2 fun b hb=>k1 b (List.mem_cons_of_mem _ hb),o5⟩
    cases h1:tt .own d ρ2 with
    | none=>rw[h1] at o2; exact o2.elim
    | some ρ3=>
     rw[h1] at o2
     intro σ' F' p
     refine ⟨_,_,F',G,ρ3,p.sr,?_⟩
     cases h2:sb ρ3 with
     | nx ρ4=>simp only[h2] at o2; exact fun σ4 H4 F4 sr4=>next sr4 o2
     | ct ρ4=>simp only[h2] at o2; exact fun σ4 H4 F4 sr4=>next sr4 o2
     | bk ρ4=>simp only[h2] at o2; exact fun σ4 H4 F4 sr4=>o2 σ4 H4 F4 (sr4.bas ba)
     | rt k' d'=>simp only[h2] at o2; exact o2.bas ba
     | ex c ρ4=>simp only[h2] at o2; exact o2.bas ba
     | st=>simp only[h2] at o2; exact o2.elim
     | ri ρ4 k' d'=>simp only[h2] at o2; exact o2.bas ba
   ·have e:j=ds.length:=by omega
    subst e
    rw[List.drop_length] at o2
    exact .inl ⟨⟨vs,sqv ha2,by omega⟩,o2 σ2 H2 F2 sr2⟩
 | _=>exact q.elim
end
section
variable {X:Cx} {pos:Pos}
theorem z5q {e1 e2 e3:Expr} {n:Nat} {i j k:Nat} (hc:X.calm=true) (h1:PG X e1 (tG X.K [i] (tgN i))) (h2:PG X e2 (tG X.K [j] (tgN j))) (h3:PG X e3 (tG X.K [k] (tgN k)))
  (hp1:(assignEach [e1,e2,e3] X.env).map (·.2)=assign e1 X.env::(assignEach [e2,e3] X.env).map (·.2):=by rfl)
  (hp2:(assignEach [e2,e3] X.env).map (·.2)=assign e2 X.env::(assignEach [e3] X.env).map (·.2):=by rfl)
  (hp3:(assignEach [e3] X.env).map (·.2)=assign e3 X.env::(assignEach ([]:List Expr) X.env).map (·.2):=by rfl)
  (hn:(assignEach [e1,e2,e3] X.env).length=3:=by rfl) (hst:(assignEach [e1,e2,e3] X.env).findIdx? (·.1)=none:=by rfl):PG X (.Tuple [e1,e2,e3] n pos) (tG X.K [i,j,k] (zB0 i j k)):=by
 refine pgI (z0t hc (pgs_cons h1 (pgs_cons h2 (pgs_cons h3 pgs_nil hp3) hp2) hp1) hn hst) fun v σ H Q ⟨A,H0,Hb,F,G,ρ,kk,d,f,sr,s,r,o,q⟩=>?_
 unfold zB0 at q
 split at q
 case h_2=>exact q.elim
 rename_i ρ' e
 split at e
 case h_2=>cases e
 rename_i d0 d1 d2
 split at e
 case isFalse=>cases e
 rename_i hb
 cases e
 obtain ⟨z0,z1,hb⟩:=hb
 obtain ⟨a,vs,rfl,t1,q1⟩:=r.tupI
 cases q1 with
 | @cons _ v0 f0 _ vs1 f9 r0 rr=>
 cases rr with
 | @cons _ v1 f1 _ vs2 f8 r1 rr=>
 cases rr with
 | @cons _ v2 f2 _ vs3 f3 r2 rn=>
 cases rn
 have e0:=r0.noL z0
 subst e0
 have e1:=r1.noL z1
 subst e1
 rw[List.append_nil,List.nil_append,List.nil_append] at o
 obtain ⟨n2,m2⟩:=o
 obtain ⟨L0,hL0⟩:=sr.fin
 obtain ⟨L,hL,hFL,hLi,hLj⟩:∃ L,ρ.length<=L/\F L=[]/\L≠i/\L≠j:=⟨max (max L0 ρ.length) (max (i + 1) (j + 1)),by omega,hL0 _ (by omega),by omega,by omega⟩
 have sr1:=sr.hideN s n2 m2 hL hFL
 refine ⟨a,_,rfl,.inl (.of t1),rfl,_,_,rfl,⟨A,H0,H,w9 F L f2,G,ρ,.own,d0,[],sr1,Same.refl _,r0,KOk.nil _,?_⟩⟩
 intro σ1 F1 p1
 refine ⟨_,_,rfl,⟨A,H0,H,F1,G,_,.own,d1,[],p1.sr,Same.refl _,r1,KOk.nil _,?_⟩⟩
 intro σ2 F2 p2
 have hF2:F2 L=f2:=by
  rw[(p2.out L (by simpa using hLj)).2,(p1.out L (by simpa using hLi)).2,x5]
 have sr2:=p2.sr.unhideN hF2 (by simpa using hL) hb
 refine ⟨_,_,rfl,⟨A,H0,Y3 H f2,w9 F2 L [],G,_,.own,d2,f2,sr2,O0 _ _,r2,⟨n2,fun b hb=>⟨N4 hb,(m2 b hb).2⟩⟩,?_⟩⟩
 intro σ3 F3 p3
 refine ⟨rfl,q σ3 F3 ⟨p3.sr,fun js g hg hbk=>?_,p3.len.trans (p2.len.trans p1.len),fun w hw=>?_,fun z=>nomatch z⟩⟩
 ·have g2:∀ b∈g,b∉f2:=fun b hb z=>hg b hb (m2 b z).1
  have gH:∀ b∈g,H b≠none:=fun b hb z=>hg b hb (by
   cases eb:Hb b with
   | none=>rfl
   | some ob=>rw[s b ob eb] at z; cases z)
  have b1:BOk A H0 (w9 F L f2) js g:=fun b hb=>by
   rcases hbk b hb with ⟨w,hw,z⟩ | z
   ·have:w≠L:=fun e=>by rw[e,hFL] at z; cases z
    exact .inl ⟨w,hw,by rw[y5 this]; exact z⟩
   ·refine .inr ⟨z.1,fun w hw=>?_⟩
    by_cases e:w=L
    ·subst e; rw[x5] at hw; exact g2 b hb hw
    ·rw[y5 e] at hw; exact z.2 w hw
  have b2:=p2.tr js g gH (p1.tr js g gH b1)
  have b3:BOk A H0 (w9 F2 L []) js g:=fun b hb=>by
   rcases b2 b hb with ⟨w,hw,z⟩ | z
   ·have:w≠L:=fun e=>by rw[e,hF2] at z; exact g2 b hb z
    exact .inl ⟨w,hw,by rw[y5 this]; exact z⟩
   ·refine .inr ⟨z.1,fun w hw=>?_⟩
    by_cases e:w=L
    ·subst e; rw[x5] at hw; cases hw
    ·rw[y5 e] at hw; exact z.2 w hw
  exact p3.tr js g (fun b hb=>by rw[i5 (g2 b hb)]; exact gH b hb) b3
 ·have w1:w∉[i]:=fun z=>hw (by rw[List.mem_singleton.mp z]; simp)
  have w2:w∉[j]:=fun z=>hw (by rw[List.mem_singleton.mp z]; simp)
  have w3:w∉[k]:=fun z=>hw (by rw[List.mem_singleton.mp z]; simp)
  refine ⟨(p3.out w w3).1.trans ((p2.out w w2).1.trans (p1.out w w1).1),?_⟩
  rw[(p3.out w w3).2]
  by_cases e:w=L
  ·subst e; rw[x5,hFL]
  ·rw[y5 e,(p2.out w w2).2,(p1.out w w1).2,y5 e]
end
section
variable {ρ:Env} {a b c:SE} {t u v:STs} {s s':SS} {k k':Kd} {d d':D} {is:List Nat}
@[simp] theorem yv8 (i:Nat):z4 i ρ=match ρ[i]? with | some (.ow d)=>.ok (.bor [i],d) | some (.bo is d)=>.ok (.bor is,d) | _=>.st:=id rfl
@[simp] theorem yp5:z8 d ρ=.ok (.own,d):=id rfl
@[simp] theorem ys8 {op:Operator}:w7 op a b ρ=(a ρ).bind fun x=>(b ρ).bind fun y=>R.of (opB op x y):=id rfl
@[simp] theorem yl8 {op:CmpOp}:w5 op a b ρ=(a ρ).bind fun x=>(b ρ).bind fun y=>R.of (Z2 op x.2 y.2):=id rfl
@[simp] theorem yr5 {o1 o2:CmpOp}:zA1 o1 o2 a b c ρ=(a ρ).bind fun x=>(b ρ).bind fun y=>(R.of (Z2 o1 x.2 y.2)).bind fun t=>if t=true then (c ρ).bind fun z=>R.of (Z2 o2 y.2 z.2) else .ok false:=id rfl
@[simp] theorem yn5:O1 t u ρ=(t ρ).bind fun b=>if b=true then u ρ else .ok false:=id rfl
@[simp] theorem yK1:orT t u ρ=(t ρ).bind fun b=>if b=true then .ok true else u ρ:=id rfl
@[simp] theorem yq3:I6 t ρ=(t ρ).bind fun b=>.ok (!b):=id rfl
@[simp] theorem ym3:D5 a ρ=(a ρ).bind fun x=>R.of (ze7 x.2):=id rfl
@[simp] theorem ye1:Z1 t ρ=(t ρ).bind fun b=>.ok (.own,.bl b):=id rfl
@[simp] theorem yE0:bvT a ρ=(a ρ).bind fun x=>match x.2 with | .bl b=>.ok b | _=>.st:=id rfl
@[simp] theorem yu8:zp4 t a b ρ=(t ρ).bind fun c=>if c=true then a ρ else b ρ:=id rfl
@[simp] theorem yo1:z01 a ρ=(a ρ).bind fun x=>match x.2 with | .int i=>.ok (.own,.int (-i)) | _=>.st:=id rfl
@[simp] theorem yp1:y6 ρ=.ok []:=id rfl
@[simp] theorem yb6 {r:SA}:z6 a r ρ=(a ρ).bind fun x=>(r ρ).bind fun xs=>.ok (x::xs):=id rfl
@[simp] theorem yy2 {r:SA}:p5 r ρ=(r ρ).bind fun xs=>if xs.length<=LIM then .ok (jn xs,.tup (xs.map (·.2))) else .st:=id rfl
@[simp] theorem yx9 {r:SA}:W6 r ρ=(r ρ).bind fun xs=>if xs.length<=LIM then .ok (lk (jn xs) (xs.map (·.2)),.lst (xs.map (·.2))) else .st:=id rfl
@[simp] theorem yr7:z3x ρ=.ok (.own,.dic []):=id rfl
@[simp] theorem yl2:x8 a b ρ=(a ρ).bind fun x=>(b ρ).bind fun y=>R.of (N2 x y.2):=id rfl
@[simp] theorem yE3:noO ρ=.ok none:=id rfl
@[simp] theorem yf5:zC0 a ρ=(a ρ).bind fun x=>match x.2 with | .int i=>.ok (some i) | _=>.st:=id rfl
@[simp] theorem yB5 {lo hi:SO}:slE a lo hi ρ=(a ρ).bind fun x=>(lo ρ).bind fun l=>(hi ρ).bind fun h=>R.of (slB x l h):=id rfl
@[simp] theorem yb7 {fn:Fn} {r:SA} {dd:List D}:p8 fn r dd ρ=(r ρ).bind fun xs=>(fn (xs.map (·.2)++dd)).bind fun kd=>.ok (zE1 kd.1 (jn xs),kd.2):=id rfl
@[simp] theorem yl3 {f:List KD->Option KD} {r:SA}:p6 f r ρ=(r ρ).bind fun xs=>R.of (f xs):=id rfl
@[simp] theorem yp3 {T:String}:zq1 a T ρ=(a ρ).bind fun x=>if tyK x.2=true then (match kitB (tyD x.2) T with | some b=>.ok (.own,.bl b) | none=>.st) else .st:=id rfl
@[simp] theorem yB1:tyK .non=true:=id rfl
@[simp] theorem yC2 {b:Bool}:tyK (.bl b)=true:=id rfl
@[simp] theorem yp7 {i:Int}:tyK (.int i)=true:=id rfl
@[simp] theorem yt4 {i:Str}:tyK (.str i)=true:=id rfl
@[simp] theorem yo3 {l:List D}:tyK (.tup l)=true:=id rfl
@[simp] theorem yv6 {l:List D}:tyK (.lst l)=true:=id rfl
@[simp] theorem yn6 {l:List D}:tyK (.scr l)=true:=id rfl
@[simp] theorem yq6 {l:List (Key×D)}:tyK (.dic l)=true:=id rfl
@[simp] theorem yw5:X9 a ρ=(a ρ).bind fun x=>match x.2 with | .lst ds=>.ok (x.1,ds) | .scr ds=>.ok (x.1,ds) | .tup ds=>.ok (x.1,ds) | .str z=>.ok (.own,z.cps.toList.map fun c=>.str ⟨#[c]⟩) | _=>.st:=id rfl
@[simp] theorem yb9:M6 a ρ=(a ρ).bind fun x=>match x.2 with | .int j=>if T2 j=true then .ok (.own,rng 0 j.toNat) else .st | _=>.st:=id rfl
@[simp] theorem yj6:z1d a b ρ=(a ρ).bind fun x=>(b ρ).bind fun y=>match x.2,y.2 with | .int i,.int j=>if (T2 i&&T2 j)=true then .ok (.own,rng i (j - i).toNat) else .st | _,_=>.st:=id rfl
@[simp] theorem z47:zp8 ρ=.ok true:=id rfl
theorem z1q {it:SI} {own:List Nat} {tg:Tgt} {ifs:STs} {elt:SE}:lcE it own tg ifs elt ρ=(it ρ).bind fun kds=>if own.all (G8 ρ)=true/\kds.2.length<=LIM then (zv8 (lcL tg ifs elt kds.1 (U9 ρ own) kds.2)).bind fun xs=>.ok (lk (jn xs) (xs.map (·.2)),.lst (xs.map (·.2))) else .st:=id rfl
@[simp] theorem z5O:t3 ρ=.nx ρ:=id rfl
def Out.seq (o:Out) (f:Env->Out):Out:=match o with | .nx ρ'=>f ρ' | o=>o
@[simp] theorem zK1:x7 s s' ρ=(s ρ).seq s':=id rfl
@[simp] theorem z14 {f:Env->Out}:(Out.nx ρ).seq f=f ρ:=id rfl
@[simp] theorem yC8 {f:Env->Out}:(Out.rt k d).seq f=.rt k d:=id rfl
@[simp] theorem yK7 {f:Env->Out}:(Out.bk ρ).seq f=.bk ρ:=id rfl
@[simp] theorem yI7 {f:Env->Out}:(Out.ct ρ).seq f=.ct ρ:=id rfl
@[simp] theorem yH3 {f:Env->Out} {c:Ec}:(Out.ex c ρ).seq f=.ex c ρ:=id rfl
@[simp] theorem yJ7 {f:Env->Out}:Out.st.seq f=.st:=id rfl
@[simp] theorem yq8 {f:Env->Out} {p:Prop} [Decidable p] {x y:Out}:(if p then x else y).seq f=if p then x.seq f else y.seq f:=by split <;> rfl
def Out.turn (o:Out) (f:Env->Out):Out:=match o with | .nx ρ2=>f ρ2 | .ct ρ2=>f ρ2 | .bk ρ2=>.nx ρ2 | o=>o
@[simp] theorem zX9 {f:Env->Out}:(Out.nx ρ).turn f=f ρ:=id rfl
@[simp] theorem yq1 {f:Env->Out}:(Out.rt k d).turn f=.rt k d:=id rfl
@[simp] theorem yv5 {f:Env->Out}:(Out.bk ρ).turn f=.nx ρ:=id rfl
@[simp] theorem yn4 {f:Env->Out}:(Out.ct ρ).turn f=f ρ:=id rfl
@[simp] theorem yB2 {f:Env->Out} {c:Ec}:(Out.ex c ρ).turn f=.ex c ρ:=id rfl
@[simp] theorem ym1 {f:Env->Out}:Out.st.turn f=.st:=id rfl
@[simp] theorem yh9 {f:Env->Out} {p:Prop} [Decidable p] {x y:Out}:(if p then x else y).turn f=if p then x.turn f else y.turn f:=by split <;> rfl
def Out.fin (o:Out):R KD:=match o with | .rt k d=>.ok (nk k d,d) | .nx _=>.ok (.own,.non) | .ex c _=>.ex c | _=>.st
@[simp] theorem yE6:(Out.nx ρ).fin=.ok (.own,.non):=id rfl
@[simp] theorem yK5:(Out.rt k d).fin=.ok (nk k d,d):=id rfl
@[simp] theorem z18:nk .own d=.own:=by unfold nk; split <;> rfl
theorem zg0 (h:noL d=true):nk k d=.own:=if_pos h
@[simp] theorem yC5 {i:Int}:nk k (.int i)=.own:=zg0 (by simp[noL])
@[simp] theorem yL5 {i:Bool}:nk k (.bl i)=.own:=zg0 (by simp[noL])
@[simp] theorem yD1 {i:Str}:nk k (.str i)=.own:=zg0 (by simp[noL])
@[simp] theorem yH1:nk k .non=.own:=zg0 (by simp[noL])
@[simp] theorem yE1 {l:List D}:nk k (.tup l)=lk k l:=by
 have e:noL (.tup l)=noLs l:=by simp[noL]
 unfold nk lk
 rw[e]
@[simp] theorem yE4 {l:List D}:nk k (.lst l)=k:=by simp[nk,noL]
@[simp] theorem yG9 {l:List (Key×D)}:nk k (.dic l)=k:=by simp[nk,noL]
@[simp] theorem yE2 {c:Ec}:(Out.ex c ρ).fin=.ex c:=id rfl
@[simp] theorem yJ1:Out.st.fin=.st:=id rfl
@[simp] theorem yw9 {p:Prop} [Decidable p] {x y:Out}:(if p then x else y).fin=if p then x.fin else y.fin:=by split <;> rfl
@[simp] theorem z6a {g:Tgt}:u8 g a ρ=(a ρ).out ρ fun x=>match g x.1 x.2 ρ with | some ρ'=>.nx ρ' | none=>.st:=id rfl
@[simp] theorem zz3:ifS t s s' ρ=(t ρ).out ρ fun c=>if c=true then s ρ else s' ρ:=id rfl
@[simp] theorem yk8:j6 a ρ=(a ρ).out ρ fun x=>.rt x.1 x.2:=id rfl
@[simp] theorem yr6 {i:Nat}:zm5 i ρ=match ρ[i]? with | some (.ow d)=>.rt .own d | some (.bo is d)=>.rt (.bor is) d | _=>.st:=id rfl
@[simp] theorem yt0:z28 ρ=.rt .own .non:=id rfl
@[simp] theorem yr9 {c:String}:zu9 c ρ=.ex c ρ:=id rfl
@[simp] theorem z99:zd9 a ρ=(a ρ).out ρ fun _=>.nx ρ:=id rfl
@[simp] theorem yl4 {it:SI} {g:Tgt}:S4 it g s ρ=(it ρ).out ρ fun kds=>U0 g s kds.2 (frz kds.1.is ρ):=id rfl
@[simp] theorem z1T {g:Tgt}:U0 g s [] ρ=.nx ρ:=id rfl
theorem r5 {g:Tgt} {ds:List D}:U0 g s (d::ds) ρ=match g (.bor []) d ρ with | none=>.st | some ρ1=>(s ρ1).turn (U0 g s ds):=id rfl
@[simp] theorem yA1 {i:Nat}:D6 i a ρ=match ρ[i]? with | some (.ow (.lst ds))=>(a ρ).out ρ fun x=>if D3 x.1 [x.2]=true/\ds.length < LIM then .nx ((inv i ρ).set i (.ow (.lst (ds++[x.2])))) else .st | _=>.st:=id rfl
@[simp] theorem z7L {i:Nat}:tgN i k d ρ=some (ρ.set i (mkS k d)):=id rfl
@[simp] theorem yx5 {g:zi2} {ds:List D}:tgT g k (.tup ds) ρ=g k.is ds ρ:=id rfl
@[simp] theorem yp9 {g:zi2} {ds:List D}:tgT g k (.lst ds) ρ=g k.is ds ρ:=id rfl
@[simp] theorem yk2:O5 is [] ρ=some ρ:=id rfl
@[simp] theorem z9s {g:Tgt} {r:zi2} {ds:List D}:j4 g r is (d::ds) ρ=(g (.bor is) d ρ).bind fun ρ'=>r is ds ρ':=id rfl
@[simp] theorem z8J {g:Tgt} {r:zi2}:j4 g r is [] ρ=none:=id rfl
@[simp] theorem yl1 {m:Nat} {ds:List D}:zK2 m s ds=(s (ds.map (Sl.bo [])++List.replicate (m - ds.length) .no)).fin:=id rfl
theorem t0 {n m:Nat} {ds:List D}:mkF n m s ds=if ds.length=n then zK2 m s ds else .st:=id rfl
@[simp] theorem yp8 {i:Int}:mkS k (.int i)=.bo [] (.int i):=by cases k <;> rfl
@[simp] theorem yI1 {i:Bool}:mkS k (.bl i)=.bo [] (.bl i):=by cases k <;> rfl
@[simp] theorem yq4 {i:Str}:mkS k (.str i)=.bo [] (.str i):=by cases k <;> rfl
@[simp] theorem yu0:mkS k .non=.bo [] .non:=by cases k <;> rfl
@[simp] theorem yf7 {ds:List D}:mkS .own (.lst ds)=.ow (.lst ds):=id rfl
@[simp] theorem z92 {ds:List D}:mkS .own (.tup ds)=.ow (.tup ds):=id rfl
@[simp] theorem yb8 {ds:List (Key×D)}:mkS .own (.dic ds)=.ow (.dic ds):=id rfl
@[simp] theorem z93 {ds:List D}:mkS (.bor is) (.lst ds)=.bo is (.lst ds):=id rfl
@[simp] theorem yj7 {ds:List D}:mkS (.bor is) (.tup ds)=.bo is (.tup ds):=id rfl
@[simp] theorem yd3 {ds:List D}:mkS (.bor is) (.scr ds)=.bo is (.scr ds):=id rfl
@[simp] theorem yf8 {ds:List (Key×D)}:mkS (.bor is) (.dic ds)=.bo is (.dic ds):=id rfl
@[simp] theorem z9I:Kd.is .own=[]:=id rfl
@[simp] theorem z9p:Kd.is (.bor is)=is:=id rfl
@[simp] theorem yD6:jn []=.own:=id rfl
@[simp] theorem z4S {x:KD} {r:List KD}:jn (x::r)=(nk x.1 x.2).join (jn r):=id rfl
@[simp] theorem ym7:Kd.join .own .own=.own:=id rfl
@[simp] theorem yn8:Kd.join .own (.bor is)=.bor is:=id rfl
@[simp] theorem yz2:Kd.join (.bor is) .own=.bor is:=by simp[Kd.join,Kd.is]
@[simp] theorem yp2 {js:List Nat}:Kd.join (.bor is) (.bor js)=.bor (is++js):=id rfl
@[simp] theorem yb0:zE1 .own k=.own:=id rfl
@[simp] theorem yg6:zE1 (.bor is) k=.bor k.is:=id rfl
@[simp] theorem yv1:frz [] ρ=ρ:=id rfl
@[simp] theorem yf6 {j:Nat}:frz (j::is) ρ=frz is (frz1 j ρ):=id rfl
@[simp] theorem yn9 {j:Nat}:frz1 j ρ=match ρ[j]? with | some (.ow d)=>ρ.set j (.bo [] d) | _=>ρ:=id rfl
@[simp] theorem yk9 {i:Nat}:inv i []=[]:=id rfl
@[simp] theorem yE5 {i:Nat}:inv i (.no::ρ)=.no::inv i ρ:=id rfl
@[simp] theorem yA6 {i:Nat}:inv i (.ow d::ρ)=.ow d::inv i ρ:=id rfl
@[simp] theorem yA0 {i:Nat}:inv i (.bo is d::ρ)=(if i∈is then .no else .bo is d)::inv i ρ:=id rfl
@[simp] theorem yi1:U9 ρ []=ρ:=id rfl
@[simp] theorem z9K {i:Nat}:U9 ρ (i::is)=(U9 ρ is).set i .no:=id rfl
@[simp] theorem ya3 {i:Nat}:G8 ρ i=(decide (i < ρ.length)&&match ρ[i]? with | some (.ow _)=>false | _=>true):=id rfl
@[simp] theorem yH5:slD (some (.ow d))=some d:=id rfl
@[simp] theorem yI5:slD (some (.bo is d))=some d:=id rfl
@[simp] theorem yp4 {i j:Int}:opB .Add (k,.int i) (k',.int j)=some (.own,.int (i + j)):=id rfl
@[simp] theorem yz8 {i j:Int}:opB .Sub (k,.int i) (k',.int j)=some (.own,.int (i - j)):=id rfl
@[simp] theorem yz4 {i j:Int}:opB .Mult (k,.int i) (k',.int j)=if O8 i j=true then some (.own,.int (i * j)) else none:=id rfl
@[simp] theorem yv0 {i j:Int}:opB .FloorDiv (k,.int i) (k',.int j)=if A8 j=true then some (.own,.int (i / j)) else none:=id rfl
@[simp] theorem yw3 {i j:Int}:opB .Mod (k,.int i) (k',.int j)=if 0 < j then some (.own,.int (i % j)) else none:=id rfl
@[simp] theorem yu6 {i j:Int}:opB .Pow (k,.int i) (k',.int j)=if zo9 i j=true then some (.own,.int (i ^ j.toNat)) else none:=id rfl
@[simp] theorem yc4 {i j:Str}:opB .Add (k,.str i) (k',.str j)=if i.length + j.length<=LIM then some (.own,.str (i++j)) else none:=id rfl
@[simp] theorem yd9 {x y:List D}:opB .Add (k,.tup x) (k',.tup y)=if x.length + y.length<=LIM then some (k.join k',.tup (x++y)) else none:=id rfl
@[simp] theorem yb4 {x y:List D}:opB .Add (k,.lst x) (k',.lst y)=if x.length + y.length<=LIM then some (lk (k.join k') (x++y),.lst (x++y)) else none:=id rfl
@[simp] theorem yc2 {x:List D} {j:Int}:opB .Mult (k,.tup x) (k',.int j)=if x≠[]/\1<=j/\j<=1000/\x.length<=1000/\noLs x=true then some (k,.tup (List.replicate j.toNat x).flatten) else none:=id rfl
@[simp] theorem yz6 {i j:Int}:Z2 .Lt (.int i) (.int j)=some (decide (i < j)):=id rfl
@[simp] theorem yx0 {i j:Int}:Z2 .LtE (.int i) (.int j)=some (decide (i<=j)):=id rfl
@[simp] theorem yw8 {i j:Int}:Z2 .Gt (.int i) (.int j)=some (decide (i > j)):=id rfl
@[simp] theorem yz1 {i j:Int}:Z2 .GtE (.int i) (.int j)=some (decide (i ≥ j)):=id rfl
@[simp] theorem yq5:Z2 .Eq d d'=eqD d d':=id rfl
@[simp] theorem yu2:Z2 .NotEq d d'=(eqD d d').map (!·):=id rfl
@[simp] theorem yy3:Z2 .Is d .non=some (V9 d):=id rfl
@[simp] theorem z8L:Z2 .IsNot d .non=some (!V9 d):=id rfl
@[simp] theorem ym9:Z2 .In d d'=inD d d':=id rfl
@[simp] theorem yd8:Z2 .NotIn d d'=(inD d d').map (!·):=id rfl
@[simp] theorem z9B:V9 .non=true:=id rfl
@[simp] theorem z9U {i:Int}:V9 (.int i)=false:=id rfl
@[simp] theorem z9A {l:List D}:V9 (.tup l)=false:=id rfl
@[simp] theorem z9y {l:List D}:V9 (.lst l)=false:=id rfl
@[simp] theorem ys0 {x:Bool}:ze7 (.bl x)=some x:=id rfl
@[simp] theorem yf4 {x:Int}:ze7 (.int x)=some (x != 0):=id rfl
@[simp] theorem yc6 {l:List D} {i:Int}:N2 (k,.lst l) (.int i)=(atI l i).map fun d=>(k,d):=id rfl
@[simp] theorem ye8 {l:List D} {i:Int}:N2 (k,.scr l) (.int i)=(atI l i).map fun d=>(k,d):=id rfl
@[simp] theorem yd6 {l:List D} {i:Int}:N2 (k,.tup l) (.int i)=(atI l i).map fun d=>(k,d):=id rfl
@[simp] theorem ye4 {l:List (Key×D)}:N2 (k,.dic l) d=(W4 d).bind fun q=>(w6 l q).map fun d=>(k,d):=by cases d <;> rfl
@[simp] theorem yt2 {l:List D} {lo hi:Option Int}:slB (k,.lst l) lo hi=some (lk k (za8 l lo hi),.lst (za8 l lo hi)):=id rfl
@[simp] theorem yt6 {l:List D} {lo hi:Option Int}:slB (k,.scr l) lo hi=some (lk k (za8 l lo hi),.lst (za8 l lo hi)):=id rfl
@[simp] theorem yt8 {l:List D} {lo hi:Option Int}:slB (k,.tup l) lo hi=some (k,.tup (za8 l lo hi)):=id rfl
@[simp] theorem ym4 {x:KD}:X0 [x]=(zh0 x.2).map fun (n:Nat)=>(Kd.own,D.int (n:Int)):=id rfl
@[simp] theorem yh7 {l:List D}:zh0 (.lst l)=some l.length:=id rfl
@[simp] theorem yj3 {l:List D}:zh0 (.scr l)=some l.length:=id rfl
@[simp] theorem yi2 {l:List D}:zh0 (.tup l)=some l.length:=id rfl
@[simp] theorem yc5 {l:List (Key×D)}:zh0 (.dic l)=some l.length:=id rfl
@[simp] theorem yG3 {i j:Int}:zw4 [(k,.int i),(k',.int j)]=some (.own,.int (max i j)):=id rfl
@[simp] theorem yJ6 {l:List D}:zw4 [(k,.lst l)]=((p9 l).bind zn3).map fun n=>(.own,.int n):=id rfl
@[simp] theorem yC1 {l:List D}:zw4 [(k,.tup l)]=((p9 l).bind zn3).map fun n=>(.own,.int n):=id rfl
@[simp] theorem yI4 {i j:Int}:zm7 [(k,.int i),(k',.int j)]=some (.own,.int (min i j)):=id rfl
@[simp] theorem yL4 {l:List D}:zm7 [(k,.lst l)]=((p9 l).bind zf0).map fun n=>(.own,.int n):=id rfl
@[simp] theorem yF4 {l:List D}:zm7 [(k,.tup l)]=((p9 l).bind zf0).map fun n=>(.own,.int n):=id rfl
@[simp] theorem yD8 {l:List D}:zM7 [(k,.lst l)]=(p9 l).map fun ns=>(.own,.int ns.sum):=id rfl
@[simp] theorem yG7 {l:List D}:zM7 [(k,.scr l)]=(p9 l).map fun ns=>(.own,.int ns.sum):=id rfl
@[simp] theorem yH0 {l:List D}:zM2 [(k,.lst l)]=(E2 l).map fun ns=>(.own,.bl (ns.all id)):=id rfl
@[simp] theorem yG2 {l:List D}:zM9 [(k,.lst l)]=some (k,.tup l):=id rfl
@[simp] theorem yB9 {l:List D}:zM9 [(k,.tup l)]=some (k,.tup l):=id rfl
@[simp] theorem yJ5 {i:Int}:zf2 [(k,.int i)]=some (.own,.int i):=id rfl
@[simp] theorem yF1 {i:Bool}:zf2 [(k,.bl i)]=some (.own,.int (if i then 1 else 0)):=id rfl
@[simp] theorem yt1 {i:Int}:noL (.int i)=true:=id rfl
@[simp] theorem yD2 {i:Bool}:noL (.bl i)=true:=id rfl
@[simp] theorem yn7 {i:Str}:noL (.str i)=true:=id rfl
@[simp] theorem yx7:noL .non=true:=id rfl
@[simp] theorem yz9 {l:List D}:noL (.tup l)=noLs l:=by simp[noL]
@[simp] theorem yr2 {l:List D}:noL (.lst l)=false:=by simp[noL]
@[simp] theorem yo7 {l:List (Key×D)}:noL (.dic l)=false:=by simp[noL]
@[simp] theorem yc1:noLs []=true:=by simp[noLs]
@[simp] theorem z9Y {l:List D}:noLs (d::l)=(noL d&&noLs l):=by simp[noLs]
@[simp] theorem yd2 {l m:List D}:noLs (l++m)=(noLs l&&noLs m):=by
 induction l with
 | nil=>simp
 | cons x l ih=>simp[ih,Bool.and_assoc]
theorem z7h {l:List D}:lk .own l=.own:=by unfold lk; split <;> rfl
@[simp] theorem yr1 {l:List D}:lk .own l=.own:=z7h
theorem I4 {l:List D} (h:noLs l=true):lk k l=.own:=if_pos h
@[simp] theorem yy8 {l:List Int}:lk k (l.map D.int)=.own:=I4 (zj6 l)
@[simp] theorem yi6 {l:List D}:D3 .own l=true:=id rfl
@[simp] theorem yf9 {l:List D}:D3 (.bor is) l=noLs l:=id rfl
@[simp] theorem z0b {α:Type} {x:α}:zv8 (.ok x)=.ok x:=id rfl
@[simp] theorem yg5 {α:Type} {p:Prop} [Decidable p] {x y:Option α}:R.of (if p then x else y)=if p then R.of x else R.of y:=by split <;> rfl
@[simp] theorem z83 {α β:Type} {p:Prop} [Decidable p] {x y:R α} {f:α->R β}:(if p then x else y).bind f=if p then x.bind f else y.bind f:=by split <;> rfl
@[simp] theorem z9k {α:Type} {p:Prop} [Decidable p] {x y:R α} {f:α->Out}:(if p then x else y).out ρ f=if p then x.out ρ f else y.out ρ f:=by split <;> rfl
@[simp] theorem yw7:LIM=16777216:=id rfl
end
section
variable {ρ:Env} {a b c:SE} {t u v:STs} {s s':SS} {k k':Kd} {d d':D} {is:List Nat} {p:SPh} {r:SA}
@[simp] theorem ys6 {i:Nat}:O7 i ρ=match ρ[i]? with | some (.ow d)=>.ok (i,[],d) | _=>.st:=id rfl
@[simp] theorem yt9:z0T p a ρ=(p ρ).bind fun x=>(a ρ).bind fun y=>match C8 x.2.2 y.2 with | some (i,d)=>.ok (x.1,x.2.1++[i],d) | none=>.st:=id rfl
@[simp] theorem z9t {ds:List D} {n:Int}:C8 (.lst ds) (.int n)=(ixN ds.length n).bind fun j=>ds[j]?.map fun d=>(.at j,d):=id rfl
@[simp] theorem z9r {ds:List D} {n:Int}:C8 (.tup ds) (.int n)=(ixN ds.length n).bind fun j=>ds[j]?.map fun d=>(.at j,d):=id rfl
@[simp] theorem z9E {ds:List (Key×D)}:C8 (.dic ds) d=(W4 d).bind fun k=>(w6 ds k).map fun d=>(.key k,d):=id rfl
@[simp] theorem yE9 {T:MT} {op:MOp}:mtS T p r op ρ=(p ρ).out ρ fun x=>if T.ok x.2.2=true then (r ρ).out ρ fun xs=>match op x.2.2 xs with | some y=>(match X5 ρ x y.2 with | some ρ'=>.nx ρ' | none=>.st) | none=>.st else .st:=id rfl
@[simp] theorem yy1:zc5 p a b ρ=(b ρ).out ρ fun x=>(p ρ).out ρ fun y=>(a ρ).out ρ fun z=>match zy4 y.2.2 z.2 x with | some d=>(match X5 ρ y d with | some ρ'=>.nx ρ' | none=>.st) | none=>.st:=id rfl
@[simp] theorem z3I {i:Nat} {q:List Ix} {d0:D}:X5 ρ (i,q,d0) d'=(W8 q ((slD ρ[i]?).getD .non) d').map fun d'=>(inv i ρ).set i (.ow d'):=id rfl
@[simp] theorem ye7:W8 [] d d'=some d':=by simp[W8]
@[simp] theorem yA2 {q:List Ix} {j:Nat} {ds:List D}:W8 (.at j::q) (.lst ds) d'=ds[j]?.bind fun d=>(W8 q d d').map fun d'=>.lst (ds.set j d'):=by simp[W8]
@[simp] theorem yj2 {q:List Ix} {j:Nat} {ds:List D}:W8 (.at j::q) (.tup ds) d'=ds[j]?.bind fun d=>(W8 q d d').map fun d'=>.tup (ds.set j d'):=by simp[W8]
@[simp] theorem ya4 {q:List Ix} {k:Key} {ds:List (Key×D)}:W8 (.key k::q) (.dic ds) d'=(w6 ds k).bind fun d=>(W8 q d d').map fun d'=>.dic (Y2 ds k d'):=by simp[W8]
@[simp] theorem yg2 {ds:List D} {n:Int} {x:KD}:zy4 (.lst ds) (.int n) x=if D3 x.1 [x.2]=true then (ixN ds.length n).map fun j=>.lst (ds.set j x.2) else none:=id rfl
@[simp] theorem yf3 {ds:List (Key×D)} {x:KD}:zy4 (.dic ds) d x=if D3 x.1 [x.2]=true then (W4 d).bind fun k=>if ds.length < LIM then some (.dic (Y2 ds k x.2)) else none else none:=id rfl
@[simp] theorem yG5 {ds:List D}:MT.ok .l (.lst ds)=true:=id rfl
@[simp] theorem yK8 {ds:List (Key×D)}:MT.ok .d (.dic ds)=true:=id rfl
@[simp] theorem ye5 {ds:List D} {x:KD}:zj1 (.lst ds) [x]=if D3 x.1 [x.2]=true/\ds.length < LIM then some (.non,.lst (ds++[x.2])) else none:=id rfl
def Out.try (o:Out) (xs:List String) (hs:List (String×(Ec->SS))):Out:=match o with | .ex c ρ'=>if xs.contains c.nm=true then zf7 c hs ρ' else .st | o=>o
@[simp] theorem yh8 {xs:List String} {hs:List (String×(Ec->SS))}:z3m xs s hs ρ=(s ρ).try xs hs:=id rfl
section
variable {xs:List String} {hs:List (String×(Ec->SS))}
@[simp] theorem yC4:(Out.nx ρ).try xs hs=.nx ρ:=id rfl
@[simp] theorem yJ8:(Out.rt k d).try xs hs=.rt k d:=id rfl
@[simp] theorem yK9:(Out.bk ρ).try xs hs=.bk ρ:=id rfl
@[simp] theorem yC9:(Out.ct ρ).try xs hs=.ct ρ:=id rfl
@[simp] theorem yD3:Out.st.try xs hs=.st:=id rfl
@[simp] theorem yF7 {c:Ec}:(Out.ex c ρ).try xs hs=if xs.contains c.nm=true then zf7 c hs ρ else .st:=id rfl
@[simp] theorem yA9 {q:Prop} [Decidable q] {x y:Out}:(if q then x else y).try xs hs=if q then x.try xs hs else y.try xs hs:=by split <;> rfl
end
@[simp] theorem ye3 {c:Ec}:zf7 c [] ρ=.ex c ρ:=id rfl
@[simp] theorem z9Q {c:Ec} {D:String} {l:List (String×(Ec->SS))} {s:Ec->SS}:zf7 c ((D,s)::l) ρ=if N9 c.nm D=true then (s c ρ).nox else zf7 c l ρ:=id rfl
@[simp] theorem yD7:(Out.nx ρ).nox=.nx ρ:=id rfl
@[simp] theorem yI0:(Out.rt k d).nox=.rt k d:=id rfl
@[simp] theorem yJ0:(Out.bk ρ).nox=.bk ρ:=id rfl
@[simp] theorem yJ2:(Out.ct ρ).nox=.ct ρ:=id rfl
@[simp] theorem yK3:Out.st.nox=.st:=id rfl
@[simp] theorem yd0:zI1 a ρ=(a ρ).bind fun x=>match x.2 with | .lst ds=>.ok (x.1,R6 0 ds) | .scr ds=>.ok (x.1,R6 0 ds) | .tup ds=>.ok (x.1,R6 0 ds) | _=>.st:=id rfl
@[simp] theorem yv3:z30 a ρ=(a ρ).bind fun x=>match x.2 with | .int j=>.ok ((0:Int),j) | _=>.st:=id rfl
@[simp] theorem yx6 {g:SRg}:z27 g ρ=(g ρ).bind fun x=>if (T2 x.1&&T2 x.2)=true/\(x.2 - x.1).toNat<=LIM then .ok (.own,.lst (rng x.1 (x.2 - x.1).toNat)) else .st:=id rfl
@[simp] theorem yD5 {i j:Nat}:mvS i j ρ=match ρ[j]? with | some (.ow d)=>if i≠j/\i < ρ.length then .nx (((ρ.map (rlb j i)).set j (.bo [i] d)).set i (.ow d)) else .st | some (.bo is d)=>.nx (ρ.set i (mkS (.bor is) d)) | _=>.st:=id rfl
@[simp] theorem yL0 {i j:Nat}:rlb j i (.ow d)=.ow d:=id rfl
@[simp] theorem yB8 {i j:Nat}:rlb j i .no=.no:=id rfl
@[simp] theorem yD0 {i j:Nat}:rlb j i (.bo is d)=.bo (is.map fun x=>if x=j then i else x) d:=id rfl
@[simp] theorem yb2 {l m:List D}:Z2 .Lt (.tup l) (.tup m)=(p9 l).bind fun ns=>(p9 m).map fun ms=>HT.lexLt ns ms:=id rfl
@[simp] theorem yh0 {l m:List D}:Z2 .LtE (.tup l) (.tup m)=(p9 l).bind fun ns=>(p9 m).map fun ms=>leT ns ms:=id rfl
@[simp] theorem yJ3 {x:String}:mkS .own (.fn x)=.ow (.fn x):=id rfl
@[simp] theorem yl7 {x:String}:mkS (.bor is) (.fn x)=.bo is (.fn x):=id rfl
@[simp] theorem yF2 {x:String}:noL (.fn x)=true:=by simp[noL]
@[simp] theorem ys7:z3A ρ=.ok (.own,.dtk []):=id rfl
@[simp] theorem ye6 {ds:List (List Key×D)}:mkS .own (.dtk ds)=.ow (.dtk ds):=id rfl
@[simp] theorem yj8 {ds:List (List Key×D)}:mkS (.bor is) (.dtk ds)=.bo is (.dtk ds):=id rfl
@[simp] theorem yy4 {l:List (List Key×D)}:noL (.dtk l)=false:=by simp[noL]
@[simp] theorem yn1 {t:Nat} {C:String} {l:List (Str×D)}:noL (.obj t C l)=false:=by simp[noL]
@[simp] theorem yl9 {C:String} {l:List (Str×D)}:noL (.sob C l)=true:=by simp[noL]
@[simp] theorem yA3 {l:List (Key×D)}:noL (.fdc l)=true:=by simp[noL]
@[simp] theorem yA4 {l:List D}:noL (.scr l)=noLs l:=by simp[noL]
@[simp] theorem yF3 {l:List (List Key×D)}:nk k (.dtk l)=k:=by simp[nk]
@[simp] theorem yi8 {l:List D}:S1 (.tup l)=W5 l:=id rfl
@[simp] theorem z9N:W5 []=some []:=id rfl
theorem zH5 {l:List D}:W5 (d::l)=(match W4 d,W5 l with | some k,some ks=>some (k::ks) | _,_=>none):=id rfl
@[simp] theorem z2h {l:List D} {i:Int}:W5 (.int i::l)=(W5 l).map (.inl i::·):=by rw[zH5]; cases W5 l <;> rfl
@[simp] theorem z9Z {l:List D} {i:Str}:W5 (.str i::l)=(W5 l).map (.inr i::·):=by rw[zH5]; cases W5 l <;> rfl
@[simp] theorem z0Q:∀ l:List Int,W5 (l.map D.int)=some (l.map Sum.inl)
 | []=>rfl
 | i::l=>by rw[List.map_cons,z2h,z0Q l]; rfl
@[simp] theorem yw2 {l:List (List Key×D)}:inD d (.dtk l)=(S1 d).map fun k=>(w6 l k).isSome:=id rfl
@[simp] theorem ym6 {l:List (Key×D)}:inD d (.fdc l)=(W4 d).map fun k=>(w6 l k).isSome:=id rfl
@[simp] theorem yd1 {l:List (List Key×D)}:N2 (k,.dtk l) d=(S1 d).bind fun q=>(w6 l q).map fun d=>(k,d):=by cases d <;> rfl
@[simp] theorem yb3 {l:List (Key×D)}:N2 (k,.fdc l) d=(W4 d).bind fun q=>(w6 l q).map fun d=>(.own,d):=by cases d <;> rfl
@[simp] theorem yg3 {ds:List (List Key×D)} {x:KD}:zy4 (.dtk ds) d x=if D3 x.1 [x.2]=true then (S1 d).bind fun k=>if ds.length < LIM then some (.dtk (Y2 ds k x.2)) else none else none:=id rfl
end
section
variable {ρ:Env} {a b c:SE} {s s':SS} {k k':Kd} {d d':D} {is:List Nat} {p:SPh} {r:SA} {m:SM} {f:Env->Kd->D->Out} {g:Tgt}
@[simp] theorem yM8:mE a ρ=(a ρ).out ρ fun x=>.ri ρ x.1 x.2:=id rfl
@[simp] theorem z4Z:z0N g m ρ=(m ρ).thenM fun ρ k d=>match g k d ρ with | some ρ'=>.nx ρ' | none=>.st:=id rfl
@[simp] theorem z3w:zu4 m ρ=(m ρ).thenM fun ρ _ _=>.nx ρ:=id rfl
@[simp] theorem yo2:z0H m ρ=(m ρ).thenM fun _ k d=>.rt k d:=id rfl
@[simp] theorem zK9:z0A m ρ=(m ρ).thenM fun ρ k d=>.ri ρ k d:=id rfl
@[simp] theorem yd5:(Out.ri ρ k d).thenM f=f ρ k d:=id rfl
@[simp] theorem yc3 {c:Ec}:(Out.ex c ρ).thenM f=.ex c ρ:=id rfl
@[simp] theorem ya2:Out.st.thenM f=.st:=id rfl
@[simp] theorem z9h {q:Prop} [Decidable q] {x y:Out}:(if q then x else y).thenM f=if q then x.thenM f else y.thenM f:=by split <;> rfl
theorem B6:V7 ρ=ρ.all fun s=>match s with | .bo is _=>is.all fun j=>decide (j < ρ.length) | _=>true:=rfl
@[simp] theorem yI6 {f:Env->Out}:(Out.ri ρ k d).seq f=.ri ρ k d:=id rfl
@[simp] theorem yz5 {f:Env->Out}:(Out.ri ρ k d).turn f=.ri ρ k d:=id rfl
@[simp] theorem yJ9 {xs:List String} {hs:List (String×(Ec->SS))}:(Out.ri ρ k d).try xs hs=.ri ρ k d:=id rfl
@[simp] theorem yK6:(Out.ri ρ k d).nox=.ri ρ k d:=id rfl
end
section
variable {ρ:Env} {a b:SE} {k:Kd} {z:Str} {ds:List D} {r:SA} {s:SS}
@[simp] theorem yi9:zh6 .own=true:=id rfl
@[simp] theorem yM6 {d:D}:slO 0 (d::ds)=mkS .own d::ds.map (Sl.bo []):=id rfl
@[simp] theorem yM3 {i:Nat} {d:D}:slO (i + 1) (d::ds)=.bo [] d::slO i ds:=id rfl
end
section
variable {ρ:Env} {a b:SE} {k:Kd} {C C' m:String} {f:Str} {d:D} {t:Nat} {fs fs':List (Str×D)} {cs:List String} {s:SS} {r:SA} {c:Ec} {p:SPh}
@[simp] theorem yr8:K7 cs f a ρ=(a ρ).bind fun x=>R.of (ze2 cs f x):=id rfl
@[simp] theorem V0:ze2 cs f (k,.obj t C fs)=if cs.contains C=true then (w6 fs f).map fun d=>(k,d) else none:=id rfl
@[simp] theorem yf0:ze2 cs f (k,.sob C fs)=if cs.contains C=true then (w6 fs f).map fun d=>(.own,d) else none:=id rfl
@[simp] theorem yo6:zT7 cs f p ρ=(p ρ).bind fun x=>match x.2.2 with
 | .obj _ C fs=>if cs.contains C=true then (match w6 fs f with
  | some d=>.ok (x.1,x.2.1++[.fld f],d)
  | none=>.st) else .st
 | _=>.st:=id rfl
@[simp] theorem yo9:z02 cs p f b ρ=(b ρ).out ρ fun x=>(p ρ).out ρ fun y=>match y.2.2 with
 | .obj t C fs=>if cs.contains C=true/\D3 x.1 [x.2]=true/\fs.length < 1000 then (match X5 ρ y (.obj t C (Y2 fs f x.2)) with
  | some ρ'=>.nx ρ'
  | none=>.st) else .st
 | _=>.st:=id rfl
theorem zf3 {n j:Nat} {ds:List D}:mkG C n j s t fs ds=if ds.length + 1=n then zN4 C j s t fs ds else .st:=id rfl
theorem A4 {j:Nat} {ds:List D}:zN4 C j s t fs ds=(s (.ow (.obj t C fs)::(ds.map (Sl.bo [])++List.replicate (j - (ds.length + 1)) .no))).finG t C:=id rfl
@[simp] theorem yx3:(Out.nx ρ).finG t C=finG t C ρ .non:=id rfl
@[simp] theorem ym8:(Out.ri ρ k d).finG t C=if zh6 k=true then finG t C ρ d else .st:=id rfl
@[simp] theorem yA8:(Out.ex c ρ).finG t C=exG t C ρ c:=id rfl
@[simp] theorem yo4:finG t C (.ow (.obj t C fs)::ρ) d=.ok fs d:=by simp[finG,zl6]
@[simp] theorem yG6:exG t C (.ow (.obj t C fs)::ρ) c=.ex c fs:=by simp[exG,zl6]
@[simp] theorem z77 {fn:Fn}:rmE C m fn a r ρ=(a ρ).bind fun x=>match x.2 with
 | .obj _ C' fs=>if C'=C/\J1 fs (Str.ofString m)=true then (r ρ).bind fun xs=>rmK C m fn x xs else .st
 | .sob C' fs=>if C'=C/\J1 fs (Str.ofString m)=true then (r ρ).bind fun xs=>rmK C m fn x xs else .st
 | _=>.st:=id rfl
@[simp] theorem yK0 {fn:Fn} {x:KD} {xs:List KD}:rmK C m fn x xs=(fn (x.2::xs.map (·.2))).bind fun kd=>.ok (zE1 kd.1 (jn (x::xs)),kd.2):=id rfl
theorem z7T {g:GFn}:mkE C g r ρ=(r ρ).bind fun xs=>match G3 fun t=>g t [] (xs.map (·.2)) with
 | .ok fs' .non=>.ok (.own,.obj 0 C fs')
 | .ex c _=>.ex c
 | _=>.st:=id rfl
@[simp] theorem yr3:I0 a ρ=(a ρ).out ρ fun x=>.ri ρ (nk x.1 x.2) x.2:=id rfl
@[simp] theorem yd7 {κ:Type} [DecidableEq κ] {q:κ}:w6 ([]:List (κ×D)) q=none:=id rfl
@[simp] theorem z9n {κ:Type} [DecidableEq κ] {q x:κ} {r:List (κ×D)}:w6 ((x,d)::r) q=if x=q then some d else w6 r q:=id rfl
@[simp] theorem yj9 {κ:Type} [DecidableEq κ] {q:κ}:Y2 ([]:List (κ×D)) q d=[(q,d)]:=id rfl
theorem z2Z {κ:Type} [DecidableEq κ] {q:κ} {r:List (κ×D)} (h:∀ p∈r,p.1≠q):Y2 r q d=r++[(q,d)]:=by
 unfold Y2
 rw[if_neg (fun z=>by obtain ⟨p,h1,h2⟩:=List.any_eq_true.mp z; exact h p h1 (of_decide_eq_true h2))]
@[simp] theorem z9P:mkS .own (.sob C fs)=.ow (.sob C fs):=id rfl
@[simp] theorem z9G {is:List Nat}:mkS (.bor is) (.sob C fs)=.bo is (.sob C fs):=id rfl
@[simp] theorem yg1 {kvs:List (Key×D)}:mkS .own (.fdc kvs)=.ow (.fdc kvs):=id rfl
@[simp] theorem yg0 {is:List Nat} {kvs:List (Key×D)}:mkS (.bor is) (.fdc kvs)=.bo is (.fdc kvs):=id rfl
@[simp] theorem yc7:mkS .own (.obj t C fs)=.ow (.obj t C fs):=id rfl
@[simp] theorem yi0 {is:List Nat}:mkS (.bor is) (.obj t C fs)=.bo is (.obj t C fs):=id rfl
@[simp] theorem yG4:nk k (.sob C fs)=.own:=zg0 (by simp[noL])
@[simp] theorem yB6 {kvs:List (Key×D)}:nk k (.fdc kvs)=.own:=zg0 (by simp[noL])
@[simp] theorem z9T:V9 (.sob C fs)=false:=id rfl
@[simp] theorem z9D:V9 (.obj t C fs)=false:=id rfl
@[simp] theorem yj4 {z:Str} {k':Kd} {j:Int}:opB .Mult (k,.str z) (k',.int j)=if 2<=j/\j<=1000/\1<=z.length/\z.length<=1000 then some (.own,.str (zr4 z j.toNat)) else none:=id rfl
end
theorem zC3 {α:Type} (l:List α) (n:Nat):atI l ((OfNat.ofNat n:Nat):Int)=l[n]?:=by
 show atI l (n:Int)=l[n]?
 cases h:l[n]? with
 | some v=>exact atI_nat h
 | none=>
  unfold atI ixN
  have:l.length<=n:=by simpa using h
  rw[if_pos (by omega),if_neg (by omega)]
  rfl
theorem zr5 {α:Type} (l:List α) (i:Int) (h:0<=i):atI l i=l[i.toNat]?:=by
 have:=zC3 l i.toNat
 have e:((OfNat.ofNat i.toNat:Nat):Int)=i:=by show ((i.toNat:Nat):Int)=i; omega
 rw[e] at this
 exact this
theorem z3t {α:Type} (l:List α):atI l (-1)=l.getLast?:=by
 rcases List.eq_nil_or_concat l with h | ⟨r,x,h⟩
 ·subst h; rfl
 ·subst h; rw[List.concat_eq_append,atI_last]; simp
@[simp] theorem yM7 {α:Type} (l:List α):atI l 0=l[0]?:=zC3 l 0
@[simp] theorem yM0 {α:Type} (l:List α):atI l 1=l[1]?:=zC3 l 1
@[simp] theorem z9R {α:Type} (l:List α) (n:Nat):atI l (no_index (@OfNat.ofNat Int n instOfNat))=l[(OfNat.ofNat n:Nat)]?:=zC3 l n
@[simp] theorem yB4 {α:Type} (l:List α):atI l (-1)=l.getLast?:=z3t l
theorem z5C (n d:Nat) (i:Int) (h:0<=i):HT.sIx n d (some i)=min i.toNat n:=by
 show (if i < 0 then (i + (n:Int)).toNat else min i.toNat n)=_
 rw[if_neg (by omega)]
theorem z35 (l:List D) (i:Int) (h:0<=i):za8 l (some i) none=l.drop i.toNat:=by
 unfold za8
 rw[HT.sIx_none,z5C _ _ _ h]
 by_cases hl:i.toNat<=l.length
 ·rw[Nat.min_eq_left hl]; exact List.take_of_length_le (by simp)
 ·rw[Nat.min_eq_right (by omega),List.drop_of_length_le (i:=i.toNat) (by omega)]; simp
@[simp] theorem z1w {l:List D} {n:Nat} (h:noLs l=true):noLs (l.take n)=true:=by
 induction l generalizing n with
 | nil=>simp
 | cons x l ih=>cases n with
  | zero=>simp
  | succ n=>simp at h ⊢; exact ⟨h.1,ih h.2⟩
@[simp] theorem z2l {l:List D} {n:Nat} (h:noLs l=true):noLs (l.drop n)=true:=by
 induction l generalizing n with
 | nil=>simp
 | cons x l ih=>cases n with
  | zero=>simpa using h
  | succ n=>simp at h ⊢; exact ih h.2
@[simp] theorem ys1 (lo:Int) (n:Nat):(rng lo n).length=n:=by simp[rng]
theorem S7 {i:Int} (h1:-4611686018427387904<=i) (h2:i < 4611686018427387904):T2 i=true:=by
 unfold T2
 rw[@decide_eq_true _ (Classical.propDecidable _) (by omega),@decide_eq_true _ (Classical.propDecidable _) (by omega)]
 rfl
@[simp] theorem yj5 (lo:Int) (n:Nat):noLs (rng lo n)=true:=by
 have:rng lo n=((List.range n).map fun (i:Nat)=>lo + (i:Int)).map D.int:=by simp[rng,Function.comp]
 rw[this]; exact zj6 _
theorem zZ9 {α:Type} {tg:Tgt} {elt:SE} {k:Kd} {ρ:Env} {f:α->D} {g:α->KD}:∀ {l:List α},(∀ a∈l,∃ ρ1,tg (.bor k.is) (f a) ρ=some ρ1/\elt ρ1=.ok (g a))->lcL tg zp8 elt k ρ (l.map f)=.ok (l.map g)
 | [],_=>rfl
 | a::l,h=>by
  obtain ⟨ρ1,h1,h2⟩:=h a List.mem_cons_self
  have ih:=zZ9 (l:=l) fun a ha=>h a (List.mem_cons_of_mem _ ha)
  rw[List.map_cons,lcL,h1]
  simp only[z47,R.bind_ok,if_true,h2,ih,List.map_cons]
theorem zH4 {α:Type} {tg:Tgt} {ifs:STs} {elt:SE} {k:Kd} {ρ:Env} {f:α->D} {p:α->Bool} {g:α->KD}:∀ {l:List α},(∀ a∈l,∃ ρ1,tg (.bor k.is) (f a) ρ=some ρ1/\ifs ρ1=.ok (p a)/\(p a=true->elt ρ1=.ok (g a))) ->
  lcL tg ifs elt k ρ (l.map f)=.ok ((l.filter p).map g)
 | [],_=>rfl
 | a::l,h=>by
  obtain ⟨ρ1,h1,h2,h3⟩:=h a List.mem_cons_self
  have ih:=zH4 (l:=l) fun a ha=>h a (List.mem_cons_of_mem _ ha)
  rw[List.map_cons,lcL,h1]
  simp only[h2,R.bind_ok]
  cases hp:p a with
  | true=>simp[h3 hp,ih,hp]
  | false=>simp[ih,hp]
theorem zh9 {α:Type} {f:α->D} {l:List α} (h:∀ a∈l,noL (f a)=true):noLs (l.map f)=true:=by
 induction l with
 | nil=>simp
 | cons x l ih=>simp[h x List.mem_cons_self,ih fun y hy=>h y (List.mem_cons_of_mem _ hy)]
section
variable {α:Type} {it:SI} {own:List Nat} {tg:Tgt} {ifs:STs} {elt:SE} {ρ:Env} {k:Kd} {l:List α} {f h:α->D} {p:α->Bool}
theorem zC6 (hit:it ρ=.ok (k,l.map f)) (hown:own.all (G8 ρ)=true) (hlen:l.length<=16777216) (hh:∀ a∈l,∃ ρ1 k',tg (.bor k.is) (f a) (U9 ρ own)=some ρ1/\elt ρ1=.ok (k',h a)/\noL (h a)=true) :
  lcE it own tg zp8 elt ρ=.ok (.own,.lst (l.map h)):=by
 have hk:∀ a:α,∃ k',a∈l->∃ ρ1,tg (.bor k.is) (f a) (U9 ρ own)=some ρ1/\elt ρ1=.ok (k',h a):=fun a=>by
  by_cases ha:a∈l
  ·obtain ⟨ρ1,k',h1,h2,_⟩:=hh a ha; exact ⟨k',fun _=>⟨ρ1,h1,h2⟩⟩
  ·exact ⟨.own,fun z=>absurd z ha⟩
 have:=zZ9 (tg:=tg) (elt:=elt) (k:=k) (ρ:=U9 ρ own) (f:=f) (l:=l) (g:=fun a=>((hk a).choose,h a)) fun a ha=>(hk a).choose_spec ha
 rw[z1q,hit]
 simp only[R.bind_ok]
 rw[if_pos ⟨hown,by simpa using hlen⟩,this]
 simp only[z0b,R.bind_ok,List.map_map,Function.comp_def]
 rw[I4 (zh9 fun a ha=>let ⟨_,_,_,_,z⟩:=hh a ha; z)]
theorem N1 (hit:it ρ=.ok (k,l.map f)) (hown:own.all (G8 ρ)=true) (hlen:l.length<=16777216) (hh:∀ a∈l,∃ ρ1,tg (.bor k.is) (f a) (U9 ρ own)=some ρ1/\ifs ρ1=.ok (p a)/\(p a=true->∃ k',elt ρ1=.ok (k',h a)/\noL (h a)=true)) :
  lcE it own tg ifs elt ρ=.ok (.own,.lst ((l.filter p).map h)):=by
 have hk:∀ a:α,∃ k',a∈l->∃ ρ1,tg (.bor k.is) (f a) (U9 ρ own)=some ρ1/\ifs ρ1=.ok (p a)/\(p a=true->elt ρ1=.ok (k',h a)):=fun a=>by
  by_cases ha:a∈l
  ·obtain ⟨ρ1,h1,h2,h3⟩:=hh a ha
   cases hp:p a with
   | true=>obtain ⟨k',h4,_⟩:=h3 hp; exact ⟨k',fun _=>⟨ρ1,h1,by rw[h2,hp],fun _=>h4⟩⟩
   | false=>exact ⟨.own,fun _=>⟨ρ1,h1,by rw[h2,hp],fun z=>by cases z⟩⟩
  ·exact ⟨.own,fun z=>absurd z ha⟩
 have:=zH4 (tg:=tg) (ifs:=ifs) (elt:=elt) (k:=k) (ρ:=U9 ρ own) (f:=f) (l:=l) (p:=p) (g:=fun a=>((hk a).choose,h a)) fun a ha=>(hk a).choose_spec ha
 rw[z1q,hit]
 simp only[R.bind_ok]
 rw[if_pos ⟨hown,by simpa using hlen⟩,this]
 simp only[z0b,R.bind_ok,List.map_map,Function.comp_def]
 rw[I4 (zh9 fun a ha=>let ⟨_,_,_,h3⟩:=hh a (List.mem_filter.mp ha).1; let ⟨_,_,z⟩:=h3 (List.mem_filter.mp ha).2; z)]
end
@[simp] theorem zZ7 {α:Type} (f:α->Bool):∀ l:List α,E2 (l.map fun a=>D.bl (f a))=some (l.map f)
 | []=>rfl
 | x::l=>by simp[E2,zZ7 f l]
@[simp] theorem z36 {α:Type} (f:α->Int):∀ l:List α,p9 (l.map fun a=>D.int (f a))=some (l.map f)
 | []=>rfl
 | x::l=>by simp[p9,z36 f l]
@[simp] theorem z3b {α:Type} (f:α->Int) (l:List α):noLs (l.map fun a=>D.int (f a))=true:=zh9 fun _ _=>rfl
@[simp] theorem yh5 {α:Type} (f:α->Bool) (l:List α):noLs (l.map fun a=>D.bl (f a))=true:=zh9 fun _ _=>rfl
@[simp] theorem z9e:p9 []=some []:=rfl
@[simp] theorem z8W {i:Int} {l:List D}:p9 (.int i::l)=(p9 l).map (i::·):=by simp only[p9]
@[simp] theorem z8Q {l:List Int} {m:List D}:p9 (l.map .int++m)=(p9 m).map (l++·):=by
 induction l with
 | nil=>simp
 | cons x l ih=>simp[ih,Function.comp_def]
@[simp] theorem yf2:E2 []=some []:=rfl
@[simp] theorem z9m {i:Bool} {l:List D}:E2 (.bl i::l)=(E2 l).map (i::·):=by simp only[E2]
@[simp] theorem z9H {x:Int} {l:List Int}:zn3 (x::l)=some (l.foldl max x):=rfl
@[simp] theorem z9l {x:Int} {l:List Int}:zf0 (x::l)=some (l.foldl min x):=rfl
@[simp] theorem z8p {l:List Int} {n:Nat}:p9 ((l.map D.int).take n)=some (l.take n):=by rw[<- List.map_take]; exact zo5 _
@[simp] theorem z8h {l:List Int} {n:Nat}:p9 ((l.map D.int).drop n)=some (l.drop n):=by rw[<- List.map_drop]; exact zo5 _
@[simp] theorem z9a {l:List Int} {n:Nat}:noLs ((l.map D.int).take n)=true:=z1w (zj6 l)
@[simp] theorem z8T {l:List Int} {n:Nat}:noLs ((l.map D.int).drop n)=true:=z2l (zj6 l)
@[simp] theorem z9f {x:Int} {n:Nat}:noLs (List.replicate n (D.int x))=true:=by
 induction n with
 | zero=>simp
 | succ n ih=>simp[List.replicate_succ,ih]
theorem zJ5 {i:Int} {n:Nat} (h:i.natAbs < 2 ^ n) (h0:0 < n):i.natAbs.log2 < n:=PySem.Flt.log2_lt_of h0 h
theorem zh2 {i j:Int} {a b:Nat} (ha:i.natAbs < 2 ^ a) (hb:j.natAbs < 2 ^ b) (h0:0 < a) (h1:0 < b) (h:a + b<=100000000):O8 i j=true:=by
 have x:=zJ5 ha h0
 have y:=zJ5 hb h1
 exact decide_eq_true (by omega)
theorem R5 {i j:Int} (h1:-18446744073709551616 < i) (h2:i < 18446744073709551616) (h3:-18446744073709551616 < j) (h4:j < 18446744073709551616):O8 i j=true:=
 zh2 (a:=64) (b:=64) (by omega) (by omega) (by decide) (by decide) (by decide)
theorem zT5 {j:Int} {b:Nat} (h:0 < j) (hb:j.natAbs < 2 ^ b) (h0:0 < b) (h9:b<=9000):A8 j=true:=by
 unfold A8
 rw[decide_eq_true h,decide_eq_true (Nat.lt_of_lt_of_le (zJ5 hb h0) h9)]
 rfl
theorem E9 {j:Int} (h:0 < j) (h2:j < 18446744073709551616):A8 j=true:=zT5 (b:=64) h (by omega) (by decide) (by decide)
mutual
def i0:D->D->Bool
 | .non,.non=>true
 | .bl a,.bl b=>a == b
 | .bl a,.int j=>(if a then 1 else 0) == j
 | .int i,.bl b=>i == (if b then 1 else 0)
 | .int i,.int j=>i == j
 | .str x,.str y=>x == y
 | .lst x,.lst y=>eqvs x y
 | .lst x,.scr y=>eqvs x y
 | .scr x,.lst y=>eqvs x y
 | .scr x,.scr y=>eqvs x y
 | .tup x,.tup y=>eqvs x y
 | _,_=>false
def eqvs:List D->List D->Bool
 | [],[]=>true
 | x::xs,y::ys=>i0 x y&&eqvs xs ys
 | _,_=>false
end
mutual
def cmD:Nat->D->Bool
 | _,.non=>true
 | _,.bl _=>true
 | _,.int _=>true
 | _,.str x=>PyData.strOk x
 | 0,.tup _=>false
 | 0,.lst _=>false
 | 0,.scr _=>false
 | n + 1,.tup ds=>cmDs n ds
 | n + 1,.lst ds=>cmDs n ds
 | n + 1,.scr ds=>cmDs n ds
 | _,.dic _=>false
 | _,.fn _=>false
 | _,.obj _ _ _=>false
 | _,.dtk _=>false
 | _,.sob _ _=>false
 | _,.fdc _=>false
 | _,.exv _ _ _ _=>false
 | _,.nod _ _=>false
 | _,.tg _ _=>false
 | _,.hol _=>false
 | _,.dnk _=>false
def cmDs:Nat->List D->Bool
 | _,[]=>true
 | n,d::ds=>cmD n d&&cmDs n ds
end
mutual
theorem zH9:∀ {n:Nat} {d:D},cmD n d=true->∃ p,toP d=some p/\p.canLay0=true/\p.depth<=n
 | _,.non,_=>⟨.none,by simp[toP],by simp[PyData.canLay0],by simp[PyData.depth]⟩
 | _,.bl b,_=>⟨.bool b,by simp[toP],by simp[PyData.canLay0],by simp[PyData.depth]⟩
 | _,.int b,_=>⟨.int b,by simp[toP],by simp[PyData.canLay0],by simp[PyData.depth]⟩
 | _,.str b,h=>⟨.str b,by simp[toP],by simpa [PyData.canLay0,cmD] using h,by simp[PyData.depth]⟩
 | 0,.tup _,h=>by simp[cmD] at h
 | 0,.lst _,h=>by simp[cmD] at h
 | 0,.scr _,h=>by simp[cmD] at h
 | n + 1,.tup ds,h=>by
  obtain ⟨p,h1,h2,h3⟩:=toPs_of (n:=n) (ds:=ds) (by simpa [cmD] using h)
  exact ⟨.tuple p,by simp[toP,h1],by simpa [PyData.canLay0] using h2,by simpa [PyData.depth] using h3⟩
 | n + 1,.lst ds,h=>by
  obtain ⟨p,h1,h2,h3⟩:=toPs_of (n:=n) (ds:=ds) (by simpa [cmD] using h)
  exact ⟨.list p,by simp[toP,h1],by simpa [PyData.canLay0] using h2,by simpa [PyData.depth] using h3⟩
 | n + 1,.scr ds,h=>by
  obtain ⟨p,h1,h2,h3⟩:=toPs_of (n:=n) (ds:=ds) (by simpa [cmD] using h)
  exact ⟨.list p,by simp[toP,h1],by simpa [PyData.canLay0] using h2,by simpa [PyData.depth] using h3⟩
 | n,.dic _,h=>by cases n <;> simp[cmD] at h
 | n,.fn _,h=>by cases n <;> simp[cmD] at h
 | n,.obj _ _ _,h=>by cases n <;> simp[cmD] at h
 | n,.dtk _,h=>by cases n <;> simp[cmD] at h
 | n,.sob _ _,h=>by cases n <;> simp[cmD] at h
 | n,.fdc _,h=>by cases n <;> simp[cmD] at h
 | n,.exv _ _ _ _,h=>by cases n <;> simp[cmD] at h
 | n,.nod _ _,h=>by cases n <;> simp[cmD] at h
 | n,.tg _ _,h=>by cases n <;> simp[cmD] at h
 | n,.hol _,h=>by cases n <;> simp[cmD] at h
 | n,.dnk _,h=>by cases n <;> simp[cmD] at h
theorem toPs_of:∀ {n:Nat} {ds:List D},cmDs n ds=true->∃ p,toPs ds=some p/\PyData.canLayAll0 p=true/\PyData.depthAll p<=n
 | _,[],_=>⟨[],by simp[toPs],by simp[PyData.canLayAll0],by simp[PyData.depthAll]⟩
 | n,d::ds,h=>by
  have h:cmD n d=true/\cmDs n ds=true:=by simpa [cmDs] using h
  obtain ⟨p,h1,h2,h3⟩:=zH9 h.1
  obtain ⟨q,h4,h5,h6⟩:=toPs_of h.2
  exact ⟨p::q,by simp[toPs,h1,h4],by simp[PyData.canLayAll0,h2,h5],by simp[PyData.depthAll]; omega⟩
end
mutual
theorem zS3:∀ {a b:D} {p q:PyData},toP a=some p->toP b=some q->PyData.eqv p q=i0 a b
 | a,b,p,q,h1,h2=>by
  cases a with
  | tup x=>
   cases hx:toPs x with
   | none=>simp[toP,hx] at h1
   | some x'=>
    simp[toP,hx] at h1; subst h1
    cases b with
    | tup y=>
     cases hy:toPs y with
     | none=>simp[toP,hy] at h2
     | some y'=>simp[toP,hy] at h2; subst h2; simp[PyData.eqv,i0]; exact eqvs_of hx hy
    | lst y=>cases hy:toPs y <;> simp[toP,hy] at h2; subst h2; simp[PyData.eqv,i0]
    | scr y=>cases hy:toPs y <;> simp[toP,hy] at h2; subst h2; simp[PyData.eqv,i0]
    | dic y=>simp[toP] at h2
    | fn y=>simp[toP] at h2
    | obj t y z=>simp[toP] at h2
    | dtk y=>simp[toP] at h2
    | sob y z=>simp[toP] at h2
    | fdc y=>simp[toP] at h2
    | exv y z u t=>simp[toP] at h2
    | nod y z=>simp[toP] at h2
    | tg y z=>simp[toP] at h2
    | hol y=>simp[toP] at h2
    | dnk y=>simp[toP] at h2
    | _=>simp[toP] at h2; subst h2; simp[PyData.eqv,i0]
  | lst x=>
   cases hx:toPs x with
   | none=>simp[toP,hx] at h1
   | some x'=>
    simp[toP,hx] at h1; subst h1
    cases b with
    | lst y=>
     cases hy:toPs y with
     | none=>simp[toP,hy] at h2
     | some y'=>simp[toP,hy] at h2; subst h2; simp[PyData.eqv,i0]; exact eqvs_of hx hy
    | scr y=>
     cases hy:toPs y with
     | none=>simp[toP,hy] at h2
     | some y'=>simp[toP,hy] at h2; subst h2; simp[PyData.eqv,i0]; exact eqvs_of hx hy
    | tup y=>cases hy:toPs y <;> simp[toP,hy] at h2; subst h2; simp[PyData.eqv,i0]
    | dic y=>simp[toP] at h2
    | fn y=>simp[toP] at h2
    | obj t y z=>simp[toP] at h2
    | dtk y=>simp[toP] at h2
    | sob y z=>simp[toP] at h2
    | fdc y=>simp[toP] at h2
    | exv y z u t=>simp[toP] at h2
    | nod y z=>simp[toP] at h2
    | tg y z=>simp[toP] at h2
    | hol y=>simp[toP] at h2
    | dnk y=>simp[toP] at h2
    | _=>simp[toP] at h2; subst h2; simp[PyData.eqv,i0]
  | scr x=>
   cases hx:toPs x with
   | none=>simp[toP,hx] at h1
   | some x'=>
    simp[toP,hx] at h1; subst h1
    cases b with
    | lst y=>
     cases hy:toPs y with
     | none=>simp[toP,hy] at h2
     | some y'=>simp[toP,hy] at h2; subst h2; simp[PyData.eqv,i0]; exact eqvs_of hx hy
    | scr y=>
     cases hy:toPs y with
     | none=>simp[toP,hy] at h2
     | some y'=>simp[toP,hy] at h2; subst h2; simp[PyData.eqv,i0]; exact eqvs_of hx hy
    | tup y=>cases hy:toPs y <;> simp[toP,hy] at h2; subst h2; simp[PyData.eqv,i0]
    | dic y=>simp[toP] at h2
    | fn y=>simp[toP] at h2
    | obj t y z=>simp[toP] at h2
    | dtk y=>simp[toP] at h2
    | sob y z=>simp[toP] at h2
    | fdc y=>simp[toP] at h2
    | exv y z u t=>simp[toP] at h2
    | nod y z=>simp[toP] at h2
    | tg y z=>simp[toP] at h2
    | hol y=>simp[toP] at h2
    | dnk y=>simp[toP] at h2
    | _=>simp[toP] at h2; subst h2; simp[PyData.eqv,i0]
  | dic x=>simp[toP] at h1
  | fn x=>simp[toP] at h1
  | obj t x z=>simp[toP] at h1
  | dtk x=>simp[toP] at h1
  | sob x z=>simp[toP] at h1
  | fdc x=>simp[toP] at h1
  | exv x z u t=>simp[toP] at h1
  | nod x z=>simp[toP] at h1
  | tg x z=>simp[toP] at h1
  | hol x=>simp[toP] at h1
  | dnk x=>simp[toP] at h1
  | _=>
   simp[toP] at h1; subst h1
   cases b with
   | tup y=>cases hy:toPs y <;> simp[toP,hy] at h2; subst h2; simp[PyData.eqv,i0]
   | lst y=>cases hy:toPs y <;> simp[toP,hy] at h2; subst h2; simp[PyData.eqv,i0]
   | scr y=>cases hy:toPs y <;> simp[toP,hy] at h2; subst h2; simp[PyData.eqv,i0]
   | dic y=>simp[toP] at h2
   | fn y=>simp[toP] at h2
   | obj t y z=>simp[toP] at h2
   | dtk y=>simp[toP] at h2
   | sob y z=>simp[toP] at h2
   | fdc y=>simp[toP] at h2
   | exv y z u t=>simp[toP] at h2
   | nod y z=>simp[toP] at h2
   | tg y z=>simp[toP] at h2
   | hol y=>simp[toP] at h2
   | dnk y=>simp[toP] at h2
   | _=>simp[toP] at h2; subst h2; simp[PyData.eqv,i0]
theorem eqvs_of:∀ {a b:List D} {p q:List PyData},toPs a=some p->toPs b=some q->PyData.eqvAll p q=eqvs a b
 | [],[],p,q,h1,h2=>by simp[toPs] at h1 h2; subst h1; subst h2; simp[PyData.eqvAll,eqvs]
 | [],y::ys,p,q,h1,h2=>by
  simp[toPs] at h1; subst h1
  cases hy:toP y <;> cases hys:toPs ys <;> simp[toPs,hy,hys] at h2
  subst h2; simp[PyData.eqvAll,eqvs]
 | x::xs,[],p,q,h1,h2=>by
  simp[toPs] at h2; subst h2
  cases hy:toP x <;> cases hys:toPs xs <;> simp[toPs,hy,hys] at h1
  subst h1; simp[PyData.eqvAll,eqvs]
 | x::xs,y::ys,p,q,h1,h2=>by
  cases hx:toP x <;> cases hxs:toPs xs <;> simp[toPs,hx,hxs] at h1
  cases hy:toP y <;> cases hys:toPs ys <;> simp[toPs,hy,hys] at h2
  subst h1; subst h2
  simp[PyData.eqvAll,eqvs,zS3 hx hy,eqvs_of hxs hys]
end
theorem zr2 {a b:D} (h1:cmD 64 a=true) (h2:cmD 64 b=true):eqD a b=some (i0 a b):=by
 obtain ⟨p,e1,l1,d1⟩:=zH9 h1
 obtain ⟨q,e2,l2,d2⟩:=zH9 h2
 unfold eqD
 rw[e1,e2]
 have s1:SeqAt.shaped p=true:=by unfold SeqAt.shaped; rw[l1,decide_eq_true d1]; rfl
 have s2:SeqAt.shaped q=true:=by unfold SeqAt.shaped; rw[l2,decide_eq_true d2]; rfl
 simp only[s1,s2,if_true,zS3 e1 e2]
section
variable {n:Nat}
@[simp] theorem yr4 {i:Int}:cmD n (.int i)=true:=by cases n <;> simp[cmD]
@[simp] theorem yH4 {i:Bool}:cmD n (.bl i)=true:=by cases n <;> simp[cmD]
@[simp] theorem yx8:cmD n .non=true:=by cases n <;> simp[cmD]
@[simp] theorem yy0 {x:Str}:cmD n (.str x)=PyData.strOk x:=by cases n <;> simp[cmD]
@[simp] theorem yy7 {l:List D}:cmD (n + 1) (.tup l)=cmDs n l:=by simp[cmD]
@[simp] theorem yp6 {l:List D}:cmD (n + 1) (.lst l)=cmDs n l:=by simp[cmD]
@[simp] theorem yw0 {l:List D}:cmD (n + 1) (.scr l)=cmDs n l:=by simp[cmD]
@[simp] theorem yi5:cmDs n []=true:=by cases n <;> simp[cmDs]
@[simp] theorem z9V {d:D} {l:List D}:cmDs n (d::l)=(cmD n d&&cmDs n l):=by cases n <;> simp[cmDs]
theorem z3T {l:List D}:cmDs n l=l.all (cmD n):=by
 induction l with
 | nil=>simp
 | cons x l ih=>simp[ih]
@[simp] theorem ya7 {α:Type} {f:α->D} {l:List α}:cmDs n (l.map f)=l.all (fun x=>cmD n (f x)):=by rw[z3T,List.all_map]; rfl
@[simp] theorem zU3 {i j:Int}:i0 (.int i) (.int j)=decide (i=j):=by simp only[i0]; rfl
@[simp] theorem yu5 {i j:Bool}:i0 (.bl i) (.bl j)=decide (i=j):=by cases i <;> cases j <;> simp[i0]
@[simp] theorem z97 {i j:Str}:i0 (.str i) (.str j)=decide (i=j):=by simp only[i0]; rfl
@[simp] theorem z2M {x y:List D}:i0 (.tup x) (.tup y)=eqvs x y:=by simp only[i0]
@[simp] theorem z3L {x y:List D}:i0 (.lst x) (.lst y)=eqvs x y:=by simp only[i0]
@[simp] theorem yA7 {x y:List D}:i0 (.tup x) (.lst y)=false:=by simp only[i0]
@[simp] theorem ym2 {x y:List D}:i0 (.lst x) (.tup y)=false:=by simp only[i0]
@[simp] theorem ys4 {x:List D} {y:Str}:i0 (.lst x) (.str y)=false:=by simp only[i0]
@[simp] theorem yp0 {x:Int} {y:Str}:i0 (.int x) (.str y)=false:=by simp only[i0]
@[simp] theorem yq2 {x:Bool} {y:Str}:i0 (.bl x) (.str y)=false:=by simp only[i0]
@[simp] theorem yn0:i0 .non .non=true:=by simp only[i0]
@[simp] theorem yl5 {x:List D}:i0 (.tup x) .non=false:=by simp only[i0]
@[simp] theorem ys3 {x:List D}:i0 .non (.tup x)=false:=by simp only[i0]
@[simp] theorem yb1:eqvs [] []=true:=by simp only[eqvs]
@[simp] theorem z9L {x y:D} {l m:List D}:eqvs (x::l) (y::m)=(i0 x y&&eqvs l m):=by simp only[eqvs]
@[simp] theorem yv7 {x:D} {l:List D}:eqvs [] (x::l)=false:=by simp only[eqvs]
@[simp] theorem yr0 {x:D} {l:List D}:eqvs (x::l) []=false:=by simp only[eqvs]
theorem zt8 {α:Type} [DecidableEq α] (f:α->D) (h:∀ x y,i0 (f x) (f y)=decide (x=y)):∀ l m:List α,eqvs (l.map f) (m.map f)=decide (l=m)
 | [],[]=>by simp
 | [],y::m=>by simp
 | x::l,[]=>by simp
 | x::l,y::m=>by simp[h,zt8 f h l m]
@[simp] theorem zO5 (l m:List Int):eqvs (l.map D.int) (m.map D.int)=decide (l=m):=zt8 _ (fun _ _=>zU3) l m
@[simp] theorem z9W (l m:List (List Int)):eqvs (l.map fun r=>D.tup (r.map D.int)) (m.map fun r=>D.tup (r.map D.int))=decide (l=m):=zt8 _ (fun _ _=>by simp) l m
@[simp] theorem z9z (l m:List (List Int)):eqvs (l.map fun r=>D.lst (r.map D.int)) (m.map fun r=>D.lst (r.map D.int))=decide (l=m):=zt8 _ (fun _ _=>by simp) l m
@[simp] theorem yz3 {i j:Int}:eqD (.int i) (.int j)=some (decide (i=j)):=by rw[zr2 (by simp) (by simp)]; simp
@[simp] theorem yF0 {i j:Bool}:eqD (.bl i) (.bl j)=some (decide (i=j)):=by rw[zr2 (by simp) (by simp)]; simp
@[simp] theorem yg7 {l m:List Int}:eqD (.tup (l.map .int)) (.tup (m.map .int))=some (decide (l=m)):=by rw[zr2 (by simp) (by simp)]; simp
@[simp] theorem yc0 {l m:List Int}:eqD (.lst (l.map .int)) (.lst (m.map .int))=some (decide (l=m)):=by rw[zr2 (by simp) (by simp)]; simp
theorem zL7 {i j:Str} (h1:PyData.strOk i=true) (h2:PyData.strOk j=true):eqD (.str i) (.str j)=some (decide (i=j)):=by rw[zr2 (by simp[h1]) (by simp[h2])]; simp
end
theorem zP0 {n:Nat} {p:PyData} (h:p.canLay0=true) (h2:p.depth<=n) (hn:n<=64):SeqAt.shaped p=true:=by
 unfold SeqAt.shaped
 rw[h,decide_eq_true (show p.depth<=64 by omega)]; rfl
theorem z2q {x:D} {p:PyData} (hx:toP x=some p):∀ {ds:List D} {ps:List PyData},toPs ds=some ps->(ps.any fun z=>PyData.eqv z p)=ds.any fun d=>i0 d x
 | [],ps,h=>by simp[toPs] at h; subst h; rfl
 | d::ds,ps,h=>by
  cases hd:toP d <;> cases hds:toPs ds <;> simp[toPs,hd,hds] at h
  subst h
  simp[zS3 hd hx,z2q hx hds]
theorem zM6 {x:D} {ds:List D} (h1:cmD 63 x=true) (h2:cmDs 63 ds=true):inD x (.lst ds)=some (ds.any fun d=>i0 d x):=by
 obtain ⟨p,e1,l1,d1⟩:=zH9 h1
 obtain ⟨q,e2,l2,d2⟩:=toPs_of h2
 have s1:SeqAt.shaped p=true:=zP0 l1 d1 (by decide)
 have s2:SeqAt.shaped (.list q)=true:=zP0 (n:=64) (by simpa [PyData.canLay0] using l2) (by simp[PyData.depth]; omega) (by decide)
 simp only[inD,e1,e2,s1,s2,if_true,z2q e1 e2]
theorem zH3 {α:Type} [BEq α] [LawfulBEq α] {f:α->D} (h:∀ x y,i0 (f x) (f y)=(x == y)) {x:α}:∀ {l:List α},((l.map f).any fun d=>i0 d (f x))=decide (x∈l)
 | []=>by simp
 | y::l=>by
  have ih:=zH3 h (x:=x) (l:=l)
  simp only[List.map_cons,List.any_cons,h,ih,List.mem_cons]
  by_cases e:y=x
  ·simp[e]
  ·simp[e,show x≠y from fun z=>e z.symm]
theorem ya8 (x y:List Int):i0 (.tup (x.map D.int)) (.tup (y.map D.int))=(x == y):=by
 rw[z2M,zO5,Bool.eq_iff_iff]; simp
theorem yk1 (x y:List Int):i0 (.lst (x.map D.int)) (.lst (y.map D.int))=(x == y):=by
 rw[z3L,zO5,Bool.eq_iff_iff]; simp
theorem yj1 (x y:Int):i0 (.int x) (.int y)=(x == y):=by rw[zU3,Bool.eq_iff_iff]; simp
@[simp] theorem yh2 {n:Int} {l:List Int}:inD (.int n) (.lst (l.map .int))=some (decide (n∈l)):=by
 rw[zM6 (by simp) (by simp),zH3 (f:=D.int) yj1]
@[simp] theorem yf1 {n:List Int} {l:List (List Int)}:inD (.tup (n.map .int)) (.lst (l.map fun r=>.tup (r.map .int)))=some (decide (n∈l)):=by
 rw[zM6 (by simp) (by simp),zH3 (f:=fun r:List Int=>D.tup (r.map D.int)) ya8]
@[simp] theorem ye9 {n:List Int} {l:List (List Int)}:inD (.lst (n.map .int)) (.lst (l.map fun r=>.lst (r.map .int)))=some (decide (n∈l)):=by
 rw[zM6 (by simp) (by simp),zH3 (f:=fun r:List Int=>D.lst (r.map D.int)) yk1]
theorem zV3 {n:Int}:∀ {l:List Int},inV (.int n) (l.map V.int)=decide (n∈l):=by
 intro l
 induction l with
 | nil=>simp[inV]
 | cons m l ih=>
  simp only[inV] at ih ⊢
  first
   | (simp[List.any_cons,ih,List.mem_cons]; done)
   | skip
  simp only[List.map_cons,List.any_cons,ih,List.mem_cons]
  by_cases e:m=n
  ·subst e; simp[eqV]
  ·have e':¬ n=m:=fun z=>e z.symm
   simp[eqV,e,e']
@[simp] theorem zU5:∀ {l:List Int},fVs (l.map D.int)=some (l.map V.int)
 | []=>rfl
 | n::l=>by simp[fVs,fV,zU5]
@[simp] theorem yk0 {n:Int} {l:List Int}:inD (.int n) (.tup (l.map .int))=some (decide (n∈l)):=by
 simp only[inD,fV,zU5,zV3]
@[simp] theorem ya9 {i:Int}:W4 (.int i)=some (.inl i):=id rfl
@[simp] theorem yi3 {i:Str}:W4 (.str i)=some (.inr i):=id rfl
@[simp] theorem yu3 {x:D} {l:List (Key×D)}:inD x (.dic l)=(W4 x).map fun k=>(w6 l k).isSome:=id rfl
def kvF:Nat->List Int->List (Key×D)
 | _,[]=>[]
 | i,n::r=>(.inl n,.int i)::kvF (i + 1) r
@[simp] theorem yv9 (s:List Int):∀ i,(kvF i s).length=s.length:=by
 induction s with
 | nil=>intro i; rfl
 | cons n s ih=>intro i; simp[kvF,ih]
theorem z44 (s:List Int) (n:Int):∀ i,kvF i (s++[n])=kvF i s++[(.inl n,.int ((i + s.length:Nat):Int))]:=by
 induction s with
 | nil=>intro i; simp[kvF]
 | cons m s ih=>intro i; simp[kvF,ih]; omega
theorem zJ3 (n:Int) (s:List Int):∀ i,w6 (kvF i s) (.inl n)=if n∈s then some (.int ((i + s.idxOf n:Nat):Int)) else none:=by
 induction s with
 | nil=>intro i; rfl
 | cons m s ih=>
  intro i
  by_cases e:m=n
  ·subst e; simp[kvF,w6]
  ·have e2:(m == n)=false:=by simpa using e
   have e3:¬ (Sum.inl m:Key)=.inl n:=fun z=>e (Sum.inl.inj z)
   have e4:¬ n=m:=fun z=>e z.symm
   simp only[kvF,w6,if_neg e3,ih,List.mem_cons,e4,false_or,List.idxOf_cons,e2]
   split
   ·simp; omega
   ·rfl
theorem z5f {n:Int} {s:List Int} (h:n∉s):Y2 (kvF 0 s) (.inl n) (.int (s.length:Int))=kvF 0 (s++[n]):=by
 have e:=zJ3 n s 0
 rw[if_neg h] at e
 rw[zi3 _ (zy5 e),z44]
 simp
theorem zS0 {i:Nat} {s:Sl} {ρ:Env}:inv i (s::ρ)=(match s with | .bo is d=>if i∈is then .no else .bo is d | s=>s)::inv i ρ:=id rfl
section
variable {ρ:Env} {a:SE}
@[simp] theorem yl0 {neg:Bool} {kvs:List (String×Int)}:z3J neg kvs a ρ=(a ρ).bind fun x=>match x.2 with | .str z=>.ok (if neg then !((kvs.any fun p=>decide (Str.ofString p.1=z))) else (kvs.any fun p=>decide (Str.ofString p.1=z))) | _=>.st:=id rfl
@[simp] theorem yw1 {kvs:List (String×Int)}:z2V kvs a ρ=(a ρ).bind fun x=>match x.2 with | .str z=>(R.of (zd5 kvs z)).bind fun i=>.ok (.own,.int i) | _=>.st:=id rfl
end
theorem w4 (u v:Str) (h1:PyData.strOk u=true) (h2:PyData.strOk v=true) (b:Bool) (h:decide (u=v)=b):eqD (.str u) (.str v)=some b:=by rw[zL7 h1 h2,h]
theorem j7:PyData.strOk ("alike" : Str)=true:=by decide +kernel
theorem q8:PyData.strOk ("unlike" : Str)=true:=by decide +kernel
theorem Z0:PyData.strOk ("least" : Str)=true:=by decide +kernel
theorem Y7:PyData.strOk ("most" : Str)=true:=by decide +kernel
theorem V3:PyData.strOk ("way" : Str)=true:=by decide +kernel
theorem Y6:PyData.strOk ("none" : Str)=true:=by decide +kernel
theorem j9:PyData.strOk ("counts" : Str)=true:=by decide +kernel
theorem V5:PyData.strOk ("few" : Str)=true:=by decide +kernel
theorem Y9:PyData.strOk ("many" : Str)=true:=by decide +kernel
theorem Y8:PyData.strOk ("ring" : Str)=true:=by decide +kernel
theorem Z3:PyData.strOk ("cases" : Str)=true:=by decide +kernel
theorem T7:PyData.strOk ("nothing" : Str)=true:=by decide +kernel
theorem N7:PyData.strOk ("rings" : Str)=true:=by decide +kernel
@[simp] theorem z5B:eqD (.str "alike") (.str "alike")=some true:=w4 _ _ j7 j7 _ (by decide +kernel)
@[simp] theorem z4m:eqD (.str "alike") (.str "unlike")=some false:=w4 _ _ j7 q8 _ (by decide +kernel)
@[simp] theorem z5g:eqD (.str "alike") (.str "least")=some false:=w4 _ _ j7 Z0 _ (by decide +kernel)
@[simp] theorem z6J:eqD (.str "alike") (.str "most")=some false:=w4 _ _ j7 Y7 _ (by decide +kernel)
@[simp] theorem z67:eqD (.str "alike") (.str "way")=some false:=w4 _ _ j7 V3 _ (by decide +kernel)
@[simp] theorem z6K:eqD (.str "alike") (.str "none")=some false:=w4 _ _ j7 Y6 _ (by decide +kernel)
@[simp] theorem z4J:eqD (.str "alike") (.str "counts")=some false:=w4 _ _ j7 j9 _ (by decide +kernel)
@[simp] theorem z7X:eqD (.str "alike") (.str "few")=some false:=w4 _ _ j7 V5 _ (by decide +kernel)
@[simp] theorem z6e:eqD (.str "alike") (.str "many")=some false:=w4 _ _ j7 Y9 _ (by decide +kernel)
@[simp] theorem z6C:eqD (.str "alike") (.str "ring")=some false:=w4 _ _ j7 Y8 _ (by decide +kernel)
@[simp] theorem z5j:eqD (.str "alike") (.str "cases")=some false:=w4 _ _ j7 Z3 _ (by decide +kernel)
@[simp] theorem z4o:eqD (.str "unlike") (.str "alike")=some false:=w4 _ _ q8 j7 _ (by decide +kernel)
@[simp] theorem z39:eqD (.str "unlike") (.str "unlike")=some true:=w4 _ _ q8 q8 _ (by decide +kernel)
@[simp] theorem z4p:eqD (.str "unlike") (.str "least")=some false:=w4 _ _ q8 Z0 _ (by decide +kernel)
@[simp] theorem z58:eqD (.str "unlike") (.str "most")=some false:=w4 _ _ q8 Y7 _ (by decide +kernel)
@[simp] theorem z6c:eqD (.str "unlike") (.str "way")=some false:=w4 _ _ q8 V3 _ (by decide +kernel)
@[simp] theorem z5p:eqD (.str "unlike") (.str "none")=some false:=w4 _ _ q8 Y6 _ (by decide +kernel)
@[simp] theorem z3X:eqD (.str "unlike") (.str "counts")=some false:=w4 _ _ q8 j9 _ (by decide +kernel)
@[simp] theorem z6E:eqD (.str "unlike") (.str "few")=some false:=w4 _ _ q8 V5 _ (by decide +kernel)
@[simp] theorem z5D:eqD (.str "unlike") (.str "many")=some false:=w4 _ _ q8 Y9 _ (by decide +kernel)
@[simp] theorem z5l:eqD (.str "unlike") (.str "ring")=some false:=w4 _ _ q8 Y8 _ (by decide +kernel)
@[simp] theorem z4B:eqD (.str "unlike") (.str "cases")=some false:=w4 _ _ q8 Z3 _ (by decide +kernel)
@[simp] theorem z5I:eqD (.str "least") (.str "alike")=some false:=w4 _ _ Z0 j7 _ (by decide +kernel)
@[simp] theorem z4G:eqD (.str "least") (.str "unlike")=some false:=w4 _ _ Z0 q8 _ (by decide +kernel)
@[simp] theorem z5a:eqD (.str "least") (.str "least")=some true:=w4 _ _ Z0 Z0 _ (by decide +kernel)
@[simp] theorem z6t:eqD (.str "least") (.str "most")=some false:=w4 _ _ Z0 Y7 _ (by decide +kernel)
@[simp] theorem z7A:eqD (.str "least") (.str "way")=some false:=w4 _ _ Z0 V3 _ (by decide +kernel)
@[simp] theorem z6n:eqD (.str "least") (.str "none")=some false:=w4 _ _ Z0 Y6 _ (by decide +kernel)
@[simp] theorem z4C:eqD (.str "least") (.str "counts")=some false:=w4 _ _ Z0 j9 _ (by decide +kernel)
@[simp] theorem z7v:eqD (.str "least") (.str "few")=some false:=w4 _ _ Z0 V5 _ (by decide +kernel)
@[simp] theorem z6I:eqD (.str "least") (.str "many")=some false:=w4 _ _ Z0 Y9 _ (by decide +kernel)
@[simp] theorem z6g:eqD (.str "least") (.str "ring")=some false:=w4 _ _ Z0 Y8 _ (by decide +kernel)
@[simp] theorem z5V:eqD (.str "least") (.str "cases")=some false:=w4 _ _ Z0 Z3 _ (by decide +kernel)
@[simp] theorem z6A:eqD (.str "most") (.str "alike")=some false:=w4 _ _ Y7 j7 _ (by decide +kernel)
@[simp] theorem z54:eqD (.str "most") (.str "unlike")=some false:=w4 _ _ Y7 q8 _ (by decide +kernel)
@[simp] theorem z6m:eqD (.str "most") (.str "least")=some false:=w4 _ _ Y7 Z0 _ (by decide +kernel)
@[simp] theorem z70:eqD (.str "most") (.str "most")=some true:=w4 _ _ Y7 Y7 _ (by decide +kernel)
@[simp] theorem z8s:eqD (.str "most") (.str "way")=some false:=w4 _ _ Y7 V3 _ (by decide +kernel)
@[simp] theorem z8a:eqD (.str "most") (.str "none")=some false:=w4 _ _ Y7 Y6 _ (by decide +kernel)
@[simp] theorem z5Y:eqD (.str "most") (.str "counts")=some false:=w4 _ _ Y7 j9 _ (by decide +kernel)
@[simp] theorem z8q:eqD (.str "most") (.str "few")=some false:=w4 _ _ Y7 V5 _ (by decide +kernel)
@[simp] theorem z68:eqD (.str "most") (.str "many")=some false:=w4 _ _ Y7 Y9 _ (by decide +kernel)
@[simp] theorem z7l:eqD (.str "most") (.str "ring")=some false:=w4 _ _ Y7 Y8 _ (by decide +kernel)
@[simp] theorem z6z:eqD (.str "most") (.str "cases")=some false:=w4 _ _ Y7 Z3 _ (by decide +kernel)
@[simp] theorem z75:eqD (.str "way") (.str "alike")=some false:=w4 _ _ V3 j7 _ (by decide +kernel)
@[simp] theorem z6f:eqD (.str "way") (.str "unlike")=some false:=w4 _ _ V3 q8 _ (by decide +kernel)
@[simp] theorem z60:eqD (.str "way") (.str "least")=some false:=w4 _ _ V3 Z0 _ (by decide +kernel)
@[simp] theorem z8i:eqD (.str "way") (.str "most")=some false:=w4 _ _ V3 Y7 _ (by decide +kernel)
@[simp] theorem z8D:eqD (.str "way") (.str "way")=some true:=w4 _ _ V3 V3 _ (by decide +kernel)
@[simp] theorem z8r:eqD (.str "way") (.str "none")=some false:=w4 _ _ V3 Y6 _ (by decide +kernel)
@[simp] theorem z6D:eqD (.str "way") (.str "counts")=some false:=w4 _ _ V3 j9 _ (by decide +kernel)
@[simp] theorem z8R:eqD (.str "way") (.str "few")=some false:=w4 _ _ V3 V5 _ (by decide +kernel)
@[simp] theorem z8g:eqD (.str "way") (.str "many")=some false:=w4 _ _ V3 Y9 _ (by decide +kernel)
@[simp] theorem z8n:eqD (.str "way") (.str "ring")=some false:=w4 _ _ V3 Y8 _ (by decide +kernel)
@[simp] theorem z7c:eqD (.str "way") (.str "cases")=some false:=w4 _ _ V3 Z3 _ (by decide +kernel)
@[simp] theorem z6u:eqD (.str "none") (.str "alike")=some false:=w4 _ _ Y6 j7 _ (by decide +kernel)
@[simp] theorem z5P:eqD (.str "none") (.str "unlike")=some false:=w4 _ _ Y6 q8 _ (by decide +kernel)
@[simp] theorem z6d:eqD (.str "none") (.str "least")=some false:=w4 _ _ Y6 Z0 _ (by decide +kernel)
@[simp] theorem z7j:eqD (.str "none") (.str "most")=some false:=w4 _ _ Y6 Y7 _ (by decide +kernel)
@[simp] theorem z8o:eqD (.str "none") (.str "way")=some false:=w4 _ _ Y6 V3 _ (by decide +kernel)
@[simp] theorem z7n:eqD (.str "none") (.str "none")=some true:=w4 _ _ Y6 Y6 _ (by decide +kernel)
@[simp] theorem z5c:eqD (.str "none") (.str "counts")=some false:=w4 _ _ Y6 j9 _ (by decide +kernel)
@[simp] theorem z8v:eqD (.str "none") (.str "few")=some false:=w4 _ _ Y6 V5 _ (by decide +kernel)
@[simp] theorem z7G:eqD (.str "none") (.str "many")=some false:=w4 _ _ Y6 Y9 _ (by decide +kernel)
@[simp] theorem z7E:eqD (.str "none") (.str "ring")=some false:=w4 _ _ Y6 Y8 _ (by decide +kernel)
@[simp] theorem z6x:eqD (.str "none") (.str "cases")=some false:=w4 _ _ Y6 Z3 _ (by decide +kernel)
@[simp] theorem z4O:eqD (.str "counts") (.str "alike")=some false:=w4 _ _ j9 j7 _ (by decide +kernel)
@[simp] theorem z3R:eqD (.str "counts") (.str "unlike")=some false:=w4 _ _ j9 q8 _ (by decide +kernel)
@[simp] theorem z4I:eqD (.str "counts") (.str "least")=some false:=w4 _ _ j9 Z0 _ (by decide +kernel)
@[simp] theorem z5b:eqD (.str "counts") (.str "most")=some false:=w4 _ _ j9 Y7 _ (by decide +kernel)
@[simp] theorem z6y:eqD (.str "counts") (.str "way")=some false:=w4 _ _ j9 V3 _ (by decide +kernel)
@[simp] theorem z5W:eqD (.str "counts") (.str "none")=some false:=w4 _ _ j9 Y6 _ (by decide +kernel)
@[simp] theorem z4d:eqD (.str "counts") (.str "counts")=some true:=w4 _ _ j9 j9 _ (by decide +kernel)
@[simp] theorem z6b:eqD (.str "counts") (.str "few")=some false:=w4 _ _ j9 V5 _ (by decide +kernel)
@[simp] theorem z5x:eqD (.str "counts") (.str "many")=some false:=w4 _ _ j9 Y9 _ (by decide +kernel)
@[simp] theorem z52:eqD (.str "counts") (.str "ring")=some false:=w4 _ _ j9 Y8 _ (by decide +kernel)
@[simp] theorem z4F:eqD (.str "counts") (.str "cases")=some false:=w4 _ _ j9 Z3 _ (by decide +kernel)
@[simp] theorem z7b:eqD (.str "few") (.str "alike")=some false:=w4 _ _ V5 j7 _ (by decide +kernel)
@[simp] theorem z6B:eqD (.str "few") (.str "unlike")=some false:=w4 _ _ V5 q8 _ (by decide +kernel)
@[simp] theorem z73:eqD (.str "few") (.str "least")=some false:=w4 _ _ V5 Z0 _ (by decide +kernel)
@[simp] theorem z8m:eqD (.str "few") (.str "most")=some false:=w4 _ _ V5 Y7 _ (by decide +kernel)
@[simp] theorem z8G:eqD (.str "few") (.str "way")=some false:=w4 _ _ V5 V3 _ (by decide +kernel)
@[simp] theorem z8w:eqD (.str "few") (.str "none")=some false:=w4 _ _ V5 Y6 _ (by decide +kernel)
@[simp] theorem z6w:eqD (.str "few") (.str "counts")=some false:=w4 _ _ V5 j9 _ (by decide +kernel)
@[simp] theorem z8S:eqD (.str "few") (.str "few")=some true:=w4 _ _ V5 V5 _ (by decide +kernel)
@[simp] theorem z8y:eqD (.str "few") (.str "many")=some false:=w4 _ _ V5 Y9 _ (by decide +kernel)
@[simp] theorem z8l:eqD (.str "few") (.str "ring")=some false:=w4 _ _ V5 Y8 _ (by decide +kernel)
@[simp] theorem z6V:eqD (.str "few") (.str "cases")=some false:=w4 _ _ V5 Z3 _ (by decide +kernel)
@[simp] theorem z6i:eqD (.str "many") (.str "alike")=some false:=w4 _ _ Y9 j7 _ (by decide +kernel)
@[simp] theorem z42:eqD (.str "many") (.str "unlike")=some false:=w4 _ _ Y9 q8 _ (by decide +kernel)
@[simp] theorem z6l:eqD (.str "many") (.str "least")=some false:=w4 _ _ Y9 Z0 _ (by decide +kernel)
@[simp] theorem z62:eqD (.str "many") (.str "most")=some false:=w4 _ _ Y9 Y7 _ (by decide +kernel)
@[simp] theorem z8t:eqD (.str "many") (.str "way")=some false:=w4 _ _ Y9 V3 _ (by decide +kernel)
@[simp] theorem z6M:eqD (.str "many") (.str "none")=some false:=w4 _ _ Y9 Y6 _ (by decide +kernel)
@[simp] theorem z5E:eqD (.str "many") (.str "counts")=some false:=w4 _ _ Y9 j9 _ (by decide +kernel)
@[simp] theorem z8j:eqD (.str "many") (.str "few")=some false:=w4 _ _ Y9 V5 _ (by decide +kernel)
@[simp] theorem z61:eqD (.str "many") (.str "many")=some true:=w4 _ _ Y9 Y9 _ (by decide +kernel)
@[simp] theorem z71:eqD (.str "many") (.str "ring")=some false:=w4 _ _ Y9 Y8 _ (by decide +kernel)
@[simp] theorem z6j:eqD (.str "many") (.str "cases")=some false:=w4 _ _ Y9 Z3 _ (by decide +kernel)
@[simp] theorem z6G:eqD (.str "ring") (.str "alike")=some false:=w4 _ _ Y8 j7 _ (by decide +kernel)
@[simp] theorem z5U:eqD (.str "ring") (.str "unlike")=some false:=w4 _ _ Y8 q8 _ (by decide +kernel)
@[simp] theorem z6H:eqD (.str "ring") (.str "least")=some false:=w4 _ _ Y8 Z0 _ (by decide +kernel)
@[simp] theorem z7J:eqD (.str "ring") (.str "most")=some false:=w4 _ _ Y8 Y7 _ (by decide +kernel)
@[simp] theorem z8k:eqD (.str "ring") (.str "way")=some false:=w4 _ _ Y8 V3 _ (by decide +kernel)
@[simp] theorem z66:eqD (.str "ring") (.str "none")=some false:=w4 _ _ Y8 Y6 _ (by decide +kernel)
@[simp] theorem z5v:eqD (.str "ring") (.str "counts")=some false:=w4 _ _ Y8 j9 _ (by decide +kernel)
@[simp] theorem z8u:eqD (.str "ring") (.str "few")=some false:=w4 _ _ Y8 V5 _ (by decide +kernel)
@[simp] theorem z65:eqD (.str "ring") (.str "many")=some false:=w4 _ _ Y8 Y9 _ (by decide +kernel)
@[simp] theorem z7a:eqD (.str "ring") (.str "ring")=some true:=w4 _ _ Y8 Y8 _ (by decide +kernel)
@[simp] theorem z6q:eqD (.str "ring") (.str "cases")=some false:=w4 _ _ Y8 Z3 _ (by decide +kernel)
@[simp] theorem z5e:eqD (.str "cases") (.str "alike")=some false:=w4 _ _ Z3 j7 _ (by decide +kernel)
@[simp] theorem z4f:eqD (.str "cases") (.str "unlike")=some false:=w4 _ _ Z3 q8 _ (by decide +kernel)
@[simp] theorem z5G:eqD (.str "cases") (.str "least")=some false:=w4 _ _ Z3 Z0 _ (by decide +kernel)
@[simp] theorem z6k:eqD (.str "cases") (.str "most")=some false:=w4 _ _ Z3 Y7 _ (by decide +kernel)
@[simp] theorem z8f:eqD (.str "cases") (.str "way")=some false:=w4 _ _ Z3 V3 _ (by decide +kernel)
@[simp] theorem z6F:eqD (.str "cases") (.str "none")=some false:=w4 _ _ Z3 Y6 _ (by decide +kernel)
@[simp] theorem z4D:eqD (.str "cases") (.str "counts")=some false:=w4 _ _ Z3 j9 _ (by decide +kernel)
@[simp] theorem z8b:eqD (.str "cases") (.str "few")=some false:=w4 _ _ Z3 V5 _ (by decide +kernel)
@[simp] theorem z6s:eqD (.str "cases") (.str "many")=some false:=w4 _ _ Z3 Y9 _ (by decide +kernel)
@[simp] theorem z6p:eqD (.str "cases") (.str "ring")=some false:=w4 _ _ Z3 Y8 _ (by decide +kernel)
@[simp] theorem z41:eqD (.str "cases") (.str "cases")=some true:=w4 _ _ Z3 Z3 _ (by decide +kernel)
@[simp] theorem z32:eqD (.str "nothing") (.str "alike")=some false:=w4 _ _ T7 j7 _ (by decide +kernel)
@[simp] theorem z2I:eqD (.str "nothing") (.str "unlike")=some false:=w4 _ _ T7 q8 _ (by decide +kernel)
@[simp] theorem z3h:eqD (.str "nothing") (.str "least")=some false:=w4 _ _ T7 Z0 _ (by decide +kernel)
@[simp] theorem z4e:eqD (.str "nothing") (.str "most")=some false:=w4 _ _ T7 Y7 _ (by decide +kernel)
@[simp] theorem z5t:eqD (.str "nothing") (.str "way")=some false:=w4 _ _ T7 V3 _ (by decide +kernel)
@[simp] theorem z4H:eqD (.str "nothing") (.str "none")=some false:=w4 _ _ T7 Y6 _ (by decide +kernel)
@[simp] theorem z2H:eqD (.str "nothing") (.str "counts")=some false:=w4 _ _ T7 j9 _ (by decide +kernel)
@[simp] theorem z5L:eqD (.str "nothing") (.str "few")=some false:=w4 _ _ T7 V5 _ (by decide +kernel)
@[simp] theorem z4j:eqD (.str "nothing") (.str "many")=some false:=w4 _ _ T7 Y9 _ (by decide +kernel)
@[simp] theorem z4M:eqD (.str "nothing") (.str "ring")=some false:=w4 _ _ T7 Y8 _ (by decide +kernel)
@[simp] theorem z20:eqD (.str "nothing") (.str "cases")=some false:=w4 _ _ T7 Z3 _ (by decide +kernel)
@[simp] theorem z50:eqD (.str "rings") (.str "alike")=some false:=w4 _ _ N7 j7 _ (by decide +kernel)
@[simp] theorem z4K:eqD (.str "rings") (.str "unlike")=some false:=w4 _ _ N7 q8 _ (by decide +kernel)
@[simp] theorem z5d:eqD (.str "rings") (.str "least")=some false:=w4 _ _ N7 Z0 _ (by decide +kernel)
@[simp] theorem z6h:eqD (.str "rings") (.str "most")=some false:=w4 _ _ N7 Y7 _ (by decide +kernel)
@[simp] theorem z7z:eqD (.str "rings") (.str "way")=some false:=w4 _ _ N7 V3 _ (by decide +kernel)
@[simp] theorem z6v:eqD (.str "rings") (.str "none")=some false:=w4 _ _ N7 Y6 _ (by decide +kernel)
@[simp] theorem z4w:eqD (.str "rings") (.str "counts")=some false:=w4 _ _ N7 j9 _ (by decide +kernel)
@[simp] theorem z7w:eqD (.str "rings") (.str "few")=some false:=w4 _ _ N7 V5 _ (by decide +kernel)
@[simp] theorem z6r:eqD (.str "rings") (.str "many")=some false:=w4 _ _ N7 Y9 _ (by decide +kernel)
@[simp] theorem z6o:eqD (.str "rings") (.str "ring")=some false:=w4 _ _ N7 Y8 _ (by decide +kernel)
@[simp] theorem z49:eqD (.str "rings") (.str "cases")=some false:=w4 _ _ N7 Z3 _ (by decide +kernel)
@[simp] theorem yg8:([("alike",3),("unlike",3),("least",2),("most",2)]:List (String×Int)).any (fun p=>decide (Str.ofString p.1=("alike" : Str)))=true:=by decide +kernel
@[simp] theorem yh1:zd5 [("alike",3),("unlike",3),("least",2),("most",2)] "alike" = some 3:=by decide +kernel
@[simp] theorem z9g:([("alike",3),("unlike",3),("least",2),("most",2)]:List (String×Int)).any (fun p=>decide (Str.ofString p.1=("unlike" : Str)))=true:=by decide +kernel
@[simp] theorem z9d:zd5 [("alike",3),("unlike",3),("least",2),("most",2)] "unlike" = some 3:=by decide +kernel
@[simp] theorem yh4:([("alike",3),("unlike",3),("least",2),("most",2)]:List (String×Int)).any (fun p=>decide (Str.ofString p.1=("least" : Str)))=true:=by decide +kernel
@[simp] theorem yk5:zd5 [("alike",3),("unlike",3),("least",2),("most",2)] "least" = some 2:=by decide +kernel
@[simp] theorem yo5:([("alike",3),("unlike",3),("least",2),("most",2)]:List (String×Int)).any (fun p=>decide (Str.ofString p.1=("most" : Str)))=true:=by decide +kernel
@[simp] theorem yq7:zd5 [("alike",3),("unlike",3),("least",2),("most",2)] "most" = some 2:=by decide +kernel
section
variable {ρ:Env} {a b:SE} {k k':Kd} {d:D} {ds x y:List D} {c:Ec} {t:Nat->Nat} {ch:List Nat} {s:SS}
@[simp] theorem z9o:opB .Add (k,.scr x) (k',.lst y)=if x.length + y.length<=LIM then some (lk (k.join k') (x++y),.lst (x++y)) else none:=id rfl
@[simp] theorem ya0:zM7 [(k,.scr ds)]=(p9 ds).map fun ns=>(.own,.int ns.sum):=id rfl
@[simp] theorem z9S:X0 [(k,.scr ds)]=some (.own,.int ds.length):=id rfl
@[simp] theorem yJ4 {n:Nat}:noL (.tg n d)=false:=by simp[noL]
@[simp] theorem yg4 {is:List Nat}:mkS (.bor is) (.scr ds)=.bo is (.scr ds):=id rfl
@[simp] theorem yi4:mkS .own (.scr ds)=.ow (.scr ds):=id rfl
@[simp] theorem yB0:z09 a b ρ=(a ρ).bind fun x=>(b ρ).bind fun y=>match S1 x.2 with | some ks=>if noL y.2=true then .ok (.own,.dtk [(ks,y.2)]) else .st | none=>.st:=id rfl
@[simp] theorem yq0 {C fld:String}:zM1 C fld a ρ=(a ρ).out ρ fun x=>if noL x.2=true then .ex (.p C fld x.2) ρ else .st:=id rfl
@[simp] theorem zM5 {xs:List String} {hs:NmS}:z08 xs s hs ρ=match s ρ with | .ex c ρ'=>if xs.contains c.nm=true then zc9 c hs ρ' else .st | o=>o:=id rfl
@[simp] theorem ya5:zc9 c [] ρ=.ex c ρ:=id rfl
@[simp] theorem zy0 {C:String} {i:Nat} {h:Addr->Addr->SS} {r:NmS}:zc9 c ((C,i,h)::r) ρ=if c.nm=C then zK4 i h ρ c else if N9 c.nm C=true then .st else zc9 c r ρ:=id rfl
@[simp] theorem yF9:cpE a ρ=(a ρ).bind fun x=>.ok (nk x.1 x.2,x.2):=id rfl
@[simp] theorem zY9 {i:Nat} {h:Addr->Addr->SS} {nm fld:String}:zK4 i h ρ (.p nm fld d)=zt6 fun a dx=>(h a dx (ρ.set i (.bo [] (.exv a dx fld d)))).rtO i:=id rfl
@[simp] theorem yF5 {i:Nat}:(Out.rt k d).rtO i=.rt k d:=id rfl
@[simp] theorem yC3 {i:Nat}:(Out.ri ρ k d).rtO i=if G8 ρ i=true then .ri (ρ.set i .no) k d else .st:=id rfl
@[simp] theorem yq9 {i:Nat} {p q:Addr} {fld:String}:zn6 i p q fld ρ=match ρ[i]? with | some (.bo _ (.exv a' dx' f d))=>if a'=p/\dx'=q/\f=fld/\noL d=true then .ok (.own,d) else .st | _=>.st:=id rfl
@[simp] theorem yt3 (i:Nat):zG5 i ρ=match ρ[i]? with | some (.ow (.tg _ d))=>.ok (.bor [i],d) | _=>.st:=id rfl
@[simp] theorem z90 (i:Nat):K3 i ρ=match ρ[i]? with | some (.ow (.tg _ d))=>.ok (i,[.un],d) | _=>.st:=id rfl
@[simp] theorem yz0 {q:List Ix} {n:Nat}:V2 (.un::q) (.tg n d)=V2 q d:=id rfl
@[simp] theorem ym0 {q:List Ix} {n:Nat} {d':D}:W8 (.un::q) (.tg n d) d'=(W8 q d d').map fun d'=>.tg n d':=id rfl
@[simp] theorem ys5:zE7 ρ=.ok []:=id rfl
@[simp] theorem yL8 {r:SAH}:vH a r ρ=(a ρ).bind fun x=>(r ρ).bind fun xs=>.ok (.v x::xs):=id rfl
@[simp] theorem yL7 {p:SPh} {r:SAH}:pH p r ρ=(p ρ).bind fun x=>(r ρ).bind fun xs=>.ok (.p x::xs):=id rfl
@[simp] theorem yn3:isH []=[]:=id rfl
@[simp] theorem yM2 {x:KD} {r:List AX}:isH (.v x::r)=(nk x.1 x.2).is++isH r:=id rfl
@[simp] theorem yM5 {x:Nat×List Ix×D} {r:List AX}:isH (.p x::r)=isH r:=id rfl
@[simp] theorem yy6 {i:Nat}:pzH i []=[]:=id rfl
@[simp] theorem yL6 {i:Nat} {x:KD} {r:List AX}:pzH i (.v x::r)=pzH (i + 1) r:=id rfl
@[simp] theorem yM1 {i:Nat} {x:Nat×List Ix×D} {r:List AX}:pzH i (.p x::r)=(i,x)::pzH (i + 1) r:=id rfl
@[simp] theorem yM4 {x:KD}:(AX.v x).d=x.2:=id rfl
@[simp] theorem yL9 {x:Nat×List Ix×D}:(AX.p x).d=x.2.2:=id rfl
@[simp] theorem z8H:Q5 ρ [] []=some ρ:=id rfl
@[simp] theorem z8x {x:Nat×(Nat×List Ix×D)} {r:List (Nat×(Nat×List Ix×D))} {d:D} {cs:List D}:Q5 ρ (x::r) (d::cs)=(X5 ρ x.2 d).bind fun ρ'=>Q5 ρ' r cs:=id rfl
@[simp] theorem ya1:zn8 (.lst ds)=true:=id rfl
@[simp] theorem z96 {n:Nat} {C:String} {fs:List (Str×D)}:zn8 (.obj n C fs)=true:=id rfl
@[simp] theorem yb5 {fs:List (Key×D)}:zn8 (.dic fs)=true:=id rfl
@[simp] theorem z6S {fn:HFn} {r:SAH}:hcM fn ch r ρ=(r ρ).out ρ fun xs=>if (pzH 0 xs).map (·.1)=ch/\((pzH 0 xs).map (·.2.1)).Nodup/\(∀ q∈(pzH 0 xs).map (·.2.1),q∉isH xs)/\(pzH 0 xs).all (fun q=>zn8 q.2.2.2)=true then match zq3 fun t=>fn t (xs.map AX.d) with
 | .ok cs d=>(match Q5 ρ (pzH 0 xs) cs with
  | some ρ'=>.ri ρ' .own d
  | none=>.st)
 | .ex c cs=>(match Q5 ρ (pzH 0 xs) cs with
  | some ρ'=>.ex c ρ'
  | none=>.st)
 | .st=>.st else .st:=id rfl
theorem z1j {n m:Nat}:mkH ch n m s t ds=if ds.length=n then zJ9 ch m s t ds else .st:=id rfl
@[simp] theorem z0e {m:Nat}:zJ9 ch m s t ds=(s (slH ch t 0 ds++List.replicate (m - ds.length) .no)).finH ch t:=id rfl
@[simp] theorem yv4 {i:Nat}:slH ch t i []=[]:=id rfl
@[simp] theorem yk4 {i:Nat}:slH ch t i (d::ds)=(if ch.contains i=true then .ow (.tg (t i) d) else .bo [] d)::slH ch t (i + 1) ds:=id rfl
@[simp] theorem yx4:(Out.nx ρ).finH ch t=RH.of (fun cs=>.ok cs .non) (M4 t ρ ch):=id rfl
@[simp] theorem yz7:(Out.ri ρ k d).finH ch t=if zh6 k=true then RH.of (fun cs=>.ok cs d) (M4 t ρ ch) else .st:=id rfl
@[simp] theorem yt5:(Out.ex c ρ).finH ch t=RH.of (fun cs=>.ex c cs) (M4 t ρ ch):=id rfl
@[simp] theorem z9u {f:List D->RH}:RH.of f (some ds)=f ds:=id rfl
@[simp] theorem z9w:M4 t ρ []=some []:=id rfl
@[simp] theorem z8Z {i:Nat} {is:List Nat}:M4 t ρ (i::is)=(zS5 t ρ i).bind fun d=>(M4 t ρ is).map (d::·):=id rfl
@[simp] theorem yn2 {i:Nat}:zS5 t ρ i=match (ρ[i]?:Option Sl) with | some (.ow (.tg t' d))=>if t'=t i then some d else none | _=>none:=id rfl
@[simp] theorem zU9 {C m:String} {g:GFn} {p:SPh} {r:SA}:mcM C m g p r ρ=(p ρ).out ρ fun x=>match x.2.2 with
 | .obj t C' fs=>if C'=C/\J1 fs (Str.ofString m)=true then (r ρ).out ρ fun xs=>if x.1∈(jn xs).is then .st else match G3 fun t=>g t fs (xs.map (·.2)) with
  | .ok fs' d=>(match X5 ρ x (.obj t C fs') with
   | some ρ'=>.ri ρ' .own d
   | none=>.st)
  | .ex c fs'=>(match X5 ρ x (.obj t C fs') with
   | some ρ'=>.ex c ρ'
   | none=>.st)
  | .st=>.st else .st
 | _=>.st:=id rfl
end
section
variable {ρ:Env} {a b e:SE} {k k':Kd} {d:D} {ds x y:List D} {c:Ec} {s:SS} {m r:SM} {p:SPh} {q:List Ix} {i j n:Nat} {z:Str} {v:SE} {kvs:List (Key×D)}
variable {f:Env->List KD->Out} {g:Env->List KD->OL} {xs:List KD} {sa:SA} {sm:SAM} {t:STs}
@[simp] theorem z9M:(OL.ok ρ xs).outM f=f ρ xs:=id rfl
@[simp] theorem z9J:(OL.ex c ρ).outM f=.ex c ρ:=id rfl
@[simp] theorem z9O:(OL.ok ρ xs).more g=g ρ xs:=id rfl
@[simp] theorem z9v:(OL.ex c ρ).more g=.ex c ρ:=id rfl
@[simp] theorem yH7:cvA m sm ρ=match m ρ with
 | .ri ρ1 k d=>if noL d=true then (sm ρ1).more fun ρ2 xs=>.ok ρ2 ((.own,d)::xs) else if zh6 k=true then (sm ρ1).more fun ρ2 xs=>if V7 ρ2=true then .ok ρ2 ((.own,d)::xs) else .st else .st
 | .ex c ρ1=>.ex c ρ1
 | _=>.st:=id rfl
@[simp] theorem yH9:clA m ρ=match m ρ with
 | .ri ρ1 k d=>.ok ρ1 [(k,d)]
 | .ex c ρ1=>.ex c ρ1
 | _=>.st:=id rfl
@[simp] theorem yo0:z0K sm ρ=(sm ρ).outM fun ρ' xs=>if xs.length<=LIM then .ri ρ' (jn xs) (.tup (xs.map (·.2))) else .st:=id rfl
@[simp] theorem yu9 {xx:Nat}:zv4 xx i q ρ=match (ρ[i]?:Option Sl),(ρ[xx]?:Option Sl) with
 | some (.ow D),some (.bo _ _)=>(match V2 q D with
  | some (.tg _ d)=>(W8 q D d).map fun D'=>(ρ.set i (.ow D')).set xx .no
  | _=>none)
 | _,_=>none:=id rfl
@[simp] theorem yB7 {xx:Nat}:(Out.nx ρ).unt xx i q=match zv4 xx i q ρ with
  | some ρ'=>.nx ρ'
  | none=>.st:=id rfl
@[simp] theorem yI8 {xx:Nat}:(Out.ex c ρ).unt xx i q=match zv4 xx i q ρ with
  | some ρ'=>.ex c ρ'
  | none=>.st:=id rfl
@[simp] theorem yH8 {xx:Nat}:(Out.ri ρ k d).unt xx i q=match zv4 xx i q ρ with
  | some ρ'=>if zh6 k=true then .ri ρ' k d else .st
  | none=>.st:=id rfl
@[simp] theorem yL2 {xx:Nat}:(Out.rt k d).unt xx i q=.rt k d:=id rfl
end
section
variable {ρ:Env} {k:Kd} {d:D} {ds xs:List D} {c:Ec} {s:SS} {m r:SM} {a b:SE} {sa:SA} {fn:Fn} {n i:Nat} {C mm:String}
@[simp] theorem ya6:W3 []=false:=rfl
@[simp] theorem z9F {z:Sl} {l:List Sl}:W3 (z::l)=(z.isT||W3 l):=rfl
@[simp] theorem yD9:Sl.tb.isT=true:=rfl
@[simp] theorem yG8:Sl.no.isT=false:=rfl
@[simp] theorem yH6:(Sl.ow d).isT=false:=rfl
@[simp] theorem yC6 {is:List Nat}:(Sl.bo is d).isT=false:=rfl
@[simp] theorem z98 {l l':List Sl}:W3 (l++l')=(W3 l||W3 l'):=List.any_append
@[simp] theorem yv2:inv i (.tb::ρ)=.tb::inv i ρ:=id rfl
@[simp] theorem yw6:(mkS k d).isT=false:=by
 unfold mkS
 split <;> rfl
@[simp] theorem yu4:(Out.nx ρ).finT=if W3 ρ=true then .ok (.own,.non) else .st:=id rfl
@[simp] theorem yt7:(Out.ri ρ k d).finT=if W3 ρ=true then .ok (nk k d,d) else .st:=id rfl
@[simp] theorem yA5:(Out.ex c ρ).finT=if W3 ρ=true then .ex c else .st:=id rfl
end
noncomputable def zW7:STs:=(D5 (z8 (.bl true)))
noncomputable def zX5:SS:=t3
noncomputable def zO4:SS:=(whS zW7 zX5)
noncomputable def zz6:Fn:=mkF 1 1 zO4
noncomputable def zg3:SS:=(ifS (I6 (zA1 .LtE .Lt (z8 (.int 0)) (z4 1) (z4 0))) (zu9 "NoCenser") t3)
noncomputable def Z5:Fn:=mkF 2 2 zg3
noncomputable def zh8:SS:=(x7 (ifS (w5 .NotIn (z4 3) (z4 1)) (zc5 (O7 1) (z4 3) (p6 X0 (z6 (z4 1) y6))) t3)
  (D6 2 (x8 (z4 1) (z4 3))))
theorem zl2 {ρ:Env}:zh8 ρ=(x7 (ifS (w5 .NotIn (z4 3) (z4 1)) (zc5 (O7 1) (z4 3) (p6 X0 (z6 (z4 1) y6))) t3)
  (D6 2 (x8 (z4 1) (z4 3)))) ρ:=rfl
noncomputable def zm9:SS:=(x7 (u8 (tgN 1) z3x)
  (x7 (u8 (tgN 2) (W6 y6))
  (x7 (S4 (X9 (z4 0)) (tgN 3) zh8)
  (j6 (p6 zM9 (z6 (z4 2) y6))))))
noncomputable def B7:Fn:=mkF 1 4 zm9
noncomputable def zk9:SS:=(ifS (I6 (zA1 .LtE .LtE (z8 (.int 1)) (z4 0) (z8 (.int 9)))) (zu9 "BadMany") t3)
noncomputable def E8:Fn:=mkF 1 1 zk9
noncomputable def zj3:SE:=(zp4 (w5 .Eq (z4 6) (z4 4)) (z4 5) (z4 6))
theorem zs4 {ρ:Env}:zj3 ρ=(zp4 (w5 .Eq (z4 6) (z4 4)) (z4 5) (z4 6)) ρ:=rfl
noncomputable def zp6:SS:=(ifS (w5 .Eq (x8 (z4 3) (z8 (.int 0))) (z8 (.str "alike"))) (x7 (u8 (tgN 4) (p6 zw4 (z6 (x8 (z4 2) (x8 (z4 3) (z8 (.int 1)))) (z6 (x8 (z4 2) (x8 (z4 3) (z8 (.int 2)))) y6))))
  (x7 (u8 (tgN 5) (p6 zm7 (z6 (x8 (z4 2) (x8 (z4 3) (z8 (.int 1)))) (z6 (x8 (z4 2) (x8 (z4 3) (z8 (.int 2)))) y6))))
  (u8 (tgN 2) (lcE (X9 (z4 2)) [6] (tgN 6) zp8 zj3)))) t3)
theorem A7 {ρ:Env}:zp6 ρ=(ifS (w5 .Eq (x8 (z4 3) (z8 (.int 0))) (z8 (.str "alike"))) (x7 (u8 (tgN 4) (p6 zw4 (z6 (x8 (z4 2) (x8 (z4 3) (z8 (.int 1)))) (z6 (x8 (z4 2) (x8 (z4 3) (z8 (.int 2)))) y6))))
  (x7 (u8 (tgN 5) (p6 zm7 (z6 (x8 (z4 2) (x8 (z4 3) (z8 (.int 1)))) (z6 (x8 (z4 2) (x8 (z4 3) (z8 (.int 2)))) y6))))
  (u8 (tgN 2) (lcE (X9 (z4 2)) [6] (tgN 6) zp8 zj3)))) t3) ρ:=rfl
noncomputable def zB5:SS:=(x7 (u8 (tgN 2) (z27 (z30 (z4 0))))
  (x7 (S4 (X9 (z4 1)) (tgN 3) zp6)
  (zm5 2)))
noncomputable def zj5:Fn:=mkF 2 7 zB5
noncomputable def E6:SS:=(ifS (w5 .Eq (x8 (z4 3) (z8 (.int 0))) (z8 (.str "unlike"))) (x7 (zc5 (O7 2) (p5 (z6 (x8 (z4 0) (x8 (z4 3) (z8 (.int 1)))) (z6 (x8 (z4 0) (x8 (z4 3) (z8 (.int 2)))) y6))) (z8 (.bl true)))
  (zc5 (O7 2) (p5 (z6 (x8 (z4 0) (x8 (z4 3) (z8 (.int 2)))) (z6 (x8 (z4 0) (x8 (z4 3) (z8 (.int 1)))) y6))) (z8 (.bl true)))) t3)
theorem M5 {ρ:Env}:E6 ρ=(ifS (w5 .Eq (x8 (z4 3) (z8 (.int 0))) (z8 (.str "unlike"))) (x7 (zc5 (O7 2) (p5 (z6 (x8 (z4 0) (x8 (z4 3) (z8 (.int 1)))) (z6 (x8 (z4 0) (x8 (z4 3) (z8 (.int 2)))) y6))) (z8 (.bl true)))
  (zc5 (O7 2) (p5 (z6 (x8 (z4 0) (x8 (z4 3) (z8 (.int 2)))) (z6 (x8 (z4 0) (x8 (z4 3) (z8 (.int 1)))) y6))) (z8 (.bl true)))) t3) ρ:=rfl
noncomputable def zi5:SS:=(x7 (u8 (tgN 2) z3A)
  (x7 (S4 (X9 (z4 1)) (tgN 3) E6)
  (zm5 2)))
noncomputable def J5:Fn:=mkF 2 4 zi5
noncomputable def za1:STs:=(w5 .Eq (x8 (z4 1) (z8 (.int 0))) (z8 (.str "least")))
theorem zs8 {ρ:Env}:za1 ρ=(w5 .Eq (x8 (z4 1) (z8 (.int 0))) (z8 (.str "least"))) ρ:=rfl
noncomputable def za0:SE:=(x8 (z4 1) (z8 (.int 1)))
theorem zu6 {ρ:Env}:za0 ρ=(x8 (z4 1) (z8 (.int 1))) ρ:=rfl
noncomputable def ze1:SS:=(j6 (p6 zw4 (z6 (w7 .Add (W6 (z6 (z8 (.int 1)) y6)) (lcE (X9 (z4 0)) [1] (tgN 1) za1 za0)) y6)))
noncomputable def P5:Fn:=mkF 1 2 ze1
noncomputable def zd6:STs:=(w5 .Eq (x8 (z4 2) (z8 (.int 0))) (z8 (.str "most")))
theorem zy1 {ρ:Env}:zd6 ρ=(w5 .Eq (x8 (z4 2) (z8 (.int 0))) (z8 (.str "most"))) ρ:=rfl
noncomputable def ze5:SE:=(x8 (z4 2) (z8 (.int 1)))
theorem zA3 {ρ:Env}:ze5 ρ=(x8 (z4 2) (z8 (.int 1))) ρ:=rfl
noncomputable def zk5:SS:=(j6 (p6 zm7 (z6 (w7 .Add (W6 (z6 (z4 0) y6)) (lcE (X9 (z4 1)) [2] (tgN 2) zd6 ze5)) y6)))
noncomputable def L4:Fn:=mkF 2 3 zk5
noncomputable def za6:STs:=(w5 .Eq (x8 (z4 1) (z4 7)) (z4 7))
theorem zs6 {ρ:Env}:za6 ρ=(w5 .Eq (x8 (z4 1) (z4 7)) (z4 7)) ρ:=rfl
noncomputable def zb0:SE:=(z4 7)
theorem zw1 {ρ:Env}:zb0 ρ=(z4 7) ρ:=rfl
noncomputable def K9:SS:=(ifS (w5 .NotIn (p5 (z6 (z4 5) (z6 (z4 6) y6))) (z4 2)) (j6 (p5 (z6 (z4 5) (z6 (z4 6) y6)))) t3)
theorem zf4 {ρ:Env}:K9 ρ=(ifS (w5 .NotIn (p5 (z6 (z4 5) (z6 (z4 6) y6))) (z4 2)) (j6 (p5 (z6 (z4 5) (z6 (z4 6) y6)))) t3) ρ:=rfl
noncomputable def za7:SS:=(S4 (X9 (slE (z4 3) (zC0 (w7 .Add (z4 4) (z8 (.int 1)))) noO)) (tgN 6) K9)
theorem zg1 {ρ:Env}:za7 ρ=(S4 (X9 (slE (z4 3) (zC0 (w7 .Add (z4 4) (z8 (.int 1)))) noO)) (tgN 6) K9) ρ:=rfl
noncomputable def D8:SS:=(x7 (u8 (tgN 3) (lcE (M6 (z4 0)) [7] (tgN 7) za6 zb0))
  (x7 (S4 (zI1 (z4 3)) (tgT (j4 (tgN 4) (j4 (tgN 5) O5))) za7)
  (j6 (z8 .non))))
noncomputable def P4:Fn:=mkF 3 8 D8
noncomputable def zg8:SS:=(j6 (K7 ["Sayings"] "size" (z4 0)))
noncomputable def zg7:Fn:=mkF 1 1 zg8
noncomputable def zm2:SS:=(j6 (p6 X0 (z6 (K7 ["Sayings"] "given" (z4 0)) y6)))
noncomputable def zn5:Fn:=mkF 1 1 zm2
noncomputable def K8:STs:=(w5 .IsNot (z4 2) (z8 .non))
theorem C4 {ρ:Env}:K8 ρ=(w5 .IsNot (z4 2) (z8 .non)) ρ:=rfl
noncomputable def K6:SE:=(p5 (z6 (z4 1) (z6 (z4 2) y6)))
theorem zl5 {ρ:Env}:K6 ρ=(p5 (z6 (z4 1) (z6 (z4 2) y6))) ρ:=rfl
noncomputable def E5:SS:=(j6 (lcE (zI1 (K7 ["Sayings"] "given" (z4 0))) [1,2] (tgT (j4 (tgN 1) (j4 (tgN 2) O5))) K8 K6))
noncomputable def Y5:Fn:=mkF 1 3 E5
noncomputable def M3:STs:=(w5 .IsNot (z4 1) (z8 .non))
theorem zb3 {ρ:Env}:M3 ρ=(w5 .IsNot (z4 1) (z8 .non)) ρ:=rfl
noncomputable def D1:SE:=(z4 1)
theorem zq0 {ρ:Env}:D1 ρ=(z4 1) ρ:=rfl
noncomputable def za3:SS:=(j6 (lcE (X9 (K7 ["Sayings"] "given" (z4 0))) [1] (tgN 1) M3 D1))
noncomputable def i3:Fn:=mkF 1 2 za3
noncomputable def X4:SS:=(x7 (ifS (I6 (zA1 .LtE .Lt (z8 (.int 0)) (z4 1) (p6 X0 (z6 (K7 ["Sayings"] "given" (z4 0)) y6)))) (zu9 "NoSaying") t3)
  (x7 (u8 (tgN 2) (cpE (x8 (K7 ["Sayings"] "given" (z4 0)) (z4 1))))
  (x7 (ifS (w5 .Is (z4 2) (z8 .non)) (zu9 "Withdrawn") t3)
  (x7 (zc5 (zT7 ["Sayings"] "given" (O7 0)) (z4 1) (z8 .non))
  (zW1 2)))))
noncomputable def p7:GFn:=mkG "Sayings" 2 3 X4
noncomputable def zw8:SS:=(x7 (u8 (tgN 3) (w7 .Mod (w7 .Add (w7 .Mult (w7 .Mod (w7 .Mult (z4 3) (z4 3)) (z8 (.int 2147483647))) (w7 .Add (z4 3) (z8 (.int 17)))) (z8 (.int 12553))) (z8 (.int 2147483647))))
  (x7 (D6 4 (zp4 (w5 .Gt (z4 2) (z8 (.int 0))) (w7 .Mod (z4 2) (z4 5)) (w7 .Mod (w7 .Add (w7 .FloorDiv (z4 3) (z8 (.int 59))) (w7 .Mult (w7 .Mod (z4 3) (z8 (.int 8191))) (z8 (.int 31)))) (z4 5))))
  (u8 (tgN 2) (w7 .FloorDiv (z4 2) (z4 5)))))
theorem zx0 {ρ:Env}:zw8 ρ=(x7 (u8 (tgN 3) (w7 .Mod (w7 .Add (w7 .Mult (w7 .Mod (w7 .Mult (z4 3) (z4 3)) (z8 (.int 2147483647))) (w7 .Add (z4 3) (z8 (.int 17)))) (z8 (.int 12553))) (z8 (.int 2147483647))))
  (x7 (D6 4 (zp4 (w5 .Gt (z4 2) (z8 (.int 0))) (w7 .Mod (z4 2) (z4 5)) (w7 .Mod (w7 .Add (w7 .FloorDiv (z4 3) (z8 (.int 59))) (w7 .Mult (w7 .Mod (z4 3) (z8 (.int 8191))) (z8 (.int 31)))) (z4 5))))
  (u8 (tgN 2) (w7 .FloorDiv (z4 2) (z4 5))))) ρ:=rfl
noncomputable def zt1:SS:=(x7 (u8 (tgN 2) (zp4 (w5 .GtE (z4 0) (w7 .Pow (z8 (.int 10)) (z8 (.int 18)))) (z4 0) (z8 (.int 0))))
  (x7 (u8 (tgN 3) (w7 .Mod (w7 .Add (w7 .Mult (w7 .Mod (z4 0) (z8 (.int 2147483629))) (z8 (.int 48271))) (z8 (.int 7919))) (z8 (.int 2147483647))))
  (x7 (u8 (tgN 4) (W6 y6))
  (x7 (S4 (X9 (z4 1)) (tgN 5) zw8)
  (zm5 4)))))
noncomputable def S2:Fn:=mkF 2 6 zt1
noncomputable def zt5:SS:=(x7 (ifS (w5 .Lt (z4 1) (p6 X0 (z6 (z4 0) y6))) (j6 (x8 (z4 0) (z4 1))) t3)
  (j6 (w7 .Add (w7 .Add (w7 .Mult (w7 .Mod (p6 zM7 (z6 (z4 0) y6)) (z8 (.int 1000003))) (z8 (.int 131))) (w7 .Mult (p6 X0 (z6 (z4 0) y6)) (z8 (.int 7919)))) (w7 .Mult (z4 1) (z8 (.int 104729))))))
noncomputable def O2:Fn:=mkF 2 2 zt5
noncomputable def zG1:SS:=(j6 (p6 zw4 (z6 (z4 1) (z6 (p6 zm7 (z6 (p6 X0 (z6 (z4 0) y6)) (z6 (z8 (.int 63)) y6))) y6))))
noncomputable def zn4:Fn:=mkF 2 2 zG1
noncomputable def zL2:SS:=(j6 (Z1 (O1 (bvT (zq1 (z4 0) "int")) (I6 (bvT (zq1 (z4 0) "bool"))))))
noncomputable def zm1:Fn:=mkF 1 1 zL2
noncomputable def zi8:SS:=(ifS (D5 (z4 6)) (x7 (D6 5 (w7 .Add (w7 .Pow (z8 (.int 10)) (z8 (.int 18))) (w7 .Mod (z4 0) (z4 4))))
  (u8 (tgN 0) (w7 .FloorDiv (z4 0) (z4 4)))) (D6 5 (w7 .Add (w7 .Mult (z4 0) (w7 .Add (w7 .Mult (z8 (.int 2)) (z4 7)) (z8 (.int 3)))) (w7 .Mult (z8 (.int 7919)) (z4 7)))))
theorem zs3 {ρ:Env}:zi8 ρ=(ifS (D5 (z4 6)) (x7 (D6 5 (w7 .Add (w7 .Pow (z8 (.int 10)) (z8 (.int 18))) (w7 .Mod (z4 0) (z4 4))))
  (u8 (tgN 0) (w7 .FloorDiv (z4 0) (z4 4)))) (D6 5 (w7 .Add (w7 .Mult (z4 0) (w7 .Add (w7 .Mult (z8 (.int 2)) (z4 7)) (z8 (.int 3)))) (w7 .Mult (z8 (.int 7919)) (z4 7))))) ρ:=rfl
noncomputable def zz5:SS:=(x7 (u8 (tgN 3) (w7 .Mult (w7 .Pow (z8 (.int 10)) (z8 (.int 60))) (w7 .Pow (z8 (.int 10)) (z8 (.int 60)))))
  (x7 (u8 (tgN 4) (x8 (W6 (z6 (w7 .Pow (z8 (.int 10)) (z8 (.int 30))) (z6 (z4 3) (z6 (w7 .Mult (w7 .Mult (w7 .Mult (z4 3) (z4 3)) (z4 3)) (z4 3)) y6)))) (z4 2)))
  (x7 (u8 (tgN 5) (W6 y6))
  (x7 (u8 (tgN 6) (Z1 (w5 .GtE (z4 0) (w7 .Pow (z8 (.int 10)) (z8 (.int 18))))))
  (x7 (S4 (M6 (z4 1)) (tgN 7) zi8)
  (zm5 5))))))
noncomputable def B3:Fn:=mkF 3 8 zz5
noncomputable def zj4:SS:=(j6 (Z1 (O1 (bvT (zq1 (z4 0) "list")) (O1 (w5 .Eq (p6 X0 (z6 (z4 0) y6)) (z8 (.int 1))) (w5 .Eq (x8 (z4 0) (z8 (.int 0))) (z8 (.str "refused")))))))
noncomputable def N3:Fn:=mkF 1 1 zj4
noncomputable def Q7:SS:=(x7 (ifS (orT (I6 (zA1 .LtE .Lt (z8 (.int 0)) (z4 6) (p6 X0 (z6 (z4 0) y6)))) (orT (w5 .Is (x8 (z4 0) (z4 6)) (z8 .non)) (w5 .NotEq (p6 X0 (z6 (x8 (z4 0) (z4 6)) y6)) (z8 (.int 3))))) (j6 (z8 .non)) t3)
  (x7 (u8 (tgT (j4 (tgN 7) (j4 (tgN 8) (j4 (tgN 9) O5)))) (x8 (z4 0) (z4 6)))
  (x7 (ifS (O1 (w5 .NotEq (z4 4) (z4 8)) (w5 .NotEq (z4 4) (z4 9))) (j6 (z8 .non)) t3)
  (x7 (u8 (tgN 4) (w7 .Sub (w7 .Add (z4 8) (z4 9)) (z4 4)))
  (u8 (tgN 5) (w7 .Add (z4 5) (p6 zf2 (z6 (Z1 (w5 .Eq (z4 7) (z8 (.str "unlike")))) y6))))))))
theorem zB4 {ρ:Env}:Q7 ρ=(x7 (ifS (orT (I6 (zA1 .LtE .Lt (z8 (.int 0)) (z4 6) (p6 X0 (z6 (z4 0) y6)))) (orT (w5 .Is (x8 (z4 0) (z4 6)) (z8 .non)) (w5 .NotEq (p6 X0 (z6 (x8 (z4 0) (z4 6)) y6)) (z8 (.int 3))))) (j6 (z8 .non)) t3)
  (x7 (u8 (tgT (j4 (tgN 7) (j4 (tgN 8) (j4 (tgN 9) O5)))) (x8 (z4 0) (z4 6)))
  (x7 (ifS (O1 (w5 .NotEq (z4 4) (z4 8)) (w5 .NotEq (z4 4) (z4 9))) (j6 (z8 .non)) t3)
  (x7 (u8 (tgN 4) (w7 .Sub (w7 .Add (z4 8) (z4 9)) (z4 4)))
  (u8 (tgN 5) (w7 .Add (z4 5) (p6 zf2 (z6 (Z1 (w5 .Eq (z4 7) (z8 (.str "unlike")))) y6)))))))) ρ:=rfl
noncomputable def zb9:SS:=(x7 (u8 (tgN 4) (z4 2))
  (x7 (u8 (tgN 5) (z8 (.int 0)))
  (x7 (S4 (X9 (z4 1)) (tgN 6) Q7)
  (x7 (ifS (orT (w5 .NotEq (z4 4) (z4 3)) (w5 .Gt (z4 5) (z8 (.int 1)))) (j6 (z8 .non)) t3)
  (j6 (x8 (W6 (z6 (z8 (.str "alike")) (z6 (z8 (.str "unlike")) y6))) (z4 5)))))))
noncomputable def L6:Fn:=mkF 4 10 zb9
noncomputable def C3:STs:=(w5 .Gt (p6 X0 (z6 (z4 4) y6)) (z8 (.int 0)))
theorem B8 {ρ:Env}:C3 ρ=(w5 .Gt (p6 X0 (z6 (z4 4) y6)) (z8 (.int 0))) ρ:=rfl
noncomputable def K4:STs:=(O1 (w5 .IsNot (z4 12) (z8 .non)) (w5 .Eq (p6 X0 (z6 (z4 12) y6)) (z8 (.int 3))))
theorem zj7 {ρ:Env}:K4 ρ=(O1 (w5 .IsNot (z4 12) (z8 .non)) (w5 .Eq (p6 X0 (z6 (z4 12) y6)) (z8 (.int 3)))) ρ:=rfl
noncomputable def K5:SE:=(z4 12)
theorem zy2 {ρ:Env}:K5 ρ=(z4 12) ρ:=rfl
noncomputable def P6:SS:=(ifS (orT (w5 .Eq (z4 6) (z4 9)) (w5 .Eq (z4 6) (z4 10))) (x7 (u8 (tgN 11) (p5 (z6 (w7 .Sub (w7 .Add (z4 9) (z4 10)) (z4 6)) (z6 (w7 .Add (z4 7) (p6 zf2 (z6 (Z1 (w5 .Eq (z4 8) (z8 (.str "unlike")))) y6))) y6))))
  (ifS (O1 (w5 .Lt (x8 (z4 11) (z8 (.int 1))) (z8 (.int 2))) (w5 .NotIn (z4 11) (z4 3))) (x7 (zc5 (O7 3) (z4 11) (w7 .Add (x8 (z4 3) (p5 (z6 (z4 6) (z6 (z4 7) y6)))) (z8 (.int 1))))
  (D6 5 (z4 11))) t3)) t3)
theorem A1 {ρ:Env}:P6 ρ=(ifS (orT (w5 .Eq (z4 6) (z4 9)) (w5 .Eq (z4 6) (z4 10))) (x7 (u8 (tgN 11) (p5 (z6 (w7 .Sub (w7 .Add (z4 9) (z4 10)) (z4 6)) (z6 (w7 .Add (z4 7) (p6 zf2 (z6 (Z1 (w5 .Eq (z4 8) (z8 (.str "unlike")))) y6))) y6))))
  (ifS (O1 (w5 .Lt (x8 (z4 11) (z8 (.int 1))) (z8 (.int 2))) (w5 .NotIn (z4 11) (z4 3))) (x7 (zc5 (O7 3) (z4 11) (w7 .Add (x8 (z4 3) (p5 (z6 (z4 6) (z6 (z4 7) y6)))) (z8 (.int 1))))
  (D6 5 (z4 11))) t3)) t3) ρ:=rfl
noncomputable def C9:SS:=(S4 (X9 (lcE (X9 (z4 1)) [12] (tgN 12) K4 K5)) (tgT (j4 (tgN 8) (j4 (tgN 9) (j4 (tgN 10) O5)))) P6)
theorem zy3 {ρ:Env}:C9 ρ=(S4 (X9 (lcE (X9 (z4 1)) [12] (tgN 12) K4 K5)) (tgT (j4 (tgN 8) (j4 (tgN 9) (j4 (tgN 10) O5)))) P6) ρ:=rfl
noncomputable def C7:SS:=(x7 (u8 (tgN 5) (W6 y6))
  (x7 (S4 (X9 (z4 4)) (tgT (j4 (tgN 6) (j4 (tgN 7) O5))) C9)
  (mvS 4 5)))
theorem zA7 {ρ:Env}:C7 ρ=(x7 (u8 (tgN 5) (W6 y6))
  (x7 (S4 (X9 (z4 4)) (tgT (j4 (tgN 6) (j4 (tgN 7) O5))) C9)
  (mvS 4 5))) ρ:=rfl
noncomputable def zl1:SS:=(x7 (u8 (tgN 3) (z09 (p5 (z6 (z4 2) (z6 (z8 (.int 0)) y6))) (z8 (.int 0))))
  (x7 (u8 (tgN 4) (W6 (z6 (p5 (z6 (z4 2) (z6 (z8 (.int 0)) y6))) y6)))
  (x7 (whS C3 C7)
  (zm5 3))))
noncomputable def L7:Fn:=mkF 3 13 zl1
noncomputable def P0:SS:=(x7 (ifS (orT (w5 .Eq (p6 X0 (z6 (z4 1) y6)) (z8 (.int 0))) (orT (z3J true [("alike",3),("unlike",3),("least",2),("most",2)] (x8 (z4 1) (z8 (.int 0)))) (w5 .NotEq (p6 X0 (z6 (z4 1) y6)) (z2V [("alike",3),("unlike",3),("least",2),("most",2)] (x8 (z4 1) (z8 (.int 0))))))) (zu9 "BadSaying") t3)
  (x7 (ifS (w5 .Eq (p6 X0 (z6 (z4 1) y6)) (z8 (.int 2))) (x7 (ifS (I6 (zA1 .LtE .LtE (z8 (.int 1)) (x8 (z4 1) (z8 (.int 1))) (z4 0))) (zu9 "BadSaying") t3)
  z28) t3)
  (x7 (ifS (w5 .Eq (x8 (z4 1) (z8 (.int 1))) (x8 (z4 1) (z8 (.int 2)))) (zu9 "BadSaying") t3)
  (x7 (zd9 (p8 Z5 (z6 (z4 0) (z6 (x8 (z4 1) (z8 (.int 1))) y6)) []))
  (zd9 (p8 Z5 (z6 (z4 0) (z6 (x8 (z4 1) (z8 (.int 2))) y6)) []))))))
noncomputable def U5:Fn:=mkF 2 2 P0
noncomputable def zb1:SS:=(ifS (O1 (w5 .Eq (x8 (z4 4) (z8 (.int 0))) (z8 (.str "unlike"))) (w5 .Eq (x8 (z4 2) (x8 (z4 4) (z8 (.int 1)))) (x8 (z4 2) (x8 (z4 4) (z8 (.int 2)))))) (j6 (p5 (z6 (z8 (.str "ring")) (z6 (x8 (z4 4) (z8 (.int 1))) (z6 (x8 (z4 4) (z8 (.int 2))) y6))))) t3)
theorem S0 {ρ:Env}:zb1 ρ=(ifS (O1 (w5 .Eq (x8 (z4 4) (z8 (.int 0))) (z8 (.str "unlike"))) (w5 .Eq (x8 (z4 2) (x8 (z4 4) (z8 (.int 1)))) (x8 (z4 2) (x8 (z4 4) (z8 (.int 2)))))) (j6 (p5 (z6 (z8 (.str "ring")) (z6 (x8 (z4 4) (z8 (.int 1))) (z6 (x8 (z4 4) (z8 (.int 2))) y6))))) t3) ρ:=rfl
noncomputable def za2:STs:=(w5 .Eq (x8 (z4 2) (z4 8)) (z4 8))
theorem zu3 {ρ:Env}:za2 ρ=(w5 .Eq (x8 (z4 2) (z4 8)) (z4 8)) ρ:=rfl
noncomputable def za4:SE:=(z4 8)
theorem zw6 {ρ:Env}:za4 ρ=(z4 8) ρ:=rfl
noncomputable def J0:SE:=(Z1 (w5 .In (p5 (z6 (z4 7) (z6 (z4 9) y6))) (z4 3)))
theorem zu2 {ρ:Env}:J0 ρ=(Z1 (w5 .In (p5 (z6 (z4 7) (z6 (z4 9) y6))) (z4 3))) ρ:=rfl
noncomputable def za9:SS:=(ifS (D5 (p6 zM2 (z6 (lcE (X9 (z4 6)) [9] (tgN 9) zp8 J0) y6))) (D6 6 (z4 7)) t3)
theorem G9 {ρ:Env}:za9 ρ=(ifS (D5 (p6 zM2 (z6 (lcE (X9 (z4 6)) [9] (tgN 9) zp8 J0) y6))) (D6 6 (z4 7)) t3) ρ:=rfl
noncomputable def T9:SS:=(x7 (S4 (X9 (z4 1)) (tgN 4) zb1)
  (x7 (ifS (w5 .Gt (p8 P5 (z6 (z4 1) y6) []) (p8 L4 (z6 (z4 0) (z6 (z4 1) y6)) [])) (j6 (p5 (z6 (z8 (.str "counts")) y6))) t3)
  (x7 (u8 (tgN 5) (lcE (M6 (z4 0)) [8] (tgN 8) za2 za4))
  (x7 (ifS (w5 .Lt (p6 X0 (z6 (z4 5) y6)) (p8 P5 (z6 (z4 1) y6) [])) (j6 (p5 (z6 (z8 (.str "few")) y6))) t3)
  (x7 (u8 (tgN 6) (W6 y6))
  (x7 (S4 (X9 (z4 5)) (tgN 7) za9)
  (x7 (ifS (w5 .Gt (p6 X0 (z6 (z4 6) y6)) (p8 L4 (z6 (z4 0) (z6 (z4 1) y6)) [])) (j6 (p5 (z6 (z8 (.str "many")) (z6 (p6 zM9 (z6 (z4 6) y6)) y6)))) t3)
  (j6 (z8 .non)))))))))
noncomputable def V4:Fn:=mkF 4 10 T9
noncomputable def G6:SS:=(x7 (zd9 (p8 E8 (z6 (z4 1) y6) []))
  (x7 (z02 ["Sayings"] (O7 0) "size" (z4 1))
  (z02 ["Sayings"] (O7 0) "given" (W6 y6))))
noncomputable def X8:GFn:=mkG "Sayings" 2 2 G6
noncomputable def U2:SS:=(ifS (O1 (w5 .Eq (p6 X0 (z6 (z4 6) y6)) (z8 (.int 3))) (w5 .In (z4 1) (slE (z4 6) (zC0 (z8 (.int 1))) noO))) (x7 (u8 (tgN 7) (w7 .Sub (w7 .Add (x8 (z4 6) (z8 (.int 1))) (x8 (z4 6) (z8 (.int 2)))) (z4 1)))
  (x7 (u8 (tgN 8) (w7 .Add (z4 2) (p6 zf2 (z6 (Z1 (w5 .Eq (x8 (z4 6) (z8 (.int 0))) (z8 (.str "unlike")))) y6))))
  (ifS (w5 .Lt (z4 8) (z8 (.int 2))) (D6 4 (p5 (z6 (z4 7) (z6 (z4 8) (z6 (w7 .Add (z4 3) (W6 (z6 (z4 5) y6))) y6))))) t3))) t3)
theorem Y4 {ρ:Env}:U2 ρ=(ifS (O1 (w5 .Eq (p6 X0 (z6 (z4 6) y6)) (z8 (.int 3))) (w5 .In (z4 1) (slE (z4 6) (zC0 (z8 (.int 1))) noO))) (x7 (u8 (tgN 7) (w7 .Sub (w7 .Add (x8 (z4 6) (z8 (.int 1))) (x8 (z4 6) (z8 (.int 2)))) (z4 1)))
  (x7 (u8 (tgN 8) (w7 .Add (z4 2) (p6 zf2 (z6 (Z1 (w5 .Eq (x8 (z4 6) (z8 (.int 0))) (z8 (.str "unlike")))) y6))))
  (ifS (w5 .Lt (z4 8) (z8 (.int 2))) (D6 4 (p5 (z6 (z4 7) (z6 (z4 8) (z6 (w7 .Add (z4 3) (W6 (z6 (z4 5) y6))) y6))))) t3))) t3) ρ:=rfl
noncomputable def H7:SS:=(x7 (u8 (tgN 4) (W6 y6))
  (x7 (S4 (X9 (rmE "Sayings" "standing" Y5 (z4 0) y6)) (tgT (j4 (tgN 5) (j4 (tgN 6) O5))) U2)
  (zm5 4)))
noncomputable def Y1:Fn:=mkF 4 9 H7
noncomputable def zg6:SS:=(zd9 (p8 zz6 (z6 (z8 (.int 0)) y6) []))
noncomputable def zg5:Fn:=mkF 1 1 zg6
noncomputable def zt9:SE:=(p8 zm1 (z6 (z4 1) y6) [])
theorem zQ7 {ρ:Env}:zt9 ρ=(p8 zm1 (z6 (z4 1) y6) []) ρ:=rfl
noncomputable def zG0:SS:=(j6 (Z1 (O1 (bvT (zq1 (z4 0) "list")) (bvT (p6 zM2 (z6 (lcE (X9 (z4 0)) [1] (tgN 1) zp8 zt9) y6))))))
noncomputable def zo2:Fn:=mkF 1 2 zG0
noncomputable def A6:SS:=(x7 (u8 (tgN 2) (p8 S2 (z6 (z4 0) (z6 (W6 (z6 (z8 (.int 9)) (z6 (z8 (.int 9)) (z6 (z8 (.int 8)) (z6 (z8 (.int 9)) y6))))) y6)) []))
  (x7 (ifS (orT (w5 .Gt (x8 (z4 2) (z8 (.int 0))) (z8 (.int 6))) (w5 .Eq (z4 1) (z8 (.int 1)))) (j6 (p5 (z6 (x8 (W6 (z6 (z8 (.str "least")) (z6 (z8 (.str "most")) y6))) (w7 .Mod (x8 (z4 2) (z8 (.int 0))) (z8 (.int 2)))) (z6 (w7 .Add (z8 (.int 1)) (w7 .Mod (x8 (z4 2) (z8 (.int 3))) (z4 1))) y6)))) t3)
  (x7 (u8 (tgN 3) (w7 .Mod (x8 (z4 2) (z8 (.int 1))) (z4 1)))
  (x7 (u8 (tgN 4) (w7 .Mod (w7 .Add (w7 .Add (z4 3) (z8 (.int 1))) (w7 .Mod (x8 (z4 2) (z8 (.int 2))) (w7 .Sub (z4 1) (z8 (.int 1))))) (z4 1)))
  (j6 (p5 (z6 (x8 (W6 (z6 (z8 (.str "alike")) (z6 (z8 (.str "unlike")) y6))) (p6 zf2 (z6 (Z1 (w5 .Gt (x8 (z4 2) (z8 (.int 0))) (z8 (.int 2)))) y6))) (z6 (z4 3) (z6 (z4 4) y6)))))))))
noncomputable def N0:Fn:=mkF 2 5 A6
noncomputable def zb7:SS:=(x7 (u8 (tgN 2) (p8 S2 (z6 (z4 0) (z6 (W6 (z6 (z4 1) (z6 (z8 (.int 5)) y6))) y6)) []))
  (j6 (w7 .Add (w7 .Mod (x8 (z4 2) (z8 (.int 0))) (zp4 (w5 .Eq (x8 (z4 2) (z8 (.int 1))) (z8 (.int 0))) (z4 1) (p6 zm7 (z6 (z4 1) (z6 (z8 (.int 6)) y6))))) (z8 (.int 1)))))
noncomputable def L5:Fn:=mkF 2 3 zb7
noncomputable def Z4:STs:=(w5 .Gt (p6 X0 (z6 (z4 4) y6)) (z8 (.int 0)))
theorem D9 {ρ:Env}:Z4 ρ=(w5 .Gt (p6 X0 (z6 (z4 4) y6)) (z8 (.int 0))) ρ:=rfl
noncomputable def R9:SS:=(ifS (w5 .NotIn (p5 (z6 (x8 (z4 9) (z8 (.int 0))) (z6 (x8 (z4 9) (z8 (.int 1))) y6))) (z4 3)) (x7 (zc5 (O7 3) (p5 (z6 (x8 (z4 9) (z8 (.int 0))) (z6 (x8 (z4 9) (z8 (.int 1))) y6))) (z8 (.bl true)))
  (zM0 5 9)) t3)
theorem C2 {ρ:Env}:R9 ρ=(ifS (w5 .NotIn (p5 (z6 (x8 (z4 9) (z8 (.int 0))) (z6 (x8 (z4 9) (z8 (.int 1))) y6))) (z4 3)) (x7 (zc5 (O7 3) (p5 (z6 (x8 (z4 9) (z8 (.int 0))) (z6 (x8 (z4 9) (z8 (.int 1))) y6))) (z8 (.bl true)))
  (zM0 5 9)) t3) ρ:=rfl
noncomputable def W9:SS:=(x7 (ifS (w5 .Eq (z4 6) (z4 2)) (z0H (z0K (cvA (mE (zp4 (w5 .Eq (z4 7) (z8 (.int 0))) (z8 (.str "alike")) (z8 (.str "unlike")))) (clA (zE4 8))))) t3)
  (zK7 (mE (rmE "Sayings" "onward" Y1 (z4 0) (z6 (z4 6) (z6 (z4 7) (z6 (z4 8) y6))))) (tgN 9) R9))
theorem O9 {ρ:Env}:W9 ρ=(x7 (ifS (w5 .Eq (z4 6) (z4 2)) (z0H (z0K (cvA (mE (zp4 (w5 .Eq (z4 7) (z8 (.int 0))) (z8 (.str "alike")) (z8 (.str "unlike")))) (clA (zE4 8))))) t3)
  (zK7 (mE (rmE "Sayings" "onward" Y1 (z4 0) (z6 (z4 6) (z6 (z4 7) (z6 (z4 8) y6))))) (tgN 9) R9)) ρ:=rfl
noncomputable def i4:SS:=(x7 (u8 (tgN 5) (W6 y6))
  (x7 (zK7 (zE4 4) (zB0 6 7 8) W9)
  (mvS 4 5)))
theorem C0 {ρ:Env}:i4 ρ=(x7 (u8 (tgN 5) (W6 y6))
  (x7 (zK7 (zE4 4) (zB0 6 7 8) W9)
  (mvS 4 5))) ρ:=rfl
noncomputable def U1:SS:=(x7 (zd9 (p8 Z5 (z6 (K7 ["Sayings"] "size" (z4 0)) (z6 (z4 1) y6)) []))
  (x7 (zd9 (p8 Z5 (z6 (K7 ["Sayings"] "size" (z4 0)) (z6 (z4 2) y6)) []))
  (x7 (u8 (tgN 3) (z09 (p5 (z6 (z4 1) (z6 (z8 (.int 0)) y6))) (z8 (.bl true))))
  (x7 (u8 (tgN 4) (W6 (z6 (p5 (z6 (z4 1) (z6 (z8 (.int 0)) (z6 (W6 y6) y6)))) y6)))
  (x7 (whS Z4 i4)
  (j6 (z8 .non)))))))
noncomputable def v8:Fn:=mkF 3 10 U1
noncomputable def zh1:STs:=(w5 .In (p5 (z6 (z4 4) (z6 (z4 6) y6))) (z4 2))
theorem zD2 {ρ:Env}:zh1 ρ=(w5 .In (p5 (z6 (z4 4) (z6 (z4 6) y6))) (z4 2)) ρ:=rfl
noncomputable def zi0:SE:=(z4 6)
theorem zD1 {ρ:Env}:zi0 ρ=(z4 6) ρ:=rfl
noncomputable def zg9:SE:=(x8 (z4 2) (p5 (z6 (z4 4) (z6 (z4 6) y6))))
theorem zD7 {ρ:Env}:zg9 ρ=(x8 (z4 2) (p5 (z6 (z4 4) (z6 (z4 6) y6)))) ρ:=rfl
noncomputable def ze9:SS:=(x7 (u8 (tgN 5) (lcE (M6 (z8 (.int 2))) [6] (tgN 6) zh1 zi0))
  (x7 (ifS (w5 .Eq (p6 X0 (z6 (z4 5) y6)) (z8 (.int 0))) (j6 (Z1 (w5 .Is (z4 0) (z8 .non)))) t3)
  (x7 (ifS (orT (I6 (D5 (zq1 (z4 0) "tuple"))) (orT (w5 .NotEq (p6 X0 (z6 (z4 0) y6)) (z8 (.int 2))) (I6 (D5 (p8 zo2 (z6 (x8 (z4 0) (z8 (.int 1))) y6) []))))) (j6 (z8 (.bl false))) t3)
  (x7 (ifS (w5 .NotEq (x8 (z4 0) (z8 (.int 0))) (p8 L6 (z6 (z4 1) (z6 (x8 (z4 0) (z8 (.int 1))) (z6 (z4 3) (z6 (z4 4) y6)))) [])) (j6 (z8 (.bl false))) t3)
  (j6 (Z1 (w5 .Eq (p6 X0 (z6 (x8 (z4 0) (z8 (.int 1))) y6)) (p6 zm7 (z6 (lcE (X9 (z4 5)) [6] (tgN 6) zp8 zg9) y6)))))))))
noncomputable def N6:Fn:=mkF 5 7 ze9
noncomputable def Q4:SS:=(x7 (u8 (tgN 7) (rmE "Sayings" "chain" v8 (z4 0) (z6 (z4 3) (z6 (z4 5) y6))))
  (x7 (ifS (I6 (D5 (p8 N6 (z6 (z4 7) (z6 (z4 2) (z6 (z4 4) (z6 (z4 3) (z6 (z4 5) y6))))) []))) (j6 (z8 (.bl false))) t3)
  (ifS (w5 .IsNot (z4 7) (z8 .non)) (mtS .l (z0T (O7 7) (z8 (.int 1))) (z6 (z8 (.int 0)) y6) zj1) t3)))
theorem zd2 {ρ:Env}:Q4 ρ=(x7 (u8 (tgN 7) (rmE "Sayings" "chain" v8 (z4 0) (z6 (z4 3) (z6 (z4 5) y6))))
  (x7 (ifS (I6 (D5 (p8 N6 (z6 (z4 7) (z6 (z4 2) (z6 (z4 4) (z6 (z4 3) (z6 (z4 5) y6))))) []))) (j6 (z8 (.bl false))) t3)
  (ifS (w5 .IsNot (z4 7) (z8 .non)) (mtS .l (z0T (O7 7) (z8 (.int 1))) (z6 (z8 (.int 0)) y6) zj1) t3))) ρ:=rfl
noncomputable def L8:SS:=(S4 (M6 (w7 .Add (z8 (.int 1)) (p6 zf2 (z6 (Z1 (w5 .Eq (z4 3) (z8 (.int 0)))) y6)))) (tgN 6) Q4)
theorem zd4 {ρ:Env}:L8 ρ=(S4 (M6 (w7 .Add (z8 (.int 1)) (p6 zf2 (z6 (Z1 (w5 .Eq (z4 3) (z8 (.int 0)))) y6)))) (tgN 6) Q4) ρ:=rfl
noncomputable def B9:SS:=(x7 (u8 (tgN 4) (p8 L7 (z6 (z4 1) (z6 (z4 2) (z6 (z4 3) y6))) []))
  (S4 (M6 (z4 1)) (tgN 5) L8))
theorem zs2 {ρ:Env}:B9 ρ=(x7 (u8 (tgN 4) (p8 L7 (z6 (z4 1) (z6 (z4 2) (z6 (z4 3) y6))) []))
  (S4 (M6 (z4 1)) (tgN 5) L8)) ρ:=rfl
noncomputable def zc4:SS:=(x7 (S4 (M6 (z4 1)) (tgN 3) B9)
  (j6 (z8 (.bl true))))
noncomputable def T0:Fn:=mkF 3 8 zc4
noncomputable def T8 (rec:Fn):SS:=(x7 (u8 (tgN 2) (p8 zj5 (z6 (z4 0) (z6 (z4 1) y6)) []))
  (x7 (u8 (tgN 3) (p8 J5 (z6 (z4 2) (z6 (z4 1) y6)) []))
  (x7 (u8 (tgN 4) (p8 V4 (z6 (z4 0) (z6 (z4 1) (z6 (z4 2) (z6 (z4 3) y6)))) []))
  (x7 (ifS (w5 .IsNot (z4 4) (z8 .non)) (j6 (p5 (z6 (z8 (.str "none")) (z6 (z4 4) y6)))) t3)
  (x7 (u8 (tgN 5) (p8 P4 (z6 (z4 0) (z6 (z4 2) (z6 (z4 3) y6))) []))
  (x7 (ifS (w5 .Is (z4 5) (z8 .non)) (j6 (p5 (z6 (z8 (.str "way")) (z6 (p8 B7 (z6 (z4 2) y6) []) y6)))) t3)
  (x7 (u8 (tgT (j4 (tgN 6) (j4 (tgN 7) O5))) (z4 5))
  (x7 (u8 (tgN 8) (p8 rec (z6 (z4 0) (z6 (w7 .Add (z4 1) (W6 (z6 (p5 (z6 (z8 (.str "alike")) (z6 (z4 6) (z6 (z4 7) y6)))) y6))) y6)) []))
  (x7 (ifS (w5 .Eq (x8 (z4 8) (z8 (.int 0))) (z8 (.str "way"))) (zm5 8) t3)
  (x7 (u8 (tgN 9) (p8 rec (z6 (z4 0) (z6 (w7 .Add (z4 1) (W6 (z6 (p5 (z6 (z8 (.str "unlike")) (z6 (z4 6) (z6 (z4 7) y6)))) y6))) y6)) []))
  (x7 (ifS (w5 .Eq (x8 (z4 9) (z8 (.int 0))) (z8 (.str "way"))) (zm5 9) t3)
  (j6 (p5 (z6 (z8 (.str "none")) (z6 (p5 (z6 (z8 (.str "cases")) (z6 (z4 6) (z6 (z4 7) (z6 (x8 (z4 8) (z8 (.int 1))) (z6 (x8 (z4 9) (z8 (.int 1))) y6)))))) y6)))))))))))))))
noncomputable def X1:Nat->Fn:=zV5 2 10 T8
noncomputable def T5:SS:=(x7 (zd9 (p8 U5 (z6 (K7 ["Sayings"] "size" (z4 0)) (z6 (z4 1) y6)) []))
  (x7 (ifS (w5 .Eq (p6 X0 (z6 (z4 1) y6)) (z8 (.int 3))) (x7 (u8 (tgN 2) (z0V (rmE "Sayings" "chain" v8 (z4 0) (z6 (x8 (z4 1) (z8 (.int 1))) (z6 (x8 (z4 1) (z8 (.int 2))) y6)))))
  (ifS (O1 (w5 .IsNot (z4 2) (z8 .non)) (w5 .NotEq (x8 (z4 2) (z8 (.int 0))) (x8 (z4 1) (z8 (.int 0))))) (zM1 "Clash" "ring" (x8 (z4 2) (z8 (.int 1)))) t3)) t3)
  (x7 (u8 (tgN 3) (p8 (X1 48) (z6 (K7 ["Sayings"] "size" (z4 0)) (z6 (w7 .Add (rmE "Sayings" "plain" i3 (z4 0) y6) (W6 (z6 (z4 1) y6))) y6)) []))
  (x7 (ifS (w5 .Eq (x8 (z4 3) (z8 (.int 0))) (z8 (.str "none"))) (zM1 "NoFit" "paper" (x8 (z4 3) (z8 (.int 1)))) t3)
  (x7 (mtS .l (zT7 ["Sayings"] "given" (O7 0)) (z6 (z4 1) y6) zj1)
  (I0 (w7 .Sub (p6 X0 (z6 (K7 ["Sayings"] "given" (z4 0)) y6)) (z8 (.int 1)))))))))
noncomputable def i8:GFn:=mkG "Sayings" 2 4 T5
noncomputable def L9:SS:=(x7 (zd9 (p8 Z5 (z6 (K7 ["Sayings"] "size" (z4 0)) (z6 (z4 1) y6)) []))
  (x7 (zd9 (p8 Z5 (z6 (K7 ["Sayings"] "size" (z4 0)) (z6 (z4 2) y6)) []))
  (x7 (ifS (w5 .Eq (z4 1) (z4 2)) (j6 (p5 (z6 (z8 (.str "alike")) (z6 (z8 .non) y6)))) t3)
  (x7 (u8 (tgN 3) (p8 (X1 48) (z6 (K7 ["Sayings"] "size" (z4 0)) (z6 (w7 .Add (rmE "Sayings" "plain" i3 (z4 0) y6) (W6 (z6 (p5 (z6 (z8 (.str "unlike")) (z6 (z4 1) (z6 (z4 2) y6)))) y6))) y6)) []))
  (x7 (ifS (w5 .Eq (x8 (z4 3) (z8 (.int 0))) (z8 (.str "none"))) (j6 (p5 (z6 (z8 (.str "alike")) (z6 (x8 (z4 3) (z8 (.int 1))) y6)))) t3)
  (x7 (u8 (tgN 4) (p8 (X1 48) (z6 (K7 ["Sayings"] "size" (z4 0)) (z6 (w7 .Add (rmE "Sayings" "plain" i3 (z4 0) y6) (W6 (z6 (p5 (z6 (z8 (.str "alike")) (z6 (z4 1) (z6 (z4 2) y6)))) y6))) y6)) []))
  (x7 (ifS (w5 .Eq (x8 (z4 4) (z8 (.int 0))) (z8 (.str "none"))) (j6 (p5 (z6 (z8 (.str "unlike")) (z6 (x8 (z4 4) (z8 (.int 1))) y6)))) t3)
  (j6 (p5 (z6 (z8 (.str "either")) (z6 (x8 (z4 4) (z8 (.int 1))) (z6 (x8 (z4 3) (z8 (.int 1))) y6))))))))))))
noncomputable def i6:Fn:=mkF 3 5 L9
noncomputable def D4:SS:=(j6 (x8 (rmE "Sayings" "why" i6 (z4 0) (z6 (z4 1) (z6 (z4 2) y6))) (z8 (.int 0))))
noncomputable def V1:Fn:=mkF 3 3 D4
noncomputable def I5:SS:=(z0A (mcM "Sayings" "say" i8 (K3 0) (z6 (z4 1) y6)))
theorem ze6 {ρ:Env}:I5 ρ=(z0A (mcM "Sayings" "say" i8 (K3 0) (z6 (z4 1) y6))) ρ:=rfl
noncomputable def zv1:SS:=(z08 ["BadSaying", "Clash", "NoCenser", "NoFit"] I5 [("Clash",2,fun ea edx=>(I0 (p5 (z6 (z8 (.str "clash")) (z6 (zn6 2 ea edx "ring") y6))))),("NoFit",2,fun ea edx=>(I0 (p5 (z6 (z8 (.str "none")) (z6 (zn6 2 ea edx "paper") y6)))))])
noncomputable def K0:HFn:=mkH [0] 2 3 zv1
noncomputable def M9:STs:=(w5 .IsNot (x8 (zG5 3) (z4 11)) (z8 .non))
theorem E7 {ρ:Env}:M9 ρ=(w5 .IsNot (x8 (zG5 3) (z4 11)) (z8 .non)) ρ:=rfl
noncomputable def M8:SE:=(z4 11)
theorem zk8 {ρ:Env}:M8 ρ=(z4 11) ρ:=rfl
noncomputable def P3:SS:=(x7 (u8 (tgT (j4 (tgN 4) (j4 (tgN 5) O5))) (p8 B3 (z6 (z4 1) (z6 (z8 (.int 2)) y6)) [.int 0]))
  (x7 (u8 (tgN 6) (p8 S2 (z6 (z4 4) (z6 (W6 (z6 (z8 (.int 5)) (z6 (z8 (.int 64)) y6))) y6)) []))
  (x7 (u8 (tgN 7) (lcE (M6 (p6 X0 (z6 (zG5 3) y6))) [11] (tgN 11) M9 M8))
  (x7 (ifS (O1 (w5 .Eq (x8 (z4 6) (z8 (.int 0))) (z8 (.int 0))) (w5 .Gt (p6 X0 (z6 (z4 7) y6)) (z8 (.int 0)))) (x7 (u8 (tgN 8) (x8 (z4 7) (w7 .Mod (x8 (z4 6) (z8 (.int 1))) (p6 X0 (z6 (z4 7) y6)))))
  (x7 (zu4 (mcM "Sayings" "withdraw" p7 (K3 0) (z6 (z4 8) y6)))
  (x7 (zc5 (K3 3) (z4 8) (z8 .non))
  (I0 (z8 .non))))) t3)
  (x7 (u8 (tgN 9) (p8 N0 (z6 (z4 5) (z6 (z4 2) y6)) []))
  (x7 (z0N (tgN 10) (hcM K0 [0] (pH (K3 0) (vH (z4 9) zE7))))
  (x7 (ifS (D5 (zq1 (z4 10) "tuple")) (I0 (p5 (z6 (z4 9) (z6 (z4 10) y6)))) t3)
  (x7 (mtS .l (K3 3) (z6 (z4 9) y6) zj1)
  (I0 (z8 .non))))))))))
noncomputable def b6:HFn:=mkH [0,3] 4 12 P3
noncomputable def zs1:SS:=(x7 (ifS (w5 .Eq (z4 1) (z8 (.int 0))) (j6 (rmE "Sayings" "chain" v8 (z4 0) (z6 (z4 2) (z6 (z4 3) y6)))) t3)
  (x7 (ifS (w5 .Eq (z4 1) (z8 (.int 1))) (j6 (rmE "Sayings" "told" V1 (z4 0) (z6 (z4 2) (z6 (z4 3) y6)))) t3)
  (j6 (rmE "Sayings" "why" i6 (z4 0) (z6 (z4 2) (z6 (z4 3) y6))))))
theorem za5 {ρ:Env}:zs1 ρ=(x7 (ifS (w5 .Eq (z4 1) (z8 (.int 0))) (j6 (rmE "Sayings" "chain" v8 (z4 0) (z6 (z4 2) (z6 (z4 3) y6)))) t3)
  (x7 (ifS (w5 .Eq (z4 1) (z8 (.int 1))) (j6 (rmE "Sayings" "told" V1 (z4 0) (z6 (z4 2) (z6 (z4 3) y6)))) t3)
  (j6 (rmE "Sayings" "why" i6 (z4 0) (z6 (z4 2) (z6 (z4 3) y6)))))) ρ:=rfl
noncomputable def B2:SS:=(z3m ["NoCenser"] zs1 [("NoCenser",fun _=>(j6 (W6 (z6 (z8 (.str "refused")) y6))))])
noncomputable def Q2:Fn:=mkF 4 4 B2
noncomputable def zc1:SS:=(x7 (u8 (tgN 6) (p8 O2 (z6 (z4 0) (z6 (z4 5) y6)) []))
  (x7 (zu4 (hcM b6 [0,3] (pH (O7 3) (vH (z4 6) (vH (z4 1) (pH (O7 4) zE7))))))
  (ifS (orT (w5 .Lt (z4 5) (z8 (.int 3))) (w5 .Eq (w7 .Mod (z4 6) (z8 (.int 7))) (z8 (.int 0)))) (ifS (I6 (D5 (p8 T0 (z6 (z4 3) (z6 (z4 1) (z6 (z4 4) y6))) []))) (j6 (z8 (.bl false))) t3) t3)))
theorem zx3 {ρ:Env}:zc1 ρ=(x7 (u8 (tgN 6) (p8 O2 (z6 (z4 0) (z6 (z4 5) y6)) []))
  (x7 (zu4 (hcM b6 [0,3] (pH (O7 3) (vH (z4 6) (vH (z4 1) (pH (O7 4) zE7))))))
  (ifS (orT (w5 .Lt (z4 5) (z8 (.int 3))) (w5 .Eq (w7 .Mod (z4 6) (z8 (.int 7))) (z8 (.int 0)))) (ifS (I6 (D5 (p8 T0 (z6 (z4 3) (z6 (z4 1) (z6 (z4 4) y6))) []))) (j6 (z8 (.bl false))) t3) t3))) ρ:=rfl
noncomputable def zc7:SS:=(ifS (I6 (D5 (p8 N3 (z6 (p8 Q2 (z6 (z4 3) (z6 (z4 8) (z6 (x8 (z4 9) (z8 (.int 0))) (z6 (x8 (z4 9) (z8 (.int 1))) y6)))) []) y6) []))) (j6 (z8 (.bl false))) t3)
theorem zx8 {ρ:Env}:zc7 ρ=(ifS (I6 (D5 (p8 N3 (z6 (p8 Q2 (z6 (z4 3) (z6 (z4 8) (z6 (x8 (z4 9) (z8 (.int 0))) (z6 (x8 (z4 9) (z8 (.int 1))) y6)))) []) y6) []))) (j6 (z8 (.bl false))) t3) ρ:=rfl
noncomputable def E1:SS:=(S4 (X9 (W6 (z6 (p5 (z6 (z4 7) (z6 (w7 .Mod (x8 (z4 2) (z8 (.int 2))) (z4 1)) y6))) (z6 (p5 (z6 (w7 .Mod (x8 (z4 2) (z8 (.int 2))) (z4 1)) (z6 (z4 7) y6))) (z6 (p5 (z6 (z4 7) (z6 (z4 7) y6))) y6))))) (tgN 9) zc7)
theorem zx4 {ρ:Env}:E1 ρ=(S4 (X9 (W6 (z6 (p5 (z6 (z4 7) (z6 (w7 .Mod (x8 (z4 2) (z8 (.int 2))) (z4 1)) y6))) (z6 (p5 (z6 (w7 .Mod (x8 (z4 2) (z8 (.int 2))) (z4 1)) (z6 (z4 7) y6))) (z6 (p5 (z6 (z4 7) (z6 (z4 7) y6))) y6))))) (tgN 9) zc7) ρ:=rfl
noncomputable def zd0:SS:=(S4 (M6 (z8 (.int 3))) (tgN 8) E1)
theorem zx5 {ρ:Env}:zd0 ρ=(S4 (M6 (z8 (.int 3))) (tgN 8) E1) ρ:=rfl
noncomputable def zh4:SS:=(x7 (u8 (tgN 1) (p8 L5 (z6 (p8 O2 (z6 (z4 0) (z6 (z8 (.int 0)) y6)) []) (z6 (z8 (.int 9)) y6)) []))
  (x7 (u8 (tgN 2) (p8 S2 (z6 (p8 O2 (z6 (z4 0) (z6 (z8 (.int 1)) y6)) []) (z6 (W6 (z6 (z8 (.int 9)) (z6 (w7 .Pow (z8 (.int 10)) (z8 (.int 20))) (z6 (z8 (.int 9)) y6)))) y6)) []))
  (x7 (u8 (tgN 3) (mkE "Sayings" X8 (z6 (z4 1) y6)))
  (x7 (u8 (tgN 4) (W6 y6))
  (x7 (S4 (z1d (z8 (.int 1)) (p8 zn4 (z6 (z4 0) (z6 (z8 (.int 9)) y6)) [])) (tgN 5) zc1)
  (x7 (S4 (X9 (W6 (z6 (z01 (z8 (.int 1))) (z6 (z4 1) (z6 (w7 .Sub (z01 (z8 (.int 1))) (x8 (z4 2) (z8 (.int 1)))) (z6 (w7 .Add (z4 1) (x8 (z4 2) (z8 (.int 1)))) y6)))))) (tgN 7) zd0)
  (j6 (p8 T0 (z6 (z4 3) (z6 (z4 1) (z6 (z4 4) y6))) []))))))))
noncomputable def A3:Fn:=mkF 1 10 zh4
end Cz
set_option maxHeartbeats 4000000
set_option exponentiation.threshold 20000
namespace Cz
open PySem PySem.Spec PyProof.Rows L2
inductive InR:List Int->List Int->Prop
 | nil:InR [] []
 | cons {l x:Int} {ls xs:List Int}:0<=x->x < l->InR ls xs->InR (l::ls) (x::xs)
theorem InR.len {ls xs:List Int} (h:InR ls xs):xs.length=ls.length:=by induction h <;> simp_all
theorem InR.get {ls xs:List Int} (h:InR ls xs):∀ {i:Nat} {l:Int},ls[i]? = some l->∃ x,xs[i]? = some x/\0<=x/\x < l:=by
 induction h with
 | nil=>intro i l e; simp at e
 | cons h1 h2 _ ih=>
  intro i l e
  cases i with
  | zero=>simp at e; subst e; exact ⟨_,rfl,h1,h2⟩
  | succ i=>simp at e ⊢; exact ih e
theorem InR.app {ms:List Int}:∀ {ls:List Int} {xs:List Int},InR (ls++ms) xs->∃ a b,xs=a++b/\InR ls a/\InR ms b
 | [],xs,h=>⟨[],xs,rfl,.nil,h⟩
 | l::ls,_,.cons h1 h2 h=>by
  obtain ⟨a,b,e,h3,h4⟩:=InR.app h
  exact ⟨_::a,b,by rw[e]; rfl,.cons h1 h2 h3,h4⟩
def zb5 (l:Int):Prop:=0 < l/\l.natAbs < 2 ^ 9000
theorem zb5.of {l:Int} (h:0 < l) (h2:l < 18446744073709551616):zb5 l:=⟨h,Nat.lt_of_lt_of_le (show l.natAbs < 2 ^ 64 by omega) (Nat.pow_le_pow_right (by decide) (by decide))⟩
theorem zb5.pow {l:Int} {n:Nat} (h:0 < l) (h2:l.natAbs < 2 ^ n) (h3:n<=9000):zb5 l:=⟨h,Nat.lt_of_lt_of_le h2 (Nat.pow_le_pow_right (by decide) h3)⟩
theorem zb5.div {l:Int} (h:zb5 l):A8 l=true:=zT5 h.1 h.2 (by decide) (by decide)
theorem z13 (ls:List Int) (hl:∀ l∈ls,zb5 l) (a0 a1:D):∀ (rest seed:Int) (acc:List Int) (s5:Sl),0<=rest->0<=seed->seed < 2147483647->acc.length + ls.length < 16777216 ->
  ∃ rest' seed' s5' row,U0 (tgN 5) zw8 (ls.map D.int) [.bo [] a0,.bo [] a1,.bo [] (.int rest),.bo [] (.int seed),.ow (.lst (acc.map .int)),s5] =
   .nx [.bo [] a0,.bo [] a1,.bo [] (.int rest'),.bo [] (.int seed'),.ow (.lst ((acc++row).map .int)),s5']/\InR ls row:=by
 induction ls with
 | nil=>intro rest seed acc s5 _ _ _ _; exact ⟨_,_,_,[],by simp; exact ⟨rfl,rfl,rfl⟩,.nil⟩
 | cons l ls ih=>
  intro rest seed acc s5 h1 h2 h3 h4
  have hl0:=hl l List.mem_cons_self
  have hd:=hl0.div
  have hp:=hl0.1
  simp only[List.length_cons] at h4
  have m1:O8 seed seed=true:=R5 (by omega) (by omega) (by omega) (by omega)
  obtain ⟨q,hq⟩:∃ q,q=seed * seed % 2147483647:=⟨_,rfl⟩
  have hq1:0<=q:=by omega
  have hq2:q < 2147483647:=by omega
  have m2:O8 q (seed + 17)=true:=R5 (by omega) (by omega) (by omega) (by omega)
  obtain ⟨n,hn⟩:∃ n,n=(q * (seed + 17) + 12553) % 2147483647:=⟨_,rfl⟩
  have hn1:0<=n:=by omega
  have hn2:n < 2147483647:=by omega
  have m3:O8 (n % 8191) 31=true:=R5 (by omega) (by omega) (by omega) (by omega)
  have d59:A8 59=true:=by decide
  obtain ⟨x,hx,hx1,hx2⟩:∃ x,x=(if 0 < rest then rest % l else (n / 59 + n % 8191 * 31) % l)/\0<=x/\x < l:=by
   refine ⟨_,rfl,?_,?_⟩
   ·split <;> exact Int.emod_nonneg _ (by omega)
   ·split <;> exact Int.emod_lt_of_pos _ hp
  have hr:0<=rest / l:=Int.ediv_nonneg h1 (by omega)
  obtain ⟨rest',seed',s5',row,e,r⟩:=ih (fun l' h'=>hl l' (List.mem_cons_of_mem _ h')) (rest / l) n (acc++[x]) (.bo [] (.int l)) hr hn1 hn2 (by simp; omega)
  refine ⟨rest',seed',s5',x::row,?_,.cons hx1 hx2 r⟩
  rw[List.map_cons,r5]
  have hlen:acc.length < 16777216:=by omega
  by_cases h0:0 < rest
  ·simp only[if_pos h0] at hx
   simp[zx0,m1,<- hq,m2,<- hn,h0,hp,<- hx,hd,hlen]
   simpa using e
  ·simp only[if_neg h0] at hx
   simp[zx0,m1,<- hq,m2,<- hn,h0,m3,d59,hp,<- hx,hd,hlen]
   simpa using e
theorem zY3 (c:Int) (ls:List Int) (hl:∀ l∈ls,zb5 l) (hn:ls.length < 16777216):∃ row,S2 [.int c,.lst (ls.map .int)]=.ok (.own,.lst (row.map .int))/\InR ls row:=by
 have p1:zo9 10 18=true:=by decide
 obtain ⟨r,hr,hr0⟩:∃ r,r=(if (1000000000000000000:Int)<=c then c else 0)/\0<=r:=⟨_,rfl,by split <;> omega⟩
 have m1:O8 (c % 2147483629) 48271=true:=R5 (by omega) (by omega) (by omega) (by omega)
 obtain ⟨s,hs⟩:∃ s,s=(c % 2147483629 * 48271 + 7919) % 2147483647:=⟨_,rfl⟩
 obtain ⟨rest',seed',s5',row,e,i⟩:=z13 ls hl (.int c) (.lst (ls.map .int)) r s [] .no hr0 (by omega) (by omega) (by simpa using hn)
 refine ⟨row,?_,i⟩
 simp at e
 by_cases h:(1000000000000000000:Int)<=c
 ·rw[if_pos h] at hr
  subst hr
  simp[S2,t0,zt1,p1,h,m1,<- hs,e]
 ·rw[if_neg h] at hr
  subst hr
  simp[S2,t0,zt1,p1,h,m1,<- hs,e]
theorem z5K {ls:List Int} (h:ls.all (fun l=>decide (0 < l)&&decide (l < 18446744073709551616))=true):∀ l∈ls,zb5 l:=fun l hl=>by
 have:=List.all_eq_true.mp h l hl
 simp at this
 exact .of this.1 this.2
theorem zF9 (c:Int) (ls:List Int) (h:ls.all (fun l=>decide (0 < l)&&decide (l < 18446744073709551616))=true) (hn:ls.length < 16777216):∃ row,S2 [.int c,.lst (ls.map .int)]=.ok (.own,.lst (row.map .int))/\InR ls row:=zY3 c ls (z5K h) hn
def zw2 (ns:List Int) (few:Int):Int:=max few (min ns.length 63)
theorem z5N (ns:List Int) (few:Int):zn4 [.scr (ns.map .int),.int few]=.ok (.own,.int (zw2 ns few)):=by
 simp[zn4,t0,zG1,zw2]
def Cel (j:Nat) (c:Int):Prop:=c.natAbs < 2 ^ (1048700 + 2000 * j)
theorem Cel.small {j:Nat} {c:Int} (h:c.natAbs < 2 ^ 2000):Cel j c:=Nat.lt_of_lt_of_le h (Nat.pow_le_pow_right (by decide) (by omega))
theorem Cel.mono {i j:Nat} {c:Int} (h:Cel i c) (hij:i<=j):Cel j c:=Nat.lt_of_lt_of_le h (Nat.pow_le_pow_right (by decide) (by omega))
theorem Cel.mul {j:Nat} {c m:Int} (h:Cel j c) (hj:j<=40000) (hm:m.natAbs < 2 ^ 64):O8 c m=true:=zh2 h hm (by omega) (by decide) (by omega)
theorem Cel.add {j:Nat} {c m a:Int} (h:Cel j c) (hm:m.natAbs < 2 ^ 64) (ha:a.natAbs < 2 ^ 64):Cel (j + 1) (c * m + a):=by
 unfold Cel at h ⊢
 have e1:(c * m).natAbs < 2 ^ (1048700 + 2000 * j + 64):=by
  rw[Int.natAbs_mul,Nat.pow_add]
  exact Nat.mul_lt_mul'' h hm
 have e2:2 ^ (1048700 + 2000 * j + 64) + 2 ^ 64<=2 ^ (1048700 + 2000 * (j + 1)):=by
  have:(2:Nat) ^ 64<=2 ^ (1048700 + 2000 * j + 64):=Nat.pow_le_pow_right (by decide) (by omega)
  have h3:(2:Nat) ^ (1048700 + 2000 * j + 64) * 2<=2 ^ (1048700 + 2000 * (j + 1)):=by
   rw[<- Nat.pow_succ]; exact Nat.pow_le_pow_right (by decide) (by omega)
  omega
 have e3:=Int.natAbs_add_le (c * m) a
 omega
def G0 (ns:List Int) (k:Nat):Int:=if k < ns.length then ns.getD k 0 else ns.sum % 1000003 * 131 + ns.length * 7919 + k * 104729
theorem zL6 (ns:List Int) (k:Nat) (hk:k < 1000000) (hl:ns.length < 1000000):O2 [.scr (ns.map .int),.int k]=.ok (.own,.int (G0 ns k)):=by
 have m1:O8 (ns.sum % 1000003) 131=true:=R5 (by omega) (by omega) (by omega) (by omega)
 have m2:O8 (ns.length:Int) 7919=true:=R5 (by omega) (by omega) (by omega) (by omega)
 have m3:O8 (k:Int) 104729=true:=R5 (by omega) (by omega) (by omega) (by omega)
 by_cases h:k < ns.length
 ·have h':(k:Int) < ns.length:=by omega
  have e:atI (ns.map D.int) (k:Int)=some (.int (ns.getD k 0)):=by
   rw[zr5 _ _ (by omega)]
   simp[List.getD,h]
  simp[O2,t0,zt5,G0,h,h',e]
 ·have h':¬ (k:Int) < ns.length:=by omega
  simp[O2,t0,zt5,G0,h,h',m1,m2,m3]
theorem z1c {z:Int} {n:Nat} (h:Builtin.Int.intBits z<=n):z.natAbs < 2 ^ n:=by
 by_cases h0:z=0
 ·subst h0; simp; exact Nat.two_pow_pos n
 ·unfold Builtin.Int.intBits at h
  rw[if_neg (by simpa using h0)] at h
  exact (Nat.log2_lt (by omega)).mp (by omega)
theorem z2N (ns:List Int) (k:Nat) (hk:k < 1000000) (hl:ns.length < 1000000) (hb:∀ z∈ns,Builtin.Int.intBits z<=1048576):Cel 0 (G0 ns k):=by
 unfold G0
 split
 ·rename_i h
  have:ns.getD k 0∈ns:=by simp[List.getD,h]
  exact Nat.lt_of_lt_of_le (z1c (hb _ this)) (Nat.pow_le_pow_right (by decide) (by decide))
 ·refine Cel.small ?_
  have:(2:Nat) ^ 64<=2 ^ 2000:=Nat.pow_le_pow_right (by decide) (by decide)
  have:=Int.emod_nonneg ns.sum (show (1000003:Int)≠0 by decide)
  have:=Int.emod_lt_of_pos ns.sum (show (0:Int) < 1000003 by decide)
  omega
theorem z0C (w:Int) (hw:zb5 w) (hw2:w.natAbs < 2 ^ 1900) (a1 a2 a3:D) (ks:List Nat) (hk:∀ k∈ks,k < 1000):∀ (j:Nat) (c:Int) (big:Bool) (acc:List Int) (s7:Sl),Cel j c->j<=30000->acc.length + ks.length < 16777216 ->
  ∃ (c':Int) (s7':Sl) (row:List Int),U0 (tgN 7) zi8 (ks.map fun (i:Nat)=>.int (0 + (i:Int))) [.bo [] (.int c),.bo [] a1,.bo [] a2,.bo [] a3,.bo [] (.int w),.ow (.lst (acc.map .int)),.bo [] (.bl big),s7] =
   .nx [.bo [] (.int c'),.bo [] a1,.bo [] a2,.bo [] a3,.bo [] (.int w),.ow (.lst ((acc++row).map .int)),.bo [] (.bl big),s7']/\row.length=ks.length/\∀ x∈row,Cel (j + 1) x:=by
 induction ks with
 | nil=>intro j c big acc s7 _ _ _; exact ⟨_,_,[],by simp; exact ⟨rfl,rfl⟩,rfl,by simp⟩
 | cons k ks ih=>
  intro j c big acc s7 h1 h2 h3
  simp only[List.length_cons] at h3
  have hk0:=hk k List.mem_cons_self
  have hd:=hw.div
  have hp:=hw.1
  have p18:zo9 10 18=true:=by decide
  have hlen:acc.length < 16777216:=by omega
  cases big with
  | true=>
   have c2:Cel j (c / w):=by
    have:(c / w).natAbs<=c.natAbs:=by
     by_cases hc:0<=c
     ·have:=Int.ediv_le_self w hc
      have:=Int.ediv_nonneg hc (show 0<=w by omega)
      omega
     ·have e1:=Int.ediv_mul_le c (show w≠0 by omega)
      have e2:c<=c / w:=by
       rcases Int.lt_or_le (c / w) c with h | h
       ·exfalso
        have e3:c < (c / w + 1) * w:=Int.lt_ediv_add_one_mul_self c hp
        have e4:c / w + 1<=c:=by omega
        have e5:(c / w + 1) * w<=c * w:=Int.mul_le_mul_of_nonneg_right e4 (by omega)
        have e6:c * w<=c * 1:=Int.mul_le_mul_of_nonpos_left (by omega) (by omega)
        omega
       ·exact h
      have e7:c / w<=0:=Int.ediv_nonpos_of_nonpos_of_neg (by omega) (by omega)
      omega
    exact Nat.lt_of_le_of_lt this h1
   obtain ⟨c',s7',row,e,hl,hr⟩:=ih (fun k' h'=>hk k' (List.mem_cons_of_mem _ h')) j (c / w) true (acc++[1000000000000000000 + c % w]) (.bo [] (.int k)) c2 h2 (by simp; omega)
   refine ⟨c',s7',(1000000000000000000 + c % w)::row,?_,by simp[hl],fun x hx=>?_⟩
   ·rw[List.map_cons,r5]
    simp[zs3,p18,hp,hd,hlen]
    simpa using e
   ·rcases List.mem_cons.mp hx with e | hx
    ·subst e
     refine Cel.small ?_
     have:=Int.emod_nonneg c (show w≠0 by omega)
     have:=Int.emod_lt_of_pos c hp
     have:(2:Nat) ^ 1900 * 2<=2 ^ 2000:=by rw[<- Nat.pow_succ]; exact Nat.pow_le_pow_right (by decide) (by decide)
     have:(2:Nat) ^ 64<=2 ^ 1900:=Nat.pow_le_pow_right (by decide) (by decide)
     omega
    ·exact hr x hx
  | false=>
   have hm:((2 * (k:Int) + 3)).natAbs < 2 ^ 64:=by omega
   have ha:(7919 * (k:Int)).natAbs < 2 ^ 64:=by omega
   have m1:O8 2 (k:Int)=true:=R5 (by omega) (by omega) (by omega) (by omega)
   have m2:O8 7919 (k:Int)=true:=R5 (by omega) (by omega) (by omega) (by omega)
   have m3:O8 c (2 * (k:Int) + 3)=true:=h1.mul (by omega) hm
   obtain ⟨c',s7',row,e,hl,hr⟩:=ih (fun k' h'=>hk k' (List.mem_cons_of_mem _ h')) j c false (acc++[c * (2 * (k:Int) + 3) + 7919 * (k:Int)]) (.bo [] (.int k)) h1 h2 (by simp; omega)
   refine ⟨c',s7',(c * (2 * (k:Int) + 3) + 7919 * (k:Int))::row,?_,by simp[hl],fun x hx=>?_⟩
   ·rw[List.map_cons,r5]
    simp[zs3,m1,m2,m3,hlen]
    simpa using e
   ·rcases List.mem_cons.mp hx with e | hx
    ·subst e
     exact h1.add hm ha
    ·exact hr x hx
def wA:Int:=10 ^ 60
def wB:Int:=wA * wA
def wW (w:Nat):Int:=if w=0 then 1000000000000000000000000000000 else if w=1 then wB else wB * wB * wB * wB
theorem zC5 {x y:Int} {a b:Nat} (h1:x.natAbs < 2 ^ a) (h2:y.natAbs < 2 ^ b):(x * y).natAbs < 2 ^ (a + b):=by rw[Int.natAbs_mul,Nat.pow_add]; exact Nat.mul_lt_mul'' h1 h2
theorem zR5:wA.natAbs < 2 ^ 200:=by decide +kernel
theorem z2j:0 < wA:=by decide +kernel
theorem zA5:0 < wB:=Int.mul_pos z2j z2j
theorem zm0:wB.natAbs < 2 ^ 400:=zC5 zR5 zR5
theorem z2s:(wB * wB).natAbs < 2 ^ 800:=zC5 zm0 zm0
theorem z19:(wB * wB * wB).natAbs < 2 ^ 1200:=zC5 z2s zm0
theorem z79:(wB * wB * wB * wB).natAbs < 2 ^ 1600:=zC5 z19 zm0
theorem z7M:(1000000000000000000000000000000:Int).natAbs < 2 ^ 100:=by decide +kernel
theorem z4W:0 < (1000000000000000000000000000000:Int):=by decide +kernel
theorem z7g (w:Nat):zb5 (wW w)/\(wW w).natAbs < 2 ^ 1900:=by
 have up:∀ {x:Int} {a:Nat},0 < x->x.natAbs < 2 ^ a->a<=1900->zb5 x/\x.natAbs < 2 ^ 1900:=fun h0 h1 h2=>⟨.pow h0 h1 (Nat.le_trans h2 (by decide)),Nat.lt_of_lt_of_le h1 (Nat.pow_le_pow_right (by decide) h2)⟩
 unfold wW
 split
 ·exact up z4W z7M (by decide)
 ·split
  ·exact up zA5 zm0 (by decide)
  ·exact up (Int.mul_pos (Int.mul_pos (Int.mul_pos zA5 zA5) zA5) zA5) z79 (by decide)
theorem z87 (w:Nat) (hw:w < 3):atI [D.int 1000000000000000000000000000000,D.int wB,D.int (wB * wB * wB * wB)] (w:Int)=some (.int (wW w)):=by
 match w,hw with
 | 0,_=>rfl
 | 1,_=>rfl
 | 2,_=>rfl
theorem z9b:(10:Int) ^ 60=wA:=id rfl
theorem z82:wA * wA=wB:=id rfl
theorem z29 (c:Int) (n w:Nat) (W:Int) (big:Bool) (x y:Sl) (c':Int) (row:List Int) (hbig:big=decide (1000000000000000000<=c)) (rg:T2 (n:Int)=true) (hW:atI [D.int 1000000000000000000000000000000,D.int wB,D.int (wB * wB * wB * wB)] (w:Int)=some (.int W))
  (e:U0 (tgN 7) zi8 ((List.range n).map fun (i:Nat)=>.int (i:Int)) [.bo [] (.int c),.bo [] (.int n),.bo [] (.int w),.bo [] (.int wB),.bo [] (.int W),.ow (.lst []),.bo [] (.bl big),.no] =
   .nx [.bo [] (.int c'),.bo [] (.int n),.bo [] (.int w),.bo [] (.int wB),.bo [] (.int W),.ow (.lst (row.map .int)),x,y]):B3 [.int c,.int n,.int w]=.ok (.own,.lst (row.map .int)):=by
 have p18:zo9 10 18=true:=by decide
 have p30:zo9 10 30=true:=by decide
 have p60:zo9 10 60=true:=by decide
 have m1:O8 wA wA=true:=zh2 zR5 zR5 (by decide) (by decide) (by decide)
 have m2:O8 wB wB=true:=zh2 zm0 zm0 (by decide) (by decide) (by decide)
 have m3:O8 (wB * wB) wB=true:=zh2 z2s zm0 (by decide) (by decide) (by decide)
 have m4:O8 (wB * wB * wB) wB=true:=zh2 z19 zm0 (by decide) (by decide) (by decide)
 simp[B3,t0,zz5,p18,p30,p60,z9b,z82,m1,m2,m3,m4,rg,rng,hW,<- hbig,e]
theorem z3K (c:Int) (j:Nat) (n:Nat) (w:Nat) (hc:Cel j c) (hj:j<=30000) (hn:n<=1000) (hw:w < 3):∃ row:List Int,B3 [.int c,.int n,.int w]=.ok (.own,.lst (row.map .int))/\row.length=n/\∀ x∈row,Cel (j + 1) x:=by
 have rg:T2 (n:Int)=true:=S7 (by omega) (by omega)
 obtain ⟨l1,l2⟩:=z7g w
 obtain ⟨c',s7',row,e,hl,hr⟩:=z0C (wW w) l1 l2 (.int n) (.int w) (.int wB) (List.range n) (fun k hk=>by have:=List.mem_range.mp hk; omega) j c (decide (1000000000000000000<=c)) [] .no hc hj (by simp; omega)
 refine ⟨row,z29 c n w (wW w) _ (.bo [] (.bl (decide (1000000000000000000<=c)))) s7' c' row rfl rg (z87 w hw) ?_,by simpa using hl,hr⟩
 simpa using e
def M1:Int->List Int->Bool
 | _,[]=>true
 | ab,x::xs=>decide (0<=x)&&decide (x<=ab)&&M1 (max ab (x + 1)) xs
def zl9 (l:List Int):Bool:=decide (1<=l.length)&&decide (l.length<=9)&&M1 0 l
def zl3 (ab:Int) (l:List Int):Int:=l.foldl (fun a x=>max a (x + 1)) ab
theorem zN7 (l m:List Int):∀ ab,M1 ab (l++m)=(M1 ab l&&M1 (zl3 ab l) m):=by
 induction l with
 | nil=>intro ab; simp[M1,zl3]
 | cons x l ih=>intro ab; simp[M1,zl3,ih,Bool.and_assoc]
@[simp] theorem yC0:kitB "int" "int" = some true:=by decide +kernel
@[simp] theorem yG0:kitB "int" "bool" = some false:=by decide +kernel
@[simp] theorem yK4:kitB "bool" "int" = some true:=by decide +kernel
@[simp] theorem yL1:kitB "bool" "bool" = some true:=by decide +kernel
@[simp] theorem yI3:kitB "tuple" "tuple" = some true:=by decide +kernel
@[simp] theorem yF6:kitB "list" "tuple" = some false:=by decide +kernel
@[simp] theorem yF8:kitB "list" "list" = some true:=by decide +kernel
@[simp] theorem yI2:kitB "tuple" "list" = some false:=by decide +kernel
@[simp] theorem yG1:kitB "int" "list" = some false:=by decide +kernel
@[simp] theorem yH2:kitB "bool" "list" = some false:=by decide +kernel
@[simp] theorem yC7:kitB "NoneType" "list" = some false:=by decide +kernel
@[simp] theorem yL3:kitB "str" "str" = some true:=by decide +kernel
@[simp] theorem yK2:kitB "str" "list" = some false:=by decide +kernel
@[simp] theorem yD4:kitB "list" "str" = some false:=by decide +kernel
@[simp] theorem yE8:kitB "list" "bool" = some false:=by decide +kernel
@[simp] theorem yw4:tyD .non = "NoneType" := id rfl
@[simp] theorem ys9 {i:Int}:tyD (.int i) = "int" := id rfl
@[simp] theorem yE7 {i:Bool}:tyD (.bl i) = "bool" := id rfl
@[simp] theorem yl6 {i:Str}:tyD (.str i) = "str" := id rfl
@[simp] theorem ys2 {i:List D}:tyD (.tup i) = "tuple" := id rfl
@[simp] theorem yy9 {i:List D}:tyD (.lst i) = "list" := id rfl
@[simp] theorem yB3 (i:Int):zm1 [.int i]=.ok (.own,.bl true):=by simp[zm1,t0,zL2]
@[simp] theorem z8N:N3 [.lst [.str "refused"]]=.ok (.own,.bl true):=by
 have e:eqD (.str "refused") (.str "refused")=some true:=by rw[zL7 (by decide +kernel) (by decide +kernel)]; simp
 simp[N3,t0,zj4,e]
def R0 (s:List Int) (n:Int):List Int:=if n∈s then s else s++[n]
def zb8:List Int->List Int->List Int
 | _,[]=>[]
 | s,n::r=>((R0 s n).idxOf n:Int)::zb8 (R0 s n) r
def P8 (l:List Int):List Int:=zb8 [] l
theorem zA4 (l:List Int):∀ s,(zb8 s l).length=l.length:=by
 induction l with
 | nil=>intro s; rfl
 | cons n l ih=>intro s; simp[zb8,ih]
@[simp] theorem zV2 (l:List Int):(P8 l).length=l.length:=zA4 l []
theorem zN9 (s:List Int) (n:Int):n∈R0 s n:=by unfold R0; split <;> simp_all
theorem zP7 (l:List Int):∀ s,M1 s.length (zb8 s l)=true:=by
 induction l with
 | nil=>intro s; rfl
 | cons n l ih=>
  intro s
  have ih:=ih (R0 s n)
  simp only[zb8,M1]
  by_cases h:n∈s
  ·have e:R0 s n=s:=if_pos h
   have h1:=List.idxOf_lt_length_of_mem h
   rw[e] at ih ⊢
   rw[show max (s.length:Int) ((s.idxOf n:Int) + 1)=s.length by omega,ih]
   simp; omega
  ·have e:R0 s n=s++[n]:=if_neg h
   have h1:(s++[n]).idxOf n=s.length:=by rw[List.idxOf_append,if_neg h]; simp
   rw[e] at ih ⊢
   rw[h1,show max (s.length:Int) ((s.length:Int) + 1)=((s++[n]).length:Int) by simp; omega,ih]
   simp
theorem z3s {l:List Int} (h1:1<=l.length) (h2:l.length<=9):zl9 (P8 l)=true:=by
 have:=zP7 l []
 unfold zl9
 rw[zV2]
 simp only[h1,h2,decide_true,Bool.true_and]
 exact this
theorem zQ9 (a0:D) (l:List Int):∀ (s row:List Int) (x:Sl),s.length + l.length < 1000000->row.length + l.length < 1000000->∃ s' x',U0 (tgN 3) zh8 (l.map D.int) [.bo [] a0,.ow (.dic (kvF 0 s)),.ow (.lst (row.map .int)),x] =
  .nx [.bo [] a0,s',.ow (.lst ((row++zb8 s l).map .int)),x']:=by
 induction l with
 | nil=>intro s row x _ _; exact ⟨_,_,by simp[zb8]; exact ⟨rfl,rfl⟩⟩
 | cons n l ih=>
  intro s row x h1 h2
  simp only[List.length_cons] at h1 h2
  have k1:row.length < 16777216:=by omega
  have k2:s.length < 16777216:=by omega
  have hv:=zJ3 n s 0
  by_cases h:n∈s
  ·have e:R0 s n=s:=if_pos h
   rw[if_pos h] at hv
   obtain ⟨s',x',e2⟩:=ih s (row++[(s.idxOf n:Int)]) (.bo [] (.int n)) (by omega) (by simp; omega)
   refine ⟨s',x',?_⟩
   rw[List.map_cons,r5]
   simp[zl2,hv,k1,zb8,e]
   simpa using e2
  ·have e:R0 s n=s++[n]:=if_neg h
   rw[if_neg h] at hv
   have hp:=z5f h
   have hv2:=zJ3 n (s++[n]) 0
   rw[if_pos (by simp)] at hv2
   obtain ⟨s',x',e2⟩:=ih (s++[n]) (row++[((s++[n]).idxOf n:Int)]) (.bo [] (.int n)) (by simp; omega) (by simp; omega)
   refine ⟨s',x',?_⟩
   rw[List.map_cons,r5]
   simp[zl2,hv,k1,k2,zb8,e,hp,hv2]
   simpa using e2
@[simp] theorem z8P (l:List Int):p9 (l.map D.int)=some l:=zo5 _
theorem zX4 (l:List Int) (d:D) (hd:d=.lst (l.map .int)\/d=.tup (l.map .int)) (hl:l.length < 1000000):B7 [d]=.ok (.own,.tup ((P8 l).map .int)):=by
 obtain ⟨s',x',e⟩:=zQ9 d l [] [] .no (by simpa using hl) (by simpa using hl)
 simp only[kvF,List.map_nil,List.nil_append] at e
 rcases hd with rfl | rfl <;> simp[B7,t0,zm9,e,P8]
theorem z4c (c:Int) (ls:List Int) (h:ls.all (fun l=>decide (0 < l)&&decide (l < 100000000000000000000000000000000000000000000000000))=true) (hn:ls.length < 16777216):∃ row,S2 [.int c,.lst (ls.map .int)]=.ok (.own,.lst (row.map .int))/\InR ls row:=by
 refine zY3 c ls (fun l hl=>?_) hn
 have:=List.all_eq_true.mp h l hl
 simp at this
 refine .pow (n:=200) this.1 ?_ (by decide)
 have:(100000000000000000000000000000000000000000000000000:Nat) < 2 ^ 200:=by decide
 omega
theorem U3 {a r:SS} {ρ ρ':Env} (h:a ρ=.nx ρ'):x7 a r ρ=r ρ':=by rw[zK1,h,z14]
theorem T4 (n i:Int):Z5 [.int n,.int i]=if 0<=i/\i < n then .ok (.own,.non) else .ex "NoCenser" := by
 by_cases h1:0<=i <;> by_cases h2:i < n <;> simp[Z5,t0,zg3,h1,h2]
def wds (l:List Int):Int:=zl3 0 l
theorem zR6 (l:List Int):∀ ab,ab<=zl3 ab l:=by
 induction l with
 | nil=>intro ab; exact Int.le_refl _
 | cons x l ih=>intro ab; exact Int.le_trans (Int.le_max_left _ _) (ih _)
theorem z3d {l:List Int} (h:M1 0 l=true) (h1:1<=l.length) (h2:l.length<=9):zl9 l=true:=by simp[zl9,h,h1,h2]
theorem z2m (l:List Int):∀ ab,0<=ab->M1 ab l=true->∀ v,(v∈l\/(0<=v/\v < ab))↔(0<=v/\v < zl3 ab l):=by
 induction l with
 | nil=>intro ab _ _ v; simp[zl3]
 | cons x l ih=>
  intro ab h0 h v
  simp[M1] at h
  have:=ih (max ab (x + 1)) (by omega) h.2 v
  rw[show zl3 ab (x::l)=zl3 (max ab (x + 1)) l from rfl,<- this,List.mem_cons]
  constructor
  ·rintro ((e | e) | e)
   ·right; omega
   ·exact .inl e
   ·right; omega
  ·rintro (e | e)
   ·exact .inl (.inr e)
   ·by_cases hv:v=x
    ·exact .inl (.inl hv)
    ·right; omega
theorem z0h {l:List Int} (h:M1 0 l=true) (v:Int):v∈l↔0<=v/\v < wds l:=by
 have:=z2m l 0 (Int.le_refl _) h v
 unfold wds
 rw[<- this]
 exact ⟨.inl,fun z=>z.elim id fun z=>by omega⟩
def lT (r:List Int):D:=.lst (r.map .int)
def yh3 (l:List Int) (n:Nat) (x:Int):List Int:=((List.range n).filter fun k=>decide (l.getD k 0=x)).map fun (k:Nat)=>(k:Int)
def z8X (l:List Int):List (List Int):=(List.range (wds l).toNat).map fun (x:Nat)=>yh3 l l.length x
@[simp] theorem yI9 (r:List Int):noL (lT r)=false:=by simp[lT,noL]
def Rf (u w:List Int):Prop:=∀ i j:Nat,i < u.length->j < u.length->u.getD i 0=u.getD j 0->w.getD i 0=w.getD j 0
def zc3 (s l:List Int):List Int:=l.foldl R0 s
theorem z3P (l:List Int):∀ s,∃ t,zc3 s l=s++t:=by
 induction l with
 | nil=>intro s; exact ⟨[],by simp[zc3]⟩
 | cons n l ih=>
  intro s
  obtain ⟨t,e⟩:=ih (R0 s n)
  show ∃ t,zc3 (R0 s n) l=s++t
  rw[e]
  unfold R0
  split
  ·exact ⟨t,rfl⟩
  ·exact ⟨n::t,by simp⟩
theorem z25 {n:Int} (l:List Int):∀ s,(n∈s\/n∈l)->n∈zc3 s l:=by
 induction l with
 | nil=>intro s h; simpa [zc3] using h
 | cons m l ih=>
  intro s h
  show n∈zc3 (R0 s m) l
  refine ih _ ?_
  rcases h with h | h
  ·left; unfold R0; split
   ·exact h
   ·exact List.mem_append_left _ h
  ·rcases List.mem_cons.mp h with e | h
   ·left; rw[e]; exact zN9 s m
   ·exact .inr h
theorem z2d (l:List Int):∀ s,zb8 s l=l.map fun n=>((zc3 s l).idxOf n:Int):=by
 induction l with
 | nil=>intro s; rfl
 | cons n l ih=>
  intro s
  show ((R0 s n).idxOf n:Int)::zb8 (R0 s n) l=((zc3 (R0 s n) l).idxOf n:Int)::l.map fun m=>((zc3 (R0 s n) l).idxOf m:Int)
  rw[ih]
  obtain ⟨t,e⟩:=z3P l (R0 s n)
  have:(zc3 (R0 s n) l).idxOf n=(R0 s n).idxOf n:=by
   rw[e,List.idxOf_append,if_pos (zN9 s n)]
  rw[this]
theorem zW4 (l:List Int):Rf (P8 l) l/\Rf l (P8 l):=by
 have e:P8 l=l.map fun n=>((zc3 [] l).idxOf n:Int):=z2d l []
 have at':∀ i,i < l.length->(P8 l).getD i 0=((zc3 [] l).idxOf (l.getD i 0):Int):=fun i hi=>by rw[e]; simp[List.getD,hi]
 have mem:∀ i,i < l.length->l.getD i 0∈zc3 [] l:=fun i hi=>z25 l [] (.inr (by simp[List.getD,hi]))
 constructor
 ·intro i j hi hj h
  rw[zV2] at hi hj
  rw[at' i hi,at' j hj] at h
  have h:(zc3 [] l).idxOf (l.getD i 0)=(zc3 [] l).idxOf (l.getD j 0):=by omega
  have h1:=List.getElem_idxOf (List.idxOf_lt_length_of_mem (mem i hi))
  have h2:=List.getElem_idxOf (List.idxOf_lt_length_of_mem (mem j hj))
  rw[<- h1,<- h2]
  congr 1
 ·intro i j hi hj h
  rw[at' i hi,at' j hj,h]
theorem Rf.trans {u v w:List Int} (h:Rf u v) (h':Rf v w) (e:u.length=v.length):Rf u w:=fun i j hi hj q=>h' i j (by omega) (by omega) (h i j hi hj q)
theorem Rf.refl (u:List Int):Rf u u:=fun _ _ _ _ h=>h
theorem z0W (l:List Int):M1 0 (P8 l)=true:=zP7 l []
def I9 (gone kept:Int) (row:List Int):List Int:=row.map fun m=>if m=gone then kept else m
@[simp] theorem z2Y (g k:Int) (row:List Int):(I9 g k row).length=row.length:=by simp[I9]
theorem I7 {g k:Int} {row:List Int} {i:Nat} (h:i < row.length):(I9 g k row).getD i 0=if row.getD i 0=g then k else row.getD i 0:=by simp[I9,List.getD,h]
theorem zZ2 {row:List Int} {c f:Nat} (hc:c < row.length) (hf:f < row.length) (w:List Int):Rf (I9 (row.getD c 0) (row.getD f 0) row) w↔Rf row w/\w.getD c 0=w.getD f 0:=by
 constructor
 ·intro h
  refine ⟨fun i j hi hj q=>h i j (by simpa) (by simpa) (by rw[I7 hi,I7 hj,q]),h c f (by simpa) (by simpa) ?_⟩
  rw[I7 hc,I7 hf,if_pos rfl]
  split <;> rfl
 ·rintro ⟨h1,h2⟩ i j hi hj q
  simp at hi hj
  rw[I7 hi,I7 hj] at q
  by_cases a:row.getD i 0=row.getD c 0 <;> by_cases b:row.getD j 0=row.getD c 0
  ·exact h1 i j hi hj (a.trans b.symm)
  ·rw[if_pos a,if_neg b] at q
   rw[h1 i c hi hc a,h2]; exact h1 f j hf hj q
  ·rw[if_neg a,if_pos b] at q
   rw[h1 j c hj hc b,h2]; exact h1 i f hi hf q
  ·rw[if_neg a,if_neg b] at q
   exact h1 i j hi hj q
def z8O (f:Int) (cs:List Int) (row:List Int):List Int:=cs.foldl (fun row c=>I9 (row.getD c.toNat 0) (row.getD f.toNat 0) row) row
def z7s (ls:List (List Int)) (row:List Int):List Int:=ls.foldl (fun row r=>z8O (r.headD 0) (r.drop 1) row) row
def z8F (u v:List Int):List Int:=P8 (z7s (z8X v) u)
def exW (r:List Int):List (List Int):=(List.range (wds r + 1).toNat).map fun (i:Nat)=>r++[(i:Int)]
def zv3:Nat->List (List Int)
 | 0=>[[0]]
 | n + 1=>(zv3 n).flatMap exW
theorem zX8 {r s:List Int}:s∈exW r↔∃ x:Int,0<=x/\x<=wds r/\s=r++[x]:=by
 simp only[exW,List.mem_map,List.mem_range]
 exact ⟨fun ⟨i,hi,e⟩=>⟨i,by omega,by omega,e.symm⟩,fun ⟨x,h1,h2,e⟩=>⟨x.toNat,by omega,by rw[e,Int.toNat_of_nonneg h1]⟩⟩
theorem zt3:∀ {n:Nat} {r:List Int},r∈zv3 n↔M1 0 r=true/\r.length=n + 1
 | 0,r=>by
  simp only[zv3,List.mem_singleton]
  constructor
  ·rintro rfl; exact ⟨rfl,rfl⟩
  ·rintro ⟨h1,h2⟩
   match r,h2 with
   | [x],_=>
    simp[M1] at h1
    rw[show x=0 by omega]
 | n + 1,r=>by
  simp only[zv3,List.mem_flatMap,zX8]
  constructor
  ·rintro ⟨q,hq,x,h1,h2,rfl⟩
   obtain ⟨h3,h4⟩:=zt3.mp hq
   refine ⟨?_,by simp[h4]⟩
   rw[zN7,h3]
   simp[M1]
   exact ⟨h1,h2⟩
  ·rintro ⟨h1,h2⟩
   obtain ⟨q,x,rfl⟩:∃ q x,r=q++[x]:=by
    rcases List.eq_nil_or_concat r with e | ⟨q,x,e⟩
    ·subst e; simp at h2
    ·exact ⟨q,x,by rw[e,List.concat_eq_append]⟩
   rw[zN7] at h1
   simp[M1] at h1
   simp at h2
   exact ⟨q,zt3.mpr ⟨h1.1,h2⟩,x,h1.2.1,h1.2.2,rfl⟩
theorem zS4 (n:Int):E8 [.int n]=if 1<=n/\n<=9 then .ok (.own,.non) else .ex "BadMany" := by
 by_cases h1:1<=n <;> by_cases h2:n<=9 <;> simp[E8,t0,zk9,h1,h2]
inductive Say where
 | al (a b:Nat) | un (a b:Nat) | le (c:Nat) | mo (c:Nat)
deriving DecidableEq
def x9:Say->D
 | .al a b=>.tup [.str "alike",.int a,.int b]
 | .un a b=>.tup [.str "unlike",.int a,.int b]
 | .le c=>.tup [.str "least",.int c]
 | .mo c=>.tup [.str "most",.int c]
def j0 (n:Nat):Say->Prop
 | .al a b=>a < n/\b < n/\a≠b
 | .un a b=>a < n/\b < n/\a≠b
 | .le c=>1<=c/\c<=n
 | .mo c=>1<=c/\c<=n
@[simp] theorem zo1 (s:Say):noL (x9 s)=true:=by cases s <;> simp[x9]
@[simp] theorem zO9:∀ (S:List Say),noLs (S.map x9)=true
 | []=>by simp
 | s::S=>by simp[zO9 S]
theorem zL4 {n:Nat} {s:Say} (h:j0 n s):U5 [.int n,x9 s]=.ok (.own,.non):=by
 cases s with
 | al a b=>
  obtain ⟨h1,h2,h3⟩:=h
  have e1:=T4 n a
  have e2:=T4 n b
  rw[if_pos ⟨by omega,by omega⟩] at e1 e2
  simp[U5,t0,P0,x9,e1,e2,show ¬ (a:Int)=b by omega]
 | un a b=>
  obtain ⟨h1,h2,h3⟩:=h
  have e1:=T4 n a
  have e2:=T4 n b
  rw[if_pos ⟨by omega,by omega⟩] at e1 e2
  simp[U5,t0,P0,x9,e1,e2,show ¬ (a:Int)=b by omega]
 | le c=>
  obtain ⟨h1,h2⟩:=h
  simp[U5,t0,P0,x9,show (1:Int)<=c by omega,h2]
 | mo c=>
  obtain ⟨h1,h2⟩:=h
  simp[U5,t0,P0,x9,show (1:Int)<=c by omega,h2]
def Q0 (row:List Int):Say->List Int
 | .al a b=>I9 (max (row.getD a 0) (row.getD b 0)) (min (row.getD a 0) (row.getD b 0)) row
 | _=>row
def lkP (n:Nat) (S:List Say):List Int:=S.foldl Q0 ((List.range n).map fun k:Nat=>(k:Int))
theorem zv9 (row:List Int) (s:Say):(Q0 row s).length=row.length:=by cases s <;> simp[Q0]
theorem z3V (S:List Say):∀ row:List Int,(S.foldl Q0 row).length=row.length:=by
 induction S with
 | nil=>intro row; rfl
 | cons s S ih=>intro row; rw[List.foldl_cons,ih,zv9]
@[simp] theorem z5Q (n:Nat) (S:List Say):(lkP n S).length=n:=by simp[lkP,z3V]
theorem zk0 {row:List Int} {a:Nat} (h:a < row.length):atI (row.map D.int) (a:Int)=some (.int (row.getD a 0)):=by
 rw[zr5 _ _ (by omega)]; simp[List.getD,h]
theorem z1b (n:Nat) (a0 a1:D):∀ (S:List Say) (row:List Int) (s3 s4 s5:Sl),row.length=n->n<=1000->(∀ s∈S,j0 n s) ->
  ∃ s3' s4' s5',U0 (tgN 3) zp6 (S.map x9) [.bo [] a0,.bo [] a1,.ow (.lst (row.map .int)),s3,s4,s5,.no] =
   .nx [.bo [] a0,.bo [] a1,.ow (.lst ((S.foldl Q0 row).map .int)),s3',s4',s5',.no]:=by
 intro S
 induction S with
 | nil=>intro row s3 s4 s5 _ _ _; exact ⟨s3,s4,s5,by simp⟩
 | cons s S ih=>
  intro row s3 s4 s5 hl hn h
  have hs:=h s List.mem_cons_self
  have h':∀ s∈S,j0 n s:=fun s hs=>h s (List.mem_cons_of_mem _ hs)
  cases s with
  | al a b=>
   obtain ⟨h1,h2,h3⟩:=hs
   have q1:=zk0 (row:=row) (a:=a) (by omega)
   have q2:=zk0 (row:=row) (a:=b) (by omega)
   obtain ⟨g,hg⟩:∃ g,g=max (row.getD a 0) (row.getD b 0):=⟨_,rfl⟩
   obtain ⟨k,hk⟩:∃ k,k=min (row.getD a 0) (row.getD b 0):=⟨_,rfl⟩
   have e1:=zC6 (it:=X9 (z4 2)) (own:=[6]) (tg:=tgN 6) (elt:=zj3) (k:=.bor [2]) (l:=row) (f:=.int) (h:=fun m=>.int (if m=g then k else m))
    (ρ:=[.bo [] a0,.bo [] a1,.ow (.lst (row.map .int)),.bo [] (x9 (.al a b)),.bo [] (.int g),.bo [] (.int k),.no]) (by simp) (by simp) (by omega) (fun m _=>by
     by_cases h:m=g
     ·exact ⟨_,.bor [],rfl,by simp[zs4,h],rfl⟩
     ·exact ⟨_,.bor [],rfl,by simp[zs4,h],rfl⟩)
   have e2:row.map (fun m=>D.int (if m=g then k else m))=(I9 g k row).map .int:=by simp[I9,Function.comp_def]
   rw[e2] at e1
   obtain ⟨s3',s4',s5',e3⟩:=ih (I9 g k row) (.bo [] (x9 (.al a b))) (.bo [] (.int g)) (.bo [] (.int k)) (by simpa) hn h'
   refine ⟨s3',s4',s5',?_⟩
   rw[List.foldl_cons,show Q0 row (.al a b)=I9 g k row by rw[hg,hk]; rfl,<- e3,List.map_cons,r5]
   generalize row.getD a 0=u at q1 hg hk
   generalize row.getD b 0=v at q2 hg hk
   subst hg hk
   simp[x9] at e1
   simp[A7,x9,q1,q2,e1,zn3,zf0]
  | un a b=>
   obtain ⟨s3',s4',s5',e3⟩:=ih row (.bo [] (x9 (.un a b))) s4 s5 hl hn h'
   refine ⟨s3',s4',s5',?_⟩
   rw[List.foldl_cons,show Q0 row (.un a b)=row from rfl,<- e3,List.map_cons,r5]
   simp[A7,x9]
  | le c=>
   obtain ⟨s3',s4',s5',e3⟩:=ih row (.bo [] (x9 (.le c))) s4 s5 hl hn h'
   refine ⟨s3',s4',s5',?_⟩
   rw[List.foldl_cons,show Q0 row (.le c)=row from rfl,<- e3,List.map_cons,r5]
   simp[A7,x9]
  | mo c=>
   obtain ⟨s3',s4',s5',e3⟩:=ih row (.bo [] (x9 (.mo c))) s4 s5 hl hn h'
   refine ⟨s3',s4',s5',?_⟩
   rw[List.foldl_cons,show Q0 row (.mo c)=row from rfl,<- e3,List.map_cons,r5]
   simp[A7,x9]
theorem z95 (n:Nat):rng 0 n=((List.range n).map fun k:Nat=>(k:Int)).map D.int:=by simp[rng,Function.comp_def]
theorem z3a {n:Nat} (h9:n<=9) {S:List Say} (h:∀ s∈S,j0 n s):zj5 [.int n,.lst (S.map x9)]=.ok (.own,.lst ((lkP n S).map .int)):=by
 have rg:T2 (n:Int)=true:=S7 (by omega) (by omega)
 obtain ⟨s3',s4',s5',e⟩:=z1b n (.int n) (.lst (S.map x9)) S ((List.range n).map fun k:Nat=>(k:Int)) .no .no .no (by simp) (by omega) h
 rw[<- z95] at e
 have rg0:T2 0=true:=S7 (by omega) (by omega)
 simp[zj5,t0,zB5,rg,rg0,e,lkP,show (n:Int)<=16777216 by omega]
theorem zp0 {κ:Type} [DecidableEq κ] {v:D} {k q:κ}:∀ {kvs:List (κ×D)},(w6 (Y2 kvs k v) q).isSome=(decide (k=q)||(w6 kvs q).isSome)
 | []=>by
  by_cases h:k=q <;> simp[Y2,w6,h]
 | (k',d)::r=>by
  by_cases h:k'=k
  ·subst h
   by_cases h2:k'=q
   ·simp[Y2,w6,h2]
   ·have m1:∀ l:List (κ×D),(w6 (l.map fun kv=>if kv.1=k' then (kv.1,v) else kv) q).isSome=(w6 l q).isSome:=by
     intro l
     induction l with
     | nil=>rfl
     | cons x l ih=>
      obtain ⟨y,w⟩:=x
      by_cases z:y=k'
      ·subst z; simp[w6,h2]; simpa using ih
      ·by_cases z2:y=q
       ·simp[w6,z2,show ¬ q=k' from fun e=>h2 e.symm]
       ·simp[w6,z,z2]; simpa using ih
    simp[Y2,w6,h2,m1]
  ·rw[zB6 h]
   by_cases h2:k'=q
   ·simp[w6,h2]
   ·simp[w6,h2,zp0 (kvs:=r)]
theorem zq9 {κ:Type} [DecidableEq κ] {v:D} {k:κ} {kvs:List (κ×D)}:(Y2 kvs k v).length<=kvs.length + 1:=by
 by_cases h:k∈kvs.map (·.1)
 ·have:=congrArg List.length (z0m v h)
  simp at this
  omega
 ·rw[zi3 v h]; simp
def apt (row:List Int) (S:List Say) (i j:Int):Bool:=S.any fun s=>match s with
 | .un a b=>(decide (row.getD a 0=i)&&decide (row.getD b 0=j))||(decide (row.getD b 0=i)&&decide (row.getD a 0=j))
 | _=>false
def zt4 (row:List Int) (S:List Say) (kvs:List (List Key×D)):Prop:=∀ i j:Int,(w6 kvs [.inl i,.inl j]).isSome=apt row S i j
theorem z0R {n:Nat} {row:List Int} (hr:row.length=n) (a1:D):∀ (S T:List Say) (kvs:List (List Key×D)) (s3:Sl),(∀ s∈S,j0 n s)->kvs.length + 2 * S.length < 100000->zt4 row T kvs ->
  ∃ kvs' s3',zt4 row (T++S) kvs'/\U0 (tgN 3) E6 (S.map x9) [.bo [] (.lst (row.map .int)),.bo [] a1,.ow (.dtk kvs),s3]=.nx [.bo [] (.lst (row.map .int)),.bo [] a1,.ow (.dtk kvs'),s3']:=by
 intro S
 induction S with
 | nil=>intro T kvs s3 _ _ h; exact ⟨kvs,s3,by simpa using h,by simp⟩
 | cons s S ih=>
  intro T kvs s3 hg hk hA
  have hs:=hg s List.mem_cons_self
  have hg':∀ s∈S,j0 n s:=fun s hs=>hg s (List.mem_cons_of_mem _ hs)
  simp only[List.length_cons] at hk
  have oth:(∀ i j,apt row (T++[s]) i j=apt row T i j)->∃ kvs' s3',zt4 row (T++[s]++S) kvs'/\U0 (tgN 3) E6 (S.map x9) [.bo [] (.lst (row.map .int)),.bo [] a1,.ow (.dtk kvs),.bo [] (x9 s)]=.nx [.bo [] (.lst (row.map .int)),.bo [] a1,.ow (.dtk kvs'),s3']:=fun e=>
   ih (T++[s]) kvs (.bo [] (x9 s)) hg' (by omega) fun i j=>by rw[e]; exact hA i j
  rw[show T++s::S=T++[s]++S by simp]
  cases s with
  | un a b=>
   obtain ⟨h1,h2,h3⟩:=hs
   have q1:=zk0 (row:=row) (a:=a) (by omega)
   have q2:=zk0 (row:=row) (a:=b) (by omega)
   obtain ⟨u,hu⟩:∃ u,u=row.getD a 0:=⟨_,rfl⟩
   obtain ⟨v,hv⟩:∃ v,v=row.getD b 0:=⟨_,rfl⟩
   obtain ⟨K1,hK1⟩:∃ K1,K1=Y2 kvs [.inl u,.inl v] (.bl true):=⟨_,rfl⟩
   obtain ⟨K2,hK2⟩:∃ K2,K2=Y2 K1 [.inl v,.inl u] (.bl true):=⟨_,rfl⟩
   have l1:K1.length<=kvs.length + 1:=by rw[hK1]; exact zq9
   have l2:K2.length<=K1.length + 1:=by rw[hK2]; exact zq9
   obtain ⟨kvs',s3',hA',e⟩:=ih (T++[.un a b]) K2 (.bo [] (x9 (.un a b))) hg' (by omega) (fun i j=>by
    rw[hK2,zp0,hK1,zp0,hA i j]
    have:apt row (T++[.un a b]) i j=(apt row T i j||((decide (u=i)&&decide (v=j))||(decide (v=i)&&decide (u=j)))):=by simp[apt,hu,hv]
    rw[this]
    simp only[List.cons.injEq,Sum.inl.injEq,and_true,Bool.decide_and]
    cases (decide (u=i)&&decide (v=j)) <;> cases (decide (v=i)&&decide (u=j)) <;> cases apt row T i j <;> rfl)
   refine ⟨kvs',s3',hA',?_⟩
   rw[<- e,List.map_cons,r5]
   rw[<- hu] at q1
   rw[<- hv] at q2
   have L1:kvs.length < 16777216:=by omega
   have L2':K1.length < 16777216:=by omega
   simp[M5,x9,q1,q2,S1,W5,W4,L1,<- hK1,L2',<- hK2]
  | al a b=>
   obtain ⟨kvs',s3',h1,h2⟩:=oth (fun i j=>by simp[apt])
   refine ⟨kvs',s3',h1,?_⟩
   rw[<- h2,List.map_cons,r5]
   simp[M5,x9]
  | le c=>
   obtain ⟨kvs',s3',h1,h2⟩:=oth (fun i j=>by simp[apt])
   refine ⟨kvs',s3',h1,?_⟩
   rw[<- h2,List.map_cons,r5]
   simp[M5,x9]
  | mo c=>
   obtain ⟨kvs',s3',h1,h2⟩:=oth (fun i j=>by simp[apt])
   refine ⟨kvs',s3',h1,?_⟩
   rw[<- h2,List.map_cons,r5]
   simp[M5,x9]
theorem zQ5 {n:Nat} {row:List Int} (hr:row.length=n) {S:List Say} (h:∀ s∈S,j0 n s) (hS:S.length<=1000):∃ kvs,zt4 row S kvs/\J5 [.lst (row.map .int),.lst (S.map x9)]=.ok (.own,.dtk kvs):=by
 obtain ⟨kvs,s3,hA,e⟩:=z0R hr (.lst (S.map x9)) S [] [] .no h (by simp; omega) (fun i j=>by simp[w6,apt])
 exact ⟨kvs,by simpa using hA,by simp[J5,t0,zi5,e]⟩
def zF7 (S:List Say):List Int:=S.filterMap fun s=>match s with | .le c=>some (c:Int) | _=>none
def zG3 (S:List Say):List Int:=S.filterMap fun s=>match s with | .mo c=>some (c:Int) | _=>none
def zd8 (S:List Say):Int:=(zF7 S).foldl max 1
def zd7 (n:Nat) (S:List Say):Int:=(zG3 S).foldl min n
def zW5:Say->Bool | .le _=>true | _=>false
def zS2:Say->Bool | .mo _=>true | _=>false
def zA8:Say->Int | .le c=>c | .mo c=>c | _=>0
theorem z5o (S:List Say):(S.filter zW5).map (fun s=>D.int (zA8 s))=(zF7 S).map D.int:=by
 induction S with
 | nil=>rfl
 | cons s S ih=>cases s <;> simp only[zF7,List.filterMap_cons,List.filter_cons,zW5,if_true,Bool.false_eq_true,if_false,List.map_cons,zA8,List.cons.injEq,true_and] at ih ⊢ <;> exact ih
theorem z5T (S:List Say):(S.filter zS2).map (fun s=>D.int (zA8 s))=(zG3 S).map D.int:=by
 induction S with
 | nil=>rfl
 | cons s S ih=>cases s <;> simp only[zG3,List.filterMap_cons,List.filter_cons,zS2,if_true,Bool.false_eq_true,if_false,List.map_cons,zA8,List.cons.injEq,true_and] at ih ⊢ <;> exact ih
theorem z3S (S:List Say):(zF7 S).length<=S.length:=List.length_filterMap_le _ _
theorem z2J (S:List Say):(zG3 S).length<=S.length:=List.length_filterMap_le _ _
theorem z1n {S:List Say} (hS:S.length<=1000):P5 [.lst (S.map x9)]=.ok (.own,.int (zd8 S)):=by
 have e:=N1 (it:=X9 (z4 0)) (own:=[1]) (tg:=tgN 1) (ifs:=za1) (elt:=za0) (k:=.bor []) (l:=S) (f:=x9) (h:=fun s=>.int (zA8 s)) (p:=zW5)
  (ρ:=[.bo [] (.lst (S.map x9)),.no]) (by simp) (by simp) (by omega) (fun s _=>by cases s <;> exact ⟨_,rfl,by simp[zs8,x9,zW5],fun h=>⟨.bor [],by simp[zW5] at h <;> simp[zu6,x9,zA8],rfl⟩⟩)
 rw[z5o] at e
 simp[P5,t0,ze1,e,zd8,zn3,p9,show 1 + (zF7 S).length<=16777216 by have:=z3S S; omega]
theorem z55 {n:Nat} {S:List Say} (hS:S.length<=1000):L4 [.int n,.lst (S.map x9)]=.ok (.own,.int (zd7 n S)):=by
 have e:=N1 (it:=X9 (z4 1)) (own:=[2]) (tg:=tgN 2) (ifs:=zd6) (elt:=ze5) (k:=.bor []) (l:=S) (f:=x9) (h:=fun s=>.int (zA8 s)) (p:=zS2)
  (ρ:=[.bo [] (.int n),.bo [] (.lst (S.map x9)),.no]) (by simp) (by simp) (by omega) (fun s _=>by cases s <;> exact ⟨_,rfl,by simp[zy1,x9,zS2],fun h=>⟨.bor [],by simp[zS2] at h <;> simp[zA3,x9,zA8],rfl⟩⟩)
 rw[z5T] at e
 simp[L4,t0,zk5,e,zd7,zf0,p9,show 1 + (zG3 S).length<=16777216 by have:=z2J S; omega]
def T6 (l:List Nat):List D:=l.map fun k:Nat=>D.int (k:Int)
@[simp] theorem z4b (l:List Nat):(T6 l).length=l.length:=by simp[T6]
@[simp] theorem yk3:T6 []=[]:=rfl
@[simp] theorem zo6 (x:Nat) (l:List Nat):T6 (x::l)=D.int x::T6 l:=rfl
@[simp] theorem z3O (l:List Nat):noLs (T6 l)=true:=z3b (fun n:Nat=>(n:Int)) l
@[simp] theorem yu7 (k:Kd) (l:List Nat):lk k (T6 l)=.own:=I4 (z3O l)
@[simp] theorem z34 (l m:List Nat):T6 (l++m)=T6 l++T6 m:=by simp[T6]
def X3 (row:List Int):List Say->Option (Nat×Nat)
 | []=>none
 | .un a b::r=>if row.getD a 0=row.getD b 0 then some (a,b) else X3 row r
 | _::r=>X3 row r
def zo7 (a0 a1 a2 a3:D) (s:Sl):Option (Nat×Nat)->Out
 | some (a,b)=>.rt .own (.tup [.str "ring",.int a,.int b])
 | none=>.nx [.bo [] a0,.bo [] a1,.bo [] a2,.bo [] a3,s,.no,.no,.no,.no,.no]
theorem z1Y {n:Nat} {row:List Int} (hr:row.length=n) (a0 a1 a3:D):∀ (S:List Say) (s:Sl),(∀ s∈S,j0 n s) ->
  ∃ s',(s'=s\/∃ d,s'=.bo [] d)/\U0 (tgN 4) zb1 (S.map x9) [.bo [] a0,.bo [] a1,.bo [] (.lst (row.map .int)),.bo [] a3,s,.no,.no,.no,.no,.no]=zo7 a0 a1 (.lst (row.map .int)) a3 s' (X3 row S):=by
 intro S
 induction S with
 | nil=>intro s _; exact ⟨s,.inl rfl,by simp[X3,zo7]⟩
 | cons s S ih=>
  intro x hg
  have hs:=hg s List.mem_cons_self
  obtain ⟨s',hs0,e⟩:=ih (.bo [] (x9 s)) fun s hs=>hg s (List.mem_cons_of_mem _ hs)
  have hs':s'=x\/∃ d,s'=.bo [] d:=.inr (by rcases hs0 with h | h; exact ⟨_,h⟩; exact h)
  cases s with
  | un a b=>
   obtain ⟨h1,h2,h3⟩:=hs
   have q1:=zk0 (row:=row) (a:=a) (by omega)
   have q2:=zk0 (row:=row) (a:=b) (by omega)
   by_cases h:row.getD a 0=row.getD b 0
   ·refine ⟨x,.inl rfl,?_⟩
    rw[List.map_cons,r5,show X3 row (.un a b::S)=some (a,b) from if_pos h]
    generalize row.getD a 0=u at q1 h
    generalize row.getD b 0=v at q2 h
    simp[S0,x9,q1,q2,h,zo7]
   ·refine ⟨s',hs',?_⟩
    rw[show X3 row (.un a b::S)=X3 row S from if_neg h,<- e,List.map_cons,r5]
    generalize row.getD a 0=u at q1 h
    generalize row.getD b 0=v at q2 h
    simp[S0,x9,q1,q2,h]
  | al a b=>
   refine ⟨s',hs',?_⟩
   rw[show X3 row (.al a b::S)=X3 row S from rfl,<- e,List.map_cons,r5]
   simp[S0,x9]
  | le c=>
   refine ⟨s',hs',?_⟩
   rw[show X3 row (.le c::S)=X3 row S from rfl,<- e,List.map_cons,r5]
   simp[S0,x9]
  | mo c=>
   refine ⟨s',hs',?_⟩
   rw[show X3 row (.mo c::S)=X3 row S from rfl,<- e,List.map_cons,r5]
   simp[S0,x9]
def U8 (n:Nat) (row:List Int):List Nat:=(List.range n).filter fun k=>decide (row.getD k 0=(k:Int))
theorem zi4 {n:Nat} {row:List Int} {k:Nat}:k∈U8 n row↔k < n/\row.getD k 0=(k:Int):=by simp[U8]
theorem zW2 (n:Nat) (row:List Int):(U8 n row).length<=n:=by
 have:=List.length_filter_le (fun k=>decide (row.getD k 0=(k:Int))) (List.range n); simpa [U8] using this
def Q6 (p:Nat->Nat->Bool):List Nat->List Nat->List Nat
 | c,[]=>c
 | c,x::r=>Q6 p (if c.all (p x)=true then c++[x] else c) r
def W7 (row:List Int) (S:List Say) (x y:Nat):Bool:=apt row S x y
theorem z07 {row:List Int} {S:List Say} {kvs:List (List Key×D)} (hA:zt4 row S kvs) (a0 a1 a2:D) (s4:Sl) (h4:s4=.no\/∃ d,s4=.bo [] d) (a5:D):∀ (l c:List Nat) (s7:Sl),c.length + l.length < 1000 ->
  ∃ s7',U0 (tgN 7) za9 (T6 l) [.bo [] a0,.bo [] a1,.bo [] a2,.bo [] (.dtk kvs),s4,.bo [] a5,.ow (.lst (T6 c)),s7,.no,.no] =
   .nx [.bo [] a0,.bo [] a1,.bo [] a2,.bo [] (.dtk kvs),s4,.bo [] a5,.ow (.lst (T6 (Q6 (W7 row S) c l))),s7',.no,.no]:=by
 intro l
 induction l with
 | nil=>intro c s7 _; exact ⟨s7,by simp[Q6]⟩
 | cons x l ih=>
  intro c s7 hl
  simp only[List.length_cons] at hl
  have e1:=zC6 (it:=X9 (z4 6)) (own:=[9]) (tg:=tgN 9) (elt:=J0) (k:=.bor [6]) (l:=c) (f:=fun k:Nat=>D.int (k:Int)) (h:=fun y:Nat=>.bl (W7 row S x y))
   (ρ:=[.bo [] a0,.bo [] a1,.bo [] a2,.bo [] (.dtk kvs),s4,.bo [] a5,.ow (.lst (T6 c)),.bo [] (.int x),.no,.no]) (by simp[T6]) (by simp) (by omega) (fun y _=>by
    have:=hA x y
    exact ⟨_,.own,rfl,by simp[zu2,S1,W5,W4,this,W7],rfl⟩)
  obtain ⟨s7',e⟩:=ih (if c.all (W7 row S x)=true then c++[x] else c) (.bo [] (.int x)) (by split <;> (try simp) <;> omega)
  refine ⟨s7',?_⟩
  rw[show Q6 (W7 row S) c (x::l)=Q6 (W7 row S) (if c.all (W7 row S x)=true then c++[x] else c) l from rfl,<- e,zo6,r5]
  by_cases h:c.all (W7 row S x)=true
  ·rw[if_pos h]
   have h':∀ y∈c,W7 row S x y=true:=by simpa using h
   have hb:(c.map (W7 row S x)).all id=true:=by simpa using h'
   rcases h4 with rfl | ⟨d,rfl⟩
   ·simp[G9,e1,show c.length < 16777216 by omega,-List.all_map,hb,zS0]
   ·simp[G9,e1,show c.length < 16777216 by omega,-List.all_map,hb,zS0]
  ·rw[if_neg h]
   have hb:(c.map (W7 row S x)).all id=false:=by simpa using h
   simp[G9,e1,-List.all_map,hb]
def zB1 (n:Nat) (S:List Say) (row:List Int):D:=
 match X3 row S with
 | some (a,b)=>.tup [.str "ring",.int a,.int b]
 | none=>
  if zd8 S > zd7 n S then .tup [.str "counts"]
  else if ((U8 n row).length:Int) < zd8 S then .tup [.str "few"]
  else if ((Q6 (W7 row S) [] (U8 n row)).length:Int) > zd7 n S then .tup [.str "many",.tup (T6 (Q6 (W7 row S) [] (U8 n row)))]
  else .non
theorem z3D {n:Nat} (h9:n<=9) {S:List Say} (hg:∀ s∈S,j0 n s) (hS:S.length<=1000) {row:List Int} (hr:row.length=n) {kvs:List (List Key×D)} (hA:zt4 row S kvs) :
  V4 [.int n,.lst (S.map x9),.lst (row.map .int),.dtk kvs]=.ok (.own,zB1 n S row):=by
 have rg:T2 (n:Int)=true:=S7 (by omega) (by omega)
 have rg0:T2 0=true:=S7 (by omega) (by omega)
 obtain ⟨s4,h4s,e1⟩:=z1Y hr (.int n) (.lst (S.map x9)) (.dtk kvs) S .no hg
 have f1:=z1n hS
 have f2:=z55 (n:=n) hS
 unfold zB1
 cases h1:X3 row S with
 | some p=>
  obtain ⟨a,b⟩:=p
  rw[h1] at e1
  simp[V4,t0,T9,e1,zo7]
 | none=>
  rw[h1] at e1
  by_cases h2:zd8 S > zd7 n S
  ·simp[V4,t0,T9,e1,zo7,f1,f2,h2]
  ·have e2:=N1 (it:=M6 (z4 0)) (own:=[8]) (tg:=tgN 8) (ifs:=za2) (elt:=za4) (k:=.own) (l:=List.range n) (f:=fun k:Nat=>D.int (k:Int)) (h:=fun k:Nat=>D.int (k:Int)) (p:=fun k=>decide (row.getD k 0=(k:Int)))
    (ρ:=[.bo [] (.int n),.bo [] (.lst (S.map x9)),.bo [] (.lst (row.map .int)),.bo [] (.dtk kvs),s4,.no,.no,.no,.no,.no]) (by simp[rg,rg0,rng]) (by simp) (by simp; omega) (fun k hk=>by
     have q:=zk0 (row:=row) (a:=k) (by have:=List.mem_range.mp hk; omega)
     generalize row.getD k 0=u at q
     exact ⟨_,rfl,by simp[zu3,q],fun _=>⟨.bor [],by simp[zw6],rfl⟩⟩)
   have e2':((List.range n).filter fun k=>decide (row.getD k 0=(k:Int))).map (fun k:Nat=>D.int (k:Int))=T6 (U8 n row):=rfl
   rw[e2'] at e2
   have fl:=zW2 n row
   by_cases h3:((U8 n row).length:Int) < zd8 S
   ·simp[V4,t0,T9,e1,zo7,f1,f2,h2,e2,h3]
   ·obtain ⟨s7,e3⟩:=z07 hA (.int n) (.lst (S.map x9)) (.lst (row.map .int)) s4 h4s (.lst (T6 (U8 n row))) (U8 n row) [] .no (by simp; omega)
    generalize Q6 (W7 row S) [] (U8 n row)=C at e3 ⊢
    simp at e3
    have z:∀ k:Kd,lk k [D.str "many",D.tup (T6 C)]=.own:=fun k=>I4 (by simp)
    by_cases h4:(C.length:Int) > zd7 n S
    ·simp[V4,t0,T9,e1,zo7,f1,f2,h2,e2,h3,e3,h4,z]
    ·simp[V4,t0,T9,e1,zo7,f1,f2,h2,e2,h3,e3,h4]
def J2 (p:Nat->Nat->Bool):List Nat->Option (Nat×Nat)
 | []=>none
 | x::r=>match r.find? (fun y=>!p x y) with
  | some y=>some (x,y)
  | none=>J2 p r
def zV8 (x:Nat) (ρ:Sl->Env) (s:Sl):Option Nat->Out
 | some y=>.rt .own (.tup [.int x,.int y])
 | none=>.nx (ρ s)
theorem z2g {row:List Int} {S:List Say} {kvs:List (List Key×D)} (hA:zt4 row S kvs) (a0 a1 a3 a4:D) (x:Nat):∀ (l:List Nat) (s6:Sl),
  ∃ s6',U0 (tgN 6) K9 (T6 l) [.bo [] a0,.bo [] a1,.bo [] (.dtk kvs),.bo [] a3,.bo [] a4,.bo [] (.int x),s6,.no] =
   zV8 x (fun s=>[.bo [] a0,.bo [] a1,.bo [] (.dtk kvs),.bo [] a3,.bo [] a4,.bo [] (.int x),s,.no]) s6' (l.find? fun y=>!W7 row S x y):=by
 intro l
 induction l with
 | nil=>intro s6; exact ⟨s6,by simp[zV8]⟩
 | cons y l ih=>
  intro s6
  have k:(w6 kvs [.inl (x:Int),.inl (y:Int)]).isSome=W7 row S x y:=hA x y
  cases h:W7 row S x y with
  | true=>
   obtain ⟨s6',e⟩:=ih (.bo [] (.int y))
   refine ⟨s6',?_⟩
   rw[List.find?_cons,h]
   simp only[Bool.not_true]
   rw[<- e,zo6,r5]
   simp[zf4,S1,W5,W4,k,h]
  | false=>
   refine ⟨s6,?_⟩
   rw[List.find?_cons,h]
   simp only[Bool.not_false]
   rw[zo6,r5]
   simp[zf4,S1,W5,W4,k,h,zV8]
def zL8 (ρ:Sl->Sl->Sl->Env) (s t u:Sl):Option (Nat×Nat)->Out
 | some (x,y)=>.rt .own (.tup [.int x,.int y])
 | none=>.nx (ρ s t u)
theorem z2F {row:List Int} {S:List Say} {kvs:List (List Key×D)} (hA:zt4 row S kvs) (a0 a1:D) (F:List Nat) (hF:F.length<=1000):∀ (l p:List Nat) (s4 s5 s6:Sl),F=p++l ->
  ∃ s4' s5' s6',U0 (tgT (j4 (tgN 4) (j4 (tgN 5) O5))) za7 (R6 p.length (T6 l)) [.bo [] a0,.bo [] a1,.bo [] (.dtk kvs),.bo [] (.lst (T6 F)),s4,s5,s6,.no] =
   zL8 (fun s t u=>[.bo [] a0,.bo [] a1,.bo [] (.dtk kvs),.bo [] (.lst (T6 F)),s,t,u,.no]) s4' s5' s6' (J2 (W7 row S) l):=by
 intro l
 induction l with
 | nil=>intro p s4 s5 s6 _; exact ⟨s4,s5,s6,by simp[J2,zL8,R6]⟩
 | cons x l ih=>
  intro p s4 s5 s6 hp
  obtain ⟨s6',e1⟩:=z2g hA a0 a1 (.lst (T6 F)) (.int (p.length:Int)) x l s6
  have hc:za8 (T6 F) (some ((p.length:Int) + 1)) none=T6 l:=by
   rw[z35 _ _ (by omega),hp,z34,zo6]
   rw[show ((p.length:Int) + 1).toNat=(T6 p).length + 1 by rw[z4b]; omega]
   rw[List.drop_append]; simp
  obtain ⟨s4',t5,t6,e2⟩:=ih (p++[x]) (.bo [] (.int (p.length:Int))) (.bo [] (.int x)) s6' (by simp[hp])
  rw[List.length_append,List.length_singleton] at e2
  cases h:l.find? fun y=>!W7 row S x y with
  | some y=>
   refine ⟨s4,s5,s6,?_⟩
   rw[h] at e1
   rw[show J2 (W7 row S) (x::l)=some (x,y) by simp[J2,h]]
   simp[R6,r5,zg1,hc,e1,zV8,zL8]
  | none=>
   rw[h] at e1
   refine ⟨s4',t5,t6,?_⟩
   rw[show J2 (W7 row S) (x::l)=J2 (W7 row S) l by simp[J2,h],<- e2]
   simp[R6,r5,zg1,hc,e1,zV8,zL8]
def prD:Option (Nat×Nat)->D
 | some (x,y)=>.tup [.int x,.int y]
 | none=>.non
theorem z1L {n:Nat} (h9:n<=9) {S:List Say} {row:List Int} (hr:row.length=n) {kvs:List (List Key×D)} (hA:zt4 row S kvs) :
  P4 [.int n,.lst (row.map .int),.dtk kvs]=.ok (.own,prD (J2 (W7 row S) (U8 n row))):=by
 have rg:T2 (n:Int)=true:=S7 (by omega) (by omega)
 have rg0:T2 0=true:=S7 (by omega) (by omega)
 have e2:=N1 (it:=M6 (z4 0)) (own:=[7]) (tg:=tgN 7) (ifs:=za6) (elt:=zb0) (k:=.own) (l:=List.range n) (f:=fun k:Nat=>D.int (k:Int)) (h:=fun k:Nat=>D.int (k:Int)) (p:=fun k=>decide (row.getD k 0=(k:Int)))
  (ρ:=[.bo [] (.int n),.bo [] (.lst (row.map .int)),.bo [] (.dtk kvs),.no,.no,.no,.no,.no]) (by simp[rg,rg0,rng]) (by simp) (by simp; omega) (fun k hk=>by
   have q:=zk0 (row:=row) (a:=k) (by have:=List.mem_range.mp hk; omega)
   generalize row.getD k 0=u at q
   exact ⟨_,rfl,by simp[zs6,q],fun _=>⟨.bor [],by simp[zw1],rfl⟩⟩)
 have e2':((List.range n).filter fun k=>decide (row.getD k 0=(k:Int))).map (fun k:Nat=>D.int (k:Int))=T6 (U8 n row):=rfl
 rw[e2'] at e2
 have fl:=zW2 n row
 obtain ⟨s4,s5,s6,e3⟩:=z2F hA (.int n) (.lst (row.map .int)) (U8 n row) (by omega) (U8 n row) [] .no .no .no rfl
 rw[List.length_nil] at e3
 cases h:J2 (W7 row S) (U8 n row) with
 | none=>
  rw[h] at e3
  simp[P4,t0,D8,e2,e3,zL8,prD]
 | some q=>
  obtain ⟨x,y⟩:=q
  rw[h] at e3
  simp[P4,t0,D8,e2,e3,zL8,prD]
def Nrm (row:List Int):Prop:=∀ i:Nat,i < row.length->∃ k:Nat,row.getD i 0=(k:Int)/\k<=i/\row.getD k 0=(k:Int)
theorem z6Q (n:Nat):Nrm ((List.range n).map fun k:Nat=>(k:Int)):=fun i hi=>by
 simp at hi
 exact ⟨i,by simp[List.getD,hi],Nat.le_refl _,by simp[List.getD,hi]⟩
theorem z3j {row:List Int} {n:Nat} (hr:row.length=n) (h:Nrm row) {s:Say} (hs:j0 n s):Nrm (Q0 row s):=by
 cases s with
 | al a b=>
  obtain ⟨h1,h2,h3⟩:=hs
  obtain ⟨u,u1,u2,u3⟩:=h a (by omega)
  obtain ⟨v,v1,v2,v3⟩:=h b (by omega)
  obtain ⟨g,hg⟩:∃ g:Nat,max (u:Int) v=(g:Int)/\(g=u\/g=v):=by
   by_cases z:u<=v
   ·exact ⟨v,by omega,.inr rfl⟩
   ·exact ⟨u,by omega,.inl rfl⟩
  obtain ⟨k,hk⟩:∃ k:Nat,min (u:Int) v=(k:Int)/\(k=u\/k=v):=by
   by_cases z:u<=v
   ·exact ⟨u,by omega,.inl rfl⟩
   ·exact ⟨v,by omega,.inr rfl⟩
  have kg:k<=g:=by omega
  have hk':row.getD k 0=(k:Int):=by rcases hk.2 with e | e <;> rw[e] <;> assumption
  have kl:k < row.length:=by rcases hk.2 with e | e <;> omega
  show Nrm (I9 (max (row.getD a 0) (row.getD b 0)) (min (row.getD a 0) (row.getD b 0)) row)
  rw[u1,v1,hg.1,hk.1]
  intro i hi
  rw[z2Y] at hi
  obtain ⟨w,w1,w2,w3⟩:=h i hi
  rw[I7 hi,w1]
  have kk:(I9 (g:Int) k row).getD k 0=(k:Int):=by
   rw[I7 kl,hk']; split <;> rfl
  by_cases z:w=g
  ·exact ⟨k,by rw[if_pos (by omega)],by omega,kk⟩
  ·exact ⟨w,by rw[if_neg (by omega)],w2,by rw[I7 (by omega),w3,if_neg (by omega)]⟩
 | _=>exact h
theorem zU6 {n:Nat}:∀ (S:List Say) (row:List Int),row.length=n->Nrm row->(∀ s∈S,j0 n s)->Nrm (S.foldl Q0 row)
 | [],row,_,h,_=>h
 | s::S,row,hr,h,hg=>zU6 S (Q0 row s) (by rw[zv9,hr]) (z3j hr h (hg s List.mem_cons_self)) fun s hs=>hg s (List.mem_cons_of_mem _ hs)
theorem z5m {n:Nat} {S:List Say} (hg:∀ s∈S,j0 n s):Nrm (lkP n S):=zU6 S _ (by simp) (z6Q n) hg
theorem z3q {row:List Int} {n:Nat} (hr:row.length=n) (h:Nrm row):wds (P8 row)=((U8 n row).length:Int):=by
 have hw:=z0W row
 have ker:=zW4 row
 have hl:(P8 row).length=n:=by rw[show (P8 row).length=row.length from zA4 row [],hr]
 have p0:0<=wds (P8 row):=zR6 _ 0
 have nd:((U8 n row).map fun k=>(P8 row).getD k 0).Nodup:=by
  unfold U8
  rw[List.nodup_iff_pairwise_ne,List.pairwise_map]
  refine (List.Pairwise.filter _ List.nodup_range).imp_of_mem ?_
  intro a b ha hb hab e
  have ha:=zi4 (n:=n) (row:=row).mp ha
  have hb:=zi4 (n:=n) (row:=row).mp hb
  have:=ker.1 a b (by omega) (by omega) e
  rw[ha.2,hb.2] at this
  omega
 have nd2:((List.range (wds (P8 row)).toNat).map fun k:Nat=>(k:Int)).Nodup:=by
  rw[List.nodup_iff_pairwise_ne,List.pairwise_map]
  exact List.nodup_range.imp fun h e=>h (by omega)
 have pm:=(List.perm_ext_iff_of_nodup nd nd2).mpr fun v=>by
  rw[List.mem_map,List.mem_map]
  constructor
  ·rintro ⟨k,hk,rfl⟩
   have hk:=zi4.mp hk
   have:=(z0h hw ((P8 row).getD k 0)).mp (by rw[List.getD,List.getElem?_eq_getElem (show k < (P8 row).length by omega)]; exact List.getElem_mem _)
   exact ⟨((P8 row).getD k 0).toNat,List.mem_range.mpr (by omega),by omega⟩
  ·rintro ⟨k,hk,rfl⟩
   have hk:=List.mem_range.mp hk
   obtain ⟨i,hi,e⟩:=List.mem_iff_getElem.mp ((z0h hw (k:Int)).mpr ⟨by omega,by omega⟩)
   obtain ⟨w,w1,w2,w3⟩:=h i (by omega)
   refine ⟨w,zi4.mpr ⟨by omega,w3⟩,?_⟩
   rw[ker.2 w i (by omega) (by omega) (by rw[w1,w3])]
   rw[List.getD,List.getElem?_eq_getElem hi]; exact e
 have:=pm.length_eq
 simp at this
 omega
def zE9 (w:List Int):Say->Prop
 | .al a b=>w.getD a 0=w.getD b 0
 | .un a b=>w.getD a 0≠w.getD b 0
 | .le c=>(c:Int)<=wds w
 | .mo c=>wds w<=(c:Int)
def z0S (w:List Int):Say->Prop
 | .al a b=>w.getD a 0=w.getD b 0
 | _=>True
theorem z5r {n:Nat} {row:List Int} (hr:row.length=n) {s:Say} (hs:j0 n s) (w:List Int):Rf (Q0 row s) w↔Rf row w/\z0S w s:=by
 cases s with
 | al a b=>
  obtain ⟨h1,h2,h3⟩:=hs
  show Rf (I9 (max (row.getD a 0) (row.getD b 0)) (min (row.getD a 0) (row.getD b 0)) row) w↔Rf row w/\w.getD a 0=w.getD b 0
  by_cases z:row.getD a 0<=row.getD b 0
  ·rw[show max (row.getD a 0) (row.getD b 0)=row.getD b 0 by omega,show min (row.getD a 0) (row.getD b 0)=row.getD a 0 by omega,zZ2 (by omega) (by omega)]
   exact ⟨fun h=>⟨h.1,h.2.symm⟩,fun h=>⟨h.1,h.2.symm⟩⟩
  ·rw[show max (row.getD a 0) (row.getD b 0)=row.getD a 0 by omega,show min (row.getD a 0) (row.getD b 0)=row.getD b 0 by omega,zZ2 (by omega) (by omega)]
 | _=>simp[Q0,z0S]
theorem z0q {n:Nat} (w:List Int):∀ (S:List Say) (row:List Int),row.length=n->(∀ s∈S,j0 n s)->(Rf (S.foldl Q0 row) w↔Rf row w/\∀ s∈S,z0S w s)
 | [],row,_,_=>by simp
 | s::S,row,hr,hg=>by
  rw[List.foldl_cons,z0q w S (Q0 row s) (by rw[zv9,hr]) fun s hs=>hg s (List.mem_cons_of_mem _ hs),z5r hr (hg s List.mem_cons_self)]
  simp[and_assoc]
theorem z8C (n:Nat) (w:List Int):Rf ((List.range n).map fun k:Nat=>(k:Int)) w:=fun i j hi hj q=>by
 simp at hi hj
 simp[List.getD,hi,hj] at q
 have:i=j:=by omega
 rw[this]
theorem z7f {n:Nat} {S:List Say} (hg:∀ s∈S,j0 n s) (w:List Int):Rf (lkP n S) w↔∀ s∈S,z0S w s:=by
 unfold lkP
 rw[z0q w S _ (by simp) hg]
 exact ⟨fun h=>h.2,fun h=>⟨z8C n w,h⟩⟩
theorem zb4 {row:List Int}:∀ {S:List Say},X3 row S=none->∀ a b,.un a b∈S->row.getD a 0≠row.getD b 0
 | [],_,_,_,h=>by cases h
 | .un c d::S,h,a,b,hm=>by
  unfold X3 at h
  split at h
  ·cases h
  ·rename_i q
   rcases List.mem_cons.mp hm with e | e
   ·cases e; exact q
   ·exact zb4 h a b e
 | .al c d::S,h,a,b,hm=>by
  rcases List.mem_cons.mp hm with e | e
  ·cases e
  ·exact zb4 (show X3 row S=none from h) a b e
 | .le c::S,h,a,b,hm=>by
  rcases List.mem_cons.mp hm with e | e
  ·cases e
  ·exact zb4 (show X3 row S=none from h) a b e
 | .mo c::S,h,a,b,hm=>by
  rcases List.mem_cons.mp hm with e | e
  ·cases e
  ·exact zb4 (show X3 row S=none from h) a b e
theorem zb2 {row:List Int} {a b:Nat}:∀ {S:List Say},X3 row S=some (a,b)->.un a b∈S/\row.getD a 0=row.getD b 0
 | [],h=>by cases h
 | .un c d::S,h=>by
  unfold X3 at h
  split at h
  ·rename_i q
   cases h
   exact ⟨List.mem_cons_self,q⟩
  ·obtain ⟨h1,h2⟩:=zb2 h
   exact ⟨List.mem_cons_of_mem _ h1,h2⟩
 | .al c d::S,h=>by
  obtain ⟨h1,h2⟩:=zb2 (show X3 row S=some (a,b) from h)
  exact ⟨List.mem_cons_of_mem _ h1,h2⟩
 | .le c::S,h=>by
  obtain ⟨h1,h2⟩:=zb2 (show X3 row S=some (a,b) from h)
  exact ⟨List.mem_cons_of_mem _ h1,h2⟩
 | .mo c::S,h=>by
  obtain ⟨h1,h2⟩:=zb2 (show X3 row S=some (a,b) from h)
  exact ⟨List.mem_cons_of_mem _ h1,h2⟩
theorem z0n {row:List Int} {S:List Say} {i j:Int}:apt row S i j=true↔∃ u v,.un u v∈S/\((row.getD u 0=i/\row.getD v 0=j)\/(row.getD v 0=i/\row.getD u 0=j)):=by
 unfold apt
 rw[List.any_eq_true]
 constructor
 ·rintro ⟨s,hs,h⟩
  cases s with
  | un u v=>exact ⟨u,v,hs,by simpa only[Bool.or_eq_true,Bool.and_eq_true,decide_eq_true_eq] using h⟩
  | _=>simp at h
 ·rintro ⟨u,v,hs,h⟩
  exact ⟨_,hs,by simpa only[Bool.or_eq_true,Bool.and_eq_true,decide_eq_true_eq] using h⟩
theorem z3E (row:List Int) (S:List Say) (i j:Int):apt row S i j=apt row S j i:=by
 unfold apt
 congr 1
 funext s
 cases s with
 | un a b=>simp only[Bool.or_comm (decide (row.getD a 0=j)&&_),Bool.and_comm (decide (row.getD b 0=i))]; simp only[Bool.and_comm]
 | _=>rfl
def zS9 (n:Nat):List (Nat×Nat):=(List.range n).flatMap fun j=>(List.range j).map fun i=>(i,j)
theorem zG4 {n i j:Nat}:(i,j)∈zS9 n↔i < j/\j < n:=by
 simp only[zS9,List.mem_flatMap,List.mem_map,List.mem_range,Prod.mk.injEq]
 constructor
 ·rintro ⟨k,hk,l,hl,rfl,rfl⟩; exact ⟨hl,hk⟩
 ·rintro ⟨h1,h2⟩; exact ⟨j,h2,i,h1,rfl,rfl⟩
def zp9 (n:Nat) (S:List Say) (q:Nat×Nat):Bool:=decide ((lkP n S).getD q.1 0=(q.1:Int))&&decide ((lkP n S).getD q.2 0=(q.2:Int))&&!W7 (lkP n S) S q.1 q.2
def opn (n:Nat) (S:List Say):Nat:=(zS9 n).countP (zp9 n S)
theorem zz0 {α:Type} {p q:α->Bool}:∀ {l:List α},(∀ x∈l,q x=true->p x=true)->(∃ x∈l,p x=true/\q x=false)->l.countP q < l.countP p
 | [],_,⟨_,h,_⟩=>by cases h
 | a::l,h1,⟨x,hx,h2,h3⟩=>by
  have mono:l.countP q<=l.countP p:=List.countP_mono_left fun y hy=>h1 y (List.mem_cons_of_mem _ hy)
  rcases List.mem_cons.mp hx with rfl | hx
  ·rw[List.countP_cons_of_pos h2,List.countP_cons_of_neg (by simp[h3])]; omega
  ·have:=zz0 (fun y hy=>h1 y (List.mem_cons_of_mem _ hy)) ⟨x,hx,h2,h3⟩
   by_cases z:q a=true
   ·rw[List.countP_cons_of_pos z,List.countP_cons_of_pos (h1 a List.mem_cons_self z)]; omega
   ·rw[List.countP_cons_of_neg z]
    by_cases z2:p a=true
    ·rw[List.countP_cons_of_pos z2]; omega
    ·rw[List.countP_cons_of_neg z2]; exact this
theorem z7q (n:Nat) (h:n<=9) (S:List Say):opn n S<=36:=by
 have h1:opn n S<=(zS9 n).length:=List.countP_le_length
 have h2:(zS9 n).length<=36:=by
  match n,h with
  | 0,_ | 1,_ | 2,_ | 3,_ | 4,_ | 5,_ | 6,_ | 7,_ | 8,_ | 9,_=>decide
  | k + 10,h=>omega
 omega
theorem zZ4 (n:Nat) (S:List Say) (s:Say):lkP n (S++[s])=Q0 (lkP n S) s:=by simp[lkP]
theorem z63 {n:Nat} {S:List Say} {a b:Nat} (hab:a < b) (hb:b < n) (h:zp9 n S (a,b)=true):opn n (S++[.un a b]) < opn n S:=by
 have e:lkP n (S++[.un a b])=lkP n S:=zZ4 n S _
 unfold opn
 refine zz0 (fun q _ hq=>?_) ⟨(a,b),zG4.mpr ⟨hab,hb⟩,h,?_⟩
 ·unfold zp9 at hq ⊢
  rw[e] at hq
  simp only[Bool.and_eq_true,Bool.not_eq_true',decide_eq_true_eq] at hq ⊢
  refine ⟨hq.1,?_⟩
  have:=hq.2
  simp only[W7,apt,List.any_append,Bool.or_eq_false_iff] at this
  exact this.1
 ·unfold zp9 at h ⊢
  rw[e]
  simp only[Bool.and_eq_true,Bool.not_eq_true',decide_eq_true_eq] at h
  have:W7 (lkP n S) (S++[.un a b]) a b=true:=by
   have h1:=h.1.1
   have h2:=h.1.2
   simp only[List.getD_eq_getElem?_getD] at h1 h2
   simp[W7,apt,h1,h2]
  simp[this]
theorem z64 {n:Nat} {S:List Say} (hg:∀ s∈S,j0 n s) {a b:Nat} (hab:a < b) (hb:b < n) (h:zp9 n S (a,b)=true):opn n (S++[.al a b]) < opn n S:=by
 have h':=h
 unfold zp9 at h'
 simp only[Bool.and_eq_true,Bool.not_eq_true',decide_eq_true_eq] at h'
 obtain ⟨⟨h1,h2⟩,h3⟩:=h'
 have e:lkP n (S++[.al a b])=I9 (b:Int) a (lkP n S):=by
  rw[zZ4]
  show I9 (max ((lkP n S).getD a 0) ((lkP n S).getD b 0)) (min ((lkP n S).getD a 0) ((lkP n S).getD b 0)) _=_
  rw[h1,h2,show max (a:Int) b=b by omega,show min (a:Int) b=a by omega]
 have fst:∀ i:Nat,i < n->(I9 (b:Int) a (lkP n S)).getD i 0=(i:Int)->(lkP n S).getD i 0=(i:Int)/\i≠b:=by
  intro i hi q
  rw[I7 (by simpa using hi)] at q
  split at q
  ·rename_i z
   have:i=a:=by omega
   subst this
   omega
  ·rename_i z
   exact ⟨q,fun e=>z (by rw[q,e])⟩
 unfold opn
 refine zz0 (fun q hm hq=>?_) ⟨(a,b),zG4.mpr ⟨hab,hb⟩,h,?_⟩
 ·obtain ⟨i,j⟩:=q
  obtain ⟨hij,hj⟩:=zG4.mp hm
  unfold zp9 at hq ⊢
  rw[e] at hq
  simp only[Bool.and_eq_true,Bool.not_eq_true',decide_eq_true_eq] at hq ⊢
  obtain ⟨⟨q1,q2⟩,q3⟩:=hq
  obtain ⟨f1,n1⟩:=fst i (by omega) q1
  obtain ⟨f2,n2⟩:=fst j hj q2
  refine ⟨⟨f1,f2⟩,?_⟩
  cases z:W7 (lkP n S) S i j with
  | false=>rfl
  | true=>
   exfalso
   obtain ⟨u,v,hs,z⟩:=z0n.mp z
   obtain ⟨g1,g2,_⟩:=hg _ hs
   have tr:∀ (x y:Nat),x < n->(lkP n S).getD x 0=(y:Int)->y≠b->(I9 (b:Int) a (lkP n S)).getD x 0=(y:Int):=by
    intro x y xl hx hy
    rw[I7 (by simpa using xl),if_neg (by rw[hx]; omega),hx]
   have:W7 (I9 (b:Int) a (lkP n S)) (S++[.al a b]) i j=true:=z0n.mpr ⟨u,v,List.mem_append_left _ hs,by
    rcases z with ⟨z1,z2⟩ | ⟨z1,z2⟩
    ·exact .inl ⟨tr u i g1 z1 n1,tr v j g2 z2 n2⟩
    ·exact .inr ⟨tr v i g2 z1 n1,tr u j g1 z2 n2⟩⟩
   rw[this] at q3
   cases q3
 ·unfold zp9
  rw[e]
  have:¬ (I9 (b:Int) a (lkP n S)).getD b 0=(b:Int):=fun q=>(fst b hb q).2 rfl
  simp only[List.getD_eq_getElem?_getD] at this
  simp[this]
theorem zG8 {p:Nat->Nat->Bool}:∀ {l:List Nat},J2 p l=none->l.Pairwise fun x y=>p x y=true
 | [],_=>List.Pairwise.nil
 | x::l,h=>by
  unfold J2 at h
  split at h
  ·cases h
  ·rename_i q
   refine List.Pairwise.cons (fun y hy=>?_) (zG8 h)
   have:=List.find?_eq_none.mp q y hy
   simpa using this
theorem zJ1 {p:Nat->Nat->Bool} {x y:Nat}:∀ {l:List Nat},l.Pairwise (· < ·)->J2 p l=some (x,y)->x∈l/\y∈l/\x < y/\p x y=false
 | [],_,h=>by cases h
 | z::l,hp,h=>by
  unfold J2 at h
  cases hp with
  | cons h1 h2=>
  split at h
  ·rename_i q
   cases h
   have m:=List.mem_of_find?_eq_some q
   have e:=List.find?_some q
   exact ⟨List.mem_cons_self,List.mem_cons_of_mem _ m,h1 _ m,by simpa using e⟩
  ·obtain ⟨a,b,c,d⟩:=zJ1 h2 h
   exact ⟨List.mem_cons_of_mem _ a,List.mem_cons_of_mem _ b,c,d⟩
theorem zZ6 (n:Nat) (row:List Int):(U8 n row).Pairwise (· < ·):=List.Pairwise.filter _ List.pairwise_lt_range
theorem zO0 {p:Nat->Nat->Bool}:∀ (l c:List Nat),(∀ x∈l,∀ y∈c,p x y=true)->l.Pairwise (fun x y=>p y x=true)->Q6 p c l=c++l
 | [],c,_,_=>by simp[Q6]
 | x::l,c,h,hp=>by
  cases hp with
  | cons h1 h2=>
  unfold Q6
  rw[if_pos (List.all_eq_true.mpr (h x List.mem_cons_self)),zO0 l (c++[x]) (fun z hz y hy=>?_) h2]
  ·simp
  ·rcases List.mem_append.mp hy with hy | hy
   ·exact h z (List.mem_cons_of_mem _ hz) y hy
   ·cases List.mem_singleton.mp hy; exact h1 z hz
theorem zF4 {p:Nat->Nat->Bool}:∀ (l c:List Nat),(c++l).Nodup->c.Pairwise (fun x y=>p y x=true) ->
  (Q6 p c l).Nodup/\(Q6 p c l).Pairwise (fun x y=>p y x=true)/\∀ x∈Q6 p c l,x∈c\/x∈l
 | [],c,h,hp=>⟨by simpa [Q6] using h,by simpa [Q6] using hp,fun x hx=>.inl hx⟩
 | x::l,c,h,hp=>by
  unfold Q6
  have h':(c++[x]++l).Nodup:=by simpa using h
  by_cases z:c.all (p x)=true
  ·rw[if_pos z]
   obtain ⟨a,b,d⟩:=zF4 l (c++[x]) h' (List.pairwise_append.mpr ⟨hp,List.pairwise_singleton _ _,fun y hy w hw=>by
    cases List.mem_singleton.mp hw; exact List.all_eq_true.mp z y hy⟩)
   refine ⟨a,b,fun y hy=>?_⟩
   rcases d y hy with e | e
   ·rcases List.mem_append.mp e with e | e
    ·exact .inl e
    ·cases List.mem_singleton.mp e; exact .inr List.mem_cons_self
   ·exact .inr (List.mem_cons_of_mem _ e)
  ·rw[if_neg z]
   have h3:(c++l).Nodup:=by
    refine List.Nodup.sublist ?_ h
    exact List.Sublist.append (List.Sublist.refl c) (List.sublist_cons_self x l)
   obtain ⟨a,b,d⟩:=zF4 l c h3 hp
   refine ⟨a,b,fun y hy=>?_⟩
   rcases d y hy with e | e
   ·exact .inl e
   ·exact .inr (List.mem_cons_of_mem _ e)
inductive Pap (n:Nat):Nat->List Say->D->Prop
 | ring {d:Nat} {S:List Say} (a b:Nat):.un a b∈S->(lkP n S).getD a 0=(lkP n S).getD b 0->Pap n d S (.tup [.str "ring",.int a,.int b])
 | counts {d:Nat} {S:List Say}:zd8 S > zd7 n S->Pap n d S (.tup [.str "counts"])
 | few {d:Nat} {S:List Say}:((U8 n (lkP n S)).length:Int) < zd8 S->Pap n d S (.tup [.str "few"])
 | many {d:Nat} {S:List Say} (C:List Nat):C.Nodup->(∀ x∈C,x∈U8 n (lkP n S))->C.Pairwise (fun x y=>W7 (lkP n S) S y x=true)->(C.length:Int) > zd7 n S->Pap n d S (.tup [.str "many",.tup (T6 C)])
 | cases {d:Nat} {S:List Say} (a b:Nat) {p q:D}:a < n->b < n->a≠b->Pap n d (S++[.al a b]) p->Pap n d (S++[.un a b]) q->Pap n (d + 1) S (.tup [.str "cases",.int a,.int b,p,q])
theorem Pap.noL {n d:Nat} {S:List Say} {p:D} (h:Pap n d S p):noL p=true:=by
 induction h with
 | many C _ _ _ _=>simp
 | cases a b _ _ _ _ _ i1 i2=>simp[i1,i2]
 | _=>simp
def z94 (n d:Nat) (S:List Say) (r:D):Prop:=
 (∃ w:List Int,r=.tup [.str "way",.tup (w.map .int)]/\zl9 w=true/\w.length=n/\∀ s∈S,zE9 w s)\/(∃ p,r=.tup [.str "none",p]/\Pap n d S p)
theorem z2p {n:Nat} {S:List Say}:(zB1 n S (lkP n S)=.non/\(∀ a b,.un a b∈S->(lkP n S).getD a 0≠(lkP n S).getD b 0)/\zd8 S<=zd7 n S/\zd8 S<=((U8 n (lkP n S)).length:Int)/\((Q6 (W7 (lkP n S) S) [] (U8 n (lkP n S))).length:Int)<=zd7 n S)
  \/∃ ts,zB1 n S (lkP n S)=.tup ts/\noLs ts=true/\∀ d,Pap n d S (.tup ts):=by
 unfold zB1
 cases h1:X3 (lkP n S) S with
 | some q=>
  obtain ⟨a,b⟩:=q
  obtain ⟨h2,h3⟩:=zb2 h1
  exact .inr ⟨_,rfl,by simp,fun d=>.ring a b h2 h3⟩
 | none=>
  dsimp only
  by_cases h2:zd8 S > zd7 n S
  ·rw[if_pos h2]; exact .inr ⟨_,rfl,by simp,fun d=>.counts h2⟩
  ·rw[if_neg h2]
   by_cases h3:((U8 n (lkP n S)).length:Int) < zd8 S
   ·rw[if_pos h3]; exact .inr ⟨_,rfl,by simp,fun d=>.few h3⟩
   ·rw[if_neg h3]
    by_cases h4:((Q6 (W7 (lkP n S) S) [] (U8 n (lkP n S))).length:Int) > zd7 n S
    ·rw[if_pos h4]
     obtain ⟨a,b,c⟩:=zF4 (p:=W7 (lkP n S) S) (U8 n (lkP n S)) [] (by
      rw[List.nil_append]; exact (zZ6 n _).imp fun h e=>by omega) List.Pairwise.nil
     exact .inr ⟨_,rfl,by simp,fun d=>.many _ a (fun x hx=>by rcases c x hx with h | h; cases h; exact h) b h4⟩
    ·rw[if_neg h4]
     exact .inl ⟨rfl,zb4 h1,by omega,by omega,by omega⟩
theorem z5z {S:List Say} {c:Nat} (h:.le c∈S):(c:Int)<=zd8 S:=by
 have m:(c:Int)∈zF7 S:=List.mem_filterMap.mpr ⟨_,h,rfl⟩
 have key:∀ (l:List Int) (b:Int),b<=l.foldl max b/\∀ x∈l,x<=l.foldl max b:=by
  intro l
  induction l with
  | nil=>intro b; exact ⟨Int.le_refl _,fun x hx=>by cases hx⟩
  | cons y l ih=>
   intro b
   obtain ⟨i1,i2⟩:=ih (max b y)
   rw[List.foldl_cons]
   refine ⟨by omega,fun x hx=>?_⟩
   rcases List.mem_cons.mp hx with rfl | hx
   ·omega
   ·exact i2 x hx
 exact (key (zF7 S) 1).2 _ m
theorem z5A {n:Nat} {S:List Say} {c:Nat} (h:.mo c∈S):zd7 n S<=(c:Int):=by
 have m:(c:Int)∈zG3 S:=List.mem_filterMap.mpr ⟨_,h,rfl⟩
 have key:∀ (l:List Int) (b:Int),l.foldl min b<=b/\∀ x∈l,l.foldl min b<=x:=by
  intro l
  induction l with
  | nil=>intro b; exact ⟨Int.le_refl _,fun x hx=>by cases hx⟩
  | cons y l ih=>
   intro b
   obtain ⟨i1,i2⟩:=ih (min b y)
   rw[List.foldl_cons]
   refine ⟨by omega,fun x hx=>?_⟩
   rcases List.mem_cons.mp hx with rfl | hx
   ·omega
   ·exact i2 x hx
 exact (key (zG3 S) n).2 _ m
theorem z2R {n:Nat} (h1:1<=n) (h9:n<=9) {S:List Say} (hg:∀ s∈S,j0 n s) (hr:∀ a b,.un a b∈S->(lkP n S).getD a 0≠(lkP n S).getD b 0) (hf:zd8 S<=((U8 n (lkP n S)).length:Int))
  (hc:((Q6 (W7 (lkP n S) S) [] (U8 n (lkP n S))).length:Int)<=zd7 n S) (he:J2 (W7 (lkP n S) S) (U8 n (lkP n S))=none) :
  zl9 (P8 (lkP n S))=true/\(P8 (lkP n S)).length=n/\∀ s∈S,zE9 (P8 (lkP n S)) s:=by
 have hl:(P8 (lkP n S)).length=n:=by rw[show (P8 (lkP n S)).length=(lkP n S).length from zA4 _ [],z5Q]
 refine ⟨z3s (by simpa) (by simpa),hl,fun s hs=>?_⟩
 have ker:=zW4 (lkP n S)
 have hw:=z3q (n:=n) (by simp) (z5m hg)
 rw[zO0 _ [] (fun x _ y hy=>by cases hy) ((zG8 he).imp fun {x y} h=>by unfold W7 at h ⊢; rw[z3E]; exact h),List.nil_append] at hc
 have gs:=hg s hs
 cases s with
 | al a b=>exact ((z7f hg (P8 (lkP n S))).mp ker.2 _ hs)
 | un a b=>
  obtain ⟨g1,g2,_⟩:=gs
  exact fun e=>hr a b hs (ker.1 a b (by omega) (by omega) e)
 | le c=>have:=z5z hs; show (c:Int)<=_; omega
 | mo c=>have:=z5A (n:=n) hs; show _<=(c:Int); omega
theorem z0D {f:Nat}:X1 (f + 1)=mkF 2 10 (T8 (X1 f)):=rfl
theorem zX3 {n:Nat} (h1:1<=n) (h9:n<=9):∀ (m:Nat) (S:List Say),(∀ s∈S,j0 n s)->S.length + m<=900->opn n S < m->∀ f,m<=f->∃ r,X1 f [.int n,.lst (S.map x9)]=.ok (.own,r)/\z94 n m S r:=by
 intro m
 induction m with
 | zero=>intro S _ _ h; omega
 | succ m ih=>
  intro S hg hS ho f hf
  obtain ⟨f,rfl⟩:∃ g,f=g + 1:=⟨f - 1,by omega⟩
  have e1:=z3a h9 hg
  obtain ⟨kvs,hA,e2⟩:=zQ5 (row:=lkP n S) (by simp) hg (by omega)
  have e3:=z3D h9 hg (by omega) (row:=lkP n S) (by simp) hA
  rw[z0D,t0]
  rcases z2p (n:=n) (S:=S) with ⟨p0,p1,p2,p3,p4⟩ | ⟨ts,p0,p1,p2⟩
  ·rw[p0] at e3
   have e4:=z1L (n:=n) h9 (S:=S) (row:=lkP n S) (by simp) hA
   cases he:J2 (W7 (lkP n S) S) (U8 n (lkP n S)) with
   | none=>
    obtain ⟨w1,w2,w3⟩:=z2R h1 h9 hg p1 p3 p4 he
    have e5:=zX4 (lkP n S) _ (.inl rfl) (by simp; omega)
    rw[he] at e4
    refine ⟨_,?_,.inl ⟨_,rfl,w1,w2,w3⟩⟩
    simp[T8,e1,e2,e3,e4,e5,prD]
   | some q=>
    obtain ⟨a,b⟩:=q
    rw[he] at e4
    obtain ⟨q1,q2,hab,q3⟩:=zJ1 (zZ6 n _) he
    have q1:=zi4.mp q1
    have q2:=zi4.mp q2
    have hop:zp9 n S (a,b)=true:=by unfold zp9; simp only[q1.2,q2.2,q3]; simp
    have l1:=z64 hg hab q2.1 hop
    have l2:=z63 hab q2.1 hop
    have g1:∀ s∈S++[Say.al a b],j0 n s:=fun s hs=>by
     rcases List.mem_append.mp hs with h | h
     ·exact hg s h
     ·cases List.mem_singleton.mp h; exact ⟨q1.1,q2.1,by omega⟩
    have g2:∀ s∈S++[Say.un a b],j0 n s:=fun s hs=>by
     rcases List.mem_append.mp hs with h | h
     ·exact hg s h
     ·cases List.mem_singleton.mp h; exact ⟨q1.1,q2.1,by omega⟩
    obtain ⟨r1,e6,R1⟩:=ih _ g1 (by simp; omega) (by omega) f (by omega)
    obtain ⟨r2,e7,R2⟩:=ih _ g2 (by simp; omega) (by omega) f (by omega)
    simp[x9] at e6 e7
    have sl:S.length + 1<=16777216:=by omega
    rcases R1 with ⟨w,rfl,w1,w2,w3⟩ | ⟨p,rfl,P1⟩
    ·refine ⟨_,?_,.inl ⟨w,rfl,w1,w2,fun s hs=>w3 s (List.mem_append_left _ hs)⟩⟩
     simp[T8,e1,e2,e3,e4,prD,e6,sl]
    ·have n1:=P1.noL
     rcases R2 with ⟨w,rfl,w1,w2,w3⟩ | ⟨q,rfl,P2⟩
     ·refine ⟨_,?_,.inl ⟨w,rfl,w1,w2,fun s hs=>w3 s (List.mem_append_left _ hs)⟩⟩
      simp[T8,e1,e2,e3,e4,prD,e6,e7,n1,sl]
     ·have n2:=P2.noL
      refine ⟨_,?_,.inr ⟨_,rfl,.cases a b q1.1 q2.1 (by omega) P1 P2⟩⟩
      have z:∀ k:Kd,lk k [D.str "cases",.int a,.int b,p,q]=.own:=fun k=>I4 (by simp[n1,n2])
      have z2:∀ k:Kd,lk k [D.str "none",.tup [D.str "cases",.int a,.int b,p,q]]=.own:=fun k=>I4 (by simp[n1,n2])
      simp[T8,e1,e2,e3,e4,prD,e6,e7,n1,n2,sl,z,z2]
  ·rw[p0] at e3
   refine ⟨_,?_,.inr ⟨_,rfl,p2 _⟩⟩
   have z:∀ k:Kd,lk k [D.str "none",.tup ts]=.own:=fun k=>I4 (by simp[p1])
   simp[T8,e1,e2,e3,p1,z]
def cnt (r:List Int):Nat:=(ddI r).length
theorem getD_mem {r:List Int} {i:Nat} (h:i < r.length):r.getD i 0∈r:=by simp[List.getD,h]
theorem mem_getD {r:List Int} {x:Int} (h:x∈r):∃ i,i < r.length/\r.getD i 0=x:=by
 obtain ⟨i,hi,e⟩:=List.getElem_of_mem h
 exact ⟨i,hi,by simp[List.getD,hi,e]⟩
def wj (u v:List Int):Int:=wds (z8F u v)
def prs (k:Nat):List (List Int):=(List.range k).map fun (j:Nat)=>[(j:Int),(k:Int)]
def z7W (n:Nat):List (List Int):=(List.range n).flatMap prs
@[simp] theorem yx2 (k:Kd) (S:List Say):lk k (S.map x9)=.own:=I4 (zO9 S)
theorem z1z (c:Int) {n:Nat} (h1:1<=n) (h9:n<=9):∃ s,j0 n s/\N0 [.int c,.int n]=.ok (.own,x9 s):=by
 obtain ⟨row,e,r⟩:=zF9 c [9,9,8,9] (by decide) (by decide)
 cases r with
 | @cons _ x0 _ r a1 a2 r=>
 cases r with
 | @cons _ x1 _ r b1 b2 r=>
 cases r with
 | @cons _ x2 _ r c1 c2 r=>
 cases r with
 | @cons _ x3 _ r d1 d2 r=>
 cases r
 simp at e
 have dvn:A8 (n:Int)=true:=E9 (by omega) (by omega)
 have dv2:A8 2=true:=E9 (by omega) (by omega)
 have cnt:∃ k:Nat,1 + x3 % (n:Int)=(k:Int)/\1<=k/\k<=n:=by
  have:=Int.emod_nonneg x3 (show (n:Int)≠0 by omega)
  have:=Int.emod_lt_of_pos x3 (show (0:Int) < n by omega)
  exact ⟨(1 + x3 % (n:Int)).toNat,by omega,by omega,by omega⟩
 obtain ⟨k,hk,k1,k2⟩:=cnt
 have lm:∀ t:Int,(t=0\/t=1)->∃ s,j0 n s/\∃ w:Str,atI [D.str "least",.str "most"] t=some (.str w)/\x9 s=.tup [.str w,.int k]:=by
  rintro t (rfl | rfl)
  ·exact ⟨.le k,⟨k1,k2⟩,_,rfl,rfl⟩
  ·exact ⟨.mo k,⟨k1,k2⟩,_,rfl,rfl⟩
 by_cases hx:x0 > 6\/n=1
 ·obtain ⟨s,g,w,e2,e3⟩:=lm (x0 % 2) (by omega)
  refine ⟨s,g,?_⟩
  by_cases hx0:6 < x0
  ·simp[N0,t0,A6,e,hx0,dv2,dvn,e2,e3,hk,show ¬ n=0 by omega]
  ·have n1:(n:Int)=1:=by rcases hx with h | h <;> omega
   simp[N0,t0,A6,e,hx0,n1,dv2,e2,e3]
   rw[n1] at hk
   have dv1:A8 1=true:=E9 (by omega) (by omega)
   have hk1:(k:Int)=1:=by omega
   simp[hk1,dv1]
 ·have hx0:¬ 6 < x0:=fun h=>hx (.inl h)
  have n1:¬ (n:Int)=1:=fun h=>hx (.inr (by omega))
  have dv3:A8 ((n:Int) - 1)=true:=E9 (by omega) (by omega)
  have p0:=Int.emod_nonneg x1 (show (n:Int)≠0 by omega)
  have p1:=Int.emod_lt_of_pos x1 (show (0:Int) < n by omega)
  have p2:=Int.emod_nonneg x2 (show (n:Int) - 1≠0 by omega)
  have p3:=Int.emod_lt_of_pos x2 (show (0:Int) < (n:Int) - 1 by omega)
  obtain ⟨a,ha⟩:∃ a:Nat,x1 % (n:Int)=(a:Int):=⟨(x1 % (n:Int)).toNat,by omega⟩
  obtain ⟨b,hb,hb2⟩:∃ b:Nat,(x1 % (n:Int) + 1 + x2 % ((n:Int) - 1)) % (n:Int)=(b:Int)/\b < n/\a≠b:=by
   have q0:=Int.emod_nonneg (x1 % (n:Int) + 1 + x2 % ((n:Int) - 1)) (show (n:Int)≠0 by omega)
   have q1:=Int.emod_lt_of_pos (x1 % (n:Int) + 1 + x2 % ((n:Int) - 1)) (show (0:Int) < n by omega)
   refine ⟨((x1 % (n:Int) + 1 + x2 % ((n:Int) - 1)) % (n:Int)).toNat,by omega,by omega,?_⟩
   rw[ha] at q0 q1 ⊢
   generalize x2 % ((n:Int) - 1)=t at *
   by_cases z:(a:Int) + 1 + t < n
   ·rw[Int.emod_eq_of_lt (by omega) z]; omega
   ·rw[show ((a:Int) + 1 + t)=((a:Int) + 1 + t - n) + n by omega,Int.add_emod_right,Int.emod_eq_of_lt (by omega) (by omega)]; omega
  by_cases h2:2 < x0
  ·refine ⟨.un a b,⟨by omega,hb2.1,hb2.2⟩,?_⟩
   simp[N0,t0,A6,e,hx0,n1,dvn,dv3,h2,hb,x9,show 0 < n by omega,show (1:Int) < n by omega]
   simp[ha]
  ·refine ⟨.al a b,⟨by omega,hb2.1,hb2.2⟩,?_⟩
   simp[N0,t0,A6,e,hx0,n1,dvn,dv3,h2,hb,x9,show 0 < n by omega,show (1:Int) < n by omega]
   simp[ha]
theorem zU1 (c:Int):∃ n:Nat,1<=n/\n<=9/\L5 [.int c,.int 9]=.ok (.own,.int n):=by
 obtain ⟨row,e,r⟩:=zF9 c [9,5] (by decide) (by decide)
 cases r with
 | @cons _ x0 _ r a1 a2 r=>
 cases r with
 | @cons _ x1 _ r b1 b2 r=>
 cases r
 simp at e
 have dv9:A8 9=true:=E9 (by omega) (by omega)
 have dv6:A8 6=true:=E9 (by omega) (by omega)
 by_cases h:x1=0
 ·refine ⟨(x0 % 9 + 1).toNat,by omega,by omega,?_⟩
  simp[L5,t0,zb7,e,h,dv9]
  omega
 ·refine ⟨(x0 % 6 + 1).toNat,by omega,by omega,?_⟩
  have m6:min (9:Int) 6=6:=by decide
  simp[L5,t0,zb7,e,h,dv6,zf0,m6]
  omega
def osD:Option Say->D
 | none=>.non
 | some s=>x9 s
def syF (n:Nat) (G:List (Option Say)):List (Str×D):=[("size",.int n),("given",.lst (G.map osD))]
def syD (t n:Nat) (G:List (Option Say)):D:=.obj t "Sayings" (syF n G)
@[simp] theorem z4Q (o:Option Say):noL (osD o)=true:=by cases o <;> simp[osD]
@[simp] theorem yk7 (G:List (Option Say)):noLs (G.map osD)=true:=zh9 fun o _=>z4Q o
@[simp] theorem z9C (o:Option Say):V9 (osD o)=o.isNone:=by
 rcases o with _ | s
 ·rfl
 ·cases s <;> rfl
def pl (G:List (Option Say)):List Say:=G.filterMap id
def stn:Nat->List (Option Say)->List (Nat×Say)
 | _,[]=>[]
 | k,none::G=>stn (k + 1) G
 | k,some s::G=>(k,s)::stn (k + 1) G
theorem zM3 {k:Nat} {s:Say}:∀ {G:List (Option Say)} {i:Nat},(k,s)∈stn i G↔∃ j,k=i + j/\G[j]? = some (some s)
 | [],i=>by simp[stn]
 | none::G,i=>by
  rw[show stn i (none::G)=stn (i + 1) G from rfl,zM3 (G:=G)]
  refine ⟨fun ⟨j,h1,h2⟩=>⟨j + 1,by omega,by simpa using h2⟩,fun ⟨j,h1,h2⟩=>?_⟩
  cases j with
  | zero=>simp at h2
  | succ j=>exact ⟨j,by omega,by simpa using h2⟩
 | some t::G,i=>by
  rw[show stn i (some t::G)=(i,t)::stn (i + 1) G from rfl,List.mem_cons,zM3 (G:=G)]
  refine ⟨fun h=>?_,fun ⟨j,h1,h2⟩=>?_⟩
  ·rcases h with h | ⟨j,h1,h2⟩
   ·cases h; exact ⟨0,by omega,by simp⟩
   ·exact ⟨j + 1,by omega,by simpa using h2⟩
  ·cases j with
   | zero=>simp at h2; subst h2; left; simp at h1; rw[h1]
   | succ j=>exact .inr ⟨j,by omega,by simpa using h2⟩
theorem zC4:∀ (G:List (Option Say)) (i:Nat),(stn i G).length<=G.length
 | [],i=>by simp[stn]
 | none::G,i=>by have:=zC4 G (i + 1); simp[stn]; omega
 | some t::G,i=>by have:=zC4 G (i + 1); simp[stn]; omega
theorem B1:∀ (G:List (Option Say)) (i:Nat),(stn i G).map (·.2)=pl G
 | [],i=>rfl
 | none::G,i=>by rw[show stn i (none::G)=stn (i + 1) G from rfl,B1 G (i + 1)]; rfl
 | some t::G,i=>by rw[show stn i (some t::G)=(i,t)::stn (i + 1) G from rfl,List.map_cons,B1 G (i + 1)]; rfl
theorem z7r {G:List (Option Say)} {s:Say}:s∈pl G↔some s∈G:=by simp[pl]
def zv6 (p:Nat×Say):D:=.tup [.int (p.1:Nat),x9 p.2]
theorem z2v (G:List (Option Say)):(pl G).length<=G.length:=List.length_filterMap_le _ _
theorem z2e (G:List (Option Say)) (s:Say):pl (G++[some s])=pl G++[s]:=by simp[pl]
theorem zX2 (G:List (Option Say)) (i:Nat) (P:D->D->Prop):(R6 i (G.map osD))=(List.range G.length).map fun k=>.tup [.int ((i + k:Nat):Int),osD (G.getD k none)]:=by
 induction G generalizing i with
 | nil=>rfl
 | cons o G ih=>
  rw[List.map_cons,R6,ih (i + 1),List.length_cons,List.range_succ_eq_map,List.map_cons,List.map_map]
  congr 1
  refine List.map_congr_left fun k _=>?_
  simp only[Function.comp,List.getD_cons_succ]
  rw[show i + 1 + k=i + (k + 1) by omega]
theorem z0B (G:List (Option Say)) (i:Nat):((List.range G.length).filter fun k=>(G.getD k none).isSome).map (fun k=>D.tup [.int ((i + k:Nat):Int),osD (G.getD k none)])=(stn i G).map zv6:=by
 induction G generalizing i with
 | nil=>rfl
 | cons o G ih=>
  have:=ih (i + 1)
  rw[List.length_cons,List.range_succ_eq_map,List.filter_cons,List.filter_map]
  have e:((List.map Nat.succ (List.filter ((fun k=>((o::G).getD k none).isSome) ∘ Nat.succ) (List.range G.length))).map fun k=>D.tup [.int ((i + k:Nat):Int),osD ((o::G).getD k none)])=(stn (i + 1) G).map zv6:=by
   rw[<- this,List.map_map]
   refine List.map_congr_left fun k _=>?_
   simp only[Function.comp,List.getD_cons_succ,Nat.succ_eq_add_one]
   rw[show i + 1 + k=i + (k + 1) by omega]
  cases o with
  | none=>simp only[List.getD_cons_zero,Option.isSome_none,Bool.false_eq_true,if_false]; exact e
  | some s=>
   simp only[List.getD_cons_zero,Option.isSome_some,if_true,List.map_cons]
   rw[e]
   rfl
theorem zk1 {t n:Nat} {G:List (Option Say)} {k:Kd}:ze2 ["Sayings"] "given" (k,syD t n G)=some (k,.lst (G.map osD)):=by
 simp[syD,syF]; decide +kernel
theorem zD9 {t n:Nat} {G:List (Option Say)} {k:Kd}:ze2 ["Sayings"] "size" (k,syD t n G)=some (k,.int n):=by
 simp[syD,syF]
theorem z2a (t n:Nat) (G:List (Option Say)) (h:G.length<=100000):i3 [syD t n G]=.ok (.own,.lst ((pl G).map x9)):=by
 have hp:∀ o:Option Say,M3 [.bo [] (syD t n G),mkS (.bor []) (osD o)]=.ok o.isSome:=fun o=>by
  rcases o with _ | s
  ·simp[zb3,osD]
  ·cases s <;> simp[zb3,osD,x9,V9]
 have f1:=N1 (it:=X9 (K7 ["Sayings"] "given" (z4 0))) (own:=[1]) (tg:=tgN 1) (ifs:=M3) (elt:=D1) (k:=.bor []) (l:=G) (f:=osD) (h:=osD) (p:=fun o=>o.isSome)
  (ρ:=[.bo [] (syD t n G),.no]) (by simp[-V0,zk1]) (by simp) (by omega) (fun o _=>⟨_,rfl,hp o,fun h=>by
   rcases o with _ | s
   ·cases h
   ·exact ⟨.bor [],by cases s <;> simp[zq0,osD,x9],by simp⟩⟩)
 have e:((G.filter fun o=>o.isSome).map osD)=(pl G).map x9:=by
  unfold pl
  clear f1 h hp
  induction G with
  | nil=>rfl
  | cons o G ih=>rcases o with _ | s <;> simp[ih,osD]
 rw[e] at f1
 simp[i3,t0,za3,f1]
theorem z1W (t n:Nat) (G:List (Option Say)) (h:G.length<=100000):Y5 [syD t n G]=.ok (.own,.lst ((stn 0 G).map zv6)):=by
 have f1:=N1 (it:=zI1 (K7 ["Sayings"] "given" (z4 0))) (own:=[1,2]) (tg:=tgT (j4 (tgN 1) (j4 (tgN 2) O5))) (ifs:=K8) (elt:=K6) (k:=.bor []) (l:=List.range G.length) (f:=fun k=>.tup [.int ((0 + k:Nat):Int),osD (G.getD k none)]) (h:=fun k=>.tup [.int ((0 + k:Nat):Int),osD (G.getD k none)]) (p:=fun k=>(G.getD k none).isSome)
  (ρ:=[.bo [] (syD t n G),.no,.no]) (by simp[-V0,zk1,zX2 G 0 (fun _ _=>True)]) (by simp) (by simp; omega) (fun k _=>by
   generalize G.getD k none=o
   refine ⟨_,rfl,?_,fun h=>?_⟩
   ·rcases o with _ | s
    ·simp[C4,osD]
    ·cases s <;> simp[C4,osD,x9,V9]
   ·rcases o with _ | s
    ·cases h
    ·cases s <;> exact ⟨_,by simp[zl5,osD,x9]; rfl,by simp[osD,x9]⟩)
 rw[z0B] at f1
 simp[Y5,t0,E5,f1]
theorem zi9 (n:Nat) (G:List (Option Say)) (m:Str) (h1:m ≠ "size") (h2:m ≠ "given"):J1 (syF n G) m=true:=by
 simp[J1,syF]
 exact ⟨fun e=>h1 e.symm,fun e=>h2 e.symm⟩
theorem zF2:("given" : Str) ≠ "size" := by decide +kernel
theorem z3i (n:Nat) (h:1<=n/\n<=9) (t:Nat):X8 t [] [.int n]=.ok (syF n []) .non:=by
 have e:=zS4 n
 rw[if_pos ⟨by omega,by omega⟩] at e
 have p2:Y2 [(("size" : Str),D.int n)] "given" (.lst [])=syF n []:=z2Z (by simp; exact fun e=>zF2 e.symm)
 simp[X8,zf3,A4,G6,e]
 rw[p2]
theorem z3k {n:Nat} (h:1<=n/\n<=9) {r:SA} {ρ:Env} {k:Kd} (hr:r ρ=.ok [(k,.int n)]):mkE "Sayings" X8 r ρ=.ok (.own,syD 0 n []):=by
 rw[z7T,hr]
 simp only[R.bind_ok,List.map_cons,List.map_nil]
 rw[zu5 (r:=.ok (syF n []) .non) fun t=>z3i n h t]
 rfl
theorem zL0 (G:List (Option Say)) (i:Nat):(G.map osD).set i .non=(G.set i none).map osD:=by rw[List.map_set]; rfl
theorem z4u (n:Nat) (G G':List (Option Say)):Y2 (syF n G) "given" (.lst (G'.map osD))=syF n G':=by
 unfold syF Y2
 rw[if_pos (by simp)]
 simp[show ¬ ("size" : Str) = "given" from fun e=>zF2 e.symm]
theorem z0v (n:Nat) (G:List (Option Say)):w6 (syF n G) "given" = some (.lst (G.map osD)):=by
 simp[syF,show ¬ ("size" : Str) = "given" from fun e=>zF2 e.symm]
theorem z72 (t n:Nat) (G G':List (Option Say)):W8 [.fld "given"] (.obj t "Sayings" (syF n G)) (.lst (G'.map osD))=some (.obj t "Sayings" (syF n G')):=by
 simp only[W8,z0v,Option.bind_some,Option.map_some,z4u]
theorem z3B (t n:Nat) (G:List (Option Say)) (r:Int) (hG:G.length<=100000):p7 t (syF n G) [.int r]=if 0<=r/\r < G.length then (match G.getD r.toNat none with
  | none=>.ex "Withdrawn" (syF n G)
  | some s=>.ok (syF n (G.set r.toNat none)) (x9 s)) else .ex "NoSaying" (syF n G):=by
 have eg:ze2 ["Sayings"] "given" (.bor [0],.obj t "Sayings" (syF n G))=some (.bor [0],.lst (G.map osD)):=zk1
 by_cases h0:0<=r
 ·by_cases h1:r < G.length
  ·rw[if_pos ⟨h0,h1⟩]
   have hr:r.toNat < G.length:=by omega
   have at1:atI (G.map osD) r=some (osD (G.getD r.toNat none)):=by rw[zr5 _ _ h0]; simp[List.getD,hr]
   cases ho:G.getD r.toNat none with
   | none=>
    rw[ho] at at1
    simp[p7,zf3,A4,X4,-V0,eg,h0,h1,at1,osD]
   | some s=>
    rw[ho] at at1
    have e1:=z4u n G (G.set r.toNat none)
    have e2:=z0v n G
    have ix:ixN G.length r=some r.toNat:=by unfold ixN; rw[if_pos h0,if_pos (by omega)]
    have nn:V9 (x9 s)=false:=by cases s <;> rfl
    have nks:∀ k,nk k (x9 s)=.own:=fun k=>zg0 (by simp)
    have mks:mkS .own (x9 s)=.ow (x9 s):=by cases s <;> rfl
    simp[p7,zf3,A4,X4,-V0,eg,h0,h1,at1,osD,nn,nks,mks,e2]
    rw[ix]
    simp only[Option.map_some]
    first | rw[zL0,z72] | rw[zL0,e1]
    have nk2:nk .own (x9 s)=.own:=z18
    simp[zW1,nk2,nks,B6]
  ·rw[if_neg (by omega)]
   simp[p7,zf3,A4,X4,-V0,eg,h0,h1]
 ·rw[if_neg (by omega)]
  simp[p7,zf3,A4,X4,-V0,eg,h0]
def lnk (s:Say) (c:Nat):Option (Nat×Nat):=match s with
 | .al a b=>if c=a\/c=b then some (a + b - c,0) else none
 | .un a b=>if c=a\/c=b then some (a + b - c,1) else none
 | _=>none
def ow1 (c u:Nat) (nums:List Int) (p:Nat×Say):Option (Nat×Nat×List Int):=match lnk p.2 c with
 | some (o,e)=>if u + e < 2 then some (o,u + e,nums++[(p.1:Int)]) else none
 | none=>none
def owd (S:List (Nat×Say)) (c u:Nat) (nums:List Int):List (Nat×Nat×List Int):=S.filterMap (ow1 c u nums)
theorem zC8 (k a b:Int):inD (.int k) (.tup [.int a,.int b])=some (decide (k=a\/k=b)):=by
 have:inV (.int k) [V.int a,V.int b]=decide (k∈[a,b]):=zV3 (n:=k) (l:=[a,b])
 simp only[inD,fV,fVs]
 rw[this]; simp
theorem z03 (x y z:D):za8 [x,y,z] (some 1) none=[y,z]:=rfl
inductive Wk (S:List (Nat×Say)) (a:Nat):List Int->Nat->Nat->Prop
 | nil:Wk S a [] a 0
 | snoc {nums:List Int} {c u k o e:Nat} {s:Say}:Wk S a nums c u->(k,s)∈S->lnk s c=some (o,e)->u + e < 2->Wk S a (nums++[(k:Int)]) o (u + e)
theorem Wk.u2 {S:List (Nat×Say)} {a:Nat} {nums:List Int} {c u:Nat} (h:Wk S a nums c u):u < 2:=by
 cases h with
 | nil=>omega
 | snoc _ _ _ h=>exact h
theorem z7x {n:Nat} {s:Say} {c o e:Nat} (hg:j0 n s) (hc:c < n) (h:lnk s c=some (o,e)):o < n/\e < 2:=by
 cases s with
 | al x y=>
  simp only[lnk] at h
  split at h
  ·simp at h; obtain ⟨h1,h2⟩:=h; have:=hg.1; have:=hg.2.1; omega
  ·cases h
 | un x y=>
  simp only[lnk] at h
  split at h
  ·simp at h; obtain ⟨h1,h2⟩:=h; have:=hg.1; have:=hg.2.1; omega
  ·cases h
 | le m=>cases h
 | mo m=>cases h
theorem Wk.lt {n:Nat} {S:List (Nat×Say)} (hg:∀ p∈S,j0 n p.2) {a:Nat} (ha:a < n) {nums:List Int} {c u:Nat} (h:Wk S a nums c u):c < n:=by
 induction h with
 | nil=>exact ha
 | snoc _ hs hl _ ih=>exact (z7x (hg _ hs) ih hl).1
theorem z0g {S:List (Nat×Say)} {c u:Nat} {nums:List Int} {x:Nat×Nat×List Int}:x∈owd S c u nums↔∃ k s e,(k,s)∈S/\lnk s c=some (x.1,e)/\u + e < 2/\x.2.1=u + e/\x.2.2=nums++[(k:Int)]:=by
 unfold owd
 rw[List.mem_filterMap]
 refine ⟨fun ⟨p,hp,h⟩=>?_,fun ⟨k,s,e,h1,h2,h3,h4,h5⟩=>⟨(k,s),h1,?_⟩⟩
 ·unfold ow1 at h
  split at h
  ·rename_i o e hl
   split at h
   ·rename_i h3
    cases h
    exact ⟨p.1,p.2,e,hp,hl,h3,rfl,rfl⟩
   ·cases h
  ·cases h
 ·unfold ow1
  simp only[h2]
  rw[if_pos h3]
  obtain ⟨x1,x2,x3⟩:=x
  simp only at h4 h5
  rw[h4,h5]
def Rd (S:List (Nat×Say)) (a d:Nat) (x:Nat×Nat):Prop:=∃ nums,nums.length=d/\Wk S a nums x.1 x.2
theorem zh5 {S:List (Nat×Say)} {a d:Nat} {x:Nat×Nat}:Rd S a (d + 1) x↔∃ y,Rd S a d y/\∃ k s e,(k,s)∈S/\lnk s y.1=some (x.1,e)/\y.2 + e < 2/\x.2=y.2 + e:=by
 refine ⟨fun ⟨nums,hl,w⟩=>?_,fun ⟨y,⟨nums,hl,w⟩,k,s,e,h1,h2,h3,h4⟩=>⟨nums++[(k:Int)],by simp[hl],?_⟩⟩
 ·obtain ⟨x1,x2⟩:=x
  cases w with
  | nil=>simp at hl
  | @snoc nums c u k o e s w hs hk hu=>exact ⟨(c,u),⟨nums,by simpa using hl,w⟩,k,s,e,hs,hk,hu,rfl⟩
 ·have:=Wk.snoc w h1 h2 h3
  rw[h4]; exact this
structure Lev (S:List (Nat×Say)) (a d:Nat) (seen:Nat×Nat->Prop) (front:List (Nat×Nat×List Int)):Prop where
 wk:∀ x∈front,x.2.2.length=d/\Wk S a x.2.2 x.1 x.2.1
 fr:∀ y,(∃ x∈front,(x.1,x.2.1)=y)↔(Rd S a d y/\∀ d' < d,¬ Rd S a d' y)
 sn:∀ y,seen y↔∃ d'≤d,Rd S a d' y
structure Lev2 (S:List (Nat×Say)) (a d:Nat) (seen0:Nat×Nat->Prop) (done:List (Nat×Nat×List Int)) (seen:Nat×Nat->Prop) (wider:List (Nat×Nat×List Int)):Prop where
 wk:∀ x∈wider,x.2.2.length=d + 1/\Wk S a x.2.2 x.1 x.2.1/\¬ seen0 (x.1,x.2.1)
 sn:∀ y,seen y↔(seen0 y\/∃ x∈wider,(x.1,x.2.1)=y)
 all:∀ x∈done,∀ z∈owd S x.1 x.2.1 x.2.2,seen (z.1,z.2.1)
theorem yk6 (S:List (Nat×Say)) (a:Nat):Lev S a 0 (fun y=>y=(a,0)) [(a,0,[])]:=by
 have r0:∀ y,Rd S a 0 y↔y=(a,0):=fun y=>by
  refine ⟨fun ⟨nums,hl,w⟩=>?_,fun h=>⟨[],rfl,by rw[h]; exact .nil⟩⟩
  obtain ⟨y1,y2⟩:=y
  cases w with
  | nil=>rfl
  | snoc=>simp at hl
 refine ⟨fun x hx=>?_,fun y=>?_,fun y=>?_⟩
 ·simp at hx; subst hx; exact ⟨rfl,.nil⟩
 ·simp only[List.mem_singleton,exists_eq_left]
  refine ⟨fun h=>⟨(r0 y).mpr h.symm,fun d' hd=>by omega⟩,fun h=>((r0 y).mp h.1).symm⟩
 ·refine ⟨fun h=>⟨0,by omega,(r0 y).mpr h⟩,fun ⟨d',hd,h⟩=>?_⟩
  have:d'=0:=by omega
  subst this
  exact (r0 y).mp h
theorem z3W {S:List (Nat×Say)} {a d:Nat} {seen0 seen:Nat×Nat->Prop} {front wider:List (Nat×Nat×List Int)} (L:Lev S a d seen0 front) (M:Lev2 S a d seen0 front seen wider):Lev S a (d + 1) seen wider:=by
 have step:∀ y,seen y↔∃ d'≤d + 1,Rd S a d' y:=fun y=>by
  rw[M.sn]
  refine ⟨fun h=>?_,fun ⟨d',hd,h⟩=>?_⟩
  ·rcases h with h | ⟨x,hx,rfl⟩
   ·obtain ⟨d',hd,h⟩:=(L.sn y).mp h; exact ⟨d',by omega,h⟩
   ·obtain ⟨h1,h2,_⟩:=M.wk x hx; exact ⟨d + 1,by omega,x.2.2,h1,h2⟩
  ·by_cases hd2:d'<=d
   ·exact .inl ((L.sn y).mpr ⟨d',hd2,h⟩)
   ·have:d'=d + 1:=by omega
    subst this
    obtain ⟨z,hz,k,s,e,h1,h2,h3,h4⟩:=zh5.mp h
    by_cases hm:∀ d' < d,¬ Rd S a d' z
    ·obtain ⟨x,hx,rfl⟩:=(L.fr z).mpr ⟨hz,hm⟩
     have:=M.all x hx (y.1,y.2,x.2.2++[(k:Int)]) (z0g.mpr ⟨k,s,e,h1,h2,h3,h4,rfl⟩)
     exact (M.sn y).mp this
    ·have:∃ d' < d,Rd S a d' z:=Classical.byContradiction fun q=>hm fun d' h1 h2=>q ⟨d',h1,h2⟩
     obtain ⟨d',hd',hz'⟩:=this
     exact .inl ((L.sn y).mpr ⟨d' + 1,by omega,zh5.mpr ⟨z,hz',k,s,e,h1,h2,h3,h4⟩⟩)
 refine ⟨fun x hx=>⟨(M.wk x hx).1,(M.wk x hx).2.1⟩,fun y=>?_,step⟩
 refine ⟨fun ⟨x,hx,e⟩=>?_,fun ⟨h1,h2⟩=>?_⟩
 ·obtain ⟨g1,g2,g3⟩:=M.wk x hx
  subst e
  exact ⟨⟨x.2.2,g1,g2⟩,fun d' hd h=>g3 ((L.sn _).mpr ⟨d',by omega,h⟩)⟩
 ·have:seen y:=(step y).mpr ⟨d + 1,by omega,h1⟩
  rcases (M.sn y).mp this with h | h
  ·obtain ⟨d',hd,h⟩:=(L.sn y).mp h
   exact absurd h (h2 d' (by omega))
  ·exact h
def Mn (S:List (Nat×Say)) (a d:Nat) (y:Nat×Nat):Prop:=Rd S a d y/\∀ d' < d,¬ Rd S a d' y
theorem Mn.uniq {S:List (Nat×Say)} {a d e:Nat} {y:Nat×Nat} (h:Mn S a d y) (k:Mn S a e y):d=e:=by
 rcases Nat.lt_trichotomy d e with z | z | z
 ·exact absurd h.1 (k.2 d z)
 ·exact z
 ·exact absurd k.1 (h.2 e z)
theorem Mn.pred {S:List (Nat×Say)} {a d:Nat} {y:Nat×Nat} (h:Mn S a (d + 1) y):∃ z,Mn S a d z:=by
 obtain ⟨z,hz,k,s,e,g1,g2,g3,g4⟩:=zh5.mp h.1
 exact ⟨z,hz,fun d' hd hr=>h.2 (d' + 1) (by omega) (zh5.mpr ⟨z,hr,k,s,e,g1,g2,g3,g4⟩)⟩
theorem z5Z {S:List (Nat×Say)} {a d:Nat} {seen:Nat×Nat->Prop} (L:Lev S a d seen []):∀ m y,Rd S a m y->∃ d' < d,Rd S a d' y:=by
 have none_d:∀ m y,¬ Mn S a (d + m) y:=by
  intro m
  induction m with
  | zero=>intro y h; obtain ⟨x,hx,_⟩:=(L.fr y).mpr h; cases hx
  | succ m ih=>intro y h; obtain ⟨z,hz⟩:=Mn.pred (d:=d + m) h; exact ih z hz
 intro m
 induction m using Nat.strongRecOn with
 | _ m ih=>
  intro y h
  by_cases q:m < d
  ·exact ⟨m,q,h⟩
  ·have:=none_d (m - d) y
   rw[show d + (m - d)=m by omega] at this
   have:∃ d' < m,Rd S a d' y:=Classical.byContradiction fun z=>this ⟨h,fun d' h1 h2=>z ⟨d',h1,h2⟩⟩
   obtain ⟨d',h1,h2⟩:=this
   exact ih d' h1 y h2
theorem zs5 {n:Nat} {l:List (Nat×Nat)} (hn:l.Nodup) (h:∀ z∈l,z.1 < n/\z.2 < 2):l.length<=2 * n:=by
 have n2:(l.map fun z=>z.1 * 2 + z.2).Nodup:=by
  rw[List.Nodup,List.pairwise_map]
  refine (List.Pairwise.and_mem.mp hn).imp fun {x y} ⟨hx,hy,hne⟩ e=>hne ?_
  have:=h x hx
  have:=h y hy
  obtain ⟨x1,x2⟩:=x
  obtain ⟨y1,y2⟩:=y
  simp only at *
  have h1:x1=y1:=by omega
  have h2:x2=y2:=by omega
  rw[h1,h2]
 have:=n2.length_le_of_subset (l₂:=List.range (2 * n)) fun k hk=>by
  obtain ⟨z,hz,rfl⟩:=List.mem_map.mp hk
  have:=h z hz
  exact List.mem_range.mpr (by omega)
 simpa using this
theorem zB8 {S:List (Nat×Say)} {n a:Nat} (hg:∀ p∈S,j0 n p.2) (ha:a < n):∀ d y,Mn S a d y->d < 2 * n:=by
 have go:∀ d y,Mn S a d y->∃ l:List (Nat×Nat),l.length=d + 1/\l.Nodup/\∀ z∈l,∃ d'≤d,Mn S a d' z:=by
  intro d
  induction d with
  | zero=>intro y h; exact ⟨[y],rfl,by simp,fun z hz=>by simp at hz; subst hz; exact ⟨0,by omega,h⟩⟩
  | succ d ih=>
   intro y h
   obtain ⟨z,hz⟩:=h.pred
   obtain ⟨l,h1,h2,h3⟩:=ih z hz
   refine ⟨y::l,by simp[h1],List.nodup_cons.mpr ⟨fun hy=>?_,h2⟩,fun w hw=>?_⟩
   ·obtain ⟨d',hd,hm⟩:=h3 y hy
    have:=h.uniq hm
    omega
   ·rcases List.mem_cons.mp hw with rfl | hw
    ·exact ⟨d + 1,by omega,h⟩
    ·obtain ⟨d',hd,hm⟩:=h3 w hw; exact ⟨d',by omega,hm⟩
 intro d y h
 obtain ⟨l,h1,h2,h3⟩:=go d y h
 have:=zs5 h2 (n:=n) fun z hz=>by
  obtain ⟨d',_,⟨nums,_,w⟩,_⟩:=h3 z hz
  exact ⟨w.lt hg ha,w.u2⟩
 omega
def Z7 (y:Nat×Nat):List Key:=[.inl (y.1:Int),.inl (y.2:Int)]
theorem zt0 {x y:Nat×Nat}:Z7 x=Z7 y↔x=y:=by
 obtain ⟨x1,x2⟩:=x
 obtain ⟨y1,y2⟩:=y
 simp only[Z7,List.cons.injEq,Sum.inl.injEq,and_true,Prod.mk.injEq]
 omega
def sP (kvs:List (List Key×D)) (y:Nat×Nat):Prop:=(w6 kvs (Z7 y)).isSome=true
def k3 (z:Nat×Nat×List Int):Nat×Nat:=(z.1,z.2.1)
def NB (s:Sl):Prop:=s=.no\/∃ d,s=.bo [] d
theorem NB.no:NB .no:=.inl rfl
theorem NB.bo (d:D):NB (.bo [] d):=.inr ⟨d,rfl⟩
theorem zr3 {kvs:List (List Key×D)} {x y:Nat×Nat} {v:D}:sP (Y2 kvs (Z7 x) v) y↔(x=y\/sP kvs y):=by
 unfold sP
 rw[zp0,Bool.or_eq_true,decide_eq_true_eq,zt0]
def zT2 (x:Nat×Nat×List Int):D:=.tup [.str (if x.2.1=0 then "alike" else "unlike"),.scr (x.2.2.map .int)]
section
variable {ρ:Env} {m:SM} {tg:Tgt} {s:SS} {d:D} {ds:List D}
@[simp] theorem yu1:zK7 m tg s ρ=(m ρ).thenM fun ρ2 k d=>match k,d with
 | .own,.lst ds=>C1 tg s ds ρ2
 | _,_=>.st:=id rfl
@[simp] theorem z9i:C1 tg s [] ρ=.nx ρ:=id rfl
theorem zf9:C1 tg s (d::ds) ρ=if V7 ρ=true/\W3 ρ=false then (match tg .own d ρ with | none=>.st | some ρ1=>(s ρ1).turn (C1 tg s ds)) else .st:=id rfl
@[simp] theorem yy5 {i j k:Nat} {d0 d1 d2:D}:zB0 i j k .own (.tup [d0,d1,d2]) ρ=if noL d0=true/\noL d1=true/\V7 ((ρ.set i (mkS .own d0)).set j (mkS .own d1))=true then some (((ρ.set i (mkS .own d0)).set j (mkS .own d1)).set k (mkS .own d2)) else none:=id rfl
@[simp] theorem yx1 {j:Nat}:zE4 j ρ=match ρ[j]? with
 | some (.ow d)=>if V7 (ρ.set j .no)=true/\zl7 j (ρ.set j .no)=true then .ri (ρ.set j .no) .own d else .st
 | _=>.st:=id rfl
@[simp] theorem yj0 {j:Nat}:zl7 j ρ=ρ.all fun s=>match s with
 | .bo is _=>!is.contains j
 | _=>true:=id rfl
@[simp] theorem z9x:X7 (.lst ds)=(sealDs ds).map .scr:=id rfl
@[simp] theorem z9q:X7 (.tup ds)=(sealDs ds).map .tup:=id rfl
@[simp] theorem z9c {x:Str}:X7 (.str x)=some (.str x):=id rfl
@[simp] theorem z9j {i:Int}:X7 (.int i)=some (.int i):=id rfl
@[simp] theorem z9X:X7 .non=some .non:=id rfl
@[simp] theorem z8E:sealDs []=some []:=id rfl
@[simp] theorem zX1:sealDs (d::ds)=(X7 d).bind fun d'=>(sealDs ds).map fun ds'=>d'::ds':=id rfl
@[simp] theorem zW6:∀ ns:List Int,sealDs (ns.map D.int)=some (ns.map D.int)
 | []=>id rfl
 | n::ns=>by rw[List.map_cons,zX1,zW6 ns]; rfl
end
def j3 (x:Nat×Nat×List Int):D:=.tup [.int (x.1:Nat),.int (x.2.1:Nat),.lst (x.2.2.map .int)]
theorem z1m (a0:D) (c u:Nat) (hu:u < 2) (nums:List Int) (hn:nums.length<=1000) (acc:List (Nat×Nat×List Int)) (ha:acc.length<=100000) (p:Nat×Say) {n:Nat} (hg:j0 n p.2) (hc:c < n) (s7 s8:Sl) (h7:s7=.no\/∃ d,s7=.bo [] d) (h8:s8=.no\/∃ d,s8=.bo [] d) :
  ∃ s7' s8',(s7'=.no\/∃ d,s7'=.bo [] d)/\(s8'=.no\/∃ d,s8'=.bo [] d)/\U2 [.bo [] a0,.bo [] (.int c),.bo [] (.int u),.bo [] (.lst (nums.map .int)),.ow (.lst (acc.map j3)),.bo [] (.int (p.1:Nat)),.bo [] (x9 p.2),s7,s8] =
   .nx [.bo [] a0,.bo [] (.int c),.bo [] (.int u),.bo [] (.lst (nums.map .int)),.ow (.lst ((acc++(ow1 c u nums p).toList).map j3)),.bo [] (.int (p.1:Nat)),.bo [] (x9 p.2),s7',s8']:=by
 obtain ⟨k,s⟩:=p
 have la:(acc.map j3).length=acc.length:=by simp
 have ln:(nums.map D.int).length=nums.length:=by simp
 have nl:noLs (nums.map D.int++[.int (k:Int)])=true:=by simp
 have lk1:∀ q,lk q (nums.map D.int++[.int (k:Int)])=.own:=fun q=>I4 nl
 have key:∀ (w:Str) (a b:Nat) (e:Nat),(w = "alike"/\e=0)\/(w = "unlike"/\e=1)->a < n->b < n->lnk s c=(if c=a\/c=b then some (a + b - c,e) else none)->x9 s=.tup [.str w,.int a,.int b] ->
   ∃ s7' s8',(s7'=.no\/∃ d,s7'=.bo [] d)/\(s8'=.no\/∃ d,s8'=.bo [] d)/\U2 [.bo [] a0,.bo [] (.int c),.bo [] (.int u),.bo [] (.lst (nums.map .int)),.ow (.lst (acc.map j3)),.bo [] (.int (k:Nat)),.bo [] (.tup [.str w,.int a,.int b]),s7,s8] =
   .nx [.bo [] a0,.bo [] (.int c),.bo [] (.int u),.bo [] (.lst (nums.map .int)),.ow (.lst ((acc++(ow1 c u nums (k,s)).toList).map j3)),.bo [] (.int (k:Nat)),.bo [] (.tup [.str w,.int a,.int b]),s7',s8']:=by
  intro w a b e hw h1 h2 hl es
  by_cases hm:c=a\/c=b
  ·rw[if_pos hm] at hl
   have o1:((a:Int) + b - c)=((a + b - c:Nat):Int):=by omega
   have hm':((c:Int)=a\/(c:Int)=b):=by omega
   have ew:eqD (.str w) (.str "unlike")=some (decide (e=1)):=by
    rcases hw with ⟨rfl,rfl⟩ | ⟨rfl,rfl⟩ <;> simp
   have he:e=0\/e=1:=by rcases hw with ⟨_,h⟩ | ⟨_,h⟩ <;> omega
   by_cases h3:u + e < 2
   ·have o2:ow1 c u nums (k,s)=some (a + b - c,u + e,nums++[(k:Int)]):=by simp only[ow1,hl]; rw[if_pos h3]
    rw[o2]
    refine ⟨.bo [] (.int (a + b - c:Nat)),.bo [] (.int (u + e:Nat)),.inr ⟨_,rfl⟩,.inr ⟨_,rfl⟩,?_⟩
    have fr:j3 (a + b - c,u + e,nums++[(k:Int)])=.tup [.int (a + b - c:Nat),.int (u + e:Nat),.lst (nums.map .int++[.int k])]:=by simp[j3]
    rw[List.map_append,Option.toList_some,List.map_cons,List.map_nil,fr]
    generalize nums.map D.int=N at *
    generalize acc.map j3=AC at *
    have h3':(u:Int) + (e:Int) < 2:=by omega
    rcases he with rfl | rfl
    ·rcases h7 with rfl | ⟨d7,rfl⟩ <;> rcases h8 with rfl | ⟨d8,rfl⟩ <;> simp[Y4,z03,zC8,hm',o1,ew,lk1,nl,ln,la,show nums.length + 1<=16777216 by omega,show acc.length < 16777216 by omega,show (u:Int) < 2 by omega]
    ·have h0:u=0:=by omega
     subst h0
     rcases h7 with rfl | ⟨d7,rfl⟩ <;> rcases h8 with rfl | ⟨d8,rfl⟩ <;> simp[Y4,z03,zC8,hm',o1,ew,lk1,nl,ln,la,show nums.length + 1<=16777216 by omega,show acc.length < 16777216 by omega]
   ·have o2:ow1 c u nums (k,s)=none:=by simp only[ow1,hl]; rw[if_neg h3]
    rw[o2]
    refine ⟨.bo [] (.int (a + b - c:Nat)),.bo [] (.int (u + e:Nat)),.inr ⟨_,rfl⟩,.inr ⟨_,rfl⟩,?_⟩
    have hu1:u=1/\e=1:=by omega
    obtain ⟨rfl,rfl⟩:=hu1
    rw[Option.toList_none,List.append_nil]
    generalize nums.map D.int=N at *
    generalize acc.map j3=AC at *
    rcases h7 with rfl | ⟨d7,rfl⟩ <;> rcases h8 with rfl | ⟨d8,rfl⟩ <;> simp[Y4,z03,zC8,hm',o1,ew]
  ·rw[if_neg hm] at hl
   have o2:ow1 c u nums (k,s)=none:=by simp only[ow1,hl]
   rw[o2]
   have hm':¬ ((c:Int)=a\/(c:Int)=b):=by omega
   refine ⟨s7,s8,h7,h8,?_⟩
   rw[Option.toList_none,List.append_nil]
   simp[Y4,z03,zC8,hm']
 cases s with
 | al a b=>exact key "alike" a b 0 (.inl ⟨rfl,rfl⟩) hg.1 hg.2.1 rfl rfl
 | un a b=>exact key "unlike" a b 1 (.inr ⟨rfl,rfl⟩) hg.1 hg.2.1 rfl rfl
 | le m=>exact ⟨s7,s8,h7,h8,by simp[Y4,x9,ow1,lnk]⟩
 | mo m=>exact ⟨s7,s8,h7,h8,by simp[Y4,x9,ow1,lnk]⟩
theorem z2A (a0:D) (c u:Nat) (hu:u < 2) (nums:List Int) (hn:nums.length<=1000) {n:Nat} (hc:c < n):∀ (S:List (Nat×Say)) (acc:List (Nat×Nat×List Int)) (s5 s6 s7 s8:Sl),(∀ p∈S,j0 n p.2)->acc.length + S.length<=100000->(s7=.no\/∃ d,s7=.bo [] d)->(s8=.no\/∃ d,s8=.bo [] d) ->
  ∃ s5' s6' s7' s8',U0 (tgT (j4 (tgN 5) (j4 (tgN 6) O5))) U2 (S.map zv6) [.bo [] a0,.bo [] (.int c),.bo [] (.int u),.bo [] (.lst (nums.map .int)),.ow (.lst (acc.map j3)),s5,s6,s7,s8] =
   .nx [.bo [] a0,.bo [] (.int c),.bo [] (.int u),.bo [] (.lst (nums.map .int)),.ow (.lst ((acc++owd S c u nums).map j3)),s5',s6',s7',s8']:=by
 intro S
 induction S with
 | nil=>intro acc s5 s6 s7 s8 _ _ _ _; exact ⟨s5,s6,s7,s8,by simp[owd]⟩
 | cons p S ih=>
  intro acc s5 s6 s7 s8 hg hl h7 h8
  simp only[List.length_cons] at hl
  obtain ⟨t7,t8,g7,g8,e1⟩:=z1m a0 c u hu nums hn acc (by omega) p (hg p List.mem_cons_self) hc s7 s8 h7 h8
  have lo:(ow1 c u nums p).toList.length<=1:=by cases ow1 c u nums p <;> simp
  obtain ⟨s5',s6',s7',s8',e2⟩:=ih (acc++(ow1 c u nums p).toList) (.bo [] (.int (p.1:Nat))) (.bo [] (x9 p.2)) t7 t8 (fun q hq=>hg q (List.mem_cons_of_mem _ hq)) (by rw[List.length_append]; omega) g7 g8
  refine ⟨s5',s6',s7',s8',?_⟩
  have ea:acc++owd (p::S) c u nums=(acc++(ow1 c u nums p).toList)++owd S c u nums:=by
   simp only[owd,List.filterMap_cons]
   cases ow1 c u nums p <;> simp
  rw[ea,<- e2,List.map_cons,r5]
  have mk6:∀ is,mkS (.bor is) (x9 p.2)=.bo is (x9 p.2):=fun is=>by cases p.2 <;> rfl
  simp[zv6,mk6,e1]
theorem z0u {t n:Nat} {G:List (Option Say)} (hg:∀ s∈pl G,j0 n s) (hG:G.length<=10000) {c u:Nat} (hc:c < n) (hu:u < 2) {nums:List Int} (hn:nums.length<=1000) :
  Y1 [syD t n G,.int c,.int u,.lst (nums.map .int)]=.ok (.own,.lst ((owd (stn 0 G) c u nums).map j3)):=by
 have ls:=zC4 G 0
 obtain ⟨s5,s6,s7,s8,e⟩:=z2A (syD t n G) c u hu nums hn hc (stn 0 G) [] .no .no .no .no (fun p hp=>hg p.2 (by rw[<- B1 G 0]; exact List.mem_map.mpr ⟨p,hp,rfl⟩)) (by simp; omega) (.inl rfl) (.inl rfl)
 have st:=z1W t n G (by omega)
 rw[List.nil_append,List.map_nil] at e
 have nk1:=zi9 n G "standing" (by decide +kernel) (by decide +kernel)
 have rm:∀ ρ:Env,ρ[0]? = some (.bo [] (syD t n G))->rmE "Sayings" "standing" Y5 (z4 0) y6 ρ=.ok (.own,.lst ((stn 0 G).map zv6)):=fun ρ h=>by
  have st':Y5 [.obj t "Sayings" (syF n G)]=_:=st
  simp[h,syD,nk1,st']
 generalize nums.map D.int=N at *
 generalize (owd (stn 0 G) c u nums).map j3=O at *
 generalize (stn 0 G).map zv6=P at *
 simp[Y1,t0,H7,-z77,rm,e]
def NW (s:Sl):Prop:=s=.no\/∃ d,s=.ow d
theorem NW.no:NW .no:=.inl rfl
theorem NW.ow (d:D):NW (.ow d):=.inr ⟨d,rfl⟩
theorem z1A:∀ (zs:List (Nat×Nat×List Int)) (kvs:List (List Key×D)) (wd:List (Nat×Nat×List Int)) (s9:Sl),kvs.length + zs.length<=100000->wd.length + zs.length<=100000->NW s9 ->
  ∃ kvs' new s9',(∀ (a0 a1 a2 N:D) (c u:Int),C1 (tgN 9) R9 (zs.map j3) [.bo [] a0,.bo [] a1,.bo [] a2,.ow (.dtk kvs),.no,.ow (.lst (wd.map j3)),.bo [] (.int c),.bo [] (.int u),.ow N,s9] =
   .nx [.bo [] a0,.bo [] a1,.bo [] a2,.ow (.dtk kvs'),.no,.ow (.lst ((wd++new).map j3)),.bo [] (.int c),.bo [] (.int u),.ow N,s9'])/\NW s9'/\kvs'.length<=kvs.length + new.length ∧
   (∀ z∈new,z∈zs/\¬ sP kvs (k3 z))/\(new.map k3).Nodup/\(∀ y,sP kvs' y↔sP kvs y\/∃ z∈new,k3 z=y)/\(∀ z∈zs,sP kvs' (k3 z)):=by
 intro zs
 induction zs with
 | nil=>intro kvs wd s9 _ _ h9; exact ⟨kvs,[],s9,by simp,h9,by simp,by simp,by simp,by simp,by simp⟩
 | cons z zs ih=>
  intro kvs wd s9 hk hw h9
  simp only[List.length_cons] at hk hw
  have gd:∀ (a0 a1 a2 N:D) (c u:Int),V7 [.bo [] a0,.bo [] a1,.bo [] a2,.ow (.dtk kvs),.no,.ow (.lst (wd.map j3)),.bo [] (.int c),.bo [] (.int u),.ow N,s9]=true/\W3 [.bo [] a0,.bo [] a1,.bo [] a2,.ow (.dtk kvs),.no,.ow (.lst (wd.map j3)),.bo [] (.int c),.bo [] (.int u),.ow N,s9]=false:=fun a0 a1 a2 N c u=>by
   generalize wd.map j3=WD
   rcases h9 with rfl | ⟨d,rfl⟩ <;> simp[B6,W3,Sl.isT]
  by_cases hs:sP kvs (k3 z)
  ·obtain ⟨kvs',new,s9',e,g9,g1,g2,g3,g4,g5⟩:=ih kvs wd (.ow (j3 z)) (by omega) (by omega) (.ow _)
   refine ⟨kvs',new,s9',?_,g9,g1,fun w hw'=>⟨List.mem_cons_of_mem _ (g2 w hw').1,(g2 w hw').2⟩,g3,g4,fun w hw'=>?_⟩
   ·intro a0 a1 a2 N c u
    rw[<- e,List.map_cons,zf9,if_pos (gd a0 a1 a2 N c u)]
    have hv:(w6 kvs [Sum.inl (z.1:Int),Sum.inl (z.2.1:Int)]).isSome=true:=hs
    generalize wd.map j3=WD
    rcases h9 with rfl | ⟨d,rfl⟩ <;> simp[C2,j3,hv]
   ·rcases List.mem_cons.mp hw' with rfl | hw'
    ·exact (g4 _).mpr (.inl hs)
    ·exact g5 w hw'
  ·have lp:(Y2 kvs (Z7 (k3 z)) (.bl true)).length<=kvs.length + 1:=zq9
   obtain ⟨kvs',new,s9',e,g9,g1,g2,g3,g4,g5⟩:=ih (Y2 kvs (Z7 (k3 z)) (.bl true)) (wd++[z]) .no (by omega) (by simp; omega) .no
   refine ⟨kvs',z::new,s9',?_,g9,by simp only[List.length_cons]; omega,fun w hw'=>?_,?_,fun y=>?_,fun w hw'=>?_⟩
   ·intro a0 a1 a2 N c u
    rw[show wd++z::new=(wd++[z])++new by simp,<- e,List.map_cons,zf9,if_pos (gd a0 a1 a2 N c u)]
    have hv:(w6 kvs [Sum.inl (z.1:Int),Sum.inl (z.2.1:Int)]).isSome=false:=by
     cases h:(w6 kvs [Sum.inl (z.1:Int),Sum.inl (z.2.1:Int)]).isSome with
     | false=>rfl
     | true=>exact absurd h hs
    have lw:(wd.map j3).length=wd.length:=by simp
    rw[List.map_append,List.map_cons,List.map_nil,show Z7 (k3 z)=[Sum.inl (z.1:Int),Sum.inl (z.2.1:Int)] from rfl]
    have ef:j3 z=.tup [.int (z.1:Nat),.int (z.2.1:Nat),.lst (z.2.2.map .int)]:=rfl
    generalize wd.map j3=WD at *
    rw[ef]
    rcases h9 with rfl | ⟨d,rfl⟩ <;> simp[C2,hv,lw,show kvs.length < 16777216 by omega,show wd.length < 16777216 by omega,S1,W5,W4]
   ·rcases List.mem_cons.mp hw' with rfl | hw'
    ·exact ⟨List.mem_cons_self,hs⟩
    ·obtain ⟨h1,h2⟩:=g2 w hw'
     exact ⟨List.mem_cons_of_mem _ h1,fun q=>h2 (zr3.mpr (.inr q))⟩
   ·rw[List.map_cons,List.nodup_cons]
    refine ⟨fun q=>?_,g3⟩
    obtain ⟨w,hw',e'⟩:=List.mem_map.mp q
    exact (g2 w hw').2 (zr3.mpr (.inl e'.symm))
   ·rw[g4,zr3]
    constructor
    ·rintro ((h | h) | ⟨w,h1,h2⟩)
     ·exact .inr ⟨z,List.mem_cons_self,h⟩
     ·exact .inl h
     ·exact .inr ⟨w,List.mem_cons_of_mem _ h1,h2⟩
    ·rintro (h | ⟨w,h1,h2⟩)
     ·exact .inl (.inr h)
     ·rcases List.mem_cons.mp h1 with rfl | h1
      ·exact .inl (.inl h2)
      ·exact .inr ⟨w,h1,h2⟩
   ·rcases List.mem_cons.mp hw' with rfl | hw'
    ·exact (g4 _).mpr (.inl (zr3.mpr (.inl rfl)))
    ·exact g5 w hw'
def B4 (x:Nat×Nat×List Int):D:=.tup [.str (if x.2.1=0 then "alike" else "unlike"),.lst (x.2.2.map .int)]
theorem zW8 {n:Nat} {G:List (Option Say)} (hg:∀ s∈pl G,j0 n s) (hG:G.length<=10000) {a b:Nat} (ha:a < n) (hn:n<=9) {d:Nat} (hd:d<=20) (seen0:Nat×Nat->Prop) (B:Nat) (hB:B<=1000) :
  ∀ (fr done:List (Nat×Nat×List Int)) (kvs:List (List Key×D)) (wd:List (Nat×Nat×List Int)) (s6 s7 s8 s9:Sl),Lev2 (stn 0 G) a d seen0 done (sP kvs) wd->(wd.map k3).Nodup->kvs.length<=B + wd.length->(∀ x∈fr,x.2.2.length=d/\Wk (stn 0 G) a x.2.2 x.1 x.2.1)->NB s6->NB s7->NW s8->NW s9 ->
  (∃ x∈fr,x.1=b/\∀ (t:Nat) (a1:D),C1 (zB0 6 7 8) W9 (fr.map j3) [.bo [] (syD t n G),.bo [] a1,.bo [] (.int b),.ow (.dtk kvs),.no,.ow (.lst (wd.map j3)),s6,s7,s8,s9]=.rt .own (B4 x)) ∨
  ((∀ x∈fr,x.1≠b)/\∃ kvs' wd' s6' s7' s8' s9',(∀ (t:Nat) (a1:D),C1 (zB0 6 7 8) W9 (fr.map j3) [.bo [] (syD t n G),.bo [] a1,.bo [] (.int b),.ow (.dtk kvs),.no,.ow (.lst (wd.map j3)),s6,s7,s8,s9] =
   .nx [.bo [] (syD t n G),.bo [] a1,.bo [] (.int b),.ow (.dtk kvs'),.no,.ow (.lst (wd'.map j3)),s6',s7',s8',s9'])/\NB s6'/\NB s7'/\NW s8'/\NW s9'/\Lev2 (stn 0 G) a d seen0 (done++fr) (sP kvs') wd'/\(wd'.map k3).Nodup/\kvs'.length<=B + wd'.length):=by
 have hgs:∀ p∈stn 0 G,j0 n p.2:=fun p hp=>hg p.2 (by rw[<- B1 G 0]; exact List.mem_map.mpr ⟨p,hp,rfl⟩)
 have wlen:∀ wd:List (Nat×Nat×List Int),(∀ x∈wd,x.2.2.length=d + 1/\Wk (stn 0 G) a x.2.2 x.1 x.2.1/\¬ seen0 (x.1,x.2.1))->(wd.map k3).Nodup->wd.length<=18:=fun wd h1 h2=>by
  have:=zs5 h2 (n:=n) fun z hz=>by
   obtain ⟨x,hx,rfl⟩:=List.mem_map.mp hz
   obtain ⟨_,w,_⟩:=h1 x hx
   exact ⟨w.lt hgs ha,w.u2⟩
  rw[List.length_map] at this; omega
 intro fr
 induction fr with
 | nil=>intro done kvs wd s6 s7 s8 s9 M nw hk _ h6 h7 h8 h9; exact .inr ⟨by simp,kvs,wd,s6,s7,s8,s9,fun t a1=>by simp,h6,h7,h8,h9,by rw[List.append_nil]; exact M,nw,hk⟩
 | cons x fr ih=>
  intro done kvs wd s6 s7 s8 s9 M nw hk hx h6 h7 h8 h9
  obtain ⟨x1,x2⟩:=hx x List.mem_cons_self
  have xlt:=x2.lt hgs ha
  have xu:=x2.u2
  have st:∀ (t:Nat) (a1:D),zB0 6 7 8 .own (j3 x) [.bo [] (syD t n G),.bo [] a1,.bo [] (.int b),.ow (.dtk kvs),.no,.ow (.lst (wd.map j3)),s6,s7,s8,s9] =
    some [.bo [] (syD t n G),.bo [] a1,.bo [] (.int b),.ow (.dtk kvs),.no,.ow (.lst (wd.map j3)),.bo [] (.int (x.1:Nat)),.bo [] (.int (x.2.1:Nat)),.ow (.lst (x.2.2.map .int)),s9]:=fun t a1=>by
   generalize wd.map j3=WD
   have hx:j3 x=.tup [.int (x.1:Nat),.int (x.2.1:Nat),.lst (x.2.2.map .int)]:=rfl
   rw[hx]
   generalize x.2.2.map D.int=XN
   rcases h8 with rfl | ⟨e8,rfl⟩ <;> rcases h9 with rfl | ⟨e9,rfl⟩ <;> simp[B6]
  have gd:∀ (t:Nat) (a1:D),V7 [.bo [] (syD t n G),.bo [] a1,.bo [] (.int b),.ow (.dtk kvs),.no,.ow (.lst (wd.map j3)),s6,s7,s8,s9]=true/\W3 [.bo [] (syD t n G),.bo [] a1,.bo [] (.int b),.ow (.dtk kvs),.no,.ow (.lst (wd.map j3)),s6,s7,s8,s9]=false:=fun t a1=>by
   generalize wd.map j3=WD
   rcases h6 with rfl | ⟨e6,rfl⟩ <;> rcases h7 with rfl | ⟨e7,rfl⟩ <;> rcases h8 with rfl | ⟨e8,rfl⟩ <;> rcases h9 with rfl | ⟨e9,rfl⟩ <;> simp[B6,W3,Sl.isT]
  by_cases hb:x.1=b
  ·refine .inl ⟨x,List.mem_cons_self,hb,fun t a1=>?_⟩
   rw[List.map_cons,zf9,if_pos (gd t a1),st]
   have hb':(x.1:Int)=b:=by omega
   generalize wd.map j3=WD
   by_cases hu:x.2.1=0
   ·unfold B4
    generalize x.2.2.map D.int=XN
    rcases h9 with rfl | ⟨e9,rfl⟩ <;> simp[O9,hb',hu,B6,jn]
   ·have hu':¬ (x.2.1:Int)=0:=by omega
    unfold B4
    generalize x.2.2.map D.int=XN
    rcases h9 with rfl | ⟨e9,rfl⟩ <;> simp[O9,hb',hu,hu',B6,jn]
  ·have hb':¬ (x.1:Int)=b:=by omega
   have ow:=fun t=>z0u (t:=t) hg hG xlt xu (nums:=x.2.2) (by omega)
   have ol:(owd (stn 0 G) x.1 x.2.1 x.2.2).length<=10000:=Nat.le_trans (List.length_filterMap_le _ _) (Nat.le_trans (zC4 G 0) hG)
   have wl:=wlen wd M.wk nw
   obtain ⟨kvs',new,s9',e1,g9,g1,g2,g3,g4,g5⟩:=z1A (owd (stn 0 G) x.1 x.2.1 x.2.2) kvs wd s9 (by omega) (by omega) h9
   have M2:Lev2 (stn 0 G) a d seen0 (done++[x]) (sP kvs') (wd++new):=by
    refine ⟨fun z hz=>?_,fun y=>?_,fun y hy z hz=>?_⟩
    ·rcases List.mem_append.mp hz with hz | hz
     ·exact M.wk z hz
     ·obtain ⟨z1,z2⟩:=g2 z hz
      obtain ⟨k,s,e,q1,q2,q3,q4,q5⟩:=z0g.mp z1
      refine ⟨by rw[q5]; simp[x1],by rw[q4,q5]; exact x2.snoc q1 q2 q3,fun q=>z2 ((M.sn _).mpr (.inl q))⟩
    ·rw[g4,M.sn]
     constructor
     ·rintro ((h | ⟨w,h1,h2⟩) | ⟨w,h1,h2⟩)
      ·exact .inl h
      ·exact .inr ⟨w,List.mem_append_left _ h1,h2⟩
      ·exact .inr ⟨w,List.mem_append_right _ h1,h2⟩
     ·rintro (h | ⟨w,h1,h2⟩)
      ·exact .inl (.inl h)
      ·rcases List.mem_append.mp h1 with h1 | h1
       ·exact .inl (.inr ⟨w,h1,h2⟩)
       ·exact .inr ⟨w,h1,h2⟩
    ·rcases List.mem_append.mp hy with hy | hy
     ·exact (g4 _).mpr (.inl (M.all y hy z hz))
     ·simp at hy; subst hy; exact g5 z hz
   have nw2:((wd++new).map k3).Nodup:=by
    rw[List.map_append]
    refine List.nodup_append.mpr ⟨nw,g3,fun y hy z hz e=>?_⟩
    subst e
    obtain ⟨w,h1,h2⟩:=List.mem_map.mp hy
    obtain ⟨w',h1',h2'⟩:=List.mem_map.mp hz
    exact (g2 w' h1').2 ((M.sn _).mpr (.inr ⟨w,h1,by rw[h2']; exact h2⟩))
   have step:∀ (t:Nat) (a1:D),(W9 [.bo [] (syD t n G),.bo [] a1,.bo [] (.int b),.ow (.dtk kvs),.no,.ow (.lst (wd.map j3)),.bo [] (.int (x.1:Nat)),.bo [] (.int (x.2.1:Nat)),.ow (.lst (x.2.2.map .int)),s9]) =
     .nx [.bo [] (syD t n G),.bo [] a1,.bo [] (.int b),.ow (.dtk kvs'),.no,.ow (.lst ((wd++new).map j3)),.bo [] (.int (x.1:Nat)),.bo [] (.int (x.2.1:Nat)),.ow (.lst (x.2.2.map .int)),s9']:=fun t a1=>by
    have nk1:=zi9 n G "onward" (by decide +kernel) (by decide +kernel)
    have ow':Y1 [.obj t "Sayings" (syF n G),.int (x.1:Nat),.int (x.2.1:Nat),.lst (x.2.2.map .int)]=_:=ow t
    have e1':=e1 (syD t n G) a1 (.int b) (.lst (x.2.2.map .int)) x.1 x.2.1
    rw[show syD t n G=.obj t "Sayings" (syF n G) from rfl] at e1' ⊢
    generalize (owd (stn 0 G) x.1 x.2.1 x.2.2).map j3=OW at ow' e1'
    generalize x.2.2.map D.int=XN at ow' e1' ⊢
    generalize (wd++new).map j3=W2 at e1' ⊢
    generalize wd.map j3=W1 at e1' ⊢
    simp[O9,hb',nk1,ow',e1']
   rcases ih (done++[x]) kvs' (wd++new) (.bo [] (.int (x.1:Nat))) (.bo [] (.int (x.2.1:Nat))) (.ow (.lst (x.2.2.map .int))) s9' M2 nw2 (by rw[List.length_append]; omega) (fun y hy=>hx y (List.mem_cons_of_mem _ hy)) (.bo _) (.bo _) (.ow _) g9 with ⟨y,h1,h2,h3⟩ | ⟨h1,kvs2,wd2,s62,s72,s82,s92,h2,h3,h4,h5,h6',h7',h8',h9'⟩
   ·refine .inl ⟨y,List.mem_cons_of_mem _ h1,h2,fun t a1=>?_⟩
    rw[<- h3 t a1,List.map_cons,zf9,if_pos (gd t a1),st]
    simp only[step,zX9]
   ·refine .inr ⟨fun y hy=>?_,kvs2,wd2,s62,s72,s82,s92,fun t a1=>?_,h3,h4,h5,h6',by rw[List.append_assoc] at h7'; exact h7',h8',h9'⟩
    ·rcases List.mem_cons.mp hy with rfl | hy
     ·exact hb
     ·exact h1 y hy
    ·rw[<- h2 t a1,List.map_cons,zf9,if_pos (gd t a1),st]
     simp only[step,zX9]
def ChL (S:List (Nat×Say)) (a b:Nat) (r:D):Prop:=
 (r=.non/\∀ nums u,¬ Wk S a nums b u)\/∃ nums u,r=B4 (b,u,nums)/\Wk S a nums b u/\∀ nums' u',Wk S a nums' b u'->nums.length<=nums'.length
theorem z1g {n:Nat} {G:List (Option Say)} (hg:∀ s∈pl G,j0 n s) (hG:G.length<=10000) {a b:Nat} (ha:a < n) (hn:n<=9) :
  ∀ (m d:Nat) (kvs:List (List Key×D)) (front:List (Nat×Nat×List Int)) (s5 s6 s7 s8 s9:Sl),d + m=2 * n->Lev (stn 0 G) a d (sP kvs) front->(∀ d' < d,∀ u,¬ Rd (stn 0 G) a d' (b,u))->kvs.length<=20 * (d + 1)->(NB s5\/∃ d5,s5=.bo [4] d5)->NB s6->NB s7->NW s8->NW s9 ->
  (∃ nums u,(∀ (t:Nat) (a1:D),whS Z4 i4 [.bo [] (syD t n G),.bo [] a1,.bo [] (.int b),.ow (.dtk kvs),.ow (.lst (front.map j3)),s5,s6,s7,s8,s9]=.rt .own (B4 (b,u,nums)))/\Wk (stn 0 G) a nums b u/\∀ nums' u',Wk (stn 0 G) a nums' b u'->nums.length<=nums'.length) ∨
  ((∀ nums u,¬ Wk (stn 0 G) a nums b u)/\∀ (t:Nat) (a1:D),∃ ρ',whS Z4 i4 [.bo [] (syD t n G),.bo [] a1,.bo [] (.int b),.ow (.dtk kvs),.ow (.lst (front.map j3)),s5,s6,s7,s8,s9]=.nx ρ'):=by
 have hgs:∀ p∈stn 0 G,j0 n p.2:=fun p hp=>hg p.2 (by rw[<- B1 G 0]; exact List.mem_map.mpr ⟨p,hp,rfl⟩)
 have done:∀ (d:Nat) (kvs:List (List Key×D)) (s5 s6 s7 s8 s9:Sl),Lev (stn 0 G) a d (sP kvs) []->(∀ d' < d,∀ u,¬ Rd (stn 0 G) a d' (b,u)) ->
   ((∀ nums u,¬ Wk (stn 0 G) a nums b u)/\∀ (t:Nat) (a1:D),∃ ρ',whS Z4 i4 [.bo [] (syD t n G),.bo [] a1,.bo [] (.int b),.ow (.dtk kvs),.ow (.lst (([]:List (Nat×Nat×List Int)).map j3)),s5,s6,s7,s8,s9]=.nx ρ'):=fun d kvs s5 s6 s7 s8 s9 L hno=>by
  refine ⟨fun nums u w=>?_,fun t a1=>⟨_,by rw[zh7]; simp[D9]; rfl⟩⟩
  obtain ⟨d',h1,h2⟩:=z5Z L nums.length (b,u) ⟨nums,rfl,w⟩
  exact hno d' h1 u h2
 intro m
 induction m with
 | zero=>
  intro d kvs front s5 s6 s7 s8 s9 hd L hno hk h5 h6 h7 h8 h9
  cases front with
  | nil=>exact .inr (done d kvs s5 s6 s7 s8 s9 L hno)
  | cons x r=>
   have:=zB8 hgs ha d (x.1,x.2.1) ((L.fr _).mp ⟨x,List.mem_cons_self,rfl⟩)
   omega
 | succ m ih=>
  intro d kvs front s5 s6 s7 s8 s9 hd L hno hk h5 h6 h7 h8 h9
  cases front with
  | nil=>exact .inr (done d kvs s5 s6 s7 s8 s9 L hno)
  | cons x r=>
   have M0:Lev2 (stn 0 G) a d (sP kvs) [] (sP kvs) []:=⟨(fun x hx=>nomatch hx),(fun y=>⟨.inl,fun h=>h.elim id fun ⟨x,hx,_⟩=>nomatch hx⟩),(fun x hx=>nomatch hx)⟩
   have fl:((x::r).map j3).length=r.length + 1:=by simp
   have ht:∀ (t:Nat) (a1:D),Z4 [.bo [] (syD t n G),.bo [] a1,.bo [] (.int b),.ow (.dtk kvs),.ow (.lst ((x::r).map j3)),s5,s6,s7,s8,s9]=.ok true:=fun t a1=>by
    generalize (x::r).map j3=FR at fl ⊢
    simp[D9,fl]
   rcases zW8 (b:=b) hg hG ha hn (d:=d) (by omega) (sP kvs) (20 * (d + 1)) (by omega) (x::r) [] kvs [] s6 s7 s8 s9 M0 (by simp) (by simp; omega) L.wk h6 h7 h8 h9 with ⟨y,y1,y2,y3⟩ | ⟨y1,kvs',wd',s6',s7',s8',s9',y2,g6,g7,g8,g9,M,nw,hk'⟩
   ·left
    obtain ⟨z1,z2⟩:=L.wk y y1
    refine ⟨y.2.2,y.2.1,fun t a1=>?_,by rw[<- y2]; exact z2,fun nums' u' w=>?_⟩
    ·rw[zh7,ht]
     simp only[R.out_ok,if_true]
     have e:i4 [.bo [] (syD t n G),.bo [] a1,.bo [] (.int b),.ow (.dtk kvs),.ow (.lst ((x::r).map j3)),s5,s6,s7,s8,s9]=.rt .own (B4 y):=by
      have y3:=y3 t a1
      simp only[List.map_nil] at y3
      generalize (x::r).map j3=FR at y3 ⊢
      rcases h6 with rfl | ⟨e6,rfl⟩ <;> rcases h7 with rfl | ⟨e7,rfl⟩ <;> rcases h8 with rfl | ⟨e8,rfl⟩ <;> rcases h9 with rfl | ⟨e9,rfl⟩ <;> rcases h5 with (rfl | ⟨d5,rfl⟩) | ⟨d5,rfl⟩ <;> simp[C0,B6,y3]
     rw[e]
     have:y=(b,y.2.1,y.2.2):=by rw[<- y2]
     rw[<- this]
    ·rw[z1]
     by_cases q:d<=nums'.length
     ·exact q
     ·exact absurd ⟨nums',rfl,w⟩ (hno nums'.length (by omega) u')
   ·have L2:=z3W L M
    have hno2:∀ d' < d + 1,∀ u,¬ Rd (stn 0 G) a d' (b,u):=fun d' hd' u h=>by
     by_cases q:d' < d
     ·exact hno d' q u h
     ·have:d'=d:=by omega
      subst this
      obtain ⟨z,hz,ez⟩:=(L.fr (b,u)).mpr ⟨h,fun d'' h1 h2=>hno d'' h1 u h2⟩
      exact y1 z hz (congrArg Prod.fst ez)
    have wl:wd'.length<=18:=by
     have:=zs5 nw (n:=n) fun z hz=>by
      obtain ⟨w,hw,rfl⟩:=List.mem_map.mp hz
      obtain ⟨_,w2,_⟩:=M.wk w hw
      exact ⟨w2.lt hgs ha,w2.u2⟩
     rw[List.length_map] at this; omega
    have run:∀ (t:Nat) (a1:D),whS Z4 i4 [.bo [] (syD t n G),.bo [] a1,.bo [] (.int b),.ow (.dtk kvs),.ow (.lst ((x::r).map j3)),s5,s6,s7,s8,s9] =
      whS Z4 i4 [.bo [] (syD t n G),.bo [] a1,.bo [] (.int b),.ow (.dtk kvs'),.ow (.lst (wd'.map j3)),.bo [4] (.lst (wd'.map j3)),s6',s7',s8',s9']:=fun t a1=>by
     rw[zh7,ht]
     simp only[R.out_ok,if_true]
     have e:i4 [.bo [] (syD t n G),.bo [] a1,.bo [] (.int b),.ow (.dtk kvs),.ow (.lst ((x::r).map j3)),s5,s6,s7,s8,s9]=.nx [.bo [] (syD t n G),.bo [] a1,.bo [] (.int b),.ow (.dtk kvs'),.ow (.lst (wd'.map j3)),.bo [4] (.lst (wd'.map j3)),s6',s7',s8',s9']:=by
      have y2:=y2 t a1
      simp only[List.map_nil] at y2
      generalize (x::r).map j3=FR at y2 ⊢
      generalize wd'.map j3=WR at y2 ⊢
      rcases h6 with rfl | ⟨f6,rfl⟩ <;> rcases h7 with rfl | ⟨f7,rfl⟩ <;> rcases h8 with rfl | ⟨f8,rfl⟩ <;> rcases h9 with rfl | ⟨f9,rfl⟩ <;> rcases g6 with rfl | ⟨e6,rfl⟩ <;> rcases g7 with rfl | ⟨e7,rfl⟩ <;> rcases g8 with rfl | ⟨e8,rfl⟩ <;> rcases g9 with rfl | ⟨e9,rfl⟩ <;> rcases h5 with (rfl | ⟨d5,rfl⟩) | ⟨d5,rfl⟩ <;> simp[C0,B6,y2]
     rw[e]
    simp only[run]
    exact ih (d + 1) kvs' wd' (.bo [4] (.lst (wd'.map j3))) s6' s7' s8' s9' (by omega) L2 hno2 (by omega) (.inr ⟨_,rfl⟩) g6 g7 g8 g9
theorem zN8 {n:Nat} {G:List (Option Say)} (hg:∀ s∈pl G,j0 n s) (hG:G.length<=10000) (hn:n<=9) {a b:Nat} (ha:a < n) (hb:b < n):∃ r,(∀ t,v8 [syD t n G,.int a,.int b]=.ok (.own,r))/\ChL (stn 0 G) a b r:=by
 have e1:=T4 n a
 have e2:=T4 n b
 rw[if_pos ⟨by omega,by omega⟩] at e1 e2
 have kv0:∀ y,sP [([Sum.inl (a:Int),Sum.inl 0],D.bl true)] y↔y=(a,0):=fun y=>by
  unfold sP
  simp only[w6]
  by_cases h:[Sum.inl (a:Int),Sum.inl (0:Int)]=Z7 y
  ·rw[if_pos h]
   have:Z7 (a,0)=Z7 y:=h
   exact ⟨fun _=>(zt0.mp this).symm,fun _=>rfl⟩
  ·rw[if_neg h]
   refine ⟨fun q=>by simp at q,fun q=>absurd ?_ h⟩
   rw[q]; rfl
 have L0:Lev (stn 0 G) a 0 (sP [([Sum.inl (a:Int),Sum.inl 0],D.bl true)]) [(a,0,[])]:=by
  have:=yk6 (stn 0 G) a
  refine ⟨this.wk,this.fr,fun y=>?_⟩
  rw[kv0]; exact this.sn y
 have sz:∀ t k,ze2 ["Sayings"] "size" (k,syD t n G)=some (k,.int n):=fun t k=>zD9
 rcases z1g (b:=b) hg hG ha hn (2 * n) 0 _ _ .no .no .no .no .no (by omega) L0 (by omega) (by simp) (.inl .no) .no .no .no .no with ⟨nums,u,h1,h2,h3⟩ | ⟨h1,h2⟩
 ·refine ⟨B4 (b,u,nums),fun t=>?_,.inr ⟨nums,u,rfl,h2,h3⟩⟩
  have fr:[(a,0,([]:List Int))].map j3=[.tup [.int a,.int 0,.lst []]]:=rfl
  have h1:=h1 t (.int a)
  rw[fr] at h1
  have nkr:nk .own (B4 (b,u,nums))=.own:=z18
  generalize B4 (b,u,nums)=RR at h1 nkr ⊢
  simp[v8,t0,U1,-V0,sz,e1,e2,S1,W5,W4,h1,nkr]
 ·refine ⟨.non,fun t=>?_,.inl ⟨rfl,h1⟩⟩
  obtain ⟨ρ',h2⟩:=h2 t (.int a)
  have fr:[(a,0,([]:List Int))].map j3=[.tup [.int a,.int 0,.lst []]]:=rfl
  rw[fr] at h2
  simp[v8,t0,U1,-V0,sz,e1,e2,S1,W5,W4,h2]
def P9:Say->Bool
 | .al _ _=>true
 | .un _ _=>true
 | _=>false
theorem z1u {s:Say} {c o e:Nat} (h:lnk s c=some (o,e)):P9 s=true:=by
 cases s <;> first | rfl | cases h
theorem z5R {w:List Int} {s:Say} {c o e:Nat} (h:lnk s c=some (o,e)) (hf:zE9 w s):(e=0/\w.getD c 0=w.getD o 0)\/(e=1/\w.getD c 0≠w.getD o 0):=by
 cases s with
 | al x y=>
  simp only[lnk] at h
  split at h
  ·rename_i hc
   cases h
   left
   refine ⟨rfl,?_⟩
   rcases hc with rfl | rfl
   ·rw[show c + y - c=y by omega]; exact hf
   ·rw[show x + c - c=x by omega]; exact Eq.symm hf
  ·cases h
 | un x y=>
  simp only[lnk] at h
  split at h
  ·rename_i hc
   cases h
   right
   refine ⟨rfl,?_⟩
   rcases hc with rfl | rfl
   ·rw[show c + y - c=y by omega]; exact hf
   ·rw[show x + c - c=x by omega]; exact fun e=>hf e.symm
  ·cases h
 | le m=>cases h
 | mo m=>cases h
theorem z3u {S:List (Nat×Say)} {a:Nat} {w:List Int} (hf:∀ p∈S,P9 p.2=true->zE9 w p.2) {nums:List Int} {c u:Nat} (h:Wk S a nums c u):(u=0/\w.getD a 0=w.getD c 0)\/(u=1/\w.getD a 0≠w.getD c 0):=by
 induction h with
 | nil=>exact .inl ⟨rfl,rfl⟩
 | @snoc nums c u k o e s hw hs hl hu ih=>
  rcases z5R hl (hf _ hs (z1u hl)) with ⟨rfl,h1⟩ | ⟨rfl,h1⟩
  ·rcases ih with ⟨h2,h3⟩ | ⟨h2,h3⟩
   ·exact .inl ⟨by omega,h3.trans h1⟩
   ·exact .inr ⟨by omega,fun q=>h3 (q.trans h1.symm)⟩
  ·rcases ih with ⟨h2,h3⟩ | ⟨h2,h3⟩
   ·exact .inr ⟨by omega,fun q=>h1 (h3.symm.trans q)⟩
   ·omega
def zv5 (S:List (Nat×Say)) (s:Say):Prop:=(∃ a b nums,s=.al a b/\Wk S a nums b 1)\/∃ a b nums,s=.un a b/\Wk S a nums b 0
theorem z1x {fn:HFn} {ch:List Nat} {r:SAH} {ρ ρ':Env} {xs:List AX} {cs:List D} {d:D} (hr:r ρ=.ok xs) (h1:(pzH 0 xs).map (·.1)=ch) (h2:((pzH 0 xs).map (·.2.1)).Nodup) (h3:∀ q∈(pzH 0 xs).map (·.2.1),q∉isH xs) (h4:(pzH 0 xs).all (fun q=>zn8 q.2.2.2)=true)
  (hf:∀ t,fn t (xs.map AX.d)=.ok cs d) (hp:Q5 ρ (pzH 0 xs) cs=some ρ'):hcM fn ch r ρ=.ri ρ' .own d:=by
 rw[z6S,hr]
 simp only[R.out_ok]
 rw[if_pos ⟨h1,h2,h3,h4⟩,z0w (r:=.ok cs d) hf]
 simp only[hp]
theorem z1K {C m:String} {g:GFn} {p:SPh} {s:SA} {ρ ρ':Env} {j t:Nat} {q:List Ix} {fs fs':List (Str×D)} {xs:List KD} {d:D} (hp:p ρ=.ok (j,q,.obj t C fs)) (hk:J1 fs (Str.ofString m)=true) (hs:s ρ=.ok xs) (hj:j∉(jn xs).is)
  (hg:∀ t,g t fs (xs.map (·.2))=.ok fs' d) (ho:X5 ρ (j,q,.obj t C fs) (.obj t C fs')=some ρ'):mcM C m g p s ρ=.ri ρ' .own d:=by
 rw[zU9,hp]
 simp only[R.out_ok,hk,and_self,if_true,hs]
 rw[if_neg hj,zu5 (r:=.ok fs' d) hg]
 simp only[ho]
theorem z2t {C m:String} {g:GFn} {p:SPh} {s:SA} {ρ ρ':Env} {j t:Nat} {q:List Ix} {fs fs':List (Str×D)} {xs:List KD} {c:Ec} (hp:p ρ=.ok (j,q,.obj t C fs)) (hk:J1 fs (Str.ofString m)=true) (hs:s ρ=.ok xs) (hj:j∉(jn xs).is)
  (hg:∀ t,g t fs (xs.map (·.2))=.ex c fs') (ho:X5 ρ (j,q,.obj t C fs) (.obj t C fs')=some ρ'):mcM C m g p s ρ=.ex c ρ':=by
 rw[zU9,hp]
 simp only[R.out_ok,hk,and_self,if_true,hs]
 rw[if_neg hj,zu5 (r:=.ex c fs') hg]
 simp only[ho]
def z1o (G:List (Option Say)) (s:Say) (nums:List Int):Prop:=∃ a b u,((s=.al a b/\u=1)\/(s=.un a b/\u=0))/\Wk (stn 0 G) a nums b u/\∀ nums' u',Wk (stn 0 G) a nums' b u'->nums.length<=nums'.length
def zp2 (n:Nat) (G:List (Option Say)):Prop:=∃ w0,zl9 w0=true/\w0.length=n/\∀ x∈pl G,zE9 w0 x
def z22 (n:Nat) (G:List (Option Say)) (s:Say) (out:RG):Prop:=
 (∃ nums:List Int,out=.ex (.p "Clash" "ring" (.scr (nums.map .int))) (syF n G)/\z1o G s nums) ∨
 (¬ zv5 (stn 0 G) s/\∃ p,out=.ex (.p "NoFit" "paper" p) (syF n G)/\Pap n 37 (pl G++[s]) p) ∨
 (¬ zv5 (stn 0 G) s/\out=.ok (syF n (G++[some s])) (.int G.length)/\zp2 n (G++[some s]))
theorem z5H (G:List (Option Say)):∀ {p},p∈stn 0 G->p.2∈pl G:=fun {p} hp=>by rw[<- B1 G 0]; exact List.mem_map.mpr ⟨p,hp,rfl⟩
theorem zY0 {n:Nat} {G:List (Option Say)} {s:Say} (hg:∀ s∈pl G,j0 n s) (hs:j0 n s):∀ x∈pl G++[s],j0 n x:=fun x hx=>by
 rcases List.mem_append.mp hx with hx | hx
 ·exact hg x hx
 ·cases List.mem_singleton.mp hx; exact hs
def z4N (n:Nat) (G:List (Option Say)) (s:Say) (G':List (Option Say)) (r:D):Prop:=
 (∃ nums:List Int,G'=G/\r=.tup [.str "clash",.scr (nums.map .int)]/\z1o G s nums) ∨
 (¬ zv5 (stn 0 G) s/\∃ p,G'=G/\r=.tup [.str "none",p]/\Pap n 37 (pl G++[s]) p) ∨
 (¬ zv5 (stn 0 G) s/\G'=G++[some s]/\r=.int G.length/\zp2 n (G++[some s]))
theorem zY2 (t' n:Nat) (G G':List (Option Say)) (ρ:Env) (i t:Nat) (h:ρ[i]? = some (.ow (.tg t (syD 0 n G)))):X5 ρ (i,[.un],syD 0 n G) (syD 0 n G')=some ((inv i ρ).set i (.ow (.tg t (syD 0 n G')))):=by
 rw[z3I,h]
 rfl
theorem z2B (ρ:Env) (d:D) (hd:noL d=true) (T:D) (t:Nat) (s1:Sl) (h:ρ=[.ow (.tg t T),s1,.no]) (h1:NB s1):zc9 (.p "Clash" "ring" d) [("Clash",2,fun ea edx=>(I0 (p5 (z6 (z8 (.str "clash")) (z6 (zn6 2 ea edx "ring") y6))))),("NoFit",2,fun ea edx=>(I0 (p5 (z6 (z8 (.str "none")) (z6 (zn6 2 ea edx "paper") y6)))))] ρ=.ri ρ .own (.tup [.str "clash",d]):=by
 subst h
 rw[zy0,if_pos (by rfl),zY9]
 refine zH7 fun a dx=>?_
 simp[hd]
theorem z10 (ρ:Env) (d:D) (hd:noL d=true) (T:D) (t:Nat) (s1:Sl) (h:ρ=[.ow (.tg t T),s1,.no]) (h1:NB s1):zc9 (.p "NoFit" "paper" d) [("Clash",2,fun ea edx=>(I0 (p5 (z6 (z8 (.str "clash")) (z6 (zn6 2 ea edx "ring") y6))))),("NoFit",2,fun ea edx=>(I0 (p5 (z6 (z8 (.str "none")) (z6 (zn6 2 ea edx "paper") y6)))))] ρ=.ri ρ .own (.tup [.str "none",d]):=by
 subst h
 rw[zy0,if_neg (by rw[Ec.nm_p]; decide),if_neg (by rw[Ec.nm_p]; decide),zy0,if_pos (by rfl),zY9]
 refine zH7 fun a dx=>?_
 simp[hd]
theorem A5 {i:Nat} {b:SS} (P:Nat->Env->Prop) (lo:Int):∀ (m k:Nat) (ρ:Env),(∀ j ρ,k<=j->j < k + m->P j ρ->∃ ρ',P (j + 1) ρ'/\(b (ρ.set i (.bo [] (.int (lo + (j:Int)))))=.nx ρ'\/b (ρ.set i (.bo [] (.int (lo + (j:Int)))))=.ct ρ'))->P k ρ->∃ ρ',P (k + m) ρ'/\U0 (tgN i) b (rng (lo + (k:Int)) m) ρ=.nx ρ'
 | 0,k,ρ,_,h=>⟨ρ,by simpa using h,by simp[rng]⟩
 | m + 1,k,ρ,hb,h=>by
  obtain ⟨ρ1,h1,e1⟩:=hb k ρ (by omega) (by omega) h
  obtain ⟨ρ2,h2,e2⟩:=A5 P lo m (k + 1) ρ1 (fun j ρ hj hj'=>hb j ρ (by omega) (by omega)) h1
  refine ⟨ρ2,by rw[show k + (m + 1)=k + 1 + m by omega]; exact h2,?_⟩
  have hr:rng (lo + (k:Int)) (m + 1)=.int (lo + (k:Int))::rng (lo + ((k + 1:Nat):Int)) m:=by
   unfold rng
   rw[List.range_succ_eq_map,List.map_cons,List.map_map]
   simp only[Int.natCast_zero,Int.add_zero,List.cons.injEq,true_and]
   refine List.map_congr_left fun i _=>?_
   simp only[Function.comp,D.int.injEq]; omega
  rw[hr,r5,z7L]
  have mk:mkS (.bor []) (D.int (lo + (k:Int)))=.bo [] (.int (lo + (k:Int))):=by simp
  simp only[mk]
  rcases e1 with e1 | e1 <;> rw[e1] <;> simpa using e2
theorem nq:eqD (.lst [.str "no saying"]) (.lst [.str "no saying"])=some true:=by rw[zr2 (by decide +kernel) (by decide +kernel)]; simp
theorem z3g (s:Say):mkS .own (x9 s)=.ow (x9 s):=by cases s <;> rfl
theorem ewd (u v:Str) (h1:PyData.strOk u=true) (h2:PyData.strOk v=true):eqD (.str u) (.str v)=some (decide (u=v)):=zL7 h1 h2
def Gn:Nat->Nat->Int
 | _,0=>1
 | a,m + 1=>a * Gn a m + Gn (a + 1) m
def rk:Nat->List Int->Int
 | _,[]=>0
 | a,x::xs=>x * Gn a xs.length + rk (max a (x.toNat + 1)) xs
def un:Nat->Nat->Int->List Int
 | _,0,_=>[]
 | a,m + 1,l=>min (l / Gn a m) a::un (max a ((min (l / Gn a m) (a:Int)).toNat + 1)) m (l - min (l / Gn a m) a * Gn a m)
section
variable {f:Int->D} (hf:∀ x y,i0 (f x) (f y)=(x == y)) (hc:∀ x,cmD 63 (f x)=true) (hn:∀ x,noL (f x)=true)
include hf hc hn
end
def vt (W:List (List Int)) (j k:Nat):Int:=(W.map fun w=>if w.getD j 0=w.getD k 0 then (1:Int) else 0).sum
def gnI (W:List (List Int)) (r:List Int) (x:Int) (k:Nat):Int:=if r.getD k 0=x then vt W r.length k else (W.length:Int) - vt W r.length k
def gn (W:List (List Int)) (r:List Int) (x:Int):Int:=((List.range r.length).map (gnI W r x)).sum
def scP (W:List (List Int)) (r:List Int) (p:List Int):Int:=if r.getD (p.headD 0).toNat 0=r.getD (p.getLastD 0).toNat 0 then vt W (p.headD 0).toNat (p.getLastD 0).toNat else (W.length:Int) - vt W (p.headD 0).toNat (p.getLastD 0).toNat
def sc (W:List (List Int)) (r:List Int):Int:=((z7W r.length).map (scP W r)).sum
def NO (s:Sl):Prop:=∀ d,s≠.ow d
theorem NO.bo {is:List Nat} {d:D}:NO (.bo is d):=fun _ h=>nomatch h
theorem NO.no:NO .no:=fun _ h=>nomatch h
theorem zY5:∀ n,zv3 n≠[]
 | 0=>by simp[zv3]
 | n + 1=>fun h=>by
  obtain ⟨r,t,e⟩:=List.exists_cons_of_ne_nil (zY5 n)
  have h1:r∈zv3 n:=by rw[e]; simp
  obtain ⟨h2,h3⟩:=zt3.mp h1
  have:r++[0]∈zv3 (n + 1):=by
   refine List.mem_flatMap.mpr ⟨r,h1,zX8.mpr ⟨0,by omega,?_,rfl⟩⟩
   exact zR6 r 0
  rw[h] at this; cases this
theorem z3v {n:Nat} (h1:1<=n) (h9:n<=9):zp2 n []:=by
 obtain ⟨r,t,e⟩:=List.exists_cons_of_ne_nil (zY5 (n - 1))
 have hr:r∈zv3 (n - 1):=by rw[e]; simp
 obtain ⟨a,b⟩:=zt3.mp hr
 exact ⟨r,z3d a (by omega) (by omega),by omega,fun x hx=>by simp[pl] at hx⟩
theorem z1V {G:List (Option Say)} {i:Nat} {x:Say} (h:x∈pl (G.set i none)):x∈pl G:=by
 rw[z7r] at h ⊢
 rcases List.mem_or_eq_of_mem_set h with h | h
 ·exact h
 ·cases h
theorem zp2.sub {n:Nat} {G G':List (Option Say)} (h:zp2 n G) (hs:∀ x∈pl G',x∈pl G):zp2 n G':=by
 obtain ⟨w0,v1,v2,v3⟩:=h
 exact ⟨w0,v1,v2,fun s hx=>v3 s (hs s hx)⟩
structure SyOk (n m:Nat) (G:List (Option Say)):Prop where
 len:G.length<=m
 good:∀ s∈pl G,j0 n s
 cons:zp2 n G
theorem SyOk.nil {n m:Nat} (h1:1<=n) (h9:n<=9):SyOk n m []:=⟨by simp,fun s hs=>by simp[pl] at hs,z3v h1 h9⟩
theorem SyOk.mono {n m m':Nat} {G:List (Option Say)} (h:SyOk n m G) (hm:m<=m'):SyOk n m' G:=⟨by have:=h.len; omega,h.good,h.cons⟩
def B0 (G:List (Option Say)):List Nat:=(List.range G.length).filter fun k=>(G.getD k none).isSome
def PlR (n:Nat) (G G':List (Option Say)) (r:D):Prop:=r=.non\/∃ s f,j0 n s/\r=.tup [x9 s,f]/\z4N n G s G f/\G'=G/\noL f=true/\∃ ts,f=.tup ts
theorem z2P {n:Nat} (h1:1<=n) (h9:n<=9) {G:List (Option Say)} (hg:∀ s∈pl G,j0 n s) (hG:G.length<=400) {s:Say} (hs:j0 n s) (hw:zp2 n G):∃ out,(∀ t,i8 t (syF n G) [x9 s]=out)/\z22 n G s out:=by
 have lks:=zL4 hs
 have pe:=fun t=>z2a t n G (by omega)
 have eg:∀ t k,ze2 ["Sayings"] "given" (k,.obj t "Sayings" (syF n G))=some (k,.lst (G.map osD)):=fun t k=>zk1
 have ez:∀ t k,ze2 ["Sayings"] "size" (k,.obj t "Sayings" (syF n G))=some (k,.int n):=fun t k=>zD9
 have nkp:=zi9 n G "plain" (by decide +kernel) (by decide +kernel)
 have nkc:=zi9 n G "chain" (by decide +kernel) (by decide +kernel)
 have pll:=z2v G
 have gT:=zY0 hg hs
 obtain ⟨r,sr,RS⟩:=zX3 h1 h9 37 (pl G++[s]) gT (by simp; omega) (by have:=z7q n h9 (pl G++[s]); omega) 48 (by omega)
 have nls:noL (x9 s)=true:=zo1 s
 have ln:((pl G).map x9).length=(pl G).length:=by simp
 have lk1:∀ k,lk k ((pl G).map x9++[x9 s])=.own:=fun k=>I4 (by simp)
 have es:(pl G++[s]).map x9=(pl G).map x9++[x9 s]:=by simp
 rw[es] at sr
 have tail:∀ (s2:Sl),(NB s2\/∃ d,s2=.ow d)->¬ zv5 (stn 0 G) s->∃ out,(∀ t,(x7 (u8 (tgN 3) (p8 (X1 48) (z6 (K7 ["Sayings"] "size" (z4 0)) (z6 (w7 .Add (rmE "Sayings" "plain" i3 (z4 0) y6) (W6 (z6 (z4 1) y6))) y6)) []))
  (x7 (ifS (w5 .Eq (x8 (z4 3) (z8 (.int 0))) (z8 (.str "none"))) (zM1 "NoFit" "paper" (x8 (z4 3) (z8 (.int 1)))) t3)
  (x7 (mtS .l (zT7 ["Sayings"] "given" (O7 0)) (z6 (z4 1) y6) zj1)
  (I0 (w7 .Sub (p6 X0 (z6 (K7 ["Sayings"] "given" (z4 0)) y6)) (z8 (.int 1))))))
  [.ow (.obj t "Sayings" (syF n G)),.bo [] (x9 s),s2,.no]).finG t "Sayings" = out)/\z22 n G s out:=by
  intro s2 h2 hc
  rcases RS with ⟨w,rfl,w1,w2,w3⟩ | ⟨p,rfl,P⟩
  ·refine ⟨_,fun t=>?_,.inr (.inr ⟨hc,rfl,w,w1,w2,fun x hx=>w3 x (by rw[z2e] at hx; exact hx)⟩)⟩
   have pe':i3 [.obj t "Sayings" (syF n G)]=_:=pe t
   have lG:(G.map osD).length=G.length:=by simp
   have sp:=z72 t n G (G++[some s])
   have vs:=z0v n G
   rw[show (G++[some s]).map osD=G.map osD++[x9 s] by simp[osD]] at sp
   have eg2:∀ k,ze2 ["Sayings"] "given" (k,.obj t "Sayings" (syF n (G++[some s])))=some (k,.lst ((G++[some s]).map osD)):=fun k=>zk1
   have lG2:((G++[some s]).map osD).length=G.length + 1:=by simp
   generalize x9 s=SD at *
   generalize G.map osD=GD at *
   generalize (pl G).map x9=PD at *
   generalize (G++[some s]).map osD=GD2 at *
   generalize w.map D.int=WI at *
   rcases h2 with (rfl | ⟨d2,rfl⟩) | ⟨d2,rfl⟩ <;> simp[-V0,ez,eg,nkp,pe',lk1,sr,ln,lG,show (pl G).length + 1<=16777216 by omega,vs,sp,eg2,lG2,show G.length < 16777216 by omega,nls]
  ·refine ⟨_,fun t=>?_,.inr (.inl ⟨hc,p,rfl,P⟩)⟩
   have pe':i3 [.obj t "Sayings" (syF n G)]=_:=pe t
   have np:=P.noL
   generalize x9 s=SD at *
   generalize (pl G).map x9=PD at *
   rcases h2 with (rfl | ⟨d2,rfl⟩) | ⟨d2,rfl⟩ <;> simp[-V0,ez,eg,nkp,pe',lk1,sr,ln,show (pl G).length + 1<=16777216 by omega,np]
 have pr:P9 s=true->∃ w:Str,∃ a b:Nat,x9 s=.tup [.str w,.int a,.int b]/\a < n/\b < n/\((s=.al a b/\w = "alike")\/(s=.un a b/\w = "unlike")):=fun hp=>by
  cases s with
  | al a b=>exact ⟨"alike",a,b,rfl,hs.1,hs.2.1,.inl ⟨rfl,rfl⟩⟩
  | un a b=>exact ⟨"unlike",a,b,rfl,hs.1,hs.2.1,.inr ⟨rfl,rfl⟩⟩
  | _=>cases hp
 by_cases hp:P9 s=true
 ·obtain ⟨w,a,b,ew,ha,hb,hww⟩:=pr hp
  obtain ⟨rc,ec,CH⟩:=zN8 hg (by omega) h9 ha hb
  have good:∀ s2:Sl,(NB s2\/∃ d,s2=.ow d)->¬ zv5 (stn 0 G) s->(∀ t,(x7 (u8 (tgN 2) (z0V (rmE "Sayings" "chain" v8 (z4 0) (z6 (x8 (z4 1) (z8 (.int 1))) (z6 (x8 (z4 1) (z8 (.int 2))) y6)))))
  (ifS (O1 (w5 .IsNot (z4 2) (z8 .non)) (w5 .NotEq (x8 (z4 2) (z8 (.int 0))) (x8 (z4 1) (z8 (.int 0))))) (zM1 "Clash" "ring" (x8 (z4 2) (z8 (.int 1)))) t3))
   [.ow (.obj t "Sayings" (syF n G)),.bo [] (.tup [.str w,.int a,.int b]),.no,.no]=.nx [.ow (.obj t "Sayings" (syF n G)),.bo [] (.tup [.str w,.int a,.int b]),s2,.no])->∃ out,(∀ t,i8 t (syF n G) [x9 s]=out)/\z22 n G s out:=fun s2 g2 hc hrun=>by
   obtain ⟨out,o1,o2⟩:=tail s2 g2 hc
   refine ⟨out,fun t=>?_,o2⟩
   rw[<- o1 t,ew]
   rw[ew] at lks
   simp only[i8,zf3,A4,T5,List.length_cons,List.length_nil,Nat.reduceAdd,if_true,List.map_cons,List.map_nil,List.cons_append,List.nil_append,Nat.reduceSub,List.replicate]
   rw[U3 (ρ':=[.ow (.obj t "Sayings" (syF n G)),.bo [] (.tup [.str w,.int a,.int b]),.no,.no]) (by simp[-V0,ez,lks])]
   rw[U3 (ρ':=[.ow (.obj t "Sayings" (syF n G)),.bo [] (.tup [.str w,.int a,.int b]),s2,.no]) (by
    rw[zz3,show (w5 .Eq (p6 X0 (z6 (z4 1) y6)) (z8 (.int 3))) [.ow (.obj t "Sayings" (syF n G)),.bo [] (.tup [.str w,.int a,.int b]),.no,.no]=.ok true by simp]
    exact hrun t)]
  obtain ⟨w0,v1,v2,v3⟩:=hw
  have wm:=fun {nums c u} (h:Wk (stn 0 G) a nums c u)=>z3u (w:=w0) (fun p hp' _=>v3 p.2 (z5H G hp')) h
  rcases CH with ⟨rfl,hno⟩ | ⟨nums,u,rfl,hwk,hmin⟩
  ·refine good (.bo [] .non) (.inl (.bo _)) (fun hc=>?_) fun t=>?_
   ·rcases hc with ⟨a',b',m,e,hm⟩ | ⟨a',b',m,e,hm⟩
    ·rcases hww with ⟨rfl,_⟩ | ⟨rfl,_⟩ <;> cases e
     exact hno m 1 hm
    ·rcases hww with ⟨rfl,_⟩ | ⟨rfl,_⟩ <;> cases e
     exact hno m 0 hm
   ·have ec':v8 [.obj t "Sayings" (syF n G),.int a,.int b]=_:=ec t
    simp[nkc,ec',V9]
  ·have u2:=hwk.u2
   have ec':∀ t,v8 [.obj t "Sayings" (syF n G),.int a,.int b]=_:=ec
   by_cases same:(s=.al a b/\u=0)\/(s=.un a b/\u=1)
   ·refine good (.ow (zT2 (b,u,nums))) (.inr ⟨_,rfl⟩) (fun hc=>?_) fun t=>?_
    ·rcases hc with ⟨a',b',m,e,hm⟩ | ⟨a',b',m,e,hm⟩
     ·rcases same with ⟨e2,rfl⟩ | ⟨e2,rfl⟩ <;> rw[e2] at e <;> cases e
      rcases wm hm with ⟨h,_⟩ | ⟨_,h⟩
      ·omega
      ·rcases wm hwk with ⟨_,h'⟩ | ⟨h',_⟩
       ·exact h h'
       ·omega
     ·rcases same with ⟨e2,rfl⟩ | ⟨e2,rfl⟩ <;> rw[e2] at e <;> cases e
      rcases wm hm with ⟨_,h⟩ | ⟨h,_⟩
      ·rcases wm hwk with ⟨h',_⟩ | ⟨_,h'⟩
       ·omega
       ·exact h' h
      ·omega
    ·rcases same with ⟨e2,rfl⟩ | ⟨e2,rfl⟩
     ·have:w = "alike" := by rcases hww with ⟨_,h⟩ | ⟨h,_⟩; exact h; rw[e2] at h; cases h
      subst this
      simp[nkc,ec',V9,zT2,B4]
     ·have:w = "unlike" := by rcases hww with ⟨h,_⟩ | ⟨_,h⟩; rw[e2] at h; cases h; exact h
      subst this
      simp[nkc,ec',V9,zT2,B4]
   ·refine ⟨_,fun t=>?_,.inl ⟨nums,rfl,a,b,u,?_,hwk,hmin⟩⟩
    ·rw[ew] at lks ⊢
     rcases hww with ⟨e2,rfl⟩ | ⟨e2,rfl⟩
     ·have:u=1:=by
       by_cases q:u=0
       ·exact absurd (.inl ⟨e2,q⟩) same
       ·omega
      subst this
      simp[i8,zf3,A4,T5,-V0,ez,lks,nkc,ec',V9,zT2,B4]
     ·have:u=0:=by
       by_cases q:u=1
       ·exact absurd (.inr ⟨e2,q⟩) same
       ·omega
      subst this
      simp[i8,zf3,A4,T5,-V0,ez,lks,nkc,ec',V9,zT2,B4]
    ·rcases hww with ⟨e2,_⟩ | ⟨e2,_⟩
     ·left
      refine ⟨e2,?_⟩
      by_cases q:u=0
      ·exact absurd (.inl ⟨e2,q⟩) same
      ·omega
     ·right
      refine ⟨e2,?_⟩
      by_cases q:u=1
      ·exact absurd (.inr ⟨e2,q⟩) same
      ·omega
 ·have hc:¬ zv5 (stn 0 G) s:=fun hc=>by
   rcases hc with ⟨a,b,m,rfl,_⟩ | ⟨a,b,m,rfl,_⟩ <;> exact hp rfl
  obtain ⟨out,o1,o2⟩:=tail .no (.inl .no) hc
  refine ⟨out,fun t=>?_,o2⟩
  rw[<- o1 t]
  have two:∃ w:Str,∃ c:Int,x9 s=.tup [.str w,.int c]:=by
   cases s with
   | le c=>exact ⟨_,_,rfl⟩
   | mo c=>exact ⟨_,_,rfl⟩
   | _=>exact absurd rfl hp
  obtain ⟨w,c,ew⟩:=two
  rw[ew] at lks ⊢
  simp only[i8,zf3,A4,T5,List.length_cons,List.length_nil,Nat.reduceAdd,if_true,List.map_cons,List.map_nil,List.cons_append,List.nil_append,Nat.reduceSub,List.replicate]
  rw[U3 (ρ':=[.ow (.obj t "Sayings" (syF n G)),.bo [] (.tup [.str w,.int c]),.no,.no]) (by simp[-V0,ez,lks])]
  rw[U3 (ρ':=[.ow (.obj t "Sayings" (syF n G)),.bo [] (.tup [.str w,.int c]),.no,.no]) (by simp)]
theorem z3y {n:Nat} (h1:1<=n) (h9:n<=9) {G:List (Option Say)} (hg:∀ s∈pl G,j0 n s) (hG:G.length<=400) {s:Say} (hs:j0 n s) (hw:zp2 n G) :
  ∃ G' r,(∀ t,K0 t [syD 0 n G,x9 s]=.ok [syD 0 n G'] r)/\z4N n G s G' r:=by
 obtain ⟨out,o1,R⟩:=z2P h1 h9 hg hG hs hw
 have nk1:=zi9 n G "say" (by decide +kernel) (by decide +kernel)
 have sl:∀ t:Nat->Nat,slH [0] t 0 [syD 0 n G,x9 s]=[.ow (.tg (t 0) (syD 0 n G)),.bo [] (x9 s)]:=fun t=>by simp
 have jn1:(jn [((Kd.bor []:Kd),x9 s)]).is=[]:=by
  rw[z4S,zg0 (zo1 s)]; rfl
 have bl:∀ {t:Nat->Nat} {o:Out} {r:RH},(z08 ["BadSaying", "Clash", "NoCenser", "NoFit"] I5 [("Clash",2,fun ea edx=>(I0 (p5 (z6 (z8 (.str "clash")) (z6 (zn6 2 ea edx "ring") y6))))),("NoFit",2,fun ea edx=>(I0 (p5 (z6 (z8 (.str "none")) (z6 (zn6 2 ea edx "paper") y6)))))] [.ow (.tg (t 0) (syD 0 n G)),.bo [] (x9 s),.no])=o->o.finH [0] t=r->K0 t [syD 0 n G,x9 s]=r:=fun {t o r} e1 e2=>by
  show mkH [0] 2 3 zv1 t [syD 0 n G,x9 s]=r
  rw[z1j,if_pos (by rfl),z0e,sl,<- e2,<- e1]; rfl
 have mo:=fun (t:Nat->Nat)=>(show K3 0 [.ow (.tg (t 0) (syD 0 n G)),.bo [] (x9 s),.no]=.ok (0,[.un],.obj 0 "Sayings" (syF n G)) from rfl)
 have ms:=fun (t:Nat->Nat)=>(show (z6 (z4 1) y6) [.ow (.tg (t 0) (syD 0 n G)),.bo [] (x9 s),.no]=.ok [(Kd.bor [],x9 s)] by simp)
 have nj:0∉(jn [((Kd.bor []:Kd),x9 s)]).is:=by rw[jn1]; simp
 have pt:=fun (t:Nat->Nat) (G':List (Option Say))=>(show X5 [.ow (.tg (t 0) (syD 0 n G)),.bo [] (x9 s),.no] (0,[.un],.obj 0 "Sayings" (syF n G)) (.obj 0 "Sayings" (syF n G'))=some [.ow (.tg (t 0) (syD 0 n G')),.bo [] (x9 s),.no] by
  rw[show (.obj 0 "Sayings" (syF n G):D)=syD 0 n G from rfl,show (.obj 0 "Sayings" (syF n G'):D)=syD 0 n G' from rfl,zY2 0 n G G' _ 0 (t 0) rfl]; rfl)
 rcases R with ⟨nums,rfl,R⟩ | ⟨nc,p,rfl,P⟩ | ⟨nc,rfl,C⟩
 ·refine ⟨G,_,fun t=>?_,.inl ⟨nums,rfl,rfl,R⟩⟩
  have e1:I5 [.ow (.tg (t 0) (syD 0 n G)),.bo [] (x9 s),.no]=.ex (.p "Clash" "ring" (.scr (nums.map .int))) [.ow (.tg (t 0) (syD 0 n G)),.bo [] (x9 s),.no]:=by
   rw[ze6,zK9,z2t (mo t) nk1 (ms t) nj o1 (pt t G)]; rfl
  refine bl (t:=t) (o:=.ri [.ow (.tg (t 0) (syD 0 n G)),.bo [] (x9 s),.no] .own (.tup [.str "clash",.scr (nums.map .int)])) ?_ (by simp)
  rw[zM5,e1]
  exact (if_pos (by rw[Ec.nm_p]; decide)).trans (z2B _ _ (by simp) (syD 0 n G) (t 0) _ rfl (.bo _))
 ·refine ⟨G,_,fun t=>?_,.inr (.inl ⟨nc,p,rfl,rfl,P⟩)⟩
  have e1:I5 [.ow (.tg (t 0) (syD 0 n G)),.bo [] (x9 s),.no]=.ex (.p "NoFit" "paper" p) [.ow (.tg (t 0) (syD 0 n G)),.bo [] (x9 s),.no]:=by
   rw[ze6,zK9,z2t (mo t) nk1 (ms t) nj o1 (pt t G)]; rfl
  refine bl (t:=t) (o:=.ri [.ow (.tg (t 0) (syD 0 n G)),.bo [] (x9 s),.no] .own (.tup [.str "none",p])) ?_ (by simp)
  rw[zM5,e1]
  exact (if_pos (by rw[Ec.nm_p]; decide)).trans (z10 _ _ P.noL (syD 0 n G) (t 0) _ rfl (.bo _))
 ·refine ⟨G++[some s],_,fun t=>?_,.inr (.inr ⟨nc,rfl,rfl,C⟩)⟩
  have e1:I5 [.ow (.tg (t 0) (syD 0 n G)),.bo [] (x9 s),.no]=.ri [.ow (.tg (t 0) (syD 0 n (G++[some s]))),.bo [] (x9 s),.no] .own (.int G.length):=by
   rw[ze6,zK9,z1K (mo t) nk1 (ms t) nj o1 (pt t (G++[some s]))]; rfl
  refine bl (t:=t) (o:=.ri [.ow (.tg (t 0) (syD 0 n (G++[some s]))),.bo [] (x9 s),.no] .own (.int G.length)) ?_ (by simp)
  rw[zM5,e1]
def z7P (n:Nat) (T:List Say) (a b:Nat) (r:D):Prop:=
 (a=b/\r=.tup [.str "alike",.non]) ∨
 (a≠b/\∃ p,r=.tup [.str "alike",p]/\Pap n 37 (T++[.un a b]) p) ∨
 (a≠b/\∃ p,r=.tup [.str "unlike",p]/\Pap n 37 (T++[.al a b]) p) ∨
 (a≠b/\∃ w1 w2:List Int,r=.tup [.str "either",.tup (w1.map .int),.tup (w2.map .int)]/\(zl9 w1=true/\w1.length=n/\∀ s∈T++[.al a b],zE9 w1 s)/\(zl9 w2=true/\w2.length=n/\∀ s∈T++[.un a b],zE9 w2 s))
theorem z7P.noL {n:Nat} {T:List Say} {a b:Nat} {r:D} (h:z7P n T a b r):noL r=true:=by
 rcases h with ⟨_,rfl⟩ | ⟨_,p,rfl,P⟩ | ⟨_,p,rfl,P⟩ | ⟨_,w1,w2,rfl,_,_⟩
 ·simp
 ·simp[P.noL]
 ·simp[P.noL]
 ·simp
section
variable {n:Nat} (h1:1<=n) (h9:n<=9) {G:List (Option Say)} (hg:∀ s∈pl G,j0 n s) (hG:G.length<=900) (t:Nat)
include h1 h9 hg hG
end
theorem z2o {l:List Int} (h:l≠[]):∃ m,zf0 l=some m/\m∈l/\∀ x∈l,m<=x:=by
 cases l with
 | nil=>exact absurd rfl h
 | cons x l=>
  refine ⟨l.foldl min x,rfl,?_,?_⟩
  ·clear h
   induction l generalizing x with
   | nil=>simp
   | cons y l ih=>
    rw[List.foldl_cons]
    rcases List.mem_cons.mp (ih (min x y)) with h | h
    ·rw[h]
     rcases Int.le_total x y with q | q
     ·rw[Int.min_eq_left q]; simp
     ·rw[Int.min_eq_right q]; simp
    ·simp[h]
  ·clear h
   have key:∀ (l:List Int) (x:Int),l.foldl min x<=x/\∀ y∈l,l.foldl min x<=y:=by
    intro l
    induction l with
    | nil=>intro x; simp
    | cons z l ih=>
     intro x
     obtain ⟨a,b⟩:=ih (min x z)
     rw[List.foldl_cons]
     refine ⟨by omega,fun y hy=>?_⟩
     rcases List.mem_cons.mp hy with rfl | hy
     ·omega
     ·exact b y hy
   intro y hy
   rcases List.mem_cons.mp hy with rfl | hy
   ·exact (key l y).1
   ·exact (key l x).2 y hy
section
variable {n:Nat} (h1:1<=n) (h9:n<=9) {G:List (Option Say)} (hg:∀ s∈pl G,j0 n s) (hG:G.length<=800) (t:Nat)
include h1 h9 hg hG
end
theorem Pap.tup {n d:Nat} {S:List Say} {p:D} (h:Pap n d S p):∃ ts,p=.tup ts:=by cases h <;> exact ⟨_,rfl⟩
section
variable {n:Nat} (h1:1<=n) (h9:n<=9) {G:List (Option Say)} (hg:∀ s∈pl G,j0 n s) (hG:G.length<=800) (hc:zp2 n G) (t:Nat)
include h1 h9 hg hG hc
omit hg hG hc in
end
section
variable {n:Nat} (h1:1<=n) (h9:n<=9) {G:List (Option Say)} (hg:∀ s∈pl G,j0 n s) (hG:G.length<=400)
include h1 h9 hg hG
end
abbrev CSt:=List (List Key×D)×List (Nat×Nat)
theorem z1B {κ:Type} [DecidableEq κ] (k q:κ) (v:D):∀ r:List (κ×D),w6 (r.map fun kv=>if kv.1=k then (kv.1,v) else kv) q=if (w6 r q).isSome=true/\k=q then some v else w6 r q
 | []=>by simp[w6]
 | (x,d)::r=>by
  have ih:=z1B k q v r
  rw[List.map_cons]
  by_cases e:x=k
  ·subst e
   by_cases e2:x=q
   ·subst e2; simp[w6]
   ·simp only[if_pos,w6,e2,if_false,ih,and_false]
  ·rw[if_neg (by exact e)]
   by_cases e2:x=q
   ·subst e2
    have:¬ k=x:=fun h=>e h.symm
    simp[w6,this]
   ·simp only[w6,e2,if_false,ih]
theorem z1G {κ:Type} [DecidableEq κ] (k q:κ) (v:D):∀ r:List (κ×D),w6 (r++[(k,v)]) q=match w6 r q with | some d=>some d | none=>if k=q then some v else none
 | []=>by simp[w6]
 | (x,d)::r=>by
  have ih:=z1G k q v r
  by_cases e:x=q
  ·simp[w6,e]
  ·simp only[List.cons_append,w6,e,if_false,ih]
theorem z1v {κ:Type} [DecidableEq κ] (k:κ):∀ r:List (κ×D),(r.any fun kv=>decide (kv.1=k))=(w6 r k).isSome
 | []=>rfl
 | (x,d)::r=>by
  have ih:=z1v k r
  by_cases e:x=k <;> simp[w6,e,ih]
theorem z2w {κ:Type} [DecidableEq κ] (r:List (κ×D)) (k q:κ) (v:D):w6 (Y2 r k v) q=if k=q then some v else w6 r q:=by
 unfold Y2
 rw[z1v]
 by_cases h:(w6 r k).isSome=true
 ·rw[if_pos h,z1B]
  by_cases e:k=q
  ·subst e; rw[if_pos ⟨h,rfl⟩,if_pos rfl]
  ·rw[if_neg (fun z=>e z.2),if_neg e]
 ·rw[if_neg h,z1G]
  by_cases e:k=q
  ·subst e
   cases hv:w6 r k with
   | none=>rfl
   | some d=>rw[hv] at h; exact absurd rfl h
  ·rw[if_neg e]
   cases w6 r q <;> simp[e]
def cd1 (d:Nat) (y:Nat×Nat) (σ:CSt) (s:Say):CSt:=match lnk s y.1 with
 | some (o,e)=>if y.2 + e < 2/\(w6 σ.1 (Z7 (o,y.2 + e))).isSome=false then (Y2 σ.1 (Z7 (o,y.2 + e)) (.int ((d:Int) + 1)),σ.2++[(o,y.2 + e)]) else σ
 | none=>σ
structure CI (S:List (Nat×Say)) (a d:Nat) (kv0:List (List Key×D)) (σ:CSt):Prop where
 val:∀ z,w6 σ.1 (Z7 z)=if z∈σ.2 then some (.int ((d:Int) + 1)) else w6 kv0 (Z7 z)
 new:∀ z∈σ.2,¬ sP kv0 z/\Rd S a (d + 1) z
 nd:σ.2.Nodup
 len:σ.1.length<=kv0.length + σ.2.length
theorem CI.nil (S:List (Nat×Say)) (a d:Nat) (kv0:List (List Key×D)):CI S a d kv0 (kv0,[]):=⟨by simp,(fun z hz=>nomatch hz),by simp,by simp⟩
theorem CI.step {S:List (Nat×Say)} {a d:Nat} {kv0:List (List Key×D)} {σ:CSt} (h:CI S a d kv0 σ) {y:Nat×Nat} (hy:Rd S a d y) {s:Say} {k:Nat} (hs:(k,s)∈S):CI S a d kv0 (cd1 d y σ s):=by
 unfold cd1
 split
 ·rename_i o e hl
  split
  ·rename_i hc
   have nz:(o,y.2 + e)∉σ.2:=fun hz=>by
    have:=h.val (o,y.2 + e)
    rw[if_pos hz] at this
    rw[this] at hc
    simp at hc
   have n0:¬ sP kv0 (o,y.2 + e):=by
    have:=h.val (o,y.2 + e)
    rw[if_neg nz] at this
    unfold sP
    rw[<- this,hc.2]; simp
   refine ⟨fun z=>?_,fun z hz=>?_,?_,?_⟩
   ·rw[z2w]
    by_cases ez:(o,y.2 + e)=z
    ·subst ez; simp
    ·rw[if_neg (fun q=>ez (zt0.mp q)),h.val z]
     have:z∈σ.2++[(o,y.2 + e)]↔z∈σ.2:=by
      rw[List.mem_append,List.mem_singleton]
      exact ⟨fun q=>q.elim id fun q=>absurd q.symm ez,.inl⟩
     simp only[this]
   ·rcases List.mem_append.mp hz with hz | hz
    ·exact h.new z hz
    ·rw[List.mem_singleton.mp hz]
     exact ⟨n0,zh5.mpr ⟨y,hy,k,s,e,hs,hl,hc.1,rfl⟩⟩
   ·rw[List.nodup_append]
    exact ⟨h.nd,by simp,fun x hx z hz e=>by rw[List.mem_singleton.mp hz] at e; subst e; exact nz hx⟩
   ·have:=zq9 (kvs:=σ.1) (k:=Z7 (o,y.2 + e)) (v:=.int ((d:Int) + 1))
    have:=h.len
    simp only[List.length_append,List.length_cons,List.length_nil]
    omega
  ·exact h
 ·exact h
theorem z6L {d:Nat} {y:Nat×Nat} {σ:CSt} {s:Say} {z:Nat×Nat} (h:sP σ.1 z):sP (cd1 d y σ s).1 z:=by
 unfold cd1
 split
 ·split
  ·exact zr3.mpr (.inr h)
  ·exact h
 ·exact h
theorem z7e {d:Nat} {y:Nat×Nat} {σ:CSt} {s:Say} {o e:Nat} (hl:lnk s y.1=some (o,e)) (hu:y.2 + e < 2):sP (cd1 d y σ s).1 (o,y.2 + e):=by
 unfold cd1
 rw[hl]
 simp only
 split
 ·exact zr3.mpr (.inl rfl)
 ·rename_i hc
  unfold sP
  cases hv:(w6 σ.1 (Z7 (o,y.2 + e))).isSome with
  | true=>rfl
  | false=>exact absurd ⟨hu,hv⟩ hc
def cdY (d:Nat) (P:List Say) (σ:CSt) (y:Nat×Nat):CSt:=P.foldl (cd1 d y) σ
theorem zL5 {d:Nat} {y:Nat×Nat} {z:Nat×Nat}:∀ (P:List Say) {σ:CSt},sP σ.1 z->sP (P.foldl (cd1 d y) σ).1 z
 | [],_,h=>h
 | s::P,_,h=>zL5 P (z6L h)
theorem z1O {S:List (Nat×Say)} {a d:Nat} {kv0:List (List Key×D)} {y:Nat×Nat} (hy:Rd S a d y):∀ (P:List Say) {σ:CSt},CI S a d kv0 σ->(∀ s∈P,∃ k,(k,s)∈S)->CI S a d kv0 (P.foldl (cd1 d y) σ)/\∀ s∈P,∀ o e,lnk s y.1=some (o,e)->y.2 + e < 2->sP (P.foldl (cd1 d y) σ).1 (o,y.2 + e)
 | [],σ,h,_=>⟨h,fun s hs=>nomatch hs⟩
 | s::P,σ,h,hp=>by
  obtain ⟨k,hk⟩:=hp s List.mem_cons_self
  obtain ⟨h1,h2⟩:=z1O hy P (h.step hy hk) fun s hs=>hp s (List.mem_cons_of_mem _ hs)
  refine ⟨h1,fun s' hs' o e hl hu=>?_⟩
  rcases List.mem_cons.mp hs' with rfl | hs'
  ·exact zL5 P (z7e hl hu)
  ·exact h2 s' hs' o e hl hu
theorem zS8 {d:Nat} {P:List Say} {z:Nat×Nat}:∀ (fr:List (Nat×Nat)) {σ:CSt},sP σ.1 z->sP (fr.foldl (cdY d P) σ).1 z
 | [],_,h=>h
 | y::fr,_,h=>zS8 fr (zL5 P h)
theorem z2n {S:List (Nat×Say)} {a d:Nat} {kv0:List (List Key×D)} {P:List Say} (hp:∀ s∈P,∃ k,(k,s)∈S):∀ (fr:List (Nat×Nat)) {σ:CSt},CI S a d kv0 σ->(∀ y∈fr,Rd S a d y)->CI S a d kv0 (fr.foldl (cdY d P) σ)/\∀ y∈fr,∀ s∈P,∀ o e,lnk s y.1=some (o,e)->y.2 + e < 2->sP (fr.foldl (cdY d P) σ).1 (o,y.2 + e)
 | [],σ,h,_=>⟨h,fun s hs=>nomatch hs⟩
 | y::fr,σ,h,hy=>by
  obtain ⟨h1,h2⟩:=z1O (hy y List.mem_cons_self) P h hp
  obtain ⟨h3,h4⟩:=z2n hp fr h1 fun y hy'=>hy y (List.mem_cons_of_mem _ hy')
  refine ⟨h3,fun y' hy' s hs o e hl hu=>?_⟩
  rcases List.mem_cons.mp hy' with rfl | hy'
  ·exact zS8 fr (h2 s hs o e hl hu)
  ·exact h4 y' hy' s hs o e hl hu
structure DLev (S:List (Nat×Say)) (a d:Nat) (kv:List (List Key×D)) (fr:List (Nat×Nat)):Prop where
 val:∀ z v,w6 kv (Z7 z)=some v↔∃ k≤d,v=.int (k:Int)/\Mn S a k z
 mem:∀ z,z∈fr↔Mn S a d z
 nd:fr.Nodup
theorem DLev.sP {S:List (Nat×Say)} {a d:Nat} {kv:List (List Key×D)} {fr:List (Nat×Nat)} (h:DLev S a d kv fr) (z:Nat×Nat):sP kv z↔∃ k≤d,Mn S a k z:=by
 unfold Cz.sP
 rw[Option.isSome_iff_exists]
 exact ⟨fun ⟨v,hv⟩=>by obtain ⟨k,h1,_,h3⟩:=(h.val z v).mp hv; exact ⟨k,h1,h3⟩,fun ⟨k,h1,h2⟩=>⟨_,(h.val z _).mpr ⟨k,h1,rfl,h2⟩⟩⟩
theorem z4y {S:List (Nat×Say)} {a:Nat}:∀ {m:Nat} {z:Nat×Nat},Rd S a m z->∃ k≤m,Mn S a k z:=by
 intro m
 induction m using Nat.strongRecOn with
 | _ m ih=>
  intro z h
  by_cases q:∀ d' < m,¬ Rd S a d' z
  ·exact ⟨m,Nat.le_refl _,h,q⟩
  ·have:∃ d' < m,Rd S a d' z:=Classical.byContradiction fun w=>q fun d' h1 h2=>w ⟨d',h1,h2⟩
   obtain ⟨d',h1,h2⟩:=this
   obtain ⟨k,h3,h4⟩:=ih d' h1 h2
   exact ⟨k,by omega,h4⟩
theorem z17 {S:List (Nat×Say)} {a d:Nat} {kv:List (List Key×D)} {fr:List (Nat×Nat)} (L:DLev S a d kv fr) {P:List Say} (hp:∀ s∈P,∃ k,(k,s)∈S) (hq:∀ k s c o e,(k,s)∈S->lnk s c=some (o,e)->s∈P) :
  DLev S a (d + 1) (fr.foldl (cdY d P) (kv,[])).1 (fr.foldl (cdY d P) (kv,[])).2/\(fr.foldl (cdY d P) (kv,[])).1.length<=kv.length + (fr.foldl (cdY d P) (kv,[])).2.length:=by
 obtain ⟨C,hall⟩:=z2n hp fr (CI.nil S a d kv) fun y hy=>((L.mem y).mp hy).1
 generalize fr.foldl (cdY d P) (kv,[])=σ at *
 have hfr:∀ z,z∈σ.2↔Mn S a (d + 1) z:=fun z=>by
  constructor
  ·intro hz
   obtain ⟨n0,hr⟩:=C.new z hz
   refine ⟨hr,fun d' hd' h=>n0 ?_⟩
   obtain ⟨k,h1,h2⟩:=z4y h
   exact (L.sP z).mpr ⟨k,by omega,h2⟩
  ·intro hz
   obtain ⟨y,hy,k,s,e,h1,h2,h3,h4⟩:=zh5.mp hz.1
   have my:Mn S a d y:=⟨hy,fun d' hd' h=>hz.2 (d' + 1) (by omega) (zh5.mpr ⟨y,h,k,s,e,h1,h2,h3,h4⟩)⟩
   have sp:=hall y ((L.mem y).mpr my) s (hq k s y.1 z.1 e h1 h2) z.1 e h2 h3
   rw[<- h4] at sp
   by_cases q:z∈σ.2
   ·exact q
   ·have v:=C.val z
    rw[if_neg q] at v
    have:sP kv z:=by unfold Cz.sP at sp ⊢; rw[<- v]; exact sp
    obtain ⟨k',g1,g2⟩:=(L.sP z).mp this
    have:=g2.uniq hz
    omega
 refine ⟨⟨fun z v=>?_,hfr,C.nd⟩,C.len⟩
 rw[C.val z]
 by_cases q:z∈σ.2
 ·rw[if_pos q]
  have mz:=(hfr z).mp q
  constructor
  ·intro e
   cases e
   exact ⟨d + 1,Nat.le_refl _,by simp,mz⟩
  ·rintro ⟨k,_,rfl,hk⟩
   have:=hk.uniq mz
   subst this
   simp
 ·rw[if_neg q,L.val]
  constructor
  ·rintro ⟨k,h1,h2,h3⟩; exact ⟨k,by omega,h2,h3⟩
  ·rintro ⟨k,h1,h2,h3⟩
   refine ⟨k,?_,h2,h3⟩
   by_cases e:k=d + 1
   ·subst e; exact absurd ((hfr z).mpr h3) q
   ·omega
def yD (y:Nat×Nat):D:=.tup [.int (y.1:Nat),.int (y.2:Nat)]
theorem zT0 {d:Nat} {y:Nat×Nat} {σ:CSt} {s:Say} {z:Nat×Nat} {v:D} (h:w6 σ.1 (Z7 z)=some v):w6 (cd1 d y σ s).1 (Z7 z)=some v:=by
 unfold cd1
 split
 ·split
  ·rename_i o e _ hc
   rw[z2w]
   rw[if_neg (fun q=>by
    rw[q,h] at hc
    simp at hc)]
   exact h
  ·exact h
 ·exact h
theorem z0k {d:Nat} {y:Nat×Nat} {σ:CSt} {s:Say}:(cd1 d y σ s).1.length<=σ.1.length + 1/\(cd1 d y σ s).2.length<=σ.2.length + 1:=by
 unfold cd1
 split
 ·rename_i o e _
  split
  ·have:=zq9 (kvs:=σ.1) (k:=Z7 (o,y.2 + e)) (v:=.int ((d:Int) + 1))
   simp; exact this
  ·omega
 ·omega
theorem z4X (a0 a1 a2 d4:D) (d:Nat) (hd:d<=1000) (y:Nat×Nat) (hy:y.1<=1000/\y.2 < 2) (s:Say) (hs:P9 s=true) (σ:CSt) (hv:w6 σ.1 (Z7 y)=some (.int (d:Int))) (l1:σ.1.length<=90000) (l2:σ.2.length<=90000) (s11:Sl) (h11:s11=.no\/∃ d,s11=.ow d) :
  ∃ w x z s11',x9 s=.tup [.str w,.int x,.int z]/\(s11'=.no\/∃ d,s11'=.ow d)/\(P6 [.bo [] a0,.bo [] a1,.bo [] a2,.ow (.dtk σ.1),.bo [] d4,.ow (.lst (σ.2.map yD)),.bo [] (.int (y.1:Nat)),.bo [] (.int (y.2:Nat)),.bo [] (.str w),.bo [] (.int x),.bo [] (.int z),s11,.no] =
   .nx [.bo [] a0,.bo [] a1,.bo [] a2,.ow (.dtk (cd1 d y σ s).1),.bo [] d4,.ow (.lst ((cd1 d y σ s).2.map yD)),.bo [] (.int (y.1:Nat)),.bo [] (.int (y.2:Nat)),.bo [] (.str w),.bo [] (.int x),.bo [] (.int z),s11',.no]):=by
 have key:∀ (w:Str) (x z:Nat) (e:Nat),e<=1->lnk s y.1=(if y.1=x\/y.1=z then some (x + z - y.1,e) else none)->eqD (.str w) (.str "unlike")=some (decide (e=1)) ->
   ∃ s11',(s11'=.no\/∃ d,s11'=.ow d)/\(P6 [.bo [] a0,.bo [] a1,.bo [] a2,.ow (.dtk σ.1),.bo [] d4,.ow (.lst (σ.2.map yD)),.bo [] (.int (y.1:Nat)),.bo [] (.int (y.2:Nat)),.bo [] (.str w),.bo [] (.int (x:Nat)),.bo [] (.int (z:Nat)),s11,.no] =
   .nx [.bo [] a0,.bo [] a1,.bo [] a2,.ow (.dtk (cd1 d y σ s).1),.bo [] d4,.ow (.lst ((cd1 d y σ s).2.map yD)),.bo [] (.int (y.1:Nat)),.bo [] (.int (y.2:Nat)),.bo [] (.str w),.bo [] (.int (x:Nat)),.bo [] (.int (z:Nat)),s11',.no]):=by
  intro w x z e he hl hw
  by_cases hc:y.1=x\/y.1=z
  ·rw[if_pos hc] at hl
   have hco:(orT (w5 .Eq (z4 6) (z4 9)) (w5 .Eq (z4 6) (z4 10))) [.bo [] a0,.bo [] a1,.bo [] a2,.ow (.dtk σ.1),.bo [] d4,.ow (.lst (σ.2.map yD)),.bo [] (.int (y.1:Nat)),.bo [] (.int (y.2:Nat)),.bo [] (.str w),.bo [] (.int (x:Nat)),.bo [] (.int (z:Nat)),s11,.no]=.ok true:=by
    rcases hc with h | h
    ·simp[h]
    ·by_cases q:y.1=x
     ·simp[q]
     ·have q':¬ (y.1:Int)=x:=by omega
      simp[q',h]
   have go:(x:Int) + z - (y.1:Nat)=((x + z - y.1:Nat):Int):=by omega
   have ge:(y.2:Int) + (if e=1 then 1 else 0)=((y.2 + e:Nat):Int):=by
    by_cases h:e=1
    ·rw[if_pos h,h]; omega
    ·rw[if_neg h,show e=0 by omega]; omega
   generalize ho:x + z - y.1=o at *
   have a11:(u8 (tgN 11) (p5 (z6 (w7 .Sub (w7 .Add (z4 9) (z4 10)) (z4 6)) (z6 (w7 .Add (z4 7) (p6 zf2 (z6 (Z1 (w5 .Eq (z4 8) (z8 (.str "unlike")))) y6))) y6)))) [.bo [] a0,.bo [] a1,.bo [] a2,.ow (.dtk σ.1),.bo [] d4,.ow (.lst (σ.2.map yD)),.bo [] (.int (y.1:Nat)),.bo [] (.int (y.2:Nat)),.bo [] (.str w),.bo [] (.int (x:Nat)),.bo [] (.int (z:Nat)),s11,.no] =
     .nx [.bo [] a0,.bo [] a1,.bo [] a2,.ow (.dtk σ.1),.bo [] d4,.ow (.lst (σ.2.map yD)),.bo [] (.int (y.1:Nat)),.bo [] (.int (y.2:Nat)),.bo [] (.str w),.bo [] (.int (x:Nat)),.bo [] (.int (z:Nat)),.ow (.tup [.int (o:Nat),.int ((y.2 + e:Nat):Int)]),.no]:=by
    by_cases h:e=1
    ·rw[if_pos h] at ge
     simp[hw,h,go]
     try omega
    ·rw[if_neg h] at ge
     simp[hw,h,go]
     try omega
   have lw:(σ.2.map yD).length=σ.2.length:=by simp
   have kz:Z7 (o,y.2 + e)=[Sum.inl (o:Int),Sum.inl ((y.2 + e:Nat):Int)]:=rfl
   have ky:Z7 y=[Sum.inl (y.1:Int),Sum.inl (y.2:Int)]:=rfl
   rw[ky] at hv
   have hcd:cd1 d y σ s=if y.2 + e < 2/\(w6 σ.1 (Z7 (o,y.2 + e))).isSome=false then (Y2 σ.1 (Z7 (o,y.2 + e)) (.int ((d:Int) + 1)),σ.2++[(o,y.2 + e)]) else σ:=by unfold cd1; rw[hl]
   rw[hcd,kz]
   generalize hE:y.2 + e=E at *
   by_cases hu:E < 2/\(w6 σ.1 [Sum.inl (o:Int),Sum.inl (E:Int)]).isSome=false
   ·rw[if_pos hu]
    refine ⟨.ow (.tup [.int (o:Nat),.int (E:Nat)]),.inr ⟨_,rfl⟩,?_⟩
    rw[A1,zz3,hco]
    simp only[R.out_ok,if_true]
    rw[U3 a11]
    have hu1:(E:Int) < 2:=by omega
    rw[List.map_append]
    generalize σ.2.map yD=WD at *
    simp[hu1,hu.2,hv,S1,W5,W4,lw,show σ.1.length < 16777216 by omega,show σ.2.length < 16777216 by omega,yD]
   ·rw[if_neg hu]
    refine ⟨.ow (.tup [.int (o:Nat),.int (E:Nat)]),.inr ⟨_,rfl⟩,?_⟩
    rw[A1,zz3,hco]
    simp only[R.out_ok,if_true]
    rw[U3 a11]
    generalize σ.2.map yD=WD at *
    by_cases h2:(E:Int) < 2
    ·have h3:(w6 σ.1 [Sum.inl (o:Int),Sum.inl (E:Int)]).isSome=true:=by
      cases hq:(w6 σ.1 [Sum.inl (o:Int),Sum.inl (E:Int)]).isSome with
      | true=>rfl
      | false=>exact absurd ⟨by omega,hq⟩ hu
     simp[h2,h3,S1,W5,W4]
    ·simp[h2]
  ·rw[if_neg hc] at hl
   have q1:¬ (y.1:Int)=x:=by omega
   have q2:¬ (y.1:Int)=z:=by omega
   refine ⟨s11,h11,?_⟩
   have hcd:cd1 d y σ s=σ:=by unfold cd1; rw[hl]
   rw[hcd]
   generalize σ.2.map yD=WD at *
   simp[A1,q1,q2]
 cases s with
 | al x z=>
  obtain ⟨s11',g,e⟩:=key "alike" x z 0 (by omega) rfl (by rw[ewd _ _ j7 q8]; decide +kernel)
  exact ⟨"alike",x,z,s11',rfl,g,e⟩
 | un x z=>
  obtain ⟨s11',g,e⟩:=key "unlike" x z 1 (by omega) rfl (by rw[ewd _ _ q8 q8]; decide +kernel)
  exact ⟨"unlike",x,z,s11',rfl,g,e⟩
 | le c=>cases hs
 | mo c=>cases hs
theorem z1s (a0 a1 a2 d4:D) (d:Nat) (hd:d<=1000) (y:Nat×Nat) (hy:y.1<=1000/\y.2 < 2):∀ (P:List Say),(∀ s∈P,P9 s=true)->∀ (σ:CSt),w6 σ.1 (Z7 y)=some (.int (d:Int))->σ.1.length + P.length<=90000->σ.2.length + P.length<=90000->∀ (s8 s9 s10 s11:Sl),NB s8->NB s9->NB s10->(s11=.no\/∃ d,s11=.ow d) ->
  ∃ s8' s9' s10' s11',NB s8'/\NB s9'/\NB s10'/\(s11'=.no\/∃ d,s11'=.ow d)/\U0 (tgT (j4 (tgN 8) (j4 (tgN 9) (j4 (tgN 10) O5)))) P6 (P.map x9) [.bo [] a0,.bo [] a1,.bo [] a2,.ow (.dtk σ.1),.bo [] d4,.ow (.lst (σ.2.map yD)),.bo [] (.int (y.1:Nat)),.bo [] (.int (y.2:Nat)),s8,s9,s10,s11,.no] =
   .nx [.bo [] a0,.bo [] a1,.bo [] a2,.ow (.dtk (P.foldl (cd1 d y) σ).1),.bo [] d4,.ow (.lst ((P.foldl (cd1 d y) σ).2.map yD)),.bo [] (.int (y.1:Nat)),.bo [] (.int (y.2:Nat)),s8',s9',s10',s11',.no]
 | [],_,σ,_,_,_,s8,s9,s10,s11,h8,h9,h10,h11=>⟨s8,s9,s10,s11,h8,h9,h10,h11,by simp⟩
 | s::P,hp,σ,hv,l1,l2,s8,s9,s10,s11,h8,h9,h10,h11=>by
  simp only[List.length_cons] at l1 l2
  obtain ⟨w,x,z,s11',es,g11,e1⟩:=z4X a0 a1 a2 d4 d hd y hy s (hp s List.mem_cons_self) σ hv (by omega) (by omega) s11 h11
  have cl:=z0k (d:=d) (y:=y) (σ:=σ) (s:=s)
  obtain ⟨s8',s9',s10',s11'',k8,k9,k10,k11,e2⟩:=z1s a0 a1 a2 d4 d hd y hy P (fun s hs=>hp s (List.mem_cons_of_mem _ hs)) (cd1 d y σ s) (zT0 hv) (by omega) (by omega) (.bo [] (.str w)) (.bo [] (.int x)) (.bo [] (.int z)) s11' (.bo _) (.bo _) (.bo _) g11
  refine ⟨s8',s9',s10',s11'',k8,k9,k10,k11,?_⟩
  rw[List.map_cons,r5,es,List.foldl_cons,<- e2]
  generalize σ.2.map yD=WD at *
  generalize (cd1 d y σ s).2.map yD=WD2 at *
  simp[e1]
def prO:Option Say->Bool
 | some s=>P9 s
 | none=>false
theorem z7I (n:D) (G:List (Option Say)) (hG:G.length<=100000) (s2 s3 s4 s5 s6 s7 s8 s9 s10 s11:Sl):lcE (X9 (z4 1)) [12] (tgN 12) K4 K5 [.bo [] n,.bo [] (.lst (G.map osD)),s2,s3,s4,s5,s6,s7,s8,s9,s10,s11,.no]=.ok (.own,.lst (((pl G).filter P9).map x9)):=by
 have f1:=N1 (it:=X9 (z4 1)) (own:=[12]) (tg:=tgN 12) (ifs:=K4) (elt:=K5) (k:=.bor []) (l:=G) (f:=osD) (h:=osD) (p:=prO)
  (ρ:=[.bo [] n,.bo [] (.lst (G.map osD)),s2,s3,s4,s5,s6,s7,s8,s9,s10,s11,.no]) (by simp) (by simp) (by omega) (fun o _=>by
   refine ⟨_,rfl,?_,fun h=>?_⟩
   ·rcases o with _ | s
    ·simp[zj7,osD,prO]
    ·cases s <;> simp[zj7,osD,x9,V9,P9,prO]
   ·rcases o with _ | s
    ·cases h
    ·exact ⟨.bor [],by cases s <;> simp[zy2,osD,x9],by simp⟩)
 rw[f1]
 congr 3
 clear f1 hG
 induction G with
 | nil=>rfl
 | cons o G ih=>
  rcases o with _ | s
  ·rw[List.filter_cons_of_neg (by simp[prO]),show pl (none::G)=pl G from rfl]; exact ih
  ·by_cases h:P9 s=true
   ·rw[List.filter_cons_of_pos (by exact h),show pl (some s::G)=s::pl G from rfl,List.filter_cons_of_pos h,List.map_cons,List.map_cons,ih]; rfl
   ·rw[List.filter_cons_of_neg (by exact h),show pl (some s::G)=s::pl G from rfl,List.filter_cons_of_neg h]; exact ih
theorem z0o {d:Nat} {y:Nat×Nat}:∀ (P:List Say) (σ:CSt),(P.foldl (cd1 d y) σ).1.length<=σ.1.length + P.length/\(P.foldl (cd1 d y) σ).2.length<=σ.2.length + P.length
 | [],σ=>by simp
 | s::P,σ=>by
  have a:=z0k (d:=d) (y:=y) (σ:=σ) (s:=s)
  have b:=z0o (d:=d) (y:=y) P (cd1 d y σ s)
  rw[List.foldl_cons,List.length_cons]; omega
theorem zV7 {d:Nat} {y:Nat×Nat} {z:Nat×Nat} {v:D}:∀ (P:List Say) {σ:CSt},w6 σ.1 (Z7 z)=some v->w6 (P.foldl (cd1 d y) σ).1 (Z7 z)=some v
 | [],_,h=>h
 | s::P,_,h=>zV7 P (zT0 h)
theorem z0c (n a2 d4:D) (G:List (Option Say)) (hG:G.length<=1000) (d:Nat) (hd:d<=1000):∀ (fr:List (Nat×Nat)),(∀ y∈fr,y.1<=1000/\y.2 < 2)->∀ (σ:CSt),(∀ y∈fr,w6 σ.1 (Z7 y)=some (.int (d:Int)))->σ.1.length + 1000 * fr.length<=80000->σ.2.length + 1000 * fr.length<=80000->∀ (s6 s7 s8 s9 s10 s11:Sl),NB s6->NB s7->NB s8->NB s9->NB s10->(s11=.no\/∃ d,s11=.ow d) ->
  ∃ s6' s7' s8' s9' s10' s11',NB s6'/\NB s7'/\NB s8'/\NB s9'/\NB s10'/\(s11'=.no\/∃ d,s11'=.ow d)/\U0 (tgT (j4 (tgN 6) (j4 (tgN 7) O5))) C9 (fr.map yD) [.bo [] n,.bo [] (.lst (G.map osD)),.bo [] a2,.ow (.dtk σ.1),.bo [] d4,.ow (.lst (σ.2.map yD)),s6,s7,s8,s9,s10,s11,.no] =
   .nx [.bo [] n,.bo [] (.lst (G.map osD)),.bo [] a2,.ow (.dtk (fr.foldl (cdY d ((pl G).filter P9)) σ).1),.bo [] d4,.ow (.lst ((fr.foldl (cdY d ((pl G).filter P9)) σ).2.map yD)),s6',s7',s8',s9',s10',s11',.no]
 | [],_,σ,_,_,_,s6,s7,s8,s9,s10,s11,h6,h7,h8,h9,h10,h11=>⟨s6,s7,s8,s9,s10,s11,h6,h7,h8,h9,h10,h11,by simp⟩
 | y::fr,hy,σ,hv,l1,l2,s6,s7,s8,s9,s10,s11,h6,h7,h8,h9,h10,h11=>by
  simp only[List.length_cons] at l1 l2
  have pl1:((pl G).filter P9).length<=1000:=Nat.le_trans (List.length_filter_le _ _) (Nat.le_trans (z2v G) hG)
  obtain ⟨s8',s9',s10',s11',k8,k9,k10,k11,e1⟩:=z1s n (.lst (G.map osD)) a2 d4 d hd y (hy y List.mem_cons_self) ((pl G).filter P9) (fun s hs=>(List.mem_filter.mp hs).2) σ (hv y List.mem_cons_self) (by omega) (by omega) s8 s9 s10 s11 h8 h9 h10 h11
  have cl:=z0o (d:=d) (y:=y) ((pl G).filter P9) σ
  obtain ⟨s6',s7',t8,t9,t10,t11,g6,g7,g8,g9,g10,g11,e2⟩:=z0c n a2 d4 G hG d hd fr (fun z hz=>hy z (List.mem_cons_of_mem _ hz)) (cdY d ((pl G).filter P9) σ y) (fun z hz=>zV7 _ (hv z (List.mem_cons_of_mem _ hz))) (by unfold cdY; omega) (by unfold cdY; omega) (.bo [] (.int (y.1:Nat))) (.bo [] (.int (y.2:Nat))) s8' s9' s10' s11' (.bo _) (.bo _) k8 k9 k10 k11
  refine ⟨s6',s7',t8,t9,t10,t11,g6,g7,g8,g9,g10,g11,?_⟩
  have pr:=z7I n G (by omega) (.bo [] a2) (.ow (.dtk σ.1)) (.bo [] d4) (.ow (.lst (σ.2.map yD))) (.bo [] (.int (y.1:Nat))) (.bo [] (.int (y.2:Nat))) s8 s9 s10 s11
  rw[List.map_cons,r5,List.foldl_cons,<- e2]
  unfold cdY
  unfold cdY at e2
  generalize G.map osD=GD at *
  generalize σ.2.map yD=WD at *
  generalize (((pl G).filter P9).foldl (cd1 d y) σ).2.map yD=WD2 at *
  generalize ((pl G).filter P9).map x9=PD at *
  simp[yD,zy3,pr,e1]
theorem z5X {S:List (Nat×Say)} {a d:Nat} (h:∀ z,¬ Mn S a d z):∀ k z,Mn S a k z->k < d:=by
 have none_d:∀ m z,¬ Mn S a (d + m) z:=by
  intro m
  induction m with
  | zero=>intro z hz; exact h z hz
  | succ m ih=>intro z hz; obtain ⟨y,hy⟩:=Mn.pred (d:=d + m) hz; exact ih y hy
 intro k z hk
 by_cases q:k < d
 ·exact q
 ·have:=none_d (k - d) z
  rw[show d + (k - d)=k by omega] at this
  exact absurd hk this
def z06 (S:List (Nat×Say)) (a:Nat) (kv:List (List Key×D)):Prop:=∀ z v,w6 kv (Z7 z)=some v↔∃ k:Nat,v=.int (k:Int)/\Mn S a k z
theorem DLev.fin {S:List (Nat×Say)} {a d:Nat} {kv:List (List Key×D)} (L:DLev S a d kv []):z06 S a kv:=fun z v=>by
 rw[L.val]
 constructor
 ·rintro ⟨k,_,h2,h3⟩; exact ⟨k,h2,h3⟩
 ·rintro ⟨k,h2,h3⟩
  have:=z5X (fun z hz=>nomatch (L.mem z).mpr hz) k z h3
  exact ⟨k,by omega,h2,h3⟩
theorem z6W {n:Nat} {G:List (Option Say)} (hg:∀ s∈pl G,j0 n s) (hG:G.length<=1000) {a:Nat} (ha:a < n) (hn:n<=9) (a2:D) :
  ∀ (m d:Nat) (kv:List (List Key×D)) (fr:List (Nat×Nat)) (s5 s6 s7 s8 s9 s10 s11:Sl),d + m=2 * n->DLev (stn 0 G) a d kv fr->kv.length<=20 * (d + 1)->(NB s5\/∃ d5,s5=.bo [4] d5)->NB s6->NB s7->NB s8->NB s9->NB s10->(s11=.no\/∃ d,s11=.ow d) ->
  ∃ kv' t4 t5 t6 t7 t8 t9 t10 t11,z06 (stn 0 G) a kv'/\whS C3 C7 [.bo [] (.int n),.bo [] (.lst (G.map osD)),.bo [] a2,.ow (.dtk kv),.ow (.lst (fr.map yD)),s5,s6,s7,s8,s9,s10,s11,.no] =
   .nx [.bo [] (.int n),.bo [] (.lst (G.map osD)),.bo [] a2,.ow (.dtk kv'),t4,t5,t6,t7,t8,t9,t10,t11,.no]:=by
 have hgs:∀ p∈stn 0 G,j0 n p.2:=fun p hp=>hg p.2 (by rw[<- B1 G 0]; exact List.mem_map.mpr ⟨p,hp,rfl⟩)
 have hp:∀ s∈(pl G).filter P9,∃ k,(k,s)∈stn 0 G:=fun s hs=>by
  have:=(List.mem_filter.mp hs).1
  rw[<- B1 G 0] at this
  obtain ⟨p,hp,rfl⟩:=List.mem_map.mp this
  exact ⟨p.1,hp⟩
 have hq:∀ k s c o e,(k,s)∈stn 0 G->lnk s c=some (o,e)->s∈(pl G).filter P9:=fun k s c o e h1 h2=>List.mem_filter.mpr ⟨by rw[<- B1 G 0]; exact List.mem_map.mpr ⟨_,h1,rfl⟩,z1u h2⟩
 intro m
 induction m with
 | zero=>
  intro d kv fr s5 s6 s7 s8 s9 s10 s11 hd L hk h5 h6 h7 h8 h9 h10 h11
  cases fr with
  | nil=>exact ⟨kv,.ow (.lst []),s5,s6,s7,s8,s9,s10,s11,L.fin,by rw[zh7]; simp[B8]⟩
  | cons y r=>
   have:=zB8 hgs ha d y ((L.mem _).mp List.mem_cons_self)
   omega
 | succ m ih=>
  intro d kv fr s5 s6 s7 s8 s9 s10 s11 hd L hk h5 h6 h7 h8 h9 h10 h11
  cases fr with
  | nil=>exact ⟨kv,.ow (.lst []),s5,s6,s7,s8,s9,s10,s11,L.fin,by rw[zh7]; simp[B8]⟩
  | cons y r=>
   obtain ⟨L2,hlen⟩:=z17 L hp hq
   have inb:∀ {k:Nat} {z:Nat×Nat},Mn (stn 0 G) a k z->z.1 < n/\z.2 < 2:=fun {k z} h=>by
    obtain ⟨nums,_,w⟩:=h.1
    exact ⟨w.lt hgs ha,w.u2⟩
   have fl:=zs5 L.nd (n:=n) fun z hz=>inb ((L.mem z).mp hz)
   have fl2:=zs5 L2.nd (n:=n) fun z hz=>inb ((L2.mem z).mp hz)
   have fl3:((y::r).map yD).length=r.length + 1:=by simp
   obtain ⟨s6',s7',s8',s9',s10',s11',g6,g7,g8,g9,g10,g11,e1⟩:=z0c (.int n) a2 (.lst ((y::r).map yD)) G hG d (by omega) (y::r) (fun z hz=>by have:=inb ((L.mem z).mp hz); omega) (kv,[]) (fun z hz=>(L.val z _).mpr ⟨d,Nat.le_refl _,rfl,(L.mem z).mp hz⟩) (by simp only; omega) (by simp only[List.length_nil]; omega) s6 s7 s8 s9 s10 s11 h6 h7 h8 h9 h10 h11
   obtain ⟨kv',t4,t5,t6,t7,t8,t9,t10,t11,hE,e2⟩:=ih (d + 1) _ _ (.bo [4] (.lst ((List.foldl (cdY d ((pl G).filter P9)) (kv,[]) (y::r)).2.map yD))) s6' s7' s8' s9' s10' s11' (by omega) L2 (by omega) (.inr ⟨_,rfl⟩) g6 g7 g8 g9 g10 g11
   refine ⟨kv',t4,t5,t6,t7,t8,t9,t10,t11,hE,?_⟩
   have ht:C3 [.bo [] (.int n),.bo [] (.lst (G.map osD)),.bo [] a2,.ow (.dtk kv),.ow (.lst ((y::r).map yD)),s5,s6,s7,s8,s9,s10,s11,.no]=.ok true:=by
    generalize (y::r).map yD=FR at fl3 ⊢
    simp[B8,fl3]
   rw[zh7,ht]
   simp only[R.out_ok,if_true]
   have e:C7 [.bo [] (.int n),.bo [] (.lst (G.map osD)),.bo [] a2,.ow (.dtk kv),.ow (.lst ((y::r).map yD)),s5,s6,s7,s8,s9,s10,s11,.no]=.nx [.bo [] (.int n),.bo [] (.lst (G.map osD)),.bo [] a2,.ow (.dtk (List.foldl (cdY d ((pl G).filter P9)) (kv,[]) (y::r)).1),.ow (.lst ((List.foldl (cdY d ((pl G).filter P9)) (kv,[]) (y::r)).2.map yD)),.bo [4] (.lst ((List.foldl (cdY d ((pl G).filter P9)) (kv,[]) (y::r)).2.map yD)),s6',s7',s8',s9',s10',s11',.no]:=by
    simp only[List.map_nil] at e1
    generalize (List.foldl (cdY d ((pl G).filter P9)) (kv,[]) (y::r)).2.map yD=W2 at *
    generalize (y::r).map yD=FR at *
    generalize G.map osD=GD at *
    have r6:rlb 5 4 s6'=s6':=by rcases g6 with rfl | ⟨_,rfl⟩ <;> rfl
    have r7:rlb 5 4 s7'=s7':=by rcases g7 with rfl | ⟨_,rfl⟩ <;> rfl
    have r8:rlb 5 4 s8'=s8':=by rcases g8 with rfl | ⟨_,rfl⟩ <;> rfl
    have r9:rlb 5 4 s9'=s9':=by rcases g9 with rfl | ⟨_,rfl⟩ <;> rfl
    have r10:rlb 5 4 s10'=s10':=by rcases g10 with rfl | ⟨_,rfl⟩ <;> rfl
    have r11:rlb 5 4 s11'=s11':=by rcases g11 with rfl | ⟨_,rfl⟩ <;> rfl
    simp[zA7,e1,r6,r7,r8,r9,r10,r11]
   rw[e]
   exact e2
theorem zV1 {n:Nat} {G:List (Option Say)} (hg:∀ s∈pl G,j0 n s) (hG:G.length<=1000) {a:Nat} (ha:a < n) (hn:n<=9):∃ kv,L7 [.int n,.lst (G.map osD),.int a]=.ok (.own,.dtk kv)/\z06 (stn 0 G) a kv:=by
 have r0:∀ y,Rd (stn 0 G) a 0 y↔y=(a,0):=fun y=>by
  refine ⟨fun ⟨nums,hl,w⟩=>?_,fun h=>⟨[],rfl,by rw[h]; exact .nil⟩⟩
  obtain ⟨y1,y2⟩:=y
  cases w with
  | nil=>rfl
  | snoc=>simp at hl
 have m0:∀ z,Mn (stn 0 G) a 0 z↔z=(a,0):=fun z=>⟨fun h=>(r0 z).mp h.1,fun h=>⟨(r0 z).mpr h,fun d' hd=>by omega⟩⟩
 have L:DLev (stn 0 G) a 0 [(Z7 (a,0),.int 0)] [(a,0)]:=⟨fun z v=>by
  simp only[w6]
  by_cases e:Z7 (a,0)=Z7 z
  ·rw[if_pos e]
   have ez:=zt0.mp e
   constructor
   ·intro h; cases h; exact ⟨0,Nat.le_refl _,rfl,(m0 z).mpr ez.symm⟩
   ·rintro ⟨k,hk,rfl,_⟩
    have:k=0:=by omega
    subst this; rfl
  ·rw[if_neg e]
   constructor
   ·intro h; cases h
   ·rintro ⟨k,hk,rfl,h⟩
    have:k=0:=by omega
    subst this
    exact absurd (by rw[(m0 z).mp h]) e,fun z=>by rw[m0]; simp,by simp⟩
 obtain ⟨kv',t4,t5,t6,t7,t8,t9,t10,t11,hE,e⟩:=z6W hg hG ha hn (.int a) (2 * n) 0 [(Z7 (a,0),.int 0)] [(a,0)] .no .no .no .no .no .no .no (by omega) L (by simp) (.inl .no) .no .no .no .no .no (.inl rfl)
 refine ⟨kv',?_,hE⟩
 have kz:Z7 (a,0)=[Sum.inl (a:Int),Sum.inl 0]:=rfl
 rw[kz] at e
 simp[yD] at e
 generalize G.map osD=GD at *
 simp[L7,t0,zl1,S1,W5,W4,e]
theorem z15 {G:List (Option Say)} {a:Nat} (N A B:D) {nums:List Int} {c u:Nat} (h:Wk (stn 0 G) a nums c u):∃ s6 s7 s8 s9,NB s6/\NB s7/\NB s8/\NB s9/\∀ rest,U0 (tgN 6) Q7 (nums.map D.int++rest) [.bo [] (.lst (G.map osD)),.bo [] N,.bo [] A,.bo [] B,.bo [] (.int (a:Nat)),.bo [] (.int 0),.no,.no,.no,.no]=U0 (tgN 6) Q7 rest [.bo [] (.lst (G.map osD)),.bo [] N,.bo [] A,.bo [] B,.bo [] (.int (c:Nat)),.bo [] (.int (u:Nat)),s6,s7,s8,s9]:=by
 induction h with
 | nil=>exact ⟨_,_,_,_,.no,.no,.no,.no,fun rest=>rfl⟩
 | @snoc nums c u k o e s hw hs hk hu ih=>
  obtain ⟨s6,s7,s8,s9,g6,g7,g8,g9,ih⟩:=ih
  obtain ⟨j,hj,hG⟩:=zM3.mp hs
  rw[Nat.zero_add] at hj
  subst hj
  have hlt:k < G.length:=(List.getElem?_eq_some_iff.mp hG).1
  have at1:atI (G.map osD) (k:Int)=some (x9 s):=by rw[zr5 _ _ (by omega)]; simp[hG,osD]
  have lG:(G.map osD).length=G.length:=by simp
  have run:∃ w x z,x9 s=.tup [.str w,.int x,.int z]/\Q7 [.bo [] (.lst (G.map osD)),.bo [] N,.bo [] A,.bo [] B,.bo [] (.int (c:Nat)),.bo [] (.int (u:Nat)),.bo [] (.int (k:Nat)),s7,s8,s9]=.nx [.bo [] (.lst (G.map osD)),.bo [] N,.bo [] A,.bo [] B,.bo [] (.int (o:Nat)),.bo [] (.int ((u + e:Nat):Int)),.bo [] (.int (k:Nat)),.bo [] (.str w),.bo [] (.int x),.bo [] (.int z)]:=by
   have key:∀ (w:Str) (x z:Nat) (e':Nat),e'<=1->x9 s=.tup [.str w,.int (x:Nat),.int (z:Nat)]->lnk s c=(if c=x\/c=z then some (x + z - c,e') else none)->eqD (.str w) (.str "unlike")=some (decide (e'=1)) ->
     Q7 [.bo [] (.lst (G.map osD)),.bo [] N,.bo [] A,.bo [] B,.bo [] (.int (c:Nat)),.bo [] (.int (u:Nat)),.bo [] (.int (k:Nat)),s7,s8,s9]=.nx [.bo [] (.lst (G.map osD)),.bo [] N,.bo [] A,.bo [] B,.bo [] (.int (o:Nat)),.bo [] (.int ((u + e:Nat):Int)),.bo [] (.int (k:Nat)),.bo [] (.str w),.bo [] (.int (x:Nat)),.bo [] (.int (z:Nat))]:=by
    intro w x z e' he hsd hl hw'
    by_cases hc:c=x\/c=z
    ·rw[if_pos hc,hk] at hl
     simp only[Option.some.injEq,Prod.mk.injEq] at hl
     obtain ⟨l1,l2⟩:=hl
     subst l2
     have go:(x:Int) + z - (c:Nat)=(o:Int):=by omega
     have tst:(O1 (w5 .NotEq (z4 4) (z4 8)) (w5 .NotEq (z4 4) (z4 9))) [.bo [] (.lst (G.map osD)),.bo [] N,.bo [] A,.bo [] B,.bo [] (.int (c:Nat)),.bo [] (.int (u:Nat)),.bo [] (.int (k:Nat)),.bo [] (.str w),.bo [] (.int (x:Nat)),.bo [] (.int (z:Nat))]=.ok false:=by
      rcases hc with h | h
      ·simp[h]
      ·by_cases q:c=x
       ·simp[q]
       ·have q':¬ (c:Int)=x:=by omega
        simp[q',h]
     rw[hsd] at at1
     generalize G.map osD=GD at *
     rw[zB4]
     rw[U3 (ρ':=[.bo [] (.lst GD),.bo [] N,.bo [] A,.bo [] B,.bo [] (.int (c:Nat)),.bo [] (.int (u:Nat)),.bo [] (.int (k:Nat)),s7,s8,s9]) (by simp[lG,hlt,at1,V9])]
     rw[U3 (ρ':=[.bo [] (.lst GD),.bo [] N,.bo [] A,.bo [] B,.bo [] (.int (c:Nat)),.bo [] (.int (u:Nat)),.bo [] (.int (k:Nat)),.bo [] (.str w),.bo [] (.int (x:Nat)),.bo [] (.int (z:Nat))]) (by simp[at1])]
     rw[U3 (ρ':=[.bo [] (.lst GD),.bo [] N,.bo [] A,.bo [] B,.bo [] (.int (c:Nat)),.bo [] (.int (u:Nat)),.bo [] (.int (k:Nat)),.bo [] (.str w),.bo [] (.int (x:Nat)),.bo [] (.int (z:Nat))]) (by rw[zz3,tst]; rfl)]
     rw[U3 (ρ':=[.bo [] (.lst GD),.bo [] N,.bo [] A,.bo [] B,.bo [] (.int (o:Nat)),.bo [] (.int (u:Nat)),.bo [] (.int (k:Nat)),.bo [] (.str w),.bo [] (.int (x:Nat)),.bo [] (.int (z:Nat))]) (by simp[go])]
     by_cases h:e=1
     ·simp[hw',h]
     ·have:e=0:=by omega
      subst this
      simp[hw']
    ·rw[if_neg hc,hk] at hl; cases hl
   cases s with
   | al x z=>exact ⟨"alike",x,z,rfl,key "alike" x z 0 (by omega) rfl rfl (by rw[ewd _ _ j7 q8]; decide +kernel)⟩
   | un x z=>exact ⟨"unlike",x,z,rfl,key "unlike" x z 1 (by omega) rfl rfl (by rw[ewd _ _ q8 q8]; decide +kernel)⟩
   | le c=>cases hk
   | mo c=>cases hk
  obtain ⟨w,x,z,_,run⟩:=run
  refine ⟨.bo [] (.int (k:Nat)),.bo [] (.str w),.bo [] (.int x),.bo [] (.int z),.bo _,.bo _,.bo _,.bo _,fun rest=>?_⟩
  rw[List.map_append,List.map_cons,List.map_nil,List.append_assoc,List.singleton_append,ih,r5]
  generalize G.map osD=GD at *
  simp at run
  simp[run]
def zk6 (kv:List (List Key×D)) (b:Nat) (t:Nat):Int:=match w6 kv (Z7 (b,t)) with
 | some (.int k)=>k
 | _=>0
theorem z0J {n:Nat} (h1:1<=n) (h9:n<=9) {m:Nat} (hm:m<=400) {G:List (Option Say)} (hG:SyOk n m G) (c:Int) {jj:Nat} (hc:Cel jj c) (hjj:jj<=100) :
  ∃ G' r,(∀ t,b6 t [syD 0 n G,.int c,.int n,.lst (G.map osD)]=.ok [syD 0 n G',.lst (G'.map osD)] r)/\SyOk n (m + 1) G'/\PlR n G G' r:=by
 have hl:=hG.len
 obtain ⟨sp,e3,sl0,sc⟩:=z3K c jj 2 0 hc (by omega) (by decide) (by decide)
 obtain ⟨x,y,rfl⟩:∃ x y,sp=[x,y]:=by
  match sp,sl0 with
  | [x,y],_=>exact ⟨x,y,rfl⟩
 have e3':B3 [.int c,.int 2,.int 0]=.ok (.own,.lst [.int x,.int y]):=e3
 obtain ⟨row,e5,r⟩:=zF9 x [5,64] (by decide) (by decide)
 cases r with
 | @cons _ r0 _ _ a0 b0 r=>
 cases r with
 | @cons _ r1 _ _ a1 b1 r=>
 cases r
 simp at e5
 have lG:(G.map osD).length=G.length:=by simp
 have rg:T2 (G.length:Int)=true:=S7 (by omega) (by omega)
 have rg0:T2 0=true:=S7 (by omega) (by omega)
 obtain ⟨SD,hSD⟩:∃ SD,SD=(B0 G).map fun k:Nat=>D.int (k:Int):=⟨_,rfl⟩
 have nlS:noLs SD=true:=by rw[hSD]; exact zh9 fun k _=>by simp
 have lS:SD.length=(B0 G).length:=by rw[hSD]; simp
 have lS2:(B0 G).length<=G.length:=by unfold B0; exact Nat.le_trans (List.length_filter_le _ _) (by simp)
 have head:∀ (t:Nat->Nat) (o:Out) (r':RH),(x7 (ifS (O1 (w5 .Eq (x8 (z4 6) (z8 (.int 0))) (z8 (.int 0))) (w5 .Gt (p6 X0 (z6 (z4 7) y6)) (z8 (.int 0)))) (x7 (u8 (tgN 8) (x8 (z4 7) (w7 .Mod (x8 (z4 6) (z8 (.int 1))) (p6 X0 (z6 (z4 7) y6)))))
  (x7 (zu4 (mcM "Sayings" "withdraw" p7 (K3 0) (z6 (z4 8) y6)))
  (x7 (zc5 (K3 3) (z4 8) (z8 .non))
  (I0 (z8 .non))))) t3)
  (x7 (u8 (tgN 9) (p8 N0 (z6 (z4 5) (z6 (z4 2) y6)) []))
  (x7 (z0N (tgN 10) (hcM K0 [0] (pH (K3 0) (vH (z4 9) zE7))))
  (x7 (ifS (D5 (zq1 (z4 10) "tuple")) (I0 (p5 (z6 (z4 9) (z6 (z4 10) y6)))) t3)
  (x7 (mtS .l (K3 3) (z6 (z4 9) y6) zj1)
  (I0 (z8 .non)))))))
   [.ow (.tg (t 0) (syD 0 n G)),.bo [] (.int c),.bo [] (.int n),.ow (.tg (t 3) (.lst (G.map osD))),.bo [] (.int x),.bo [] (.int y),.ow (.lst [.int r0,.int r1]),.ow (.lst SD),.no,.no,.no,.no]=o->o.finH [0,3] t=r'->b6 t [syD 0 n G,.int c,.int n,.lst (G.map osD)]=r':=by
  intro t o r' h1 h2
  show mkH [0,3] 4 12 P3 t [syD 0 n G,.int c,.int n,.lst (G.map osD)]=r'
  have sl:slH [0,3] t 0 [syD 0 n G,.int c,.int n,.lst (G.map osD)]=[.ow (.tg (t 0) (syD 0 n G)),.bo [] (.int c),.bo [] (.int n),.ow (.tg (t 3) (.lst (G.map osD)))]:=by simp
  rw[z1j,if_pos (by rfl),z0e,sl,<- h2,<- h1]
  congr 1
  simp only[List.length_cons,List.length_nil,Nat.reduceAdd,Nat.reduceSub,List.replicate,List.cons_append,List.nil_append]
  unfold P3
  rw[U3 (ρ':=[.ow (.tg (t 0) (syD 0 n G)),.bo [] (.int c),.bo [] (.int n),.ow (.tg (t 3) (.lst (G.map osD))),.bo [] (.int x),.bo [] (.int y),.no,.no,.no,.no,.no,.no]) (by
   generalize syD 0 n G=YD
   generalize G.map osD=GD
   simp[e3'])]
  rw[U3 (ρ':=[.ow (.tg (t 0) (syD 0 n G)),.bo [] (.int c),.bo [] (.int n),.ow (.tg (t 3) (.lst (G.map osD))),.bo [] (.int x),.bo [] (.int y),.ow (.lst [.int r0,.int r1]),.no,.no,.no,.no,.no]) (by
   generalize syD 0 n G=YD
   generalize G.map osD=GD
   simp[e5])]
  have f1:=N1 (it:=M6 (p6 X0 (z6 (zG5 3) y6))) (own:=[11]) (tg:=tgN 11) (ifs:=M9) (elt:=M8) (k:=.own) (l:=List.range G.length) (f:=fun k:Nat=>.int (0 + (k:Int))) (h:=fun k:Nat=>.int (k:Int)) (p:=fun k=>(G.getD k none).isSome)
   (ρ:=[.ow (.tg (t 0) (syD 0 n G)),.bo [] (.int c),.bo [] (.int n),.ow (.tg (t 3) (.lst (G.map osD))),.bo [] (.int x),.bo [] (.int y),.ow (.lst [.int r0,.int r1]),.no,.no,.no,.no,.no]) (by simp[rg,rng]) (by simp) (by simp; omega) (fun k hk=>by
    have hk:=List.mem_range.mp hk
    have at1:atI (G.map osD) (k:Int)=some (osD (G.getD k none)):=by rw[zr5 _ _ (by omega)]; simp[List.getD,hk]
    generalize G.getD k none=q at *
    generalize G.map osD=GD at *
    refine ⟨_,rfl,?_,fun _=>⟨.bor [],by simp[zk8],rfl⟩⟩
    rcases q with _ | s
    ·simp[E7,at1,osD]
    ·cases s <;> simp[E7,at1,osD,x9,V9])
  have fe:((List.range G.length).filter fun k=>(G.getD k none).isSome).map (fun k:Nat=>D.int (k:Int))=SD:=hSD.symm
  rw[fe] at f1
  rw[U3 (ρ':=[.ow (.tg (t 0) (syD 0 n G)),.bo [] (.int c),.bo [] (.int n),.ow (.tg (t 3) (.lst (G.map osD))),.bo [] (.int x),.bo [] (.int y),.ow (.lst [.int r0,.int r1]),.ow (.lst SD),.no,.no,.no,.no]) (by
   rw[z6a,f1]; rfl)]
 by_cases c1:r0=0/\0 < (B0 G).length
 ·obtain ⟨z0,z1⟩:=c1
  subst z0
  obtain ⟨k,hk,ek⟩:∃ k,k∈B0 G/\atI SD (r1 % ((B0 G).length:Int))=some (.int (k:Nat)):=by
   have p0:=Int.emod_nonneg r1 (show ((B0 G).length:Int)≠0 by omega)
   have p1:=Int.emod_lt_of_pos r1 (show (0:Int) < (B0 G).length by omega)
   rw[zr5 _ _ p0,hSD]
   have hlt:(r1 % ((B0 G).length:Int)).toNat < (B0 G).length:=by omega
   exact ⟨(B0 G)[(r1 % ((B0 G).length:Int)).toNat],List.getElem_mem hlt,by simp[hlt]⟩
  unfold B0 at hk
  obtain ⟨hk1,hk2⟩:=List.mem_filter.mp hk
  have hk1:=List.mem_range.mp hk1
  obtain ⟨s,hs⟩:=Option.isSome_iff_exists.mp hk2
  have gw:=fun t=>z3B t n G k (by omega)
  rw[if_pos ⟨by omega,by omega⟩,show ((k:Int).toNat)=k by omega,hs] at gw
  have nk1:=zi9 n G "withdraw" (by decide +kernel) (by decide +kernel)
  refine ⟨G.set k none,.non,fun t=>?_,⟨by simp; omega,fun s hs=>hG.good s (z1V hs),hG.cons.sub fun x hx=>z1V hx⟩,.inl rfl⟩
  have ss:=zL0 G k
  have ix:ixN G.length (k:Int)=some k:=by unfold ixN; rw[if_pos (by omega),if_pos (by omega)]; simp
  refine head t (.ri [.ow (.tg (t 0) (syD 0 n (G.set k none))),.bo [] (.int c),.bo [] (.int n),.ow (.tg (t 3) (.lst ((G.set k none).map osD))),.bo [] (.int x),.bo [] (.int y),.ow (.lst [.int 0,.int r1]),.ow (.lst SD),.bo [] (.int k),.no,.no,.no] .own .non) _ ?_ (by simp)
  have hm:=z1K (C := "Sayings") (m := "withdraw") (g:=p7) (p:=K3 0) (s:=z6 (z4 8) y6) (ρ:=[.ow (.tg (t 0) (syD 0 n G)),.bo [] (.int c),.bo [] (.int n),.ow (.tg (t 3) (.lst (G.map osD))),.bo [] (.int x),.bo [] (.int y),.ow (.lst [.int 0,.int r1]),.ow (.lst SD),.bo [] (.int k),.no,.no,.no])
   (ρ':=[.ow (.tg (t 0) (syD 0 n (G.set k none))),.bo [] (.int c),.bo [] (.int n),.ow (.tg (t 3) (.lst (G.map osD))),.bo [] (.int x),.bo [] (.int y),.ow (.lst [.int 0,.int r1]),.ow (.lst SD),.bo [] (.int k),.no,.no,.no])
   (j:=0) (t:=0) (q:=[.un]) (fs:=syF n G) (fs':=syF n (G.set k none)) (xs:=[(.bor [],.int k)]) (d:=x9 s) rfl nk1 (by simp) (by simp) gw (by
    rw[show (.obj 0 "Sayings" (syF n G):D)=syD 0 n G from rfl,show (.obj 0 "Sayings" (syF n (G.set k none)):D)=syD 0 n (G.set k none) from rfl,zY2 0 n G _ _ 0 (t 0) rfl]; rfl)
  generalize syD 0 n (G.set k none)=YD2 at hm ⊢
  generalize (G.set k none).map osD=GD2 at ss ⊢
  generalize G.map osD=GD at hm ss lG ⊢
  generalize syD 0 n G=YD at hm ⊢
  simp[lS,z1,ek,hm,-zU9,show (0:Int) < (B0 G).length by omega,lG,ix,ss]
 ·obtain ⟨s,gs,es⟩:=z1z y h1 h9
  obtain ⟨G',f,os,RR⟩:=z3y h1 h9 hG.good (by omega) gs hG.cons
  have nkS:∀ k,nk k (x9 s)=.own:=fun k=>zg0 (by simp)
  have hc:∀ t:Nat->Nat,hcM K0 [0] (pH (K3 0) (vH (z4 9) zE7)) [.ow (.tg (t 0) (syD 0 n G)),.bo [] (.int c),.bo [] (.int n),.ow (.tg (t 3) (.lst (G.map osD))),.bo [] (.int x),.bo [] (.int y),.ow (.lst [.int r0,.int r1]),.ow (.lst SD),.no,.ow (x9 s),.no,.no]=.ri [.ow (.tg (t 0) (syD 0 n G')),.bo [] (.int c),.bo [] (.int n),.ow (.tg (t 3) (.lst (G.map osD))),.bo [] (.int x),.bo [] (.int y),.ow (.lst [.int r0,.int r1]),.ow (.lst SD),.no,.ow (x9 s),.no,.no] .own f:=fun t=>
   z1x (xs:=[.p (0,[.un],syD 0 n G),.v (.bor [9],x9 s)]) (cs:=[syD 0 n G']) (by simp) (by rfl) (by simp) (by simp[nkS]) (by rfl) os (by simp)
  have no1:∀ ρ:Env,ρ[6]? = some (.ow (.lst [.int r0,.int r1]))->ρ[7]? = some (.ow (.lst SD))->(O1 (w5 .Eq (x8 (z4 6) (z8 (.int 0))) (z8 (.int 0))) (w5 .Gt (p6 X0 (z6 (z4 7) y6)) (z8 (.int 0)))) ρ=.ok false:=fun ρ h6 h7=>by
   by_cases z:r0=0
   ·have:¬ 0 < (B0 G).length:=fun q=>c1 ⟨z,q⟩
    have h0:(B0 G).length=0:=by omega
    simp[h6,h7,z,lS,h0]
   ·simp[h6,z]
  have mks:=z3g s
  have tail:∀ (t:Nat->Nat) (o:Out) (r':RH),(x7 (ifS (D5 (zq1 (z4 10) "tuple")) (I0 (p5 (z6 (z4 9) (z6 (z4 10) y6)))) t3)
  (x7 (mtS .l (K3 3) (z6 (z4 9) y6) zj1)
  (I0 (z8 .non)))) [.ow (.tg (t 0) (syD 0 n G')),.bo [] (.int c),.bo [] (.int n),.ow (.tg (t 3) (.lst (G.map osD))),.bo [] (.int x),.bo [] (.int y),.ow (.lst [.int r0,.int r1]),.ow (.lst SD),.no,.ow (x9 s),mkS .own f,.no]=o->o.finH [0,3] t=r'->b6 t [syD 0 n G,.int c,.int n,.lst (G.map osD)]=r':=by
   intro t o r' h1 h2
   refine head t o r' ?_ h2
   rw[<- h1,zK1,zz3,no1 _ rfl rfl]
   simp only[R.out_ok,Bool.false_eq_true,if_false,z5O,z14]
   rw[U3 (ρ':=[.ow (.tg (t 0) (syD 0 n G)),.bo [] (.int c),.bo [] (.int n),.ow (.tg (t 3) (.lst (G.map osD))),.bo [] (.int x),.bo [] (.int y),.ow (.lst [.int r0,.int r1]),.ow (.lst SD),.no,.ow (x9 s),.no,.no]) (by
    generalize syD 0 n G=YD
    generalize G.map osD=GD
    generalize x9 s=SS at *
    simp[es,mks])]
   rw[zK1,z4Z,hc t]
   rfl
  rcases RR with ⟨nums,rfl,rfl,RK⟩ | ⟨nc,p,rfl,rfl,P⟩ | ⟨nc,rfl,rfl,C⟩
  ·refine ⟨G',_,fun t=>tail t (.ri [.ow (.tg (t 0) (syD 0 n G')),.bo [] (.int c),.bo [] (.int n),.ow (.tg (t 3) (.lst (G'.map osD))),.bo [] (.int x),.bo [] (.int y),.ow (.lst [.int r0,.int r1]),.ow (.lst SD),.no,.ow (x9 s),.ow (.tup [.str "clash",.scr (nums.map .int)]),.no] .own (.tup [x9 s,.tup [.str "clash",.scr (nums.map .int)]])) _ ?_ (by simp),hG.mono (by omega),.inr ⟨s,_,gs,rfl,.inl ⟨nums,rfl,rfl,RK⟩,rfl,by simp,_,rfl⟩⟩
   have l1:∀ k,lk k [x9 s,D.tup [.str "clash",.scr (nums.map .int)]]=.own:=fun k=>I4 (by simp)
   have ns:=zo1 s
   generalize syD 0 n G'=YD
   generalize G'.map osD=GD
   generalize x9 s=SS at *
   generalize nums.map D.int=ND at *
   simp[nkS,ns,l1]
  ·refine ⟨G',_,fun t=>tail t (.ri [.ow (.tg (t 0) (syD 0 n G')),.bo [] (.int c),.bo [] (.int n),.ow (.tg (t 3) (.lst (G'.map osD))),.bo [] (.int x),.bo [] (.int y),.ow (.lst [.int r0,.int r1]),.ow (.lst SD),.no,.ow (x9 s),.ow (.tup [.str "none",p]),.no] .own (.tup [x9 s,.tup [.str "none",p]])) _ ?_ (by simp),hG.mono (by omega),.inr ⟨s,_,gs,rfl,.inr (.inl ⟨nc,p,rfl,rfl,P⟩),rfl,by simp[P.noL],_,rfl⟩⟩
   have np:=P.noL
   have ns:=zo1 s
   have l1:∀ k,lk k [x9 s,D.tup [.str "none",p]]=.own:=fun k=>I4 (by simp[np])
   generalize syD 0 n G'=YD
   generalize G'.map osD=GD
   generalize x9 s=SS at *
   simp[nkS,ns,np,l1]
  ·refine ⟨G++[some s],.non,fun t=>tail t (.ri [.ow (.tg (t 0) (syD 0 n (G++[some s]))),.bo [] (.int c),.bo [] (.int n),.ow (.tg (t 3) (.lst ((G++[some s]).map osD))),.bo [] (.int x),.bo [] (.int y),.ow (.lst [.int r0,.int r1]),.ow (.lst SD),.no,.ow (x9 s),.bo [] (.int G.length),.no] .own .non) _ ?_ (by simp),⟨by simp; omega,fun x hx=>by rw[z2e] at hx; exact zY0 hG.good gs x hx,C⟩,.inl rfl⟩
   have eg:(G++[some s]).map osD=G.map osD++[x9 s]:=by simp[osD]
   have ns:=zo1 s
   rw[eg]
   generalize syD 0 n (G++[some s])=YD
   generalize G.map osD=GD at *
   generalize x9 s=SS at *
   simp[ns,lG,show G.length < 16777216 by omega,show kitB "int" "tuple" = some false from rfl]
theorem z0y {G:List (Option Say)} {a b:Nat} {nums:List Int} {u:Nat} (h:Wk (stn 0 G) a nums b u):L6 [.lst (G.map osD),.lst (nums.map .int),.int (a:Nat),.int (b:Nat)]=.ok (.own,.str (if u=0 then "alike" else "unlike")):=by
 obtain ⟨s6,s7,s8,s9,_,_,_,_,e⟩:=z15 (.lst (nums.map .int)) (.int (a:Nat)) (.int (b:Nat)) h
 have hu:=h.u2
 have e:=e []
 rw[List.append_nil,z1T] at e
 generalize G.map osD=GD at *
 generalize nums.map D.int=NS at *
 rcases (show u=0\/u=1 by omega) with h | h <;> subst h
 ·simp at e; simp[L6,t0,zb9,e]
 ·simp at e; simp[L6,t0,zb9,e]
theorem z0z (r:List Int) (h:r.length<=1000):zo2 [.lst (r.map .int)]=.ok (.own,.bl true):=by
 have e:=zC6 (it:=X9 (z4 0)) (own:=[1]) (tg:=tgN 1) (elt:=zt9) (ρ:=[.bo [] (.lst (r.map .int)),.no]) (k:=.bor []) (l:=r) (f:=.int) (h:=fun _=>.bl true)
  (by simp) (by simp) (by omega) (fun i _=>⟨_,.own,rfl,by simp[zQ7],rfl⟩)
 have e2:E2 (r.map fun _=>D.bl true)=some (r.map fun _=>true):=zZ7 _ _
 have kt:kitB (tyD (.lst (r.map D.int))) "list" = some true:=by show kitB "list" "list" = some true; decide +kernel
 simp[zo2,t0,zG0,e,e2,kt]
theorem z00 {G:List (Option Say)} {a b:Nat} {r:D} (R':ChL (stn 0 G) a b r) {kv:List (List Key×D)} (hE:z06 (stn 0 G) a kv) {n:Nat} (hg:∀ s∈pl G,j0 n s) (ha:a < n) (hn:n<=9):N6 [r,.lst (G.map osD),.dtk kv,.int (a:Nat),.int (b:Nat)]=.ok (.own,.bl true):=by
 have f1:=fun (r:D) (GD:D)=>N1 (it:=M6 (z8 (.int 2))) (own:=[6]) (tg:=tgN 6) (ifs:=zh1) (elt:=zi0) (k:=.own) (l:=List.range 2) (f:=fun t:Nat=>.int (0 + (t:Int))) (h:=fun t:Nat=>.int (t:Int)) (p:=fun t=>(w6 kv (Z7 (b,t))).isSome)
  (ρ:=[.bo [] r,.bo [] GD,.bo [] (.dtk kv),.bo [] (.int (a:Nat)),.bo [] (.int (b:Nat)),.no,.no]) (by have rg2:T2 2=true:=S7 (by omega) (by omega); simp[rg2,rng]) (by simp) (by simp) (fun t ht=>by
   have kz:Z7 (b,t)=[Sum.inl (b:Int),Sum.inl (t:Int)]:=rfl
   refine ⟨_,rfl,?_,fun _=>⟨.bor [],by simp[zD1],rfl⟩⟩
   rw[kz]
   simp[zD2,S1,W5,W4])
 have reach:∀ t,(w6 kv (Z7 (b,t))).isSome=true↔∃ nums,Wk (stn 0 G) a nums b t:=fun t=>by
  rw[Option.isSome_iff_exists]
  constructor
  ·rintro ⟨v,hv⟩
   obtain ⟨k,_,h⟩:=(hE _ _).mp hv
   obtain ⟨nums,_,w⟩:=h.1
   exact ⟨nums,w⟩
  ·rintro ⟨nums,w⟩
   obtain ⟨k,_,hk⟩:=z4y (m:=nums.length) (z:=(b,t)) ⟨nums,rfl,w⟩
   exact ⟨_,(hE _ _).mpr ⟨k,rfl,hk⟩⟩
 rcases R' with ⟨rfl,hno⟩ | ⟨nums,u,rfl,hw,hmin⟩
 ·have ze:(List.range 2).filter (fun t=>(w6 kv (Z7 (b,t))).isSome)=[]:=by
   rw[List.filter_eq_nil_iff]
   intro t _ h
   obtain ⟨nums,w⟩:=(reach t).mp h
   exact hno nums t w
  have f1:=f1 .non (.lst (G.map osD))
  rw[ze] at f1
  generalize G.map osD=GD at *
  simp[N6,t0,ze9,f1,V9]
 ·have mn:Mn (stn 0 G) a nums.length (b,u):=⟨⟨nums,rfl,hw⟩,fun d' hd ⟨n',e,w⟩=>by have:=hmin n' u w; omega⟩
  have l5:nums.length < 2 * n:=zB8 (fun p hp=>hg p.2 (by rw[<- B1 G 0]; exact List.mem_map.mpr ⟨p,hp,rfl⟩)) ha _ _ mn
  have lPL:((List.range 2).filter (fun t=>(w6 kv (Z7 (b,t))).isSome)).length<=2:=List.length_filter_le _ _
  have wk:=z0y hw
  have nn:=z0z nums (by omega)
  have f1:=f1 (B4 (b,u,nums)) (.lst (G.map osD))
  generalize hPL:(List.range 2).filter (fun t=>(w6 kv (Z7 (b,t))).isSome)=PL at *
  have mPL:∀ t,t∈PL↔(t < 2/\∃ nums,Wk (stn 0 G) a nums b t):=fun t=>by
   rw[<- hPL,List.mem_filter,List.mem_range,reach]
  have dis:∀ t∈PL,∃ k:Nat,w6 kv (Z7 (b,t))=some (.int (k:Int))/\Mn (stn 0 G) a k (b,t):=fun t ht=>by
   have:(w6 kv (Z7 (b,t))).isSome=true:=by rw[<- hPL] at ht; exact (List.mem_filter.mp ht).2
   obtain ⟨v,hv⟩:=Option.isSome_iff_exists.mp this
   obtain ⟨k,rfl,hk⟩:=(hE _ _).mp hv
   exact ⟨k,hv,hk⟩
  have upl:u∈PL:=(mPL u).mpr ⟨hw.u2,nums,hw⟩
  have f2:=zC6 (it:=X9 (z4 5)) (own:=[6]) (tg:=tgN 6) (elt:=zg9) (k:=.bor [5]) (l:=PL) (f:=fun t:Nat=>.int (t:Int)) (h:=fun t:Nat=>.int (zk6 kv b t))
   (ρ:=[.bo [] (B4 (b,u,nums)),.bo [] (.lst (G.map osD)),.bo [] (.dtk kv),.bo [] (.int (a:Nat)),.bo [] (.int (b:Nat)),.ow (.lst (PL.map fun t:Nat=>.int (t:Int))),.no]) (by simp) (by simp) (by omega) (fun t ht=>by
    obtain ⟨k,hk,_⟩:=dis t ht
    have kz:Z7 (b,t)=[Sum.inl (b:Int),Sum.inl (t:Int)]:=rfl
    have dd:zk6 kv b t=k:=by unfold zk6; rw[hk]
    rw[kz] at hk
    refine ⟨_,.bor [],rfl,?_,rfl⟩
    rw[dd]
    simp[zD7,S1,W5,W4,hk])
  have hmn:zf0 (PL.map fun t=>zk6 kv b t)=some (nums.length:Int):=by
   obtain ⟨m,em,m1,m2⟩:=z2o (l:=PL.map fun t=>zk6 kv b t) (List.ne_nil_of_mem (List.mem_map.mpr ⟨u,upl,rfl⟩))
   have du:zk6 kv b u=nums.length:=by
    have:w6 kv (Z7 (b,u))=some (.int (nums.length:Int)):=(hE _ _).mpr ⟨_,rfl,mn⟩
    unfold zk6; rw[this]
   have le1:=m2 _ (List.mem_map.mpr ⟨u,upl,rfl⟩)
   obtain ⟨t,ht,et⟩:=List.mem_map.mp m1
   obtain ⟨k,hk,mk⟩:=dis t ht
   have dt:zk6 kv b t=k:=by unfold zk6; rw[hk]
   obtain ⟨n',e',w'⟩:=mk.1
   have:=hmin n' t w'
   rw[em]
   congr 1
   omega
  have eP:(PL.map fun t:Nat=>D.int (zk6 kv b t))=(PL.map fun t=>zk6 kv b t).map D.int:=by rw[List.map_map]; rfl
  rw[eP] at f2
  have lP:(PL.map fun t:Nat=>D.int (t:Int)).length=PL.length:=by simp
  have pP:0 < PL.length:=List.length_pos_of_mem upl
  have lN:(nums.map D.int).length=nums.length:=by simp
  have ew:eqD (.str (if u=0 then "alike" else "unlike")) (.str (if u=0 then "alike" else "unlike"))=some true:=by
   by_cases h:u=0
   ·rw[if_pos h,ewd _ _ j7 j7]; simp
   ·rw[if_neg h,ewd _ _ q8 q8]; simp
  have rd:B4 (b,u,nums)=.tup [.str (if u=0 then "alike" else "unlike"),.lst (nums.map .int)]:=rfl
  rw[rd] at f1 f2 ⊢
  have npz:¬ (PL.length:Int)=0:=by omega
  have npz':¬ PL.length=0:=by omega
  generalize (if u=0 then ("alike" : Str) else "unlike")=wd at *
  generalize (PL.map fun t=>zk6 kv b t)=DM at *
  generalize (PL.map fun t:Nat=>D.int (t:Int))=PM at *
  generalize nums.map D.int=NM at *
  generalize G.map osD=GD at *
  have npe:¬ PM=[]:=fun h=>by rw[h] at lP; simp at lP; omega
  simp[N6,t0,ze9,f1,lP,npz',npe,nn,wk,ew,lN,f2,hmn]
def ANY (s:Sl):Prop:=s=.no\/(∃ d,s=.bo [] d)\/∃ d,s=.ow d
theorem ANY.no:ANY .no:=.inl rfl
theorem ANY.bo (d:D):ANY (.bo [] d):=.inr (.inl ⟨d,rfl⟩)
theorem ANY.ow (d:D):ANY (.ow d):=.inr (.inr ⟨d,rfl⟩)
theorem z0X {n:Nat} (h1:1<=n) (h9:n<=9) {m:Nat} (hm:m<=400) {G:List (Option Say)} (hG:SyOk n m G) (c:Int) {jj:Nat} (hc:Cel jj c) (hjj:jj<=100) :
  ∃ G',SyOk n (m + 1) G'/\∀ (ρ ρ':Env) (r:SAH) (x y:Nat×List Ix) (k1 k2:Kd),r ρ=.ok [.p (x.1,x.2,syD 0 n G),.v (k1,.int c),.v (k2,.int n),.p (y.1,y.2,.lst (G.map osD))]->x.1≠y.1->Q5 ρ [(0,(x.1,x.2,syD 0 n G)),(3,(y.1,y.2,.lst (G.map osD)))] [syD 0 n G',.lst (G'.map osD)]=some ρ'->zu4 (hcM b6 [0,3] r) ρ=.nx ρ':=by
 obtain ⟨G',r,e,ok,R⟩:=z0J h1 h9 hm hG c hc hjj
 refine ⟨G',ok,fun ρ ρ' rr x y k1 k2 hr hne hp=>?_⟩
 rw[z3w,z1x hr (by rfl) (by simp[hne]) (by simp) (by rfl) e hp]
 rfl
theorem zA0 (t n:Nat) (G:List (Option Say)) (k:Nat) (hk:k < 3) {a b:Int} (h:¬ (0<=a/\a < n)\/¬ (0<=b/\b < n)):Q2 [syD t n G,.int k,.int a,.int b]=.ok (.own,.lst [.str "refused"]):=by
 have e1:=T4 n a
 have e2:=T4 n b
 have sz:∀ t k,ze2 ["Sayings"] "size" (k,syD t n G)=some (k,.int n):=fun t k=>zD9
 have nkc:=zi9 n G "chain" (by decide +kernel) (by decide +kernel)
 have nkw:=zi9 n G "why" (by decide +kernel) (by decide +kernel)
 have nkt:=zi9 n G "told" (by decide +kernel) (by decide +kernel)
 have ch:∀ t,v8 [syD t n G,.int a,.int b]=.ex "NoCenser" := fun t=>by
  by_cases ha:0<=a/\a < n
  ·have hb:¬ (0<=b/\b < n):=h.resolve_left (fun q=>q ha)
   rw[if_pos ha] at e1; rw[if_neg hb] at e2
   simp[v8,t0,U1,-V0,sz,e1,e2]
  ·rw[if_neg ha] at e1
   simp[v8,t0,U1,-V0,sz,e1]
 have wy:∀ t,i6 [syD t n G,.int a,.int b]=.ex "NoCenser" := fun t=>by
  by_cases ha:0<=a/\a < n
  ·have hb:¬ (0<=b/\b < n):=h.resolve_left (fun q=>q ha)
   rw[if_pos ha] at e1; rw[if_neg hb] at e2
   simp[i6,t0,L9,-V0,sz,e1,e2]
  ·rw[if_neg ha] at e1
   simp[i6,t0,L9,-V0,sz,e1]
 have ch':∀ t,v8 [.obj t "Sayings" (syF n G),.int a,.int b]=.ex "NoCenser" := ch
 have wy':∀ t,i6 [.obj t "Sayings" (syF n G),.int a,.int b]=.ex "NoCenser" := wy
 have to':∀ t,V1 [.obj t "Sayings" (syF n G),.int a,.int b]=.ex "NoCenser" := fun t=>by
  simp[V1,t0,D4,nkw,wy']
 rw[show syD t n G=.obj t "Sayings" (syF n G) from rfl]
 have k3:k=0\/k=1\/k=2:=by omega
 rcases k3 with rfl | rfl | rfl
 ·simp[Q2,t0,B2,za5,nkc,ch',N9]
 ·simp[Q2,t0,B2,za5,nkt,to',N9]
 ·simp[Q2,t0,B2,za5,nkw,wy',N9]
theorem z7S:N3 [.lst [.str "refused"]]=.ok (.own,.bl true):=by
 have kt:kitB (tyD (.lst [D.str "refused"])) "list" = some true:=by show kitB "list" "list" = some true; decide +kernel
 have sw:PyData.strOk ("refused" : Str)=true:=by decide +kernel
 have e:=ewd "refused" "refused" sw sw
 simp[N3,t0,zj4,kt,e]
theorem zI7 {n:Nat} (h1:1<=n) (h9:n<=9) {G:List (Option Say)} (hg:∀ s∈pl G,j0 n s) (hG:G.length<=400) (t:Nat):T0 [syD t n G,.int n,.lst (G.map osD)]=.ok (.own,.bl true):=by
 have rgn:T2 (n:Int)=true:=S7 (by omega) (by omega)
 have rg1:T2 1=true:=S7 (by omega) (by omega)
 have rg2:T2 2=true:=S7 (by omega) (by omega)
 have nkc:=zi9 n G "chain" (by decide +kernel) (by decide +kernel)
 obtain ⟨ρ1,hρ1,e1⟩:=A5 (i:=3) (b:=B9) (fun j ρ=>∃ s3 s4 s5 s6 s7,ρ=[.bo [] (syD t n G),.bo [] (.int n),.bo [] (.lst (G.map osD)),s3,s4,s5,s6,s7]/\ANY s4/\ANY s5/\ANY s6/\ANY s7) 0 n 0
  [.bo [] (syD t n G),.bo [] (.int n),.bo [] (.lst (G.map osD)),.no,.no,.no,.no,.no] (by
  rintro i ρ - hi ⟨s3,s4,s5,s6,s7,rfl,m4,m5,m6,m7⟩
  obtain ⟨kv,ed,hE⟩:=zV1 hg (by omega) (a:=i) (by omega) h9
  obtain ⟨ρ2,hρ2,e2⟩:=A5 (i:=5) (b:=L8) (fun j ρ=>∃ s5 s6 s7,ρ=[.bo [] (syD t n G),.bo [] (.int n),.bo [] (.lst (G.map osD)),.bo [] (.int (0 + (i:Int))),.ow (.dtk kv),s5,s6,s7]/\ANY s5/\ANY s6/\ANY s7) 0 n 0
   [.bo [] (syD t n G),.bo [] (.int n),.bo [] (.lst (G.map osD)),.bo [] (.int (0 + (i:Int))),.ow (.dtk kv),s5,s6,s7] (by
   rintro k ρ - hk ⟨u5,u6,u7,rfl,m5,m6,m7⟩
   obtain ⟨r,er,R'⟩:=zN8 hg (by omega) h9 (a:=i) (b:=k) (by omega) (by omega)
   have lc:=z00 R' hE hg (by omega) h9
   have er':v8 [.obj t "Sayings" (syF n G),.int (i:Nat),.int (k:Nat)]=_:=er t
   have turn:∀ (m:Nat) (s6 s7:Sl),ANY s6->ANY s7->∃ s7',ANY s7'/\Q4 [.bo [] (syD t n G),.bo [] (.int n),.bo [] (.lst (G.map osD)),.bo [] (.int (0 + (i:Int))),.ow (.dtk kv),.bo [] (.int (0 + (k:Int))),.bo [] (.int (0 + (m:Int))),s7]=.nx [.bo [] (syD t n G),.bo [] (.int n),.bo [] (.lst (G.map osD)),.bo [] (.int (0 + (i:Int))),.ow (.dtk kv),.bo [] (.int (0 + (k:Int))),.bo [] (.int (0 + (m:Int))),s7']:=fun m s6 s7 a6 a7=>by
    rw[show syD t n G=.obj t "Sayings" (syF n G) from rfl]
    rcases R' with ⟨rfl,_⟩ | ⟨nums,u,rfl,hw,hmin⟩
    ·refine ⟨.bo [] .non,.bo _,?_⟩
     generalize G.map osD=GD at *
     rcases a7 with rfl | ⟨d7,rfl⟩ | ⟨d7,rfl⟩ <;> simp[zd2,nkc,er',lc,V9]
    ·have mn:Mn (stn 0 G) i nums.length (k,u):=⟨⟨nums,rfl,hw⟩,fun d' hd ⟨n',e,w⟩=>by have:=hmin n' u w; omega⟩
     have l5:nums.length < 2 * n:=zB8 (fun p hp=>hg p.2 (by rw[<- B1 G 0]; exact List.mem_map.mpr ⟨p,hp,rfl⟩)) (by omega) _ _ mn
     refine ⟨.ow (.tup [.str (if u=0 then "alike" else "unlike"),.lst (nums.map .int++[.int 0])]),.ow _,?_⟩
     have le:(nums.map D.int).length < 16777216:=by rw[List.length_map]; omega
     have rl:B4 (k,u,nums)=.tup [.str (if u=0 then "alike" else "unlike"),.lst (nums.map .int)]:=rfl
     rw[rl] at er' lc
     generalize (if u=0 then ("alike" : Str) else "unlike")=W at *
     generalize nums.map D.int=NU at *
     generalize G.map osD=GD at *
     have ix:ixN 2 1=some 1:=by decide +kernel
     have l7:NU.length < LIM:=Nat.lt_of_lt_of_le le (by decide)
     rcases a7 with rfl | ⟨d7,rfl⟩ | ⟨d7,rfl⟩ <;> simp[zd2,nkc,er',lc,V9,W8,V2,le,ix]
   obtain ⟨ρ3,hρ3,e3⟩:=A5 (i:=6) (b:=Q4) (fun j ρ=>∃ s6 s7,ρ=[.bo [] (syD t n G),.bo [] (.int n),.bo [] (.lst (G.map osD)),.bo [] (.int (0 + (i:Int))),.ow (.dtk kv),.bo [] (.int (0 + (k:Int))),s6,s7]/\ANY s6/\ANY s7) 0 (if i=0 then 2 else 1) 0
    [.bo [] (syD t n G),.bo [] (.int n),.bo [] (.lst (G.map osD)),.bo [] (.int (0 + (i:Int))),.ow (.dtk kv),.bo [] (.int (0 + (k:Int))),u6,u7] (by
    rintro m ρ - hm ⟨v6,v7,rfl,a6,a7⟩
    obtain ⟨s7',a7',e⟩:=turn m v6 v7 a6 a7
    exact ⟨_,⟨_,s7',rfl,.bo _,a7'⟩,.inl e⟩) ⟨u6,u7,rfl,m6,m7⟩
   obtain ⟨v6,v7,rfl,a6,a7⟩:=hρ3
   refine ⟨_,⟨.bo [] (.int (0 + (k:Int))),v6,v7,rfl,.bo _,a6,a7⟩,.inl ?_⟩
   simp only[Int.natCast_zero,Int.add_zero] at e3
   generalize syD t n G=YD at *
   generalize G.map osD=GD at *
   generalize D.dtk kv=KV at *
   by_cases hi0:i=0
   ·subst hi0
    simp at e3
    simp[zd4,rg2,e3]
   ·have hi1:¬ (i:Int)=0:=by omega
    rw[if_neg hi0] at e3
    simp at e3
    simp[zd4,rg1,hi0,e3]) ⟨s5,s6,s7,rfl,m5,m6,m7⟩
  obtain ⟨v5,v6,v7,rfl,a5,a6,a7⟩:=hρ2
  refine ⟨_,⟨.bo [] (.int (0 + (i:Int))),.ow (.dtk kv),v5,v6,v7,rfl,.ow _,a5,a6,a7⟩,.inl ?_⟩
  simp only[Int.natCast_zero,Int.add_zero] at e2
  have mkd:mkS .own (D.dtk kv)=.ow (.dtk kv):=rfl
  generalize syD t n G=YD at *
  generalize G.map osD=GD at *
  generalize D.dtk kv=KV at *
  simp at e2
  rcases m4 with rfl | ⟨d4,rfl⟩ | ⟨d4,rfl⟩ <;> simp[zs2,ed,mkd,rgn,e2]) ⟨.no,.no,.no,.no,.no,rfl,.no,.no,.no,.no⟩
 obtain ⟨s3,s4,s5,s6,s7,rfl,_⟩:=hρ1
 simp only[Int.natCast_zero,Int.add_zero] at e1
 generalize syD t n G=YD at *
 generalize G.map osD=GD at *
 simp[T0,t0,zc4,rgn,e1]
theorem zC9 (SC:D) {n:Nat} (h1:1<=n) (h9:n<=9) (G:List (Option Say)) (r0 r1 r2 o:Int) (ho:¬ (0<=o/\o < n)) (s5 s6 s8 s9:Sl) (a8:ANY s8) (a9:ANY s9) :
  ∃ s8' s9',ANY s8'/\ANY s9'/\zd0 [.bo [] SC,.bo [] (.int n),.ow (.lst [.int r0,.int r1,.int r2]),.ow (syD 0 n G),.ow (.lst (G.map osD)),s5,s6,.bo [] (.int o),s8,s9] =
   .nx [.bo [] SC,.bo [] (.int n),.ow (.lst [.int r0,.int r1,.int r2]),.ow (syD 0 n G),.ow (.lst (G.map osD)),s5,s6,.bo [] (.int o),s8',s9']:=by
 have rg3:T2 3=true:=S7 (by omega) (by omega)
 obtain ⟨ρ1,hρ1,e1⟩:=A5 (i:=8) (b:=E1) (fun j ρ=>∃ s8 s9,ρ=[.bo [] SC,.bo [] (.int n),.ow (.lst [.int r0,.int r1,.int r2]),.ow (syD 0 n G),.ow (.lst (G.map osD)),s5,s6,.bo [] (.int o),s8,s9]/\ANY s8/\ANY s9) 0 3 0
  [.bo [] SC,.bo [] (.int n),.ow (.lst [.int r0,.int r1,.int r2]),.ow (syD 0 n G),.ow (.lst (G.map osD)),s5,s6,.bo [] (.int o),s8,s9] (by
  rintro k ρ - hk ⟨t8,t9,rfl,m8,m9⟩
  have q1:=zA0 0 n G k (by omega) (a:=o) (b:=r2 % n) (.inl ho)
  have q2:=zA0 0 n G k (by omega) (a:=r2 % n) (b:=o) (.inr ho)
  have q3:=zA0 0 n G k (by omega) (a:=o) (b:=o) (.inl ho)
  refine ⟨_,⟨.bo [] (.int (0 + (k:Int))),.bo [] (.tup [.int o,.int o]),rfl,.bo _,.bo _⟩,.inl ?_⟩
  generalize syD 0 n G=YD at *
  generalize G.map osD=GD at *
  rcases m9 with rfl | ⟨d9,rfl⟩ | ⟨d9,rfl⟩ <;> simp[zx4,zx8,r5,show 0 < n by omega,q1,q2,q3,z7S]) ⟨s8,s9,rfl,a8,a9⟩
 obtain ⟨t8,t9,rfl,m8,m9⟩:=hρ1
 refine ⟨t8,t9,m8,m9,?_⟩
 generalize syD 0 n G=YD at *
 generalize G.map osD=GD at *
 simp at e1
 simp[zx5,rg3,e1]
theorem z0G:∀ ns:List Int,ns.length<=63->(∀ z∈ns,Builtin.Int.intBits z<=1048576)->A3 [.scr (ns.map D.int)]=.ok (.own,.bl true):=by
 intro ns hl hb
 have hlen:ns.length<=16777216:=by omega
 have ht:9<=zw2 ns 9/\zw2 ns 9<=63:=by unfold zw2; omega
 have c0:O2 [.scr (ns.map D.int),.int 0]=.ok (.own,.int (G0 ns 0)):=zL6 ns 0 (by omega) (by omega)
 have c1:O2 [.scr (ns.map D.int),.int 1]=.ok (.own,.int (G0 ns 1)):=zL6 ns 1 (by omega) (by omega)
 obtain ⟨n,h1,h9,e0⟩:=zU1 (G0 ns 0)
 obtain ⟨row,ed,rr⟩:=z4c (G0 ns 1) [9,100000000000000000000,9] (by decide) (by decide)
 cases rr with
 | @cons _ r0 _ _ a0 b0 rr=>
 cases rr with
 | @cons _ r1 _ _ a1 b1 rr=>
 cases rr with
 | @cons _ r2 _ _ a2 b2 rr=>
 cases rr
 simp at ed
 have pw:zo9 10 20=true:=by decide
 have v20:(10:Int) ^ 20=100000000000000000000:=by decide +kernel
 have mk:=fun ρ (h:(z6 (z4 1) y6) ρ=.ok [(Kd.bor [],.int n)])=>z3k (n:=n) ⟨h1,by omega⟩ (r:=z6 (z4 1) y6) (ρ:=ρ) (k:=.bor []) h
 have rg1:T2 1=true:=S7 (by omega) (by omega)
 have rg2:T2 (zw2 ns 9)=true:=S7 (by omega) (by omega)
 obtain ⟨ρ',hρ,e⟩:=A5 (i:=5) (b:=zc1) (fun j ρ=>∃ G s5 s6,ρ=[.bo [] (.scr (ns.map D.int)),.bo [] (.int n),.ow (.lst [.int r0,.int r1,.int r2]),.ow (syD 0 n G),.ow (.lst (G.map osD)),s5,s6,.no,.no,.no]/\SyOk n j G/\ANY s6) 1 (zw2 ns 9 - 1).toNat 0
  [.bo [] (.scr (ns.map D.int)),.bo [] (.int n),.ow (.lst [.int r0,.int r1,.int r2]),.ow (syD 0 n []),.ow (.lst []),.no,.no,.no,.no,.no] (by
  rintro j ρ - hj ⟨G,s5,s6,rfl,sy,n6⟩
  have c1:O2 [.scr (ns.map .int),.int (1 + (j:Int))]=.ok (.own,.int (G0 ns (j + 1))):=by
   have:=zL6 ns (j + 1) (by omega) (by omega)
   rw[show ((j + 1:Nat):Int)=1 + (j:Int) by omega] at this; exact this
  have cc:=z2N ns (j + 1) (by omega) (by omega) hb
  obtain ⟨G',sy',pl'⟩:=z0X h1 h9 (m:=j) (by omega) sy (G0 ns (j + 1)) cc (by omega)
  have ch:=zI7 h1 h9 sy'.good (by have:=sy'.len; omega) 0
  refine ⟨_,⟨G',.bo [] (.int (1 + (j:Int))),.bo [] (.int (G0 ns (j + 1))),rfl,sy',.bo _⟩,.inl ?_⟩
  have hset:([.bo [] (.scr (ns.map D.int)),.bo [] (.int n),.ow (.lst [.int r0,.int r1,.int r2]),.ow (syD 0 n G),.ow (.lst (G.map osD)),s5,s6,.no,.no,.no]:Env).set 5 (.bo [] (.int (1 + (j:Int))))=[.bo [] (.scr (ns.map D.int)),.bo [] (.int n),.ow (.lst [.int r0,.int r1,.int r2]),.ow (syD 0 n G),.ow (.lst (G.map osD)),.bo [] (.int (1 + (j:Int))),s6,.no,.no,.no]:=rfl
  rw[hset,zx3]
  rw[U3 (ρ':=[.bo [] (.scr (ns.map D.int)),.bo [] (.int n),.ow (.lst [.int r0,.int r1,.int r2]),.ow (syD 0 n G),.ow (.lst (G.map osD)),.bo [] (.int (1 + (j:Int))),.bo [] (.int (G0 ns (j + 1))),.no,.no,.no]) (by
   generalize syD 0 n G=YD
   generalize G.map osD=GD
   rcases n6 with rfl | ⟨d6,rfl⟩ | ⟨d6,rfl⟩ <;> simp[c1])]
  rw[U3 (ρ':=[.bo [] (.scr (ns.map D.int)),.bo [] (.int n),.ow (.lst [.int r0,.int r1,.int r2]),.ow (syD 0 n G'),.ow (.lst (G'.map osD)),.bo [] (.int (1 + (j:Int))),.bo [] (.int (G0 ns (j + 1))),.no,.no,.no]) (pl' _ _ _ (3,[]) (4,[]) (.bor []) (.bor []) (by simp) (by simp) (by simp[W8]))]
  generalize syD 0 n G'=YD at ch ⊢
  generalize G'.map osD=GD at ch ⊢
  have dv7:(0:Int) < 7:=by omega
  by_cases z1:(1 + (j:Int)) < 3 <;> by_cases z2:G0 ns (j + 1) % 7=0 <;> simp[z1,z2,ch]) ⟨[],.no,.no,rfl,.nil h1 h9,.no⟩
 obtain ⟨G,s5,s6,rfl,sy,n6⟩:=hρ
 have ch:=zI7 h1 h9 sy.good (by have:=sy.len; omega) 0
 have mk1:=mk [.bo [] (.scr (ns.map D.int)),.bo [] (.int n),.ow (.lst [.int r0,.int r1,.int r2]),.no,.no,.no,.no,.no,.no,.no] (by simp)
 obtain ⟨x1,y1,p1,q1,f1⟩:=zC9 (.scr (ns.map D.int)) h1 h9 G r0 r1 r2 (-1) (by omega) s5 s6 .no .no .no .no
 obtain ⟨x2,y2,p2,q2,f2⟩:=zC9 (.scr (ns.map D.int)) h1 h9 G r0 r1 r2 (n:Int) (by omega) s5 s6 x1 y1 p1 q1
 obtain ⟨x3,y3,p3,q3,f3⟩:=zC9 (.scr (ns.map D.int)) h1 h9 G r0 r1 r2 (-1 - r1) (by omega) s5 s6 x2 y2 p2 q2
 obtain ⟨x4,y4,p4,q4,f4⟩:=zC9 (.scr (ns.map D.int)) h1 h9 G r0 r1 r2 (n + r1) (by omega) s5 s6 x3 y3 p3 q3
 simp at e
 generalize hY:syD 0 n G=YD at *
 generalize hY0:syD 0 n []=YD0 at *
 generalize G.map osD=GD at *
 have mkY:mkS .own YD0=.ow YD0:=by rw[<- hY0]; rfl
 simp[A3,t0,zh4,z5N,c0,c1,e0,pw,v20,ed,mk1,mkY,rg1,rg2,e,r5,f1,f2,f3,f4,ch]
def z9 (i:Nat):Stmt:=PySem.Challenge.pw_censers_k38_whole_chains_as_short_as_can.main.body.getD i (.Pass ⟨0,0,0,0⟩)
structure Gs (K:PySem.W.Frag) (w:World) (mg:Str->Option Value) (CA:String->Addr):Prop where
 g_GREATEST:∃ t,mg "GREATEST" = some (.int 9 t)
 g_all:mg "all" = none
 g_bool:mg "bool" = none
 g_enumerate:mg "enumerate" = none
 g_int:mg "int" = none
 g_isinstance:mg "isinstance" = none
 g_len:mg "len" = none
 g_list:mg "list" = none
 g_max:mg "max" = none
 g_min:mg "min" = none
 g_range:mg "range" = none
 g_sum:mg "sum" = none
 g_tuple:mg "tuple" = none
 x_BadMany:ExG K mg CA "BadMany"
 x_BadSaying:ExG K mg CA "BadSaying"
 x_Clash:ExX K mg CA "Clash" "ring"
 x_NoCenser:ExG K mg CA "NoCenser"
 x_NoFit:ExX K mg CA "NoFit" "paper"
 x_NoSaying:ExG K mg CA "NoSaying"
 x_Withdrawn:ExG K mg CA "Withdrawn"
 y_BadSaying_Clash:PySem.W.exmOne K (.ref (CA "BadSaying")) (.ref (CA "Clash"))=some false
 y_BadSaying_NoFit:PySem.W.exmOne K (.ref (CA "BadSaying")) (.ref (CA "NoFit"))=some false
 y_Clash_Clash:PySem.W.exmOne K (.ref (CA "Clash")) (.ref (CA "Clash"))=some true
 y_Clash_NoFit:PySem.W.exmOne K (.ref (CA "Clash")) (.ref (CA "NoFit"))=some false
 y_NoCenser_Clash:PySem.W.exmOne K (.ref (CA "NoCenser")) (.ref (CA "Clash"))=some false
 y_NoCenser_NoCenser:PySem.W.exmOne K (.ref (CA "NoCenser")) (.ref (CA "NoCenser"))=some true
 y_NoCenser_NoFit:PySem.W.exmOne K (.ref (CA "NoCenser")) (.ref (CA "NoFit"))=some false
 y_NoFit_Clash:PySem.W.exmOne K (.ref (CA "NoFit")) (.ref (CA "Clash"))=some false
 y_NoFit_NoFit:PySem.W.exmOne K (.ref (CA "NoFit")) (.ref (CA "NoFit"))=some true
 fl_given:∀ C∈["Sayings"],ClsF K C "given"
 fl_size:∀ C∈["Sayings"],ClsF K C "size"
 tb_LENGTHS:TbF K w mg "LENGTHS" [("alike",3),("unlike",3),("least",2),("most",2)]
section
variable {P:Program} {w:World} {K:PySem.W.Frag} {mg:Str->Option Value} {base:Heap} {CA:String->Addr}
theorem z0Y:FnScope ["k"] ["k"] (defScope (z9 0)):=⟨rfl,rfl,rfl,by decide +kernel,rfl,by decide +kernel,by decide +kernel⟩
theorem z1I (G:Gs K w mg CA)  {f:Addr} {fd:FuncData} (F:FunD K "_wall" "_wall" (defArgs (z9 0)) (defBody (z9 0)) (defScope (z9 0)) [] [] f fd):FnOk P w K mg base (L2.CX P w) 1 f fd ["k"] (spF K CA zz6 1):=
 have sc:=z0Y
 Z9 (k:=0) (N:=["k"]) (ps:=["k"]) (body:=zO4) F sc (fun cdv A outer s H E hr=>by
  have hu:=X2 hr
  exact (x6 (zN2 (passes_of rfl) (zl8 zn7) (x6 z7m)))) (fun ds h=>j8 h) (by decide)
theorem zF8:FnScope ["censers", "one"] ["censers", "one"] (defScope (z9 12)):=⟨rfl,rfl,rfl,by decide +kernel,rfl,by decide +kernel,by decide +kernel⟩
theorem zI4 (G:Gs K w mg CA)  {f:Addr} {fd:FuncData} (F:FunD K "look_censer" "look_censer" (defArgs (z9 12)) (defBody (z9 12)) (defScope (z9 12)) [] [] f fd):FnOk P w K mg base (L2.CX P w) 1 f fd ["censers", "one"] (spF K CA Z5 2):=
 have sc:=zF8
 Z9 (k:=0) (N:=["censers", "one"]) (ps:=["censers", "one"]) (body:=zg3) F sc (fun cdv A outer s H E hr=>by
  have hu:=X2 hr
  exact (x6 (b8 (zj0 (zI8 hu y8 (z5 1) (z5 0))) (x6 (zi1 (m := "") (C:=0) rfl (takes_of rfl rfl rfl rfl) PySem.F.excBase_ValueError G.x_NoCenser.i G.x_NoCenser.g G.x_NoCenser.k G.x_NoCenser.r)) q7))) (fun ds h=>j8 h) (by decide)
theorem zQ8:FnScope ["marks", "first", "row", "one"] ["marks"] (defScope (z9 13)):=⟨rfl,rfl,rfl,by decide +kernel,rfl,by decide +kernel,by decide +kernel⟩
theorem zT6 (G:Gs K w mg CA)  {f:Addr} {fd:FuncData} (F:FunD K "numbered" "numbered" (defArgs (z9 13)) (defBody (z9 13)) (defScope (z9 13)) [] [] f fd):FnOk P w K mg base (L2.CX P w) 1 f fd ["marks"] (spF K CA B7 1):=
 have sc:=zQ8
 Z9 (k:=0) (N:=["marks", "first", "row", "one"]) (ps:=["marks"]) (body:=zm9) F sc (fun cdv A outer s H E hr=>by
  have hu:=X2 hr
  exact (y7 (q9 1 sc.nd z8Y)
  (y7 (q9 2 sc.nd (X6 y9))
  (y7 (Q9 (passes_of rfl) rfl (R8 (z5 0)) (b7 3 sc.nd) (y7 (b8 (u9 hu (z5 3) (z5 1)) (x6 (zu1 hu (Z8 Q1 Q3 G.g_len (by decide +kernel) (z7 (z5 1) y9)) (zc0 1) (z5 3))) q7)
  (x6 (zs9 2 (w8 hu (z5 1) (z5 3))))))
  (x6 (j5 (zv2 call_tuple_of z7Q G.g_tuple (by decide +kernel) (z7 (z5 2) y9)))))))) (fun ds h=>j8 h) (by decide)
theorem zK6:FnScope ["censers"] ["censers"] (defScope (z9 15)):=⟨rfl,rfl,rfl,by decide +kernel,rfl,by decide +kernel,by decide +kernel⟩
theorem zQ3 (G:Gs K w mg CA)  {f:Addr} {fd:FuncData} (F:FunD K "look_many" "look_many" (defArgs (z9 15)) (defBody (z9 15)) (defScope (z9 15)) [] [] f fd):FnOk P w K mg base (L2.CX P w) 1 f fd ["censers"] (spF K CA E8 1):=
 have sc:=zK6
 Z9 (k:=0) (N:=["censers"]) (ps:=["censers"]) (body:=zk9) F sc (fun cdv A outer s H E hr=>by
  have hu:=X2 hr
  exact (x6 (b8 (zj0 (zI8 hu y8 (z5 0) (z7O G.g_GREATEST))) (x6 (zi1 (m := "") (C:=0) rfl (takes_of rfl rfl rfl rfl) PySem.F.excBase_ValueError G.x_BadMany.i G.x_BadMany.g G.x_BadMany.k G.x_BadMany.r)) q7))) (fun ds h=>j8 h) (by decide)
theorem zF1:FnScope ["censers", "saying"] ["censers", "saying"] (defScope (z9 18)):=⟨rfl,rfl,rfl,by decide +kernel,rfl,by decide +kernel,by decide +kernel⟩
theorem zH1 (G:Gs K w mg CA) (Z6:FnG P w K mg base CA Z5 1 "look_censer" []) {f:Addr} {fd:FuncData} (F:FunD K "look_saying" "look_saying" (defArgs (z9 18)) (defBody (z9 18)) (defScope (z9 18)) [] [] f fd):FnOk P w K mg base (L2.CX P w) 2 f fd ["censers", "saying"] (spF K CA U5 2):=
 have sc:=zF1
 Z9 (k:=1) (N:=["censers", "saying"]) (ps:=["censers", "saying"]) (body:=P0) F sc (fun cdv A outer s H E hr=>by
  have hu:=X2 hr
  exact (y7 (b8 (zf8 (zi7 (u9 hu (Z8 Q1 Q3 G.g_len (by decide +kernel) (z7 (z5 1) y9)) y8) (zi7 (z74 G.tb_LENGTHS (w8 hu (z5 1) y8)) (zn1 (u9 hu (Z8 Q1 Q3 G.g_len (by decide +kernel) (z7 (z5 1) y9)) (z80 G.tb_LENGTHS (w8 hu (z5 1) y8))))))) (x6 (zi1 (m := "") (C:=0) rfl (takes_of rfl rfl rfl rfl) PySem.F.excBase_ValueError G.x_BadSaying.i G.x_BadSaying.g G.x_BadSaying.k G.x_BadSaying.r)) q7)
  (y7 (b8 (u9 hu (Z8 Q1 Q3 G.g_len (by decide +kernel) (z7 (z5 1) y9)) y8) (y7 (b8 (zj0 (zI8 hu y8 (w8 hu (z5 1) y8) (z5 0))) (x6 (zi1 (m := "") (C:=0) rfl (takes_of rfl rfl rfl rfl) PySem.F.excBase_ValueError G.x_BadSaying.i G.x_BadSaying.g G.x_BadSaying.k G.x_BadSaying.r)) q7)
  (x6 z6T)) q7)
  (y7 (b8 (u9 hu (w8 hu (z5 1) y8) (w8 hu (z5 1) y8)) (x6 (zi1 (m := "") (C:=0) rfl (takes_of rfl rfl rfl rfl) PySem.F.excBase_ValueError G.x_BadSaying.i G.x_BadSaying.g G.x_BadSaying.k G.x_BadSaying.r)) q7)
  (y7 (zg4 (n9 (takes_of rfl rfl rfl rfl) (hr.mono (by decide)) Z6 (z7 (z5 0) (z7 (w8 hu (z5 1) y8) y9))))
  (x6 (zg4 (n9 (takes_of rfl rfl rfl rfl) (hr.mono (by decide)) Z6 (z7 (z5 0) (z7 (w8 hu (z5 1) y8) y9)))))))))) (fun ds h=>j8 h) (by decide)
theorem z1a:FnScope ["censers", "sayings", "row", "saying", "gone", "stays", "one"] ["censers", "sayings"] (defScope (z9 19)):=⟨rfl,rfl,rfl,by decide +kernel,rfl,by decide +kernel,by decide +kernel⟩
theorem z1y (G:Gs K w mg CA)  {f:Addr} {fd:FuncData} (F:FunD K "links" "links" (defArgs (z9 19)) (defBody (z9 19)) (defScope (z9 19)) [] [] f fd):FnOk P w K mg base (L2.CX P w) 1 f fd ["censers", "sayings"] (spF K CA zj5 2):=
 have sc:=z1a
 Z9 (k:=0) (N:=["censers", "sayings", "row", "saying", "gone", "stays", "one"]) (ps:=["censers", "sayings"]) (body:=zB5) F sc (fun cdv A outer s H E hr=>by
  have hu:=X2 hr
  exact (y7 (q9 2 sc.nd (z85 rfl G.g_list (r_1 G.g_range (z5 0))))
  (y7 (Q9 (passes_of rfl) rfl (R8 (z5 1)) (b7 3 sc.nd) (x6 (b8 (u9 hu (w8 hu (z5 3) y8) b5) (y7 (q9 4 sc.nd (Z8 (z3z rfl) z3n G.g_max (by decide +kernel) (z7 (w8 hu (z5 2) (w8 hu (z5 3) y8)) (z7 (w8 hu (z5 2) (w8 hu (z5 3) y8)) y9))))
  (y7 (q9 5 sc.nd (Z8 (zS1 rfl) zU4 G.g_min (by decide +kernel) (z7 (w8 hu (z5 2) (w8 hu (z5 3) y8)) (z7 (w8 hu (z5 2) (w8 hu (z5 3) y8)) y9))))
  (x6 (zr9 (own:=[("one",6)]) rfl sc.nd (R8 (z5 2)) (blkOk_by (N:=["censers", "sayings", "row", "saying", "gone", "stays", "one"]) (sc:=(defScope (z9 19))) (by decide +kernel)) (fun _ _ _ _ _=>(b7 6 sc.nd)) (by decide) (fun _ _ _ _ _=>zH0) (fun _ _ _ _ _=>(zI3 (u9 hu (z5 6) (z5 4)) (z5 5) (z5 6))) (sw_true rfl rfl rfl (by decide +kernel)))))) q7)))
  (x6 (zj9 2))))) (fun ds h=>j8 h) (by decide)
theorem zH6:FnScope ["row", "sayings", "found", "saying"] ["row", "sayings"] (defScope (z9 20)):=⟨rfl,rfl,rfl,by decide +kernel,rfl,by decide +kernel,by decide +kernel⟩
theorem zL3 (G:Gs K w mg CA)  {f:Addr} {fd:FuncData} (F:FunD K "said_apart" "said_apart" (defArgs (z9 20)) (defBody (z9 20)) (defScope (z9 20)) [] [] f fd):FnOk P w K mg base (L2.CX P w) 1 f fd ["row", "sayings"] (spF K CA J5 2):=
 have sc:=zH6
 Z9 (k:=0) (N:=["row", "sayings", "found", "saying"]) (ps:=["row", "sayings"]) (body:=zi5) F sc (fun cdv A outer s H E hr=>by
  have hu:=X2 hr
  exact (y7 (q9 2 sc.nd z8z)
  (y7 (Q9 (passes_of rfl) rfl (R8 (z5 1)) (b7 3 sc.nd) (x6 (b8 (u9 hu (w8 hu (z5 3) y8) b5) (y7 (zu1 hu zn7 (zc0 2) (b4 (z7 (w8 hu (z5 0) (w8 hu (z5 3) y8)) (z7 (w8 hu (z5 0) (w8 hu (z5 3) y8)) y9))))
  (x6 (zu1 hu zn7 (zc0 2) (b4 (z7 (w8 hu (z5 0) (w8 hu (z5 3) y8)) (z7 (w8 hu (z5 0) (w8 hu (z5 3) y8)) y9)))))) q7)))
  (x6 (zj9 2))))) (fun ds h=>j8 h) (by decide)
theorem zE8:FnScope ["sayings", "saying"] ["sayings"] (defScope (z9 21)):=⟨rfl,rfl,rfl,by decide +kernel,rfl,by decide +kernel,by decide +kernel⟩
theorem zJ0 (G:Gs K w mg CA)  {f:Addr} {fd:FuncData} (F:FunD K "fewest_said" "fewest_said" (defArgs (z9 21)) (defBody (z9 21)) (defScope (z9 21)) [] [] f fd):FnOk P w K mg base (L2.CX P w) 1 f fd ["sayings"] (spF K CA P5 1):=
 have sc:=zE8
 Z9 (k:=0) (N:=["sayings", "saying"]) (ps:=["sayings"]) (body:=ze1) F sc (fun cdv A outer s H E hr=>by
  have hu:=X2 hr
  exact (x6 (j5 (Z8 (z3z rfl) z3n G.g_max (by decide +kernel) (z7 (v9 (X6 (z7 y8 y9)) (zy9 (own:=[("saying",1)]) rfl sc.nd (R8 (z5 0)) (blkOk_by (N:=["sayings", "saying"]) (sc:=(defScope (z9 21))) (by decide +kernel)) (fun _ _ _ _ _=>(b7 1 sc.nd)) (by decide) (fun _ _ _ _ _=>(zf5 (u9 hu (w8 hu (z5 1) y8) b5))) (fun _ _ _ _ _=>(w8 hu (z5 1) y8)))) y9))))) (fun ds h=>j8 h) (by decide)
theorem zN3:FnScope ["censers", "sayings", "saying"] ["censers", "sayings"] (defScope (z9 22)):=⟨rfl,rfl,rfl,by decide +kernel,rfl,by decide +kernel,by decide +kernel⟩
theorem zR0 (G:Gs K w mg CA)  {f:Addr} {fd:FuncData} (F:FunD K "most_said" "most_said" (defArgs (z9 22)) (defBody (z9 22)) (defScope (z9 22)) [] [] f fd):FnOk P w K mg base (L2.CX P w) 1 f fd ["censers", "sayings"] (spF K CA L4 2):=
 have sc:=zN3
 Z9 (k:=0) (N:=["censers", "sayings", "saying"]) (ps:=["censers", "sayings"]) (body:=zk5) F sc (fun cdv A outer s H E hr=>by
  have hu:=X2 hr
  exact (x6 (j5 (Z8 (zS1 rfl) zU4 G.g_min (by decide +kernel) (z7 (v9 (X6 (z7 (z5 0) y9)) (zy9 (own:=[("saying",2)]) rfl sc.nd (R8 (z5 1)) (blkOk_by (N:=["censers", "sayings", "saying"]) (sc:=(defScope (z9 22))) (by decide +kernel)) (fun _ _ _ _ _=>(b7 2 sc.nd)) (by decide) (fun _ _ _ _ _=>(zf5 (u9 hu (w8 hu (z5 2) y8) b5))) (fun _ _ _ _ _=>(w8 hu (z5 2) y8)))) y9))))) (fun ds h=>j8 h) (by decide)
theorem zG2:FnScope ["censers", "sayings", "row", "parted", "saying", "firsts", "crowd", "one", "k", "other"] ["censers", "sayings", "row", "parted"] (defScope (z9 23)):=⟨rfl,rfl,rfl,by decide +kernel,rfl,by decide +kernel,by decide +kernel⟩
theorem zI0 (G:Gs K w mg CA) (C6:FnG P w K mg base CA P5 1 "fewest_said" []) (zb6:FnG P w K mg base CA L4 1 "most_said" []) {f:Addr} {fd:FuncData} (F:FunD K "plain_paper" "plain_paper" (defArgs (z9 23)) (defBody (z9 23)) (defScope (z9 23)) [] [] f fd):FnOk P w K mg base (L2.CX P w) 2 f fd ["censers", "sayings", "row", "parted"] (spF K CA V4 4):=
 have sc:=zG2
 Z9 (k:=1) (N:=["censers", "sayings", "row", "parted", "saying", "firsts", "crowd", "one", "k", "other"]) (ps:=["censers", "sayings", "row", "parted"]) (body:=T9) F sc (fun cdv A outer s H E hr=>by
  have hu:=X2 hr
  exact (y7 (Q9 (passes_of rfl) rfl (R8 (z5 1)) (b7 4 sc.nd) (x6 (b8 (zf8 (zm4 (u9 hu (w8 hu (z5 4) y8) b5) (zh3 (u9 hu (w8 hu (z5 2) (w8 hu (z5 4) y8)) (w8 hu (z5 2) (w8 hu (z5 4) y8)))))) (x6 (j5 (b4 (z7 b5 (z7 (w8 hu (z5 4) y8) (z7 (w8 hu (z5 4) y8) y9)))))) q7)))
  (y7 (b8 (u9 hu (n9 (takes_of rfl rfl rfl rfl) (hr.mono (by decide)) C6 (z7 (z5 1) y9)) (n9 (takes_of rfl rfl rfl rfl) (hr.mono (by decide)) zb6 (z7 (z5 0) (z7 (z5 1) y9)))) (x6 (j5 (b4 (z7 b5 y9)))) q7)
  (y7 (zr9 (own:=[("k",8)]) rfl sc.nd (zg2 G.g_range (z5 0)) (blkOk_by (N:=["censers", "sayings", "row", "parted", "saying", "firsts", "crowd", "one", "k", "other"]) (sc:=(defScope (z9 23))) (by decide +kernel)) (fun _ _ _ _ _=>(b7 8 sc.nd)) (by decide) (fun _ _ _ _ _=>(zf5 (u9 hu (w8 hu (z5 2) (z5 8)) (z5 8)))) (fun _ _ _ _ _=>(z5 8)) (sw_true rfl rfl rfl (by decide +kernel)))
  (y7 (b8 (u9 hu (Z8 Q1 Q3 G.g_len (by decide +kernel) (z7 (z5 5) y9)) (n9 (takes_of rfl rfl rfl rfl) (hr.mono (by decide)) C6 (z7 (z5 1) y9))) (x6 (j5 (b4 (z7 b5 y9)))) q7)
  (y7 (q9 6 sc.nd (X6 y9))
  (y7 (Q9 (passes_of rfl) rfl (R8 (z5 5)) (b7 7 sc.nd) (x6 (b8 (zl8 (Z8 (cr_all rfl) z6X G.g_all (by decide +kernel) (z7 (zy9 (own:=[("other",9)]) rfl sc.nd (R8 (z5 6)) (blkOk_by (N:=["censers", "sayings", "row", "parted", "saying", "firsts", "crowd", "one", "k", "other"]) (sc:=(defScope (z9 23))) (by decide +kernel)) (fun _ _ _ _ _=>(b7 9 sc.nd)) (by decide) (fun _ _ _ _ _=>zH0) (fun _ _ _ _ _=>(ze0 hu (b4 (z7 (z5 7) (z7 (z5 9) y9))) (z5 3)))) y9))) (x6 (zs9 6 (z5 7))) q7)))
  (y7 (b8 (u9 hu (Z8 Q1 Q3 G.g_len (by decide +kernel) (z7 (z5 6) y9)) (n9 (takes_of rfl rfl rfl rfl) (hr.mono (by decide)) zb6 (z7 (z5 0) (z7 (z5 1) y9)))) (x6 (j5 (b4 (z7 b5 (z7 (zv2 call_tuple_of z7Q G.g_tuple (by decide +kernel) (z7 (z5 6) y9)) y9))))) q7)
  (x6 (j5 R3)))))))))) (fun ds h=>j8 h) (by decide)
theorem zE0:FnScope ["censers", "row", "parted", "firsts", "at", "one", "other", "k"] ["censers", "row", "parted"] (defScope (z9 24)):=⟨rfl,rfl,rfl,by decide +kernel,rfl,by decide +kernel,by decide +kernel⟩
theorem zJ2 (G:Gs K w mg CA)  {f:Addr} {fd:FuncData} (F:FunD K "either_pair" "either_pair" (defArgs (z9 24)) (defBody (z9 24)) (defScope (z9 24)) [] [] f fd):FnOk P w K mg base (L2.CX P w) 1 f fd ["censers", "row", "parted"] (spF K CA P4 3):=
 have sc:=zE0
 Z9 (k:=0) (N:=["censers", "row", "parted", "firsts", "at", "one", "other", "k"]) (ps:=["censers", "row", "parted"]) (body:=D8) F sc (fun cdv A outer s H E hr=>by
  have hu:=X2 hr
  exact (y7 (zr9 (own:=[("k",7)]) rfl sc.nd (zg2 G.g_range (z5 0)) (blkOk_by (N:=["censers", "row", "parted", "firsts", "at", "one", "other", "k"]) (sc:=(defScope (z9 24))) (by decide +kernel)) (fun _ _ _ _ _=>(b7 7 sc.nd)) (by decide) (fun _ _ _ _ _=>(zf5 (u9 hu (w8 hu (z5 1) (z5 7)) (z5 7)))) (fun _ _ _ _ _=>(z5 7)) (sw_true rfl rfl rfl (by decide +kernel)))
  (y7 (Q9 (passes_of rfl) rfl (z2r G.g_enumerate (z5 3)) (zo8 rfl (Y0 (Y0 H8)) (U6 (b7 4 sc.nd) (U6 (b7 5 sc.nd) zj8))) (x6 (Q9 (passes_of rfl) rfl (R8 (z7B (z5 3) (z1F (v9 (z5 4) y8)) z2b)) (b7 6 sc.nd) (x6 (b8 (u9 hu (b4 (z7 (z5 5) (z7 (z5 6) y9))) (z5 2)) (x6 (j5 (b4 (z7 (z5 5) (z7 (z5 6) y9))))) q7)))))
  (x6 (j5 R3))))) (fun ds h=>j8 h) (by decide)
theorem zw9:FnScope ["censers", "sayings", "row", "parted", "paper", "pair", "one", "other", "first", "second"] ["censers", "sayings"] (defScope (z9 25)):=⟨rfl,rfl,rfl,by decide +kernel,rfl,by decide +kernel,by decide +kernel⟩
theorem zA9 (G:Gs K w mg CA) (zp1:FnG P w K mg base CA zj5 1 "links" []) (A9:FnG P w K mg base CA J5 1 "said_apart" []) (C5:FnG P w K mg base CA V4 2 "plain_paper" []) (D7:FnG P w K mg base CA P4 1 "either_pair" []) (ze4:FnG P w K mg base CA B7 1 "numbered" []) {f:Addr} {fd:FuncData} (F:FunD K "searched" "searched" (defArgs (z9 25)) (defBody (z9 25)) (defScope (z9 25)) [] [] f fd) (mk:∀ i,FnOk P w K mg base (L2.CX P w) (3 + i) f fd ["censers", "sayings"] (spF K CA (X1 i) 2)->FnG P w K mg base CA (X1 i) (3 + i) "searched" []):∀ i,FnOk P w K mg base (L2.CX P w) (3 + i) f fd ["censers", "sayings"] (spF K CA (X1 i) 2)
 | 0=>Z9 (k:=2) (N:=["censers", "sayings", "row", "parted", "paper", "pair", "one", "other", "first", "second"]) (ps:=["censers", "sayings"]) (body:=fun _=>.st) F zw9 (fun cdv A outer s H E hr=>z8M z8A) (fun ds h=>j8 h) (by decide)
 | i + 1=>by
  have sc:=zw9
  have U7:=mk i (zA9 G zp1 A9 C5 D7 ze4 F mk i)
  exact Z9 (k:=3 + i) (N:=["censers", "sayings", "row", "parted", "paper", "pair", "one", "other", "first", "second"]) (ps:=["censers", "sayings"]) (body:=T8 (X1 i)) F sc (fun cdv A outer s H E hr=>by
   have hu:=X2 hr
   exact (y7 (q9 2 sc.nd (n9 (takes_of rfl rfl rfl rfl) (hr.mono (by omega)) zp1 (z7 (z5 0) (z7 (z5 1) y9))))
  (y7 (q9 3 sc.nd (n9 (takes_of rfl rfl rfl rfl) (hr.mono (by omega)) A9 (z7 (z5 2) (z7 (z5 1) y9))))
  (y7 (q9 4 sc.nd (n9 (takes_of rfl rfl rfl rfl) (hr.mono (by omega)) C5 (z7 (z5 0) (z7 (z5 1) (z7 (z5 2) (z7 (z5 3) y9))))))
  (y7 (b8 (u9 hu (z5 4) R3) (x6 (j5 (b4 (z7 b5 (z7 (z5 4) y9))))) q7)
  (y7 (q9 5 sc.nd (n9 (takes_of rfl rfl rfl rfl) (hr.mono (by omega)) D7 (z7 (z5 0) (z7 (z5 2) (z7 (z5 3) y9)))))
  (y7 (b8 (u9 hu (z5 5) R3) (x6 (j5 (b4 (z7 b5 (z7 (n9 (takes_of rfl rfl rfl rfl) (hr.mono (by omega)) ze4 (z7 (z5 2) y9)) y9))))) q7)
  (y7 (z0M (z5 5) (zo8 rfl (Y0 (Y0 H8)) (U6 (b7 6 sc.nd) (U6 (b7 7 sc.nd) zj8))))
  (y7 (q9 8 sc.nd (n9 (takes_of rfl rfl rfl rfl) (hr.mono (by omega)) U7 (z7 (z5 0) (z7 (v9 (z5 1) (X6 (z7 (b4 (z7 b5 (z7 (z5 6) (z7 (z5 7) y9)))) y9))) y9))))
  (y7 (b8 (u9 hu (w8 hu (z5 8) y8) b5) (x6 (zj9 8)) q7)
  (y7 (q9 9 sc.nd (n9 (takes_of rfl rfl rfl rfl) (hr.mono (by omega)) U7 (z7 (z5 0) (z7 (v9 (z5 1) (X6 (z7 (b4 (z7 b5 (z7 (z5 6) (z7 (z5 7) y9)))) y9))) y9))))
  (y7 (b8 (u9 hu (w8 hu (z5 9) y8) b5) (x6 (zj9 9)) q7)
  (x6 (j5 (b4 (z7 b5 (z7 (b4 (z7 b5 (z7 (z5 6) (z7 (z5 7) (z7 (w8 hu (z5 8) y8) (z7 (w8 hu (z5 9) y8) y9)))))) y9))))))))))))))))) (fun ds h=>j8 h) (by decide)
theorem zq7:FnScope ["self", "censers"] ["self", "censers"] (defScope (inClass (z9 27) 0)):=⟨rfl,rfl,rfl,by decide +kernel,rfl,by decide +kernel,by decide +kernel⟩
theorem zv7 (G:Gs K w mg CA) (zk2:FnG P w K mg base CA E8 1 "look_many" []) {f:Addr} {fd:FuncData} (F:FunD K "__init__" "Sayings.__init__" (defArgs (inClass (z9 27) 0)) (defBody (inClass (z9 27) 0)) (defScope (inClass (z9 27) 0)) [] [] f fd):FnOk P w K mg base (L2.CX P w) 2 f fd ["self", "censers"] (spG K CA "Sayings" X8 2):=
 have sc:=zq7
 zT4 (k:=1) (N:=["self", "censers"]) (ps:=["self", "censers"]) (body:=G6) F sc (fun cdv A outer s H E hr=>by
  have hu:=X2 hr
  exact (y7 (zg4 (n9 (takes_of rfl rfl rfl rfl) (hr.mono (by decide)) zk2 (z7 (z5 1) y9)))
  (y7 (z4t G.fl_size (z5 1) (zc0 0))
  (x6 (z4t G.fl_given (X6 y9) (zc0 0)))))) (fun t fs ds h=>zU7 h) (by decide)
theorem zt2:FnScope ["self"] ["self"] (defScope (inClass (z9 27) 1)):=⟨rfl,rfl,rfl,by decide +kernel,rfl,by decide +kernel,by decide +kernel⟩
theorem zx2 (G:Gs K w mg CA)  {f:Addr} {fd:FuncData} (F:FunD K "censers" "Sayings.censers" (defArgs (inClass (z9 27) 1)) (defBody (inClass (z9 27) 1)) (defScope (inClass (z9 27) 1)) [] [] f fd):FnOk P w K mg base (L2.CX P w) 1 f fd ["self"] (spF K CA zg7 1):=
 have sc:=zt2
 Z9 (k:=0) (N:=["self"]) (ps:=["self"]) (body:=zg8) F sc (fun cdv A outer s H E hr=>by
  have hu:=X2 hr
  exact (x6 (j5 (G4 G.fl_size (z5 0))))) (fun ds h=>j8 h) (by decide)
theorem zD5:FnScope ["self"] ["self"] (defScope (inClass (z9 27) 2)):=⟨rfl,rfl,rfl,by decide +kernel,rfl,by decide +kernel,by decide +kernel⟩
theorem zF5 (G:Gs K w mg CA)  {f:Addr} {fd:FuncData} (F:FunD K "said" "Sayings.said" (defArgs (inClass (z9 27) 2)) (defBody (inClass (z9 27) 2)) (defScope (inClass (z9 27) 2)) [] [] f fd):FnOk P w K mg base (L2.CX P w) 1 f fd ["self"] (spF K CA zn5 1):=
 have sc:=zD5
 Z9 (k:=0) (N:=["self"]) (ps:=["self"]) (body:=zm2) F sc (fun cdv A outer s H E hr=>by
  have hu:=X2 hr
  exact (x6 (j5 (Z8 Q1 Q3 G.g_len (by decide +kernel) (z7 (G4 G.fl_given (z5 0)) y9))))) (fun ds h=>j8 h) (by decide)
theorem zr8:FnScope ["self", "k", "saying"] ["self"] (defScope (inClass (z9 27) 3)):=⟨rfl,rfl,rfl,by decide +kernel,rfl,by decide +kernel,by decide +kernel⟩
theorem zu0 (G:Gs K w mg CA)  {f:Addr} {fd:FuncData} (F:FunD K "standing" "Sayings.standing" (defArgs (inClass (z9 27) 3)) (defBody (inClass (z9 27) 3)) (defScope (inClass (z9 27) 3)) [] [] f fd):FnOk P w K mg base (L2.CX P w) 1 f fd ["self"] (spF K CA Y5 1):=
 have sc:=zr8
 Z9 (k:=0) (N:=["self", "k", "saying"]) (ps:=["self"]) (body:=E5) F sc (fun cdv A outer s H E hr=>by
  have hu:=X2 hr
  exact (x6 (j5 (zy9 (own:=[("k",1),("saying",2)]) rfl sc.nd (z2r G.g_enumerate (G4 G.fl_given (z5 0))) (blkOk_by (N:=["self", "k", "saying"]) (sc:=(defScope (inClass (z9 27) 3))) (by decide +kernel)) (fun _ _ _ _ _=>(zo8 rfl (Y0 (Y0 H8)) (U6 (b7 1 sc.nd) (U6 (b7 2 sc.nd) zj8)))) (by decide) (fun _ _ _ _ _=>(zf5 (u9 hu (z5 2) R3))) (fun _ _ _ _ _=>(b4 (z7 (z5 1) (z7 (z5 2) y9)))))))) (fun ds h=>j8 h) (by decide)
theorem zA2:FnScope ["self", "saying"] ["self"] (defScope (inClass (z9 27) 4)):=⟨rfl,rfl,rfl,by decide +kernel,rfl,by decide +kernel,by decide +kernel⟩
theorem zD4 (G:Gs K w mg CA)  {f:Addr} {fd:FuncData} (F:FunD K "plain" "Sayings.plain" (defArgs (inClass (z9 27) 4)) (defBody (inClass (z9 27) 4)) (defScope (inClass (z9 27) 4)) [] [] f fd):FnOk P w K mg base (L2.CX P w) 1 f fd ["self"] (spF K CA i3 1):=
 have sc:=zA2
 Z9 (k:=0) (N:=["self", "saying"]) (ps:=["self"]) (body:=za3) F sc (fun cdv A outer s H E hr=>by
  have hu:=X2 hr
  exact (x6 (j5 (zy9 (own:=[("saying",1)]) rfl sc.nd (R8 (G4 G.fl_given (z5 0))) (blkOk_by (N:=["self", "saying"]) (sc:=(defScope (inClass (z9 27) 4))) (by decide +kernel)) (fun _ _ _ _ _=>(b7 1 sc.nd)) (by decide) (fun _ _ _ _ _=>(zf5 (u9 hu (z5 1) R3))) (fun _ _ _ _ _=>(z5 1)))))) (fun ds h=>j8 h) (by decide)
theorem zx1:FnScope ["self", "saying", "found", "result"] ["self", "saying"] (defScope (inClass (z9 27) 5)):=⟨rfl,rfl,rfl,by decide +kernel,rfl,by decide +kernel,by decide +kernel⟩
theorem zz2 (G:Gs K w mg CA) (zf1:FnG P w K mg base CA U5 2 "look_saying" []) (b9:MtR P w K mg base CA "Sayings" "chain" v8 3) (c_xi_Clash:XrI P w K mg base CA "Clash" "ring" 1) (U4:MtR P w K mg base CA "Sayings" "plain" i3 1) (U7:FnG P w K mg base CA (X1 48) 51 "searched" []) (c_xi_NoFit:XrI P w K mg base CA "NoFit" "paper" 1) {f:Addr} {fd:FuncData} (F:FunD K "say" "Sayings.say" (defArgs (inClass (z9 27) 5)) (defBody (inClass (z9 27) 5)) (defScope (inClass (z9 27) 5)) [] [] f fd):FnOk P w K mg base (L2.CX P w) 52 f fd ["self", "saying"] (spG K CA "Sayings" i8 2):=
 have sc:=zx1
 zT4 (k:=51) (N:=["self", "saying", "found", "result"]) (ps:=["self", "saying"]) (body:=T5) F sc (fun cdv A outer s H E hr=>by
  have hu:=X2 hr
  exact (y7 (zg4 (n9 (takes_of rfl rfl rfl rfl) (hr.mono (by decide)) zf1 (z7 (G4 G.fl_size (z5 0)) (z7 (z5 1) y9))))
  (y7 (b8 (u9 hu (Z8 Q1 Q3 G.g_len (by decide +kernel) (z7 (z5 1) y9)) y8) (y7 (q9 2 sc.nd (z8V (zF6 (takes_of rfl rfl rfl rfl) (hr.mono (by decide)) b9 (z5 0) (z7 (w8 hu (z5 1) y8) (z7 (w8 hu (z5 1) y8) y9)))))
  (x6 (b8 (zf8 (zm4 (u9 hu (z5 2) R3) (zh3 (u9 hu (w8 hu (z5 2) y8) (w8 hu (z5 1) y8))))) (x6 (z4q rfl (takes_of rfl rfl rfl rfl) (hr.mono (by decide)) c_xi_Clash (w8 hu (z5 2) y8))) q7))) q7)
  (y7 (q9 3 sc.nd (n9 (takes_of rfl rfl rfl rfl) (hr.mono (by decide)) U7 (z7 (G4 G.fl_size (z5 0)) (z7 (v9 (zR4 (takes_of rfl rfl rfl rfl) (hr.mono (by decide)) U4 (z5 0)) (X6 (z7 (z5 1) y9))) y9))))
  (y7 (b8 (u9 hu (w8 hu (z5 3) y8) b5) (x6 (z4q rfl (takes_of rfl rfl rfl rfl) (hr.mono (by decide)) c_xi_NoFit (w8 hu (z5 3) y8))) q7)
  (y7 (z3r (T:=.l) PySem.F.plainAttrs_list PySem.F.slot_list_append PySem.F.type_list_append mt_append zR8 (z4s G.fl_given (zc0 0)) (z7 (z5 1) y9))
  (x6 (zr6 (v9 (Z8 Q1 Q3 G.g_len (by decide +kernel) (z7 (G4 G.fl_given (z5 0)) y9)) y8))))))))) (fun t fs ds h=>zU7 h) (by decide)
theorem zo3:FnScope ["self", "number", "saying"] ["self", "number"] (defScope (inClass (z9 27) 6)):=⟨rfl,rfl,rfl,by decide +kernel,rfl,by decide +kernel,by decide +kernel⟩
theorem zo4 (G:Gs K w mg CA)  {f:Addr} {fd:FuncData} (F:FunD K "withdraw" "Sayings.withdraw" (defArgs (inClass (z9 27) 6)) (defBody (inClass (z9 27) 6)) (defScope (inClass (z9 27) 6)) [] [] f fd):FnOk P w K mg base (L2.CX P w) 1 f fd ["self", "number"] (spG K CA "Sayings" p7 2):=
 have sc:=zo3
 zT4 (k:=0) (N:=["self", "number", "saying"]) (ps:=["self", "number"]) (body:=X4) F sc (fun cdv A outer s H E hr=>by
  have hu:=X2 hr
  exact (y7 (b8 (zj0 (zI8 hu y8 (z5 1) (Z8 Q1 Q3 G.g_len (by decide +kernel) (z7 (G4 G.fl_given (z5 0)) y9)))) (x6 (zi1 (m := "") (C:=0) rfl (takes_of rfl rfl rfl rfl) PySem.F.excBase_ValueError G.x_NoSaying.i G.x_NoSaying.g G.x_NoSaying.k G.x_NoSaying.r)) q7)
  (y7 (q9 2 sc.nd (yi7 (w8 hu (G4 G.fl_given (z5 0)) (z5 1))))
  (y7 (b8 (u9 hu (z5 2) R3) (x6 (zi1 (m := "") (C:=0) rfl (takes_of rfl rfl rfl rfl) PySem.F.excBase_ValueError G.x_Withdrawn.i G.x_Withdrawn.g G.x_Withdrawn.k G.x_Withdrawn.r)) q7)
  (y7 (zu1 hu R3 (z4s G.fl_given (zc0 0)) (z5 1))
  (x6 (z6P 2))))))) (fun t fs ds h=>zU7 h) (by decide)
theorem zp3:FnScope ["self", "censer", "turns", "numbers", "found", "number", "saying", "other", "more"] ["self", "censer", "turns", "numbers"] (defScope (inClass (z9 27) 7)):=⟨rfl,rfl,rfl,by decide +kernel,rfl,by decide +kernel,by decide +kernel⟩
theorem zq8 (G:Gs K w mg CA) (H9:MtR P w K mg base CA "Sayings" "standing" Y5 1) {f:Addr} {fd:FuncData} (F:FunD K "onward" "Sayings.onward" (defArgs (inClass (z9 27) 7)) (defBody (inClass (z9 27) 7)) (defScope (inClass (z9 27) 7)) [] [] f fd):FnOk P w K mg base (L2.CX P w) 2 f fd ["self", "censer", "turns", "numbers"] (spF K CA Y1 4):=
 have sc:=zp3
 Z9 (k:=1) (N:=["self", "censer", "turns", "numbers", "found", "number", "saying", "other", "more"]) (ps:=["self", "censer", "turns", "numbers"]) (body:=H7) F sc (fun cdv A outer s H E hr=>by
  have hu:=X2 hr
  exact (y7 (q9 4 sc.nd (X6 y9))
  (y7 (Q9 (passes_of rfl) rfl (R8 (zR4 (takes_of rfl rfl rfl rfl) (hr.mono (by decide)) H9 (z5 0))) (zo8 rfl (Y0 (Y0 H8)) (U6 (b7 5 sc.nd) (U6 (b7 6 sc.nd) zj8))) (x6 (b8 (zf8 (zm4 (u9 hu (Z8 Q1 Q3 G.g_len (by decide +kernel) (z7 (z5 6) y9)) y8) (zh3 (u9 hu (z5 1) (z7B (z5 6) (z1F y8) z2b))))) (y7 (q9 7 sc.nd (v9 (v9 (w8 hu (z5 6) y8) (w8 hu (z5 6) y8)) (z5 1)))
  (y7 (q9 8 sc.nd (v9 (z5 2) (zv2 call_int1 zT8 G.g_int (by decide +kernel) (z7 (ze0 hu (w8 hu (z5 6) y8) b5) y9))))
  (x6 (b8 (u9 hu (z5 8) y8) (x6 (zs9 4 (b4 (z7 (z5 7) (z7 (z5 8) (z7 (v9 (z5 3) (X6 (z7 (z5 5) y9))) y9)))))) q7)))) q7)))
  (x6 (zj9 4))))) (fun ds h=>j8 h) (by decide)
theorem zq6:FnScope ["self", "one", "other", "seen", "front", "wider", "censer", "turns", "numbers", "further"] ["self", "one", "other"] (defScope (inClass (z9 27) 8)):=⟨rfl,rfl,rfl,by decide +kernel,rfl,by decide +kernel,by decide +kernel⟩
theorem zw3 (G:Gs K w mg CA) (Z6:FnG P w K mg base CA Z5 1 "look_censer" []) (I8:MtR P w K mg base CA "Sayings" "onward" Y1 2) {f:Addr} {fd:FuncData} (F:FunD K "chain" "Sayings.chain" (defArgs (inClass (z9 27) 8)) (defBody (inClass (z9 27) 8)) (defScope (inClass (z9 27) 8)) [] [] f fd):FnOk P w K mg base (L2.CX P w) 3 f fd ["self", "one", "other"] (spF K CA v8 3):=
 have sc:=zq6
 Z9 (k:=2) (N:=["self", "one", "other", "seen", "front", "wider", "censer", "turns", "numbers", "further"]) (ps:=["self", "one", "other"]) (body:=U1) F sc (fun cdv A outer s H E hr=>by
  have hu:=X2 hr
  exact (y7 (zg4 (n9 (takes_of rfl rfl rfl rfl) (hr.mono (by decide)) Z6 (z7 (G4 G.fl_size (z5 0)) (z7 (z5 1) y9))))
  (y7 (zg4 (n9 (takes_of rfl rfl rfl rfl) (hr.mono (by decide)) Z6 (z7 (G4 G.fl_size (z5 0)) (z7 (z5 2) y9))))
  (y7 (q9 3 sc.nd (z4g (hu1 hu) (b4 (z7 (z5 1) (z7 y8 y9))) zn7))
  (y7 (q9 4 sc.nd (X6 (z7 (b4 (z7 (z5 1) (z7 y8 (z7 (X6 y9) y9)))) y9)))
  (y7 (zN2 (passes_of rfl) (u9 hu (Z8 Q1 Q3 G.g_len (by decide +kernel) (z7 (z5 4) y9)) y8) (y7 (q9 5 sc.nd (X6 y9))
  (y7 (z11 (passes_of rfl) rfl (z4n 4) (z5q rfl (b7 6 sc.nd) (b7 7 sc.nd) (b7 8 sc.nd)) (y7 (b8 (u9 hu (z5 6) (z5 2)) (x6 (z7Z (z8B (z8K (z1C (zI3 (u9 hu (z5 7) y8) b5 b5)) (z5F (z4n 8)))))) q7)
  (x6 (z11 (passes_of rfl) rfl (z1C (zF6 (takes_of rfl rfl rfl rfl) (hr.mono (by decide)) I8 (z5 0) (z7 (z5 6) (z7 (z5 7) (z7 (z5 8) y9))))) (b7 9 sc.nd) (x6 (b8 (u9 hu (b4 (z7 (w8 hu (z5 9) y8) (z7 (w8 hu (z5 9) y8) y9))) (z5 3)) (y7 (zu1 hu zn7 (zc0 3) (b4 (z7 (w8 hu (z5 9) y8) (z7 (w8 hu (z5 9) y8) y9))))
  (x6 (z7U 5 9))) q7))))))
  (x6 (z6Y 4 5 sc.nd)))))
  (x6 (j5 R3)))))))) (fun ds h=>j8 h) (by decide)
theorem zx7:FnScope ["self", "one", "other", "if_unlike", "if_alike"] ["self", "one", "other"] (defScope (inClass (z9 27) 9)):=⟨rfl,rfl,rfl,by decide +kernel,rfl,by decide +kernel,by decide +kernel⟩
theorem zz7 (G:Gs K w mg CA) (Z6:FnG P w K mg base CA Z5 1 "look_censer" []) (U4:MtR P w K mg base CA "Sayings" "plain" i3 1) (U7:FnG P w K mg base CA (X1 48) 51 "searched" []) {f:Addr} {fd:FuncData} (F:FunD K "why" "Sayings.why" (defArgs (inClass (z9 27) 9)) (defBody (inClass (z9 27) 9)) (defScope (inClass (z9 27) 9)) [] [] f fd):FnOk P w K mg base (L2.CX P w) 52 f fd ["self", "one", "other"] (spF K CA i6 3):=
 have sc:=zx7
 Z9 (k:=51) (N:=["self", "one", "other", "if_unlike", "if_alike"]) (ps:=["self", "one", "other"]) (body:=L9) F sc (fun cdv A outer s H E hr=>by
  have hu:=X2 hr
  exact (y7 (zg4 (n9 (takes_of rfl rfl rfl rfl) (hr.mono (by decide)) Z6 (z7 (G4 G.fl_size (z5 0)) (z7 (z5 1) y9))))
  (y7 (zg4 (n9 (takes_of rfl rfl rfl rfl) (hr.mono (by decide)) Z6 (z7 (G4 G.fl_size (z5 0)) (z7 (z5 2) y9))))
  (y7 (b8 (u9 hu (z5 1) (z5 2)) (x6 (j5 (b4 (z7 b5 (z7 R3 y9))))) q7)
  (y7 (q9 3 sc.nd (n9 (takes_of rfl rfl rfl rfl) (hr.mono (by decide)) U7 (z7 (G4 G.fl_size (z5 0)) (z7 (v9 (zR4 (takes_of rfl rfl rfl rfl) (hr.mono (by decide)) U4 (z5 0)) (X6 (z7 (b4 (z7 b5 (z7 (z5 1) (z7 (z5 2) y9)))) y9))) y9))))
  (y7 (b8 (u9 hu (w8 hu (z5 3) y8) b5) (x6 (j5 (b4 (z7 b5 (z7 (w8 hu (z5 3) y8) y9))))) q7)
  (y7 (q9 4 sc.nd (n9 (takes_of rfl rfl rfl rfl) (hr.mono (by decide)) U7 (z7 (G4 G.fl_size (z5 0)) (z7 (v9 (zR4 (takes_of rfl rfl rfl rfl) (hr.mono (by decide)) U4 (z5 0)) (X6 (z7 (b4 (z7 b5 (z7 (z5 1) (z7 (z5 2) y9)))) y9))) y9))))
  (y7 (b8 (u9 hu (w8 hu (z5 4) y8) b5) (x6 (j5 (b4 (z7 b5 (z7 (w8 hu (z5 4) y8) y9))))) q7)
  (x6 (j5 (b4 (z7 b5 (z7 (w8 hu (z5 4) y8) (z7 (w8 hu (z5 3) y8) y9)))))))))))))) (fun ds h=>j8 h) (by decide)
theorem zw5:FnScope ["self", "one", "other"] ["self", "one", "other"] (defScope (inClass (z9 27) 10)):=⟨rfl,rfl,rfl,by decide +kernel,rfl,by decide +kernel,by decide +kernel⟩
theorem zx9 (G:Gs K w mg CA) (T3:MtR P w K mg base CA "Sayings" "why" i6 52) {f:Addr} {fd:FuncData} (F:FunD K "told" "Sayings.told" (defArgs (inClass (z9 27) 10)) (defBody (inClass (z9 27) 10)) (defScope (inClass (z9 27) 10)) [] [] f fd):FnOk P w K mg base (L2.CX P w) 53 f fd ["self", "one", "other"] (spF K CA V1 3):=
 have sc:=zw5
 Z9 (k:=52) (N:=["self", "one", "other"]) (ps:=["self", "one", "other"]) (body:=D4) F sc (fun cdv A outer s H E hr=>by
  have hu:=X2 hr
  exact (x6 (j5 (w8 hu (zF6 (takes_of rfl rfl rfl rfl) (hr.mono (by decide)) T3 (z5 0) (z7 (z5 1) (z7 (z5 2) y9))) y8)))) (fun ds h=>j8 h) (by decide)
theorem zv0:FnScope ["self"] ["self"] (defScope (inClass (z9 27) 11)):=⟨rfl,rfl,rfl,by decide +kernel,rfl,by decide +kernel,by decide +kernel⟩
theorem zx6 (G:Gs K w mg CA) (zz9:FnG P w K mg base CA zz6 1 "_wall" []) {f:Addr} {fd:FuncData} (F:FunD K "twin" "Sayings.twin" (defArgs (inClass (z9 27) 11)) (defBody (inClass (z9 27) 11)) (defScope (inClass (z9 27) 11)) [] [] f fd):FnOk P w K mg base (L2.CX P w) 2 f fd ["self"] (spF K CA zg5 1):=
 have sc:=zv0
 Z9 (k:=1) (N:=["self"]) (ps:=["self"]) (body:=zg6) F sc (fun cdv A outer s H E hr=>by
  have hu:=X2 hr
  exact (x6 (zg4 (n9 (takes_of rfl rfl rfl rfl) (hr.mono (by decide)) zz9 (z7 y8 y9))))) (fun ds h=>j8 h) (by decide)
theorem z1N:FnScope ["_law_cell_here", "_law_limits", "_law_rest", "_law_seed", "_law_row", "_law_limit"] ["_law_cell_here", "_law_limits"] (defScope (z9 29)):=⟨rfl,rfl,rfl,by decide +kernel,rfl,by decide +kernel,by decide +kernel⟩
theorem z3N (G:Gs K w mg CA)  {f:Addr} {fd:FuncData} (F:FunD K "_law_draw" "_law_draw" (defArgs (z9 29)) (defBody (z9 29)) (defScope (z9 29)) [] [] f fd):FnOk P w K mg base (L2.CX P w) 1 f fd ["_law_cell_here", "_law_limits"] (spF K CA S2 2):=
 have sc:=z1N
 Z9 (k:=0) (N:=["_law_cell_here", "_law_limits", "_law_rest", "_law_seed", "_law_row", "_law_limit"]) (ps:=["_law_cell_here", "_law_limits"]) (body:=zt1) F sc (fun cdv A outer s H E hr=>by
  have hu:=X2 hr
  exact (y7 (q9 2 sc.nd (zI3 (u9 hu (z5 0) (v9 y8 y8)) (z5 0) y8))
  (y7 (q9 3 sc.nd (v9 (v9 (v9 (v9 (z5 0) y8) y8) y8) y8))
  (y7 (q9 4 sc.nd (X6 y9))
  (y7 (Q9 (passes_of rfl) rfl (R8 (z5 1)) (b7 5 sc.nd) (y7 (q9 3 sc.nd (v9 (v9 (v9 (v9 (v9 (z5 3) (z5 3)) y8) (v9 (z5 3) y8)) y8) y8))
  (y7 (zs9 4 (zI3 (u9 hu (z5 2) y8) (v9 (z5 2) (z5 5)) (v9 (v9 (v9 (z5 3) y8) (v9 (v9 (z5 3) y8) y8)) (z5 5))))
  (x6 (q9 2 sc.nd (v9 (z5 2) (z5 5)))))))
  (x6 (zj9 4))))))) (fun ds h=>j8 h) (by decide)
theorem z1k:FnScope ["_law_script", "_law_k"] ["_law_script", "_law_k"] (defScope (z9 30)):=⟨rfl,rfl,rfl,by decide +kernel,rfl,by decide +kernel,by decide +kernel⟩
theorem z2K (G:Gs K w mg CA)  {f:Addr} {fd:FuncData} (F:FunD K "_law_cell" "_law_cell" (defArgs (z9 30)) (defBody (z9 30)) (defScope (z9 30)) [] [] f fd):FnOk P w K mg base (L2.CX P w) 1 f fd ["_law_script", "_law_k"] (spF K CA O2 2):=
 have sc:=z1k
 Z9 (k:=0) (N:=["_law_script", "_law_k"]) (ps:=["_law_script", "_law_k"]) (body:=zt5) F sc (fun cdv A outer s H E hr=>by
  have hu:=X2 hr
  exact (y7 (b8 (u9 hu (z5 1) (Z8 Q1 Q3 G.g_len (by decide +kernel) (z7 (z5 0) y9))) (x6 (j5 (w8 hu (z5 0) (z5 1)))) q7)
  (x6 (j5 (v9 (v9 (v9 (v9 (Z8 (cr_sum rfl) z91 G.g_sum (by decide +kernel) (z7 (z5 0) y9)) y8) y8) (v9 (Z8 Q1 Q3 G.g_len (by decide +kernel) (z7 (z5 0) y9)) y8)) (v9 (z5 1) y8)))))) (fun ds h=>j8 h) (by decide)
theorem z1E:FnScope ["_law_script", "_law_few"] ["_law_script", "_law_few"] (defScope (z9 31)):=⟨rfl,rfl,rfl,by decide +kernel,rfl,by decide +kernel,by decide +kernel⟩
theorem z2T (G:Gs K w mg CA)  {f:Addr} {fd:FuncData} (F:FunD K "_law_many" "_law_many" (defArgs (z9 31)) (defBody (z9 31)) (defScope (z9 31)) [] [] f fd):FnOk P w K mg base (L2.CX P w) 1 f fd ["_law_script", "_law_few"] (spF K CA zn4 2):=
 have sc:=z1E
 Z9 (k:=0) (N:=["_law_script", "_law_few"]) (ps:=["_law_script", "_law_few"]) (body:=zG1) F sc (fun cdv A outer s H E hr=>by
  have hu:=X2 hr
  exact (x6 (j5 (Z8 (z3z rfl) z3n G.g_max (by decide +kernel) (z7 (z5 1) (z7 (Z8 (zS1 rfl) zU4 G.g_min (by decide +kernel) (z7 (Z8 Q1 Q3 G.g_len (by decide +kernel) (z7 (z5 0) y9)) (z7 y8 y9))) y9)))))) (fun ds h=>j8 h) (by decide)
theorem z38:FnScope ["_law_found"] ["_law_found"] (defScope (z9 32)):=⟨rfl,rfl,rfl,by decide +kernel,rfl,by decide +kernel,by decide +kernel⟩
theorem z53 (G:Gs K w mg CA)  {f:Addr} {fd:FuncData} (F:FunD K "_law_num" "_law_num" (defArgs (z9 32)) (defBody (z9 32)) (defScope (z9 32)) [] [] f fd):FnOk P w K mg base (L2.CX P w) 1 f fd ["_law_found"] (spF K CA zm1 1):=
 have sc:=z38
 Z9 (k:=0) (N:=["_law_found"]) (ps:=["_law_found"]) (body:=zL2) F sc (fun cdv A outer s H E hr=>by
  have hu:=X2 hr
  exact (x6 (j5 (zG9 (zz4 (zC1 (T := "int") G.g_isinstance G.g_int (by decide +kernel) (z5 0))) (zT3 (z7k (zz4 (zC1 (T := "bool") G.g_isinstance G.g_bool (by decide +kernel) (z5 0))))))))) (fun ds h=>j8 h) (by decide)
theorem z2C:FnScope ["_law_found", "_law_one"] ["_law_found"] (defScope (z9 33)):=⟨rfl,rfl,rfl,by decide +kernel,rfl,by decide +kernel,by decide +kernel⟩
theorem z3H (G:Gs K w mg CA) (zK8:FnG P w K mg base CA zm1 1 "_law_num" []) {f:Addr} {fd:FuncData} (F:FunD K "_law_nums" "_law_nums" (defArgs (z9 33)) (defBody (z9 33)) (defScope (z9 33)) [] [] f fd):FnOk P w K mg base (L2.CX P w) 2 f fd ["_law_found"] (spF K CA zo2 1):=
 have sc:=z2C
 Z9 (k:=1) (N:=["_law_found", "_law_one"]) (ps:=["_law_found"]) (body:=zG0) F sc (fun cdv A outer s H E hr=>by
  have hu:=X2 hr
  exact (x6 (j5 (zG9 (zz4 (zC1 (T := "list") G.g_isinstance G.g_list (by decide +kernel) (z5 0))) (zT3 (zz4 (Z8 (cr_all rfl) z6X G.g_all (by decide +kernel) (z7 (zy9 (own:=[("_law_one",1)]) rfl sc.nd (R8 (z5 0)) (blkOk_by (N:=["_law_found", "_law_one"]) (sc:=(defScope (z9 33))) (by decide +kernel)) (fun _ _ _ _ _=>(b7 1 sc.nd)) (by decide) (fun _ _ _ _ _=>zH0) (fun _ _ _ _ _=>(n9 takes0 (hr.mono (by decide)) zK8 (z7 (z5 1) y9)))) y9)))))))) (fun ds h=>j8 h) (by decide)
theorem z0E:FnScope ["_law_cell_here", "_law_parts", "_law_wide", "_law_side", "_law_size", "_law_found", "_law_big", "_law_k"] ["_law_cell_here", "_law_parts", "_law_wide"] (defScope (z9 34)):=⟨rfl,rfl,rfl,by decide +kernel,rfl,by decide +kernel,by decide +kernel⟩
theorem z2f (G:Gs K w mg CA)  {f:Addr} {fd:FuncData} (F:FunD K "_law_split" "_law_split" (defArgs (z9 34)) (defBody (z9 34)) (defScope (z9 34)) [.int 0] [] f fd):FnOk P w K mg base (L2.CX P w) 1 f fd ["_law_cell_here", "_law_parts", "_law_wide"] (spF K CA B3 3):=
 have sc:=z0E
 Z9 (k:=0) (N:=["_law_cell_here", "_law_parts", "_law_wide", "_law_side", "_law_size", "_law_found", "_law_big", "_law_k"]) (ps:=["_law_cell_here", "_law_parts", "_law_wide"]) (body:=zz5) F sc (fun cdv A outer s H E hr=>by
  have hu:=X2 hr
  exact (y7 (q9 3 sc.nd (v9 (v9 y8 y8) (v9 y8 y8)))
  (y7 (q9 4 sc.nd (w8 hu (X6 (z7 (v9 y8 y8) (z7 (z5 3) (z7 (v9 (v9 (v9 (z5 3) (z5 3)) (z5 3)) (z5 3)) y9)))) (z5 2)))
  (y7 (q9 5 sc.nd (X6 y9))
  (y7 (q9 6 sc.nd (ze0 hu (z5 0) (v9 y8 y8)))
  (y7 (Q9 (passes_of rfl) rfl (zg2 G.g_range (z5 1)) (b7 7 sc.nd) (x6 (b8 (zl8 (z5 6)) (y7 (zs9 5 (v9 (v9 y8 y8) (v9 (z5 0) (z5 4))))
  (x6 (q9 0 sc.nd (v9 (z5 0) (z5 4))))) (x6 (zs9 5 (v9 (v9 (z5 0) (v9 (v9 y8 (z5 7)) y8)) (v9 y8 (z5 7))))))))
  (x6 (zj9 5)))))))) (fun ds h=>j8 h) (by decide)
theorem zV6:FnScope ["_law_found"] ["_law_found"] (defScope (z9 35)):=⟨rfl,rfl,rfl,by decide +kernel,rfl,by decide +kernel,by decide +kernel⟩
theorem zX7 (G:Gs K w mg CA)  {f:Addr} {fd:FuncData} (F:FunD K "_law_refused" "_law_refused" (defArgs (z9 35)) (defBody (z9 35)) (defScope (z9 35)) [] [] f fd):FnOk P w K mg base (L2.CX P w) 1 f fd ["_law_found"] (spF K CA N3 1):=
 have sc:=zV6
 Z9 (k:=0) (N:=["_law_found"]) (ps:=["_law_found"]) (body:=zj4) F sc (fun cdv A outer s H E hr=>by
  have hu:=X2 hr
  exact (x6 (j5 (zG9 (zz4 (zC1 (T := "list") G.g_isinstance G.g_list (by decide +kernel) (z5 0))) (zG9 (ze0 hu (Z8 Q1 Q3 G.g_len (by decide +kernel) (z7 (z5 0) y9)) y8) (zT3 (ze0 hu (w8 hu (z5 0) y8) b5))))))) (fun ds h=>j8 h) (by decide)
theorem zW9:FnScope ["_law_cell_here", "_law_size", "_law_row", "_law_one", "_law_other"] ["_law_cell_here", "_law_size"] (defScope (z9 36)):=⟨rfl,rfl,rfl,by decide +kernel,rfl,by decide +kernel,by decide +kernel⟩
theorem z04 (G:Gs K w mg CA) (P7:FnG P w K mg base CA S2 1 "_law_draw" []) {f:Addr} {fd:FuncData} (F:FunD K "_law_saying" "_law_saying" (defArgs (z9 36)) (defBody (z9 36)) (defScope (z9 36)) [] [] f fd):FnOk P w K mg base (L2.CX P w) 2 f fd ["_law_cell_here", "_law_size"] (spF K CA N0 2):=
 have sc:=zW9
 Z9 (k:=1) (N:=["_law_cell_here", "_law_size", "_law_row", "_law_one", "_law_other"]) (ps:=["_law_cell_here", "_law_size"]) (body:=A6) F sc (fun cdv A outer s H E hr=>by
  have hu:=X2 hr
  exact (y7 (q9 2 sc.nd (n9 (takes_of rfl rfl rfl rfl) (hr.mono (by decide)) P7 (z7 (z5 0) (z7 (X6 (z7 y8 (z7 y8 (z7 y8 (z7 y8 y9))))) y9))))
  (y7 (b8 (zf8 (zi7 (u9 hu (w8 hu (z5 2) y8) y8) (zn1 (u9 hu (z5 1) y8)))) (x6 (j5 (b4 (z7 (w8 hu (X6 (z7 b5 (z7 b5 y9))) (v9 (w8 hu (z5 2) y8) y8)) (z7 (v9 y8 (v9 (w8 hu (z5 2) y8) (z5 1))) y9))))) q7)
  (y7 (q9 3 sc.nd (v9 (w8 hu (z5 2) y8) (z5 1)))
  (y7 (q9 4 sc.nd (v9 (v9 (v9 (z5 3) y8) (v9 (w8 hu (z5 2) y8) (v9 (z5 1) y8))) (z5 1)))
  (x6 (j5 (b4 (z7 (w8 hu (X6 (z7 b5 (z7 b5 y9))) (zv2 call_int1 zT8 G.g_int (by decide +kernel) (z7 (ze0 hu (w8 hu (z5 2) y8) y8) y9))) (z7 (z5 3) (z7 (z5 4) y9))))))))))) (fun ds h=>j8 h) (by decide)
theorem zX0:FnScope ["_law_said", "_law_saying_here", "e"] ["_law_said", "_law_saying_here"] (defScope (z9 37)):=⟨rfl,rfl,rfl,by decide +kernel,rfl,by decide +kernel,by decide +kernel⟩
theorem z05 (G:Gs K w mg CA) (B5:MtC P w K mg base CA "Sayings" "say" i8 52) {f:Addr} {fd:FuncData} (F:FunD K "_law_say" "_law_say" (defArgs (z9 37)) (defBody (z9 37)) (defScope (z9 37)) [] [] f fd):FnOk P w K mg base (L2.CX P w) 53 f fd ["_law_said", "_law_saying_here"] (spH K CA K0 2 [0]):=
 have sc:=zX0
 z1l (ch:=[0]) (k:=52) (N:=["_law_said", "_law_saying_here", "e"]) (ps:=["_law_said", "_law_saying_here"]) (body:=zv1) F sc (fun cdv A outer s H E hr=>by
  have hu:=X2 hr
  exact (x6 (z7V (takes_of rfl rfl rfl rfl) sc.nd (fun _ _ _ tkB hpB=>(x6 (z7C (z2y tkB (hr.mono (by decide)) B5 (zy7 0) (z7 (z5 1) y9))))) (.cons ⟨rfl,by decide,.inl G.x_Clash.g⟩ (by rfl) (by rfl) (O6 G.y_BadSaying_Clash (O6 G.y_Clash_Clash (O6 G.y_NoCenser_Clash (O6 G.y_NoFit_Clash zz1)))) (fun ea edx eoe epn ehz ehf=>(x6 (zr6 (b4 (z7 b5 (z7 (z4l (i:=2) (a:=ea) (dx:=edx) G.x_Clash.f G.x_Clash.no ehz ehf) y9)))))) (.cons ⟨rfl,by decide,.inl G.x_NoFit.g⟩ (by rfl) (by rfl) (O6 G.y_BadSaying_NoFit (O6 G.y_Clash_NoFit (O6 G.y_NoCenser_NoFit (O6 G.y_NoFit_NoFit zz1)))) (fun ea edx eoe epn ehz ehf=>(x6 (zr6 (b4 (z7 b5 (z7 (z4l (i:=2) (a:=ea) (dx:=edx) G.x_NoFit.f G.x_NoFit.no ehz ehf) y9)))))) .nil))))) (fun t ds h=>z1Q h) (by decide)
theorem zJ8:FnScope ["_law_given", "_law_numbers", "_law_one", "_law_other", "_law_at", "_law_turns", "_law_rank", "_law_word", "_law_first", "_law_second"] ["_law_given", "_law_numbers", "_law_one", "_law_other"] (defScope (z9 38)):=⟨rfl,rfl,rfl,by decide +kernel,rfl,by decide +kernel,by decide +kernel⟩
theorem zQ4 (G:Gs K w mg CA)  {f:Addr} {fd:FuncData} (F:FunD K "_law_walked_to" "_law_walked_to" (defArgs (z9 38)) (defBody (z9 38)) (defScope (z9 38)) [] [] f fd):FnOk P w K mg base (L2.CX P w) 1 f fd ["_law_given", "_law_numbers", "_law_one", "_law_other"] (spF K CA L6 4):=
 have sc:=zJ8
 Z9 (k:=0) (N:=["_law_given", "_law_numbers", "_law_one", "_law_other", "_law_at", "_law_turns", "_law_rank", "_law_word", "_law_first", "_law_second"]) (ps:=["_law_given", "_law_numbers", "_law_one", "_law_other"]) (body:=zb9) F sc (fun cdv A outer s H E hr=>by
  have hu:=X2 hr
  exact (y7 (q9 4 sc.nd (z5 2))
  (y7 (q9 5 sc.nd y8)
  (y7 (Q9 (passes_of rfl) rfl (R8 (z5 1)) (b7 6 sc.nd) (y7 (b8 (zf8 (zi7 (zj0 (zI8 hu y8 (z5 6) (Z8 Q1 Q3 G.g_len (by decide +kernel) (z7 (z5 0) y9)))) (zi7 (u9 hu (w8 hu (z5 0) (z5 6)) R3) (zn1 (u9 hu (Z8 Q1 Q3 G.g_len (by decide +kernel) (z7 (w8 hu (z5 0) (z5 6)) y9)) y8))))) (x6 (j5 R3)) q7)
  (y7 (z0M (w8 hu (z5 0) (z5 6)) (zo8 rfl (Y0 (Y0 (Y0 H8))) (U6 (b7 7 sc.nd) (U6 (b7 8 sc.nd) (U6 (b7 9 sc.nd) zj8)))))
  (y7 (b8 (zf8 (zm4 (u9 hu (z5 4) (z5 8)) (zh3 (u9 hu (z5 4) (z5 9))))) (x6 (j5 R3)) q7)
  (y7 (q9 4 sc.nd (v9 (v9 (z5 8) (z5 9)) (z5 4)))
  (x6 (q9 5 sc.nd (v9 (z5 5) (zv2 call_int1 zT8 G.g_int (by decide +kernel) (z7 (ze0 hu (z5 7) b5) y9))))))))))
  (y7 (b8 (zf8 (zi7 (u9 hu (z5 4) (z5 3)) (zn1 (u9 hu (z5 5) y8)))) (x6 (j5 R3)) q7)
  (x6 (j5 (w8 hu (X6 (z7 b5 (z7 b5 y9))) (z5 5))))))))) (fun ds h=>j8 h) (by decide)
theorem zp5:FnScope ["_law_said", "_law_cell_here", "_law_size", "_law_given", "_law_first", "_law_second", "_law_row", "_law_standing", "_law_rank", "_law_saying_here", "_law_found", "_law_k"] ["_law_said", "_law_cell_here", "_law_size", "_law_given"] (defScope (z9 39)):=⟨rfl,rfl,rfl,by decide +kernel,rfl,by decide +kernel,by decide +kernel⟩
theorem zr1 (G:Gs K w mg CA) (zp7:FnG P w K mg base CA B3 1 "_law_split" [.int 0]) (P7:FnG P w K mg base CA S2 1 "_law_draw" []) (M7:MtC P w K mg base CA "Sayings" "withdraw" p7 1) (zu8:FnG P w K mg base CA N0 2 "_law_saying" []) (zw7:FnGH P w K mg base CA K0 [0] 53 "_law_say") {f:Addr} {fd:FuncData} (F:FunD K "_law_played_sayings" "_law_played_sayings" (defArgs (z9 39)) (defBody (z9 39)) (defScope (z9 39)) [] [] f fd):FnOk P w K mg base (L2.CX P w) 54 f fd ["_law_said", "_law_cell_here", "_law_size", "_law_given"] (spH K CA b6 4 [0,3]):=
 have sc:=zp5
 z1l (ch:=[0,3]) (k:=53) (N:=["_law_said", "_law_cell_here", "_law_size", "_law_given", "_law_first", "_law_second", "_law_row", "_law_standing", "_law_rank", "_law_saying_here", "_law_found", "_law_k"]) (ps:=["_law_said", "_law_cell_here", "_law_size", "_law_given"]) (body:=P3) F sc (fun cdv A outer s H E hr=>by
  have hu:=X2 hr
  exact (y7 (z0M (n9 (takes_of rfl rfl rfl rfl) (hr.mono (by decide)) zp7 (z7 (z5 1) (z7 y8 y9))) (zo8 rfl (Y0 (Y0 H8)) (U6 (b7 4 sc.nd) (U6 (b7 5 sc.nd) zj8))))
  (y7 (q9 6 sc.nd (n9 (takes_of rfl rfl rfl rfl) (hr.mono (by decide)) P7 (z7 (z5 4) (z7 (X6 (z7 y8 (z7 y8 y9))) y9))))
  (y7 (zr9 (own:=[("_law_k",11)]) rfl sc.nd (zg2 G.g_range (Z8 Q1 Q3 G.g_len (by decide +kernel) (z7 (z1i 3) y9))) (blkOk_by (N:=["_law_said", "_law_cell_here", "_law_size", "_law_given", "_law_first", "_law_second", "_law_row", "_law_standing", "_law_rank", "_law_saying_here", "_law_found", "_law_k"]) (sc:=(defScope (z9 39))) (by decide +kernel)) (fun _ _ _ _ _=>(b7 11 sc.nd)) (by decide) (fun _ _ _ _ _=>(zf5 (u9 hu (w8 hu (z1i 3) (z5 11)) R3))) (fun _ _ _ _ _=>(z5 11)) (sw_true rfl rfl rfl (by decide +kernel)))
  (y7 (b8 (zf8 (zm4 (u9 hu (w8 hu (z5 6) y8) y8) (zh3 (u9 hu (Z8 Q1 Q3 G.g_len (by decide +kernel) (z7 (z5 7) y9)) y8)))) (y7 (q9 8 sc.nd (w8 hu (z5 7) (v9 (w8 hu (z5 6) y8) (Z8 Q1 Q3 G.g_len (by decide +kernel) (z7 (z5 7) y9)))))
  (y7 (z0d (z2y (takes_of rfl rfl rfl rfl) (hr.mono (by decide)) M7 (zy7 0) (z7 (z5 8) y9)))
  (y7 (zu1 hu R3 (zy7 3) (z5 8))
  (x6 (zr6 R3))))) q7)
  (y7 (q9 9 sc.nd (n9 (takes_of rfl rfl rfl rfl) (hr.mono (by decide)) zu8 (z7 (z5 5) (z7 (z5 2) y9))))
  (y7 (z7y (zY4 (takes_of rfl rfl rfl rfl) (hr.mono (by decide)) zw7 (z33 (zy7 0) (z37 (z5 9) z1r))) (b7 10 sc.nd))
  (y7 (b8 (zl8 (zC1 (T := "tuple") G.g_isinstance G.g_tuple (by decide +kernel) (z5 10))) (x6 (zr6 (b4 (z7 (z5 9) (z7 (z5 10) y9))))) q7)
  (y7 (z3r (T:=.l) PySem.F.plainAttrs_list PySem.F.slot_list_append PySem.F.type_list_append mt_append zR8 (zy7 3) (z7 (z5 9) y9))
  (x6 (zr6 R3))))))))))) (fun t ds h=>z1Q h) (by decide)
theorem zL1:FnScope ["_law_size", "_law_given", "_law_one", "_law_there", "_law_front", "_law_wider", "_law_censer", "_law_turns", "_law_word", "_law_first", "_law_second", "_law_state", "_law_saying_here"] ["_law_size", "_law_given", "_law_one"] (defScope (z9 40)):=⟨rfl,rfl,rfl,by decide +kernel,rfl,by decide +kernel,by decide +kernel⟩
theorem zQ6 (G:Gs K w mg CA)  {f:Addr} {fd:FuncData} (F:FunD K "_law_chain_due" "_law_chain_due" (defArgs (z9 40)) (defBody (z9 40)) (defScope (z9 40)) [] [] f fd):FnOk P w K mg base (L2.CX P w) 1 f fd ["_law_size", "_law_given", "_law_one"] (spF K CA L7 3):=
 have sc:=zL1
 Z9 (k:=0) (N:=["_law_size", "_law_given", "_law_one", "_law_there", "_law_front", "_law_wider", "_law_censer", "_law_turns", "_law_word", "_law_first", "_law_second", "_law_state", "_law_saying_here"]) (ps:=["_law_size", "_law_given", "_law_one"]) (body:=zl1) F sc (fun cdv A outer s H E hr=>by
  have hu:=X2 hr
  exact (y7 (q9 3 sc.nd (z4g (hu1 hu) (b4 (z7 (z5 2) (z7 y8 y9))) y8))
  (y7 (q9 4 sc.nd (X6 (z7 (b4 (z7 (z5 2) (z7 y8 y9))) y9)))
  (y7 (zN2 (passes_of rfl) (u9 hu (Z8 Q1 Q3 G.g_len (by decide +kernel) (z7 (z5 4) y9)) y8) (y7 (q9 5 sc.nd (X6 y9))
  (y7 (Q9 (passes_of rfl) rfl (R8 (z5 4)) (zo8 rfl (Y0 (Y0 H8)) (U6 (b7 6 sc.nd) (U6 (b7 7 sc.nd) zj8))) (x6 (Q9 (passes_of rfl) rfl (R8 (zy9 (own:=[("_law_saying_here",12)]) rfl sc.nd (R8 (z5 1)) (blkOk_by (N:=["_law_size", "_law_given", "_law_one", "_law_there", "_law_front", "_law_wider", "_law_censer", "_law_turns", "_law_word", "_law_first", "_law_second", "_law_state", "_law_saying_here"]) (sc:=(defScope (z9 40))) (by decide +kernel)) (fun _ _ _ _ _=>(b7 12 sc.nd)) (by decide) (fun _ _ _ _ _=>(zf5 (zf8 (zm4 (u9 hu (z5 12) R3) (zh3 (u9 hu (Z8 Q1 Q3 G.g_len (by decide +kernel) (z7 (z5 12) y9)) y8)))))) (fun _ _ _ _ _=>(z5 12)))) (zo8 rfl (Y0 (Y0 (Y0 H8))) (U6 (b7 8 sc.nd) (U6 (b7 9 sc.nd) (U6 (b7 10 sc.nd) zj8)))) (x6 (b8 (zf8 (zi7 (u9 hu (z5 6) (z5 9)) (zn1 (u9 hu (z5 6) (z5 10))))) (y7 (q9 11 sc.nd (b4 (z7 (v9 (v9 (z5 9) (z5 10)) (z5 6)) (z7 (v9 (z5 7) (zv2 call_int1 zT8 G.g_int (by decide +kernel) (z7 (ze0 hu (z5 8) b5) y9))) y9))))
  (x6 (b8 (zf8 (zm4 (u9 hu (w8 hu (z5 11) y8) y8) (zh3 (u9 hu (z5 11) (z5 3))))) (y7 (zu1 hu (v9 (w8 hu (z5 3) (b4 (z7 (z5 6) (z7 (z5 7) y9)))) y8) (zc0 3) (z5 11))
  (x6 (zs9 5 (z5 11)))) q7))) q7)))))
  (x6 (z6Y 4 5 sc.nd)))))
  (x6 (zj9 3)))))) (fun ds h=>j8 h) (by decide)
theorem zL9:FnScope ["_law_cell_here", "_law_top", "_law_row"] ["_law_cell_here", "_law_top"] (defScope (z9 41)):=⟨rfl,rfl,rfl,by decide +kernel,rfl,by decide +kernel,by decide +kernel⟩
theorem zQ2 (G:Gs K w mg CA) (P7:FnG P w K mg base CA S2 1 "_law_draw" []) {f:Addr} {fd:FuncData} (F:FunD K "_law_size_some" "_law_size_some" (defArgs (z9 41)) (defBody (z9 41)) (defScope (z9 41)) [] [] f fd):FnOk P w K mg base (L2.CX P w) 2 f fd ["_law_cell_here", "_law_top"] (spF K CA L5 2):=
 have sc:=zL9
 Z9 (k:=1) (N:=["_law_cell_here", "_law_top", "_law_row"]) (ps:=["_law_cell_here", "_law_top"]) (body:=zb7) F sc (fun cdv A outer s H E hr=>by
  have hu:=X2 hr
  exact (y7 (q9 2 sc.nd (n9 (takes_of rfl rfl rfl rfl) (hr.mono (by decide)) P7 (z7 (z5 0) (z7 (X6 (z7 (z5 1) (z7 y8 y9))) y9))))
  (x6 (j5 (v9 (v9 (w8 hu (z5 2) y8) (zI3 (u9 hu (w8 hu (z5 2) y8) y8) (z5 1) (Z8 (zS1 rfl) zU4 G.g_min (by decide +kernel) (z7 (z5 1) (z7 y8 y9))))) y8))))) (fun ds h=>j8 h) (by decide)
theorem zR2:FnScope ["_law_found", "_law_given", "_law_there", "_law_one", "_law_other", "_law_due", "_law_turns"] ["_law_found", "_law_given", "_law_there", "_law_one", "_law_other"] (defScope (z9 42)):=⟨rfl,rfl,rfl,by decide +kernel,rfl,by decide +kernel,by decide +kernel⟩
theorem zU0 (G:Gs K w mg CA) (zF3:FnG P w K mg base CA zo2 2 "_law_nums" []) (zl0:FnG P w K mg base CA L6 1 "_law_walked_to" []) {f:Addr} {fd:FuncData} (F:FunD K "_law_chain_ok" "_law_chain_ok" (defArgs (z9 42)) (defBody (z9 42)) (defScope (z9 42)) [] [] f fd):FnOk P w K mg base (L2.CX P w) 3 f fd ["_law_found", "_law_given", "_law_there", "_law_one", "_law_other"] (spF K CA N6 5):=
 have sc:=zR2
 Z9 (k:=2) (N:=["_law_found", "_law_given", "_law_there", "_law_one", "_law_other", "_law_due", "_law_turns"]) (ps:=["_law_found", "_law_given", "_law_there", "_law_one", "_law_other"]) (body:=ze9) F sc (fun cdv A outer s H E hr=>by
  have hu:=X2 hr
  exact (y7 (zr9 (own:=[("_law_turns",6)]) rfl sc.nd (zg2 G.g_range y8) (blkOk_by (N:=["_law_found", "_law_given", "_law_there", "_law_one", "_law_other", "_law_due", "_law_turns"]) (sc:=(defScope (z9 42))) (by decide +kernel)) (fun _ _ _ _ _=>(b7 6 sc.nd)) (by decide) (fun _ _ _ _ _=>(zf5 (u9 hu (b4 (z7 (z5 4) (z7 (z5 6) y9))) (z5 2)))) (fun _ _ _ _ _=>(z5 6)) (sw_true rfl rfl rfl (by decide +kernel)))
  (y7 (b8 (u9 hu (Z8 Q1 Q3 G.g_len (by decide +kernel) (z7 (z5 5) y9)) y8) (x6 (j5 (ze0 hu (z5 0) R3))) q7)
  (y7 (b8 (zf8 (zi7 (zj0 (zl8 (zC1 (T := "tuple") G.g_isinstance G.g_tuple (by decide +kernel) (z5 0)))) (zi7 (u9 hu (Z8 Q1 Q3 G.g_len (by decide +kernel) (z7 (z5 0) y9)) y8) (zn1 (zj0 (zl8 (n9 (takes_of rfl rfl rfl rfl) (hr.mono (by decide)) zF3 (z7 (w8 hu (z5 0) y8) y9)))))))) (x6 (j5 zn7)) q7)
  (y7 (b8 (u9 hu (w8 hu (z5 0) y8) (n9 (takes_of rfl rfl rfl rfl) (hr.mono (by decide)) zl0 (z7 (z5 1) (z7 (w8 hu (z5 0) y8) (z7 (z5 3) (z7 (z5 4) y9)))))) (x6 (j5 zn7)) q7)
  (x6 (j5 (ze0 hu (Z8 Q1 Q3 G.g_len (by decide +kernel) (z7 (w8 hu (z5 0) y8) y9)) (Z8 (zS1 rfl) zU4 G.g_min (by decide +kernel) (z7 (zy9 (own:=[("_law_turns",6)]) rfl sc.nd (R8 (z5 5)) (blkOk_by (N:=["_law_found", "_law_given", "_law_there", "_law_one", "_law_other", "_law_due", "_law_turns"]) (sc:=(defScope (z9 42))) (by decide +kernel)) (fun _ _ _ _ _=>(b7 6 sc.nd)) (by decide) (fun _ _ _ _ _=>zH0) (fun _ _ _ _ _=>(w8 hu (z5 2) (b4 (z7 (z5 4) (z7 (z5 6) y9)))))) y9)))))))))) (fun ds h=>j8 h) (by decide)
theorem zR1:FnScope ["_law_said", "_law_turn", "_law_one", "_law_other"] ["_law_said", "_law_turn", "_law_one", "_law_other"] (defScope (z9 43)):=⟨rfl,rfl,rfl,by decide +kernel,rfl,by decide +kernel,by decide +kernel⟩
theorem zW3 (G:Gs K w mg CA) (b9:MtR P w K mg base CA "Sayings" "chain" v8 3) (D2:MtR P w K mg base CA "Sayings" "told" V1 53) (T3:MtR P w K mg base CA "Sayings" "why" i6 52) {f:Addr} {fd:FuncData} (F:FunD K "_law_asked" "_law_asked" (defArgs (z9 43)) (defBody (z9 43)) (defScope (z9 43)) [] [] f fd):FnOk P w K mg base (L2.CX P w) 54 f fd ["_law_said", "_law_turn", "_law_one", "_law_other"] (spF K CA Q2 4):=
 have sc:=zR1
 Z9 (k:=53) (N:=["_law_said", "_law_turn", "_law_one", "_law_other"]) (ps:=["_law_said", "_law_turn", "_law_one", "_law_other"]) (body:=B2) F sc (fun cdv A outer s H E hr=>by
  have hu:=X2 hr
  exact (x6 (z8I (takes_of rfl rfl rfl rfl) (fun _ _ _ tkB hpB=>(y7 (b8 (u9 hu (z5 1) y8) (x6 (j5 (zF6 tkB (hr.mono (by decide)) b9 (z5 0) (z7 (z5 2) (z7 (z5 3) y9))))) q7)
  (y7 (b8 (u9 hu (z5 1) y8) (x6 (j5 (zF6 tkB (hr.mono (by decide)) D2 (z5 0) (z7 (z5 2) (z7 (z5 3) y9))))) q7)
  (x6 (j5 (zF6 tkB (hr.mono (by decide)) T3 (z5 0) (z7 (z5 2) (z7 (z5 3) y9)))))))) (.cons ⟨rfl,by decide,.inl G.x_NoCenser.g⟩ (O6 G.y_NoCenser_NoCenser zz1) (fun _ _ _ _=>(x6 (j5 (X6 (z7 b5 y9))))) .nil)))) (fun ds h=>j8 h) (by decide)
theorem zD3:FnScope ["_law_said", "_law_size", "_law_given", "_law_one", "_law_there", "_law_other", "_law_turn", "_law_found"] ["_law_said", "_law_size", "_law_given"] (defScope (z9 44)):=⟨rfl,rfl,rfl,by decide +kernel,rfl,by decide +kernel,by decide +kernel⟩
theorem zF0 (G:Gs K w mg CA) (zk7:FnG P w K mg base CA L7 1 "_law_chain_due" []) (b9:MtR P w K mg base CA "Sayings" "chain" v8 3) (zm3:FnG P w K mg base CA N6 3 "_law_chain_ok" []) {f:Addr} {fd:FuncData} (F:FunD K "_law_chains_ok" "_law_chains_ok" (defArgs (z9 44)) (defBody (z9 44)) (defScope (z9 44)) [] [] f fd):FnOk P w K mg base (L2.CX P w) 4 f fd ["_law_said", "_law_size", "_law_given"] (spF K CA T0 3):=
 have sc:=zD3
 Z9 (k:=3) (N:=["_law_said", "_law_size", "_law_given", "_law_one", "_law_there", "_law_other", "_law_turn", "_law_found"]) (ps:=["_law_said", "_law_size", "_law_given"]) (body:=zc4) F sc (fun cdv A outer s H E hr=>by
  have hu:=X2 hr
  exact (y7 (Q9 (passes_of rfl) rfl (zg2 G.g_range (z5 1)) (b7 3 sc.nd) (y7 (q9 4 sc.nd (n9 (takes_of rfl rfl rfl rfl) (hr.mono (by decide)) zk7 (z7 (z5 1) (z7 (z5 2) (z7 (z5 3) y9)))))
  (x6 (Q9 (passes_of rfl) rfl (zg2 G.g_range (z5 1)) (b7 5 sc.nd) (x6 (Q9 (passes_of rfl) rfl (zg2 G.g_range (v9 y8 (zv2 call_int1 zT8 G.g_int (by decide +kernel) (z7 (ze0 hu (z5 3) y8) y9)))) (b7 6 sc.nd) (y7 (q9 7 sc.nd (zF6 (takes_of rfl rfl rfl rfl) (hr.mono (by decide)) b9 (z5 0) (z7 (z5 3) (z7 (z5 5) y9))))
  (y7 (b8 (zj0 (zl8 (n9 (takes_of rfl rfl rfl rfl) (hr.mono (by decide)) zm3 (z7 (z5 7) (z7 (z5 2) (z7 (z5 4) (z7 (z5 3) (z7 (z5 5) y9)))))))) (x6 (j5 zn7)) q7)
  (x6 (b8 (u9 hu (z5 7) R3) (x6 (z3r (T:=.l) PySem.F.plainAttrs_list PySem.F.slot_list_append PySem.F.type_list_append mt_append zR8 (z81 hu (zc0 7) y8) (z7 y8 y9))) q7))))))))))
  (x6 (j5 zn7)))) (fun ds h=>j8 h) (by decide)
theorem zH8:FnScope ["_law_script", "_law_size", "_law_row", "_law_said", "_law_given", "_law_k", "_law_cell_here", "_law_odd", "_law_turn", "_law_pair"] ["_law_script"] (defScope (z9 45)):=⟨rfl,rfl,rfl,by decide +kernel,rfl,by decide +kernel,by decide +kernel⟩
theorem zM4 (G:Gs K w mg CA) (zm8:FnG P w K mg base CA O2 1 "_law_cell" []) (zk4:FnG P w K mg base CA L5 2 "_law_size_some" []) (P7:FnG P w K mg base CA S2 1 "_law_draw" []) (G5:MtI P w K mg base CA "Sayings" X8 2) (zG6:FnG P w K mg base CA zn4 1 "_law_many" []) (J9:FnGH P w K mg base CA b6 [0,3] 54 "_law_played_sayings") (E0:FnG P w K mg base CA T0 4 "_law_chains_ok" []) (zn9:FnG P w K mg base CA Q2 54 "_law_asked" []) (zq2:FnG P w K mg base CA N3 1 "_law_refused" []) {f:Addr} {fd:FuncData} (F:FunD K "law" "law" (defArgs (z9 45)) (defBody (z9 45)) (defScope (z9 45)) [] [] f fd):FnOk P w K mg base (L2.CX P w) 55 f fd ["_law_script"] (spF K CA A3 1):=
 have sc:=zH8
 Z9 (k:=54) (N:=["_law_script", "_law_size", "_law_row", "_law_said", "_law_given", "_law_k", "_law_cell_here", "_law_odd", "_law_turn", "_law_pair"]) (ps:=["_law_script"]) (body:=zh4) F sc (fun cdv A outer s H E hr=>by
  have hu:=X2 hr
  exact (y7 (q9 1 sc.nd (n9 (takes_of rfl rfl rfl rfl) (hr.mono (by decide)) zk4 (z7 (n9 (takes_of rfl rfl rfl rfl) (hr.mono (by decide)) zm8 (z7 (z5 0) (z7 y8 y9))) (z7 y8 y9))))
  (y7 (q9 2 sc.nd (n9 (takes_of rfl rfl rfl rfl) (hr.mono (by decide)) P7 (z7 (n9 (takes_of rfl rfl rfl rfl) (hr.mono (by decide)) zm8 (z7 (z5 0) (z7 y8 y9))) (z7 (X6 (z7 y8 (z7 (v9 y8 y8) (z7 y8 y9)))) y9))))
  (y7 (q9 3 sc.nd (yd4 (takes_of rfl rfl rfl rfl) (hr.mono (by decide)) G5 (z7 (z5 1) y9)))
  (y7 (q9 4 sc.nd (X6 y9))
  (y7 (Q9 (passes_of rfl) rfl (z69 G.g_range y8 (n9 (takes_of rfl rfl rfl rfl) (hr.mono (by decide)) zG6 (z7 (z5 0) (z7 y8 y9)))) (b7 5 sc.nd) (y7 (q9 6 sc.nd (n9 (takes_of rfl rfl rfl rfl) (hr.mono (by decide)) zm8 (z7 (z5 0) (z7 (z5 5) y9))))
  (y7 (z0d (zY4 (takes_of rfl rfl rfl rfl) (hr.mono (by decide)) J9 (z33 (zc0 3) (z37 (z5 6) (z37 (z5 1) (z33 (zc0 4) z1r))))))
  (x6 (b8 (zf8 (zi7 (u9 hu (z5 5) y8) (zn1 (u9 hu (v9 (z5 6) y8) y8)))) (x6 (b8 (zj0 (zl8 (n9 (takes_of rfl rfl rfl rfl) (hr.mono (by decide)) E0 (z7 (z5 3) (z7 (z5 1) (z7 (z5 4) y9)))))) (x6 (j5 zn7)) q7)) q7)))))
  (y7 (Q9 (passes_of rfl) rfl (R8 (X6 (z7 (z4L y8) (z7 (z5 1) (z7 (v9 (z4L y8) (w8 hu (z5 2) y8)) (z7 (v9 (z5 1) (w8 hu (z5 2) y8)) y9)))))) (b7 7 sc.nd) (x6 (Q9 (passes_of rfl) rfl (zg2 G.g_range y8) (b7 8 sc.nd) (x6 (Q9 (passes_of rfl) rfl (R8 (X6 (z7 (b4 (z7 (z5 7) (z7 (v9 (w8 hu (z5 2) y8) (z5 1)) y9))) (z7 (b4 (z7 (v9 (w8 hu (z5 2) y8) (z5 1)) (z7 (z5 7) y9))) (z7 (b4 (z7 (z5 7) (z7 (z5 7) y9))) y9))))) (b7 9 sc.nd) (x6 (b8 (zj0 (zl8 (n9 (takes_of rfl rfl rfl rfl) (hr.mono (by decide)) zq2 (z7 (n9 (takes_of rfl rfl rfl rfl) (hr.mono (by decide)) zn9 (z7 (z5 3) (z7 (z5 8) (z7 (w8 hu (z5 9) y8) (z7 (w8 hu (z5 9) y8) y9))))) y9)))) (x6 (j5 zn7)) q7)))))))
  (x6 (j5 (n9 (takes_of rfl rfl rfl rfl) (hr.mono (by decide)) E0 (z7 (z5 3) (z7 (z5 1) (z7 (z5 4) y9))))))))))))) (fun ds h=>j8 h) (by decide)
end
theorem z8e {P:Program} {w:World} {K:PySem.W.Frag} {h:Heap} {mg:Str->Option Value} {fa f0 f1 f2 f3 f4 f5 f6 f7 f8 f9 f10 f11 f12 f13 f14 f15 f16 f17 f18 f19 f20 f21 f22 f23 f24 f25 f26 f27 f28 f29 f30 f31 f32 f33 f34 f35 f36 f37 f38 f39 f40:Addr} {od0 an0 od1 an1 od2 an2 od3 an3 od4 an4 od5 an5 od6 an6 od7 an7 od8 an8 od9 an9 od10 an10 od11 an11 od12 an12 od13 an13 od14 an14 od15 an15 od16 an16 od17 an17 od18 an18 od19 an19 od20 an20 od21 an21 od22 an22 od23 an23 od24 an24 od25 an25 od26 an26 od27 an27 od28 an28 od29 an29 od30 an30 od31 an31 od32 an32 od33 an33 od34 an34 od35 an35 od36 an36 od37 an37 od38 an38 od39 an39 od40 an40:Option Addr} {sl0 sl1 sl2 sl3 sl4 sl5 sl6 sl7 sl8 sl9 sl10 sl11 sl12 sl13 sl14 sl15 sl16 sl17 sl18 sl19 sl20 sl21 sl22 sl23 sl24 sl25 sl26 sl27 sl28 sl29 sl30 sl31 sl32 sl33 sl34 sl35 sl36 sl37 sl38 sl39 sl40:Array (Option Value)} {oc0 kV0 dc0 pm0 cd0 ct0 oc1 kV1 dc1 pm1 cd1 ct1 oc2 kV2 dc2 pm2 cd2 ct2 oc3 kV3 dc3 pm3 cd3 ct3 oc4 kV4 dc4 pm4 cd4 ct4 oc5 kV5 dc5 pm5 cd5 ct5 oc6 kV6 dc6 pm6 cd6 ct6 oc7 kV7 dc7 pm7 cd7 ct7 oc8 kV8 dc8 pm8 cd8 ct8 oc9 kV9 dc9 pm9 cd9 ct9 oc10 kV10 dc10 pm10 cd10 ct10 oc11 kV11 dc11 pm11 cd11 ct11 oc12 kV12 dc12 pm12 cd12 ct12 oc13 kV13 dc13 pm13 cd13 ct13 oc14 kV14 dc14 pm14 cd14 ct14 oc15 kV15 dc15 pm15 cd15 ct15 oc16 kV16 dc16 pm16 cd16 ct16 oc17 kV17 dc17 pm17 cd17 ct17 oc18 kV18 dc18 pm18 cd18 ct18 oc19 kV19 dc19 pm19 cd19 ct19 oc20 kV20 dc20 pm20 cd20 ct20 oc21 kV21 dc21 pm21 cd21 ct21 oc22 kV22 dc22 pm22 cd22 ct22 oc23 kV23 dc23 pm23 cd23 ct23 oc24 kV24 dc24 pm24 cd24 ct24 oc25 kV25 dc25 pm25 cd25 ct25 oc26 kV26 dc26 pm26 cd26 ct26 oc27 kV27 dc27 pm27 cd27 ct27 oc28 kV28 dc28 pm28 cd28 ct28 oc29 kV29 dc29 pm29 cd29 ct29 oc30 kV30 dc30 pm30 cd30 ct30 oc31 kV31 dc31 pm31 cd31 ct31 oc32 kV32 dc32 pm32 cd32 ct32 oc33 kV33 dc33 pm33 cd33 ct33 oc34 kV34 dc34 pm34 cd34 ct34 oc35 kV35 dc35 pm35 cd35 ct35 oc36 kV36 dc36 pm36 cd36 ct36 oc37 kV37 dc37 pm37 cd37 ct37 oc38 kV38 dc38 pm38 cd38 ct38 oc39 kV39 dc39 pm39 cd39 ct39 oc40 kV40 dc40 pm40 cd40 ct40:Value} {C_Sayings:Addr} {T29:Addr} {ocT29:Value} {odT29:Option Addr} {nT29:Nat} {slT29:Array (Option Value)} {t29_0:Tok} {tg_GREATEST:Tok} {C_BadMany:Addr} {C_BadSaying:Addr} {C_Clash:Addr} {C_NoCenser:Addr} {C_NoFit:Addr} {C_NoSaying:Addr} {C_Withdrawn:Addr} {C_CenserError:Addr} {fx_Clash:Addr} {vnm_Clash vq_Clash:Str} {vN_Clash:Addr} {vbs_Clash:List Value} {vsn_Clash:List Str} {vsub_Clash:List Value} {vab_Clash:Bool} {vcol_Clash:Option Bool} {vdd_Clash:Option Addr} {vm0_Clash vm1_Clash vm2_Clash vm3_Clash vm5_Clash:Option Value} {voc_Clash vkV_Clash vdc_Clash vpm_Clash vcd_Clash vct_Clash:Value} {vod_Clash van_Clash:Option Addr} {vsl_Clash:Array (Option Value)} {fx_NoFit:Addr} {vnm_NoFit vq_NoFit:Str} {vN_NoFit:Addr} {vbs_NoFit:List Value} {vsn_NoFit:List Str} {vsub_NoFit:List Value} {vab_NoFit:Bool} {vcol_NoFit:Option Bool} {vdd_NoFit:Option Addr} {vm0_NoFit vm1_NoFit vm2_NoFit vm3_NoFit vm5_NoFit:Option Value} {voc_NoFit vkV_NoFit vdc_NoFit vpm_NoFit vcd_NoFit vct_NoFit:Value} {vod_NoFit van_NoFit:Option Addr} {vsl_NoFit:Array (Option Value)} {ta_LENGTHS:Addr} {te_LENGTHS:Array DictEntry} {tn_LENGTHS:Nat} {tk_LENGTHS_0:Tok} {tk_LENGTHS_1:Tok} {tk_LENGTHS_2:Tok} {tk_LENGTHS_3:Tok} (X:K.In h) (G:h.Ns mainGlobals mg) (hfa:mg "law" = some (.ref fa))
  (aC_Sayings:PySem.W.nsIn K mainGlobals "Sayings" = some (some (.ref C_Sayings)))
  (pg_Sayings:PySem.W.plainGet K C_Sayings Str.empty=true)
  (hd_Sayings:PySem.W.hasDictIn K C_Sayings=true)
  (po_Sayings:PySem.W.plainOver K C_Sayings=true)
  (sa_Sayings:PySem.W.findIn K (.ref C_Sayings) "__setattr__" = some (some (.builtin "object.__setattr__")))
  (mk_Sayings:PySem.W.makesIn K C_Sayings=true)
  (kc_Sayings:PySem.W.keepIn K (.ref C_Sayings)=true)
  (nA_Sayings_given:PySem.W.findIn K (.ref C_Sayings) "given" = some none)
  (nA_Sayings_size:PySem.W.findIn K (.ref C_Sayings) "size" = some none)
  (a0:PySem.W.nsIn K mainGlobals "_wall" = some (some (.ref f0)))
  (l0:K.lookup f0=some ⟨oc0,od0,.func (PySem.W.fnOf "_wall" "_wall" (defArgs (z9 0)) (defBody (z9 0)) (defScope (z9 0)) .none kV0 dc0 pm0 an0 cd0 ct0),sl0⟩)
  (c0:PySem.W.codeIn K cd0 "_wall" = true)
  (k0:PySem.W.keepIn K (.ref f0)=true)
  (a1:PySem.W.nsIn K mainGlobals "look_censer" = some (some (.ref f1)))
  (l1:K.lookup f1=some ⟨oc1,od1,.func (PySem.W.fnOf "look_censer" "look_censer" (defArgs (z9 12)) (defBody (z9 12)) (defScope (z9 12)) .none kV1 dc1 pm1 an1 cd1 ct1),sl1⟩)
  (c1:PySem.W.codeIn K cd1 "look_censer" = true)
  (k1:PySem.W.keepIn K (.ref f1)=true)
  (a2:PySem.W.nsIn K mainGlobals "numbered" = some (some (.ref f2)))
  (l2:K.lookup f2=some ⟨oc2,od2,.func (PySem.W.fnOf "numbered" "numbered" (defArgs (z9 13)) (defBody (z9 13)) (defScope (z9 13)) .none kV2 dc2 pm2 an2 cd2 ct2),sl2⟩)
  (c2:PySem.W.codeIn K cd2 "numbered" = true)
  (k2:PySem.W.keepIn K (.ref f2)=true)
  (a3:PySem.W.nsIn K mainGlobals "look_many" = some (some (.ref f3)))
  (l3:K.lookup f3=some ⟨oc3,od3,.func (PySem.W.fnOf "look_many" "look_many" (defArgs (z9 15)) (defBody (z9 15)) (defScope (z9 15)) .none kV3 dc3 pm3 an3 cd3 ct3),sl3⟩)
  (c3:PySem.W.codeIn K cd3 "look_many" = true)
  (k3:PySem.W.keepIn K (.ref f3)=true)
  (a4:PySem.W.nsIn K mainGlobals "look_saying" = some (some (.ref f4)))
  (l4:K.lookup f4=some ⟨oc4,od4,.func (PySem.W.fnOf "look_saying" "look_saying" (defArgs (z9 18)) (defBody (z9 18)) (defScope (z9 18)) .none kV4 dc4 pm4 an4 cd4 ct4),sl4⟩)
  (c4:PySem.W.codeIn K cd4 "look_saying" = true)
  (k4:PySem.W.keepIn K (.ref f4)=true)
  (a5:PySem.W.nsIn K mainGlobals "links" = some (some (.ref f5)))
  (l5:K.lookup f5=some ⟨oc5,od5,.func (PySem.W.fnOf "links" "links" (defArgs (z9 19)) (defBody (z9 19)) (defScope (z9 19)) .none kV5 dc5 pm5 an5 cd5 ct5),sl5⟩)
  (c5:PySem.W.codeIn K cd5 "links" = true)
  (k5:PySem.W.keepIn K (.ref f5)=true)
  (a6:PySem.W.nsIn K mainGlobals "said_apart" = some (some (.ref f6)))
  (l6:K.lookup f6=some ⟨oc6,od6,.func (PySem.W.fnOf "said_apart" "said_apart" (defArgs (z9 20)) (defBody (z9 20)) (defScope (z9 20)) .none kV6 dc6 pm6 an6 cd6 ct6),sl6⟩)
  (c6:PySem.W.codeIn K cd6 "said_apart" = true)
  (k6:PySem.W.keepIn K (.ref f6)=true)
  (a7:PySem.W.nsIn K mainGlobals "fewest_said" = some (some (.ref f7)))
  (l7:K.lookup f7=some ⟨oc7,od7,.func (PySem.W.fnOf "fewest_said" "fewest_said" (defArgs (z9 21)) (defBody (z9 21)) (defScope (z9 21)) .none kV7 dc7 pm7 an7 cd7 ct7),sl7⟩)
  (c7:PySem.W.codeIn K cd7 "fewest_said" = true)
  (k7:PySem.W.keepIn K (.ref f7)=true)
  (a8:PySem.W.nsIn K mainGlobals "most_said" = some (some (.ref f8)))
  (l8:K.lookup f8=some ⟨oc8,od8,.func (PySem.W.fnOf "most_said" "most_said" (defArgs (z9 22)) (defBody (z9 22)) (defScope (z9 22)) .none kV8 dc8 pm8 an8 cd8 ct8),sl8⟩)
  (c8:PySem.W.codeIn K cd8 "most_said" = true)
  (k8:PySem.W.keepIn K (.ref f8)=true)
  (a9:PySem.W.nsIn K mainGlobals "plain_paper" = some (some (.ref f9)))
  (l9:K.lookup f9=some ⟨oc9,od9,.func (PySem.W.fnOf "plain_paper" "plain_paper" (defArgs (z9 23)) (defBody (z9 23)) (defScope (z9 23)) .none kV9 dc9 pm9 an9 cd9 ct9),sl9⟩)
  (c9:PySem.W.codeIn K cd9 "plain_paper" = true)
  (k9:PySem.W.keepIn K (.ref f9)=true)
  (a10:PySem.W.nsIn K mainGlobals "either_pair" = some (some (.ref f10)))
  (l10:K.lookup f10=some ⟨oc10,od10,.func (PySem.W.fnOf "either_pair" "either_pair" (defArgs (z9 24)) (defBody (z9 24)) (defScope (z9 24)) .none kV10 dc10 pm10 an10 cd10 ct10),sl10⟩)
  (c10:PySem.W.codeIn K cd10 "either_pair" = true)
  (k10:PySem.W.keepIn K (.ref f10)=true)
  (a11:PySem.W.nsIn K mainGlobals "searched" = some (some (.ref f11)))
  (l11:K.lookup f11=some ⟨oc11,od11,.func (PySem.W.fnOf "searched" "searched" (defArgs (z9 25)) (defBody (z9 25)) (defScope (z9 25)) .none kV11 dc11 pm11 an11 cd11 ct11),sl11⟩)
  (c11:PySem.W.codeIn K cd11 "searched" = true)
  (k11:PySem.W.keepIn K (.ref f11)=true)
  (a12:PySem.W.findIn K (.ref C_Sayings) "__init__" = some (some (.ref f12)))
  (i12:PySem.W.isFn K (.ref f12)=true)
  (l12:K.lookup f12=some ⟨oc12,od12,.func (PySem.W.fnOf "__init__" "Sayings.__init__" (defArgs (inClass (z9 27) 0)) (defBody (inClass (z9 27) 0)) (defScope (inClass (z9 27) 0)) .none kV12 dc12 pm12 an12 cd12 ct12),sl12⟩)
  (c12:PySem.W.codeIn K cd12 "Sayings.__init__" = true)
  (k12:PySem.W.keepIn K (.ref f12)=true)
  (a13:PySem.W.findIn K (.ref C_Sayings) "censers" = some (some (.ref f13)))
  (i13:PySem.W.isFn K (.ref f13)=true)
  (l13:K.lookup f13=some ⟨oc13,od13,.func (PySem.W.fnOf "censers" "Sayings.censers" (defArgs (inClass (z9 27) 1)) (defBody (inClass (z9 27) 1)) (defScope (inClass (z9 27) 1)) .none kV13 dc13 pm13 an13 cd13 ct13),sl13⟩)
  (c13:PySem.W.codeIn K cd13 "Sayings.censers" = true)
  (k13:PySem.W.keepIn K (.ref f13)=true)
  (a14:PySem.W.findIn K (.ref C_Sayings) "said" = some (some (.ref f14)))
  (i14:PySem.W.isFn K (.ref f14)=true)
  (l14:K.lookup f14=some ⟨oc14,od14,.func (PySem.W.fnOf "said" "Sayings.said" (defArgs (inClass (z9 27) 2)) (defBody (inClass (z9 27) 2)) (defScope (inClass (z9 27) 2)) .none kV14 dc14 pm14 an14 cd14 ct14),sl14⟩)
  (c14:PySem.W.codeIn K cd14 "Sayings.said" = true)
  (k14:PySem.W.keepIn K (.ref f14)=true)
  (a15:PySem.W.findIn K (.ref C_Sayings) "standing" = some (some (.ref f15)))
  (i15:PySem.W.isFn K (.ref f15)=true)
  (l15:K.lookup f15=some ⟨oc15,od15,.func (PySem.W.fnOf "standing" "Sayings.standing" (defArgs (inClass (z9 27) 3)) (defBody (inClass (z9 27) 3)) (defScope (inClass (z9 27) 3)) .none kV15 dc15 pm15 an15 cd15 ct15),sl15⟩)
  (c15:PySem.W.codeIn K cd15 "Sayings.standing" = true)
  (k15:PySem.W.keepIn K (.ref f15)=true)
  (a16:PySem.W.findIn K (.ref C_Sayings) "plain" = some (some (.ref f16)))
  (i16:PySem.W.isFn K (.ref f16)=true)
  (l16:K.lookup f16=some ⟨oc16,od16,.func (PySem.W.fnOf "plain" "Sayings.plain" (defArgs (inClass (z9 27) 4)) (defBody (inClass (z9 27) 4)) (defScope (inClass (z9 27) 4)) .none kV16 dc16 pm16 an16 cd16 ct16),sl16⟩)
  (c16:PySem.W.codeIn K cd16 "Sayings.plain" = true)
  (k16:PySem.W.keepIn K (.ref f16)=true)
  (a17:PySem.W.findIn K (.ref C_Sayings) "say" = some (some (.ref f17)))
  (i17:PySem.W.isFn K (.ref f17)=true)
  (l17:K.lookup f17=some ⟨oc17,od17,.func (PySem.W.fnOf "say" "Sayings.say" (defArgs (inClass (z9 27) 5)) (defBody (inClass (z9 27) 5)) (defScope (inClass (z9 27) 5)) .none kV17 dc17 pm17 an17 cd17 ct17),sl17⟩)
  (c17:PySem.W.codeIn K cd17 "Sayings.say" = true)
  (k17:PySem.W.keepIn K (.ref f17)=true)
  (a18:PySem.W.findIn K (.ref C_Sayings) "withdraw" = some (some (.ref f18)))
  (i18:PySem.W.isFn K (.ref f18)=true)
  (l18:K.lookup f18=some ⟨oc18,od18,.func (PySem.W.fnOf "withdraw" "Sayings.withdraw" (defArgs (inClass (z9 27) 6)) (defBody (inClass (z9 27) 6)) (defScope (inClass (z9 27) 6)) .none kV18 dc18 pm18 an18 cd18 ct18),sl18⟩)
  (c18:PySem.W.codeIn K cd18 "Sayings.withdraw" = true)
  (k18:PySem.W.keepIn K (.ref f18)=true)
  (a19:PySem.W.findIn K (.ref C_Sayings) "onward" = some (some (.ref f19)))
  (i19:PySem.W.isFn K (.ref f19)=true)
  (l19:K.lookup f19=some ⟨oc19,od19,.func (PySem.W.fnOf "onward" "Sayings.onward" (defArgs (inClass (z9 27) 7)) (defBody (inClass (z9 27) 7)) (defScope (inClass (z9 27) 7)) .none kV19 dc19 pm19 an19 cd19 ct19),sl19⟩)
  (c19:PySem.W.codeIn K cd19 "Sayings.onward" = true)
  (k19:PySem.W.keepIn K (.ref f19)=true)
  (a20:PySem.W.findIn K (.ref C_Sayings) "chain" = some (some (.ref f20)))
  (i20:PySem.W.isFn K (.ref f20)=true)
  (l20:K.lookup f20=some ⟨oc20,od20,.func (PySem.W.fnOf "chain" "Sayings.chain" (defArgs (inClass (z9 27) 8)) (defBody (inClass (z9 27) 8)) (defScope (inClass (z9 27) 8)) .none kV20 dc20 pm20 an20 cd20 ct20),sl20⟩)
  (c20:PySem.W.codeIn K cd20 "Sayings.chain" = true)
  (k20:PySem.W.keepIn K (.ref f20)=true)
  (a21:PySem.W.findIn K (.ref C_Sayings) "why" = some (some (.ref f21)))
  (i21:PySem.W.isFn K (.ref f21)=true)
  (l21:K.lookup f21=some ⟨oc21,od21,.func (PySem.W.fnOf "why" "Sayings.why" (defArgs (inClass (z9 27) 9)) (defBody (inClass (z9 27) 9)) (defScope (inClass (z9 27) 9)) .none kV21 dc21 pm21 an21 cd21 ct21),sl21⟩)
  (c21:PySem.W.codeIn K cd21 "Sayings.why" = true)
  (k21:PySem.W.keepIn K (.ref f21)=true)
  (a22:PySem.W.findIn K (.ref C_Sayings) "told" = some (some (.ref f22)))
  (i22:PySem.W.isFn K (.ref f22)=true)
  (l22:K.lookup f22=some ⟨oc22,od22,.func (PySem.W.fnOf "told" "Sayings.told" (defArgs (inClass (z9 27) 10)) (defBody (inClass (z9 27) 10)) (defScope (inClass (z9 27) 10)) .none kV22 dc22 pm22 an22 cd22 ct22),sl22⟩)
  (c22:PySem.W.codeIn K cd22 "Sayings.told" = true)
  (k22:PySem.W.keepIn K (.ref f22)=true)
  (a23:PySem.W.findIn K (.ref C_Sayings) "twin" = some (some (.ref f23)))
  (i23:PySem.W.isFn K (.ref f23)=true)
  (l23:K.lookup f23=some ⟨oc23,od23,.func (PySem.W.fnOf "twin" "Sayings.twin" (defArgs (inClass (z9 27) 11)) (defBody (inClass (z9 27) 11)) (defScope (inClass (z9 27) 11)) .none kV23 dc23 pm23 an23 cd23 ct23),sl23⟩)
  (c23:PySem.W.codeIn K cd23 "Sayings.twin" = true)
  (k23:PySem.W.keepIn K (.ref f23)=true)
  (a24:PySem.W.nsIn K mainGlobals "_law_draw" = some (some (.ref f24)))
  (l24:K.lookup f24=some ⟨oc24,od24,.func (PySem.W.fnOf "_law_draw" "_law_draw" (defArgs (z9 29)) (defBody (z9 29)) (defScope (z9 29)) .none kV24 dc24 pm24 an24 cd24 ct24),sl24⟩)
  (c24:PySem.W.codeIn K cd24 "_law_draw" = true)
  (k24:PySem.W.keepIn K (.ref f24)=true)
  (a25:PySem.W.nsIn K mainGlobals "_law_cell" = some (some (.ref f25)))
  (l25:K.lookup f25=some ⟨oc25,od25,.func (PySem.W.fnOf "_law_cell" "_law_cell" (defArgs (z9 30)) (defBody (z9 30)) (defScope (z9 30)) .none kV25 dc25 pm25 an25 cd25 ct25),sl25⟩)
  (c25:PySem.W.codeIn K cd25 "_law_cell" = true)
  (k25:PySem.W.keepIn K (.ref f25)=true)
  (a26:PySem.W.nsIn K mainGlobals "_law_many" = some (some (.ref f26)))
  (l26:K.lookup f26=some ⟨oc26,od26,.func (PySem.W.fnOf "_law_many" "_law_many" (defArgs (z9 31)) (defBody (z9 31)) (defScope (z9 31)) .none kV26 dc26 pm26 an26 cd26 ct26),sl26⟩)
  (c26:PySem.W.codeIn K cd26 "_law_many" = true)
  (k26:PySem.W.keepIn K (.ref f26)=true)
  (a27:PySem.W.nsIn K mainGlobals "_law_num" = some (some (.ref f27)))
  (l27:K.lookup f27=some ⟨oc27,od27,.func (PySem.W.fnOf "_law_num" "_law_num" (defArgs (z9 32)) (defBody (z9 32)) (defScope (z9 32)) .none kV27 dc27 pm27 an27 cd27 ct27),sl27⟩)
  (c27:PySem.W.codeIn K cd27 "_law_num" = true)
  (k27:PySem.W.keepIn K (.ref f27)=true)
  (a28:PySem.W.nsIn K mainGlobals "_law_nums" = some (some (.ref f28)))
  (l28:K.lookup f28=some ⟨oc28,od28,.func (PySem.W.fnOf "_law_nums" "_law_nums" (defArgs (z9 33)) (defBody (z9 33)) (defScope (z9 33)) .none kV28 dc28 pm28 an28 cd28 ct28),sl28⟩)
  (c28:PySem.W.codeIn K cd28 "_law_nums" = true)
  (k28:PySem.W.keepIn K (.ref f28)=true)
  (a29:PySem.W.nsIn K mainGlobals "_law_split" = some (some (.ref f29)))
  (l29:K.lookup f29=some ⟨oc29,od29,.func (PySem.W.fnOf "_law_split" "_law_split" (defArgs (z9 34)) (defBody (z9 34)) (defScope (z9 34)) (.ref T29) kV29 dc29 pm29 an29 cd29 ct29),sl29⟩)
  (m29:K.lookup T29=some ⟨ocT29,odT29,.seq #[.int 0 t29_0] nT29,slT29⟩)
  (c29:PySem.W.codeIn K cd29 "_law_split" = true)
  (k29:PySem.W.keepIn K (.ref f29)=true)
  (a30:PySem.W.nsIn K mainGlobals "_law_refused" = some (some (.ref f30)))
  (l30:K.lookup f30=some ⟨oc30,od30,.func (PySem.W.fnOf "_law_refused" "_law_refused" (defArgs (z9 35)) (defBody (z9 35)) (defScope (z9 35)) .none kV30 dc30 pm30 an30 cd30 ct30),sl30⟩)
  (c30:PySem.W.codeIn K cd30 "_law_refused" = true)
  (k30:PySem.W.keepIn K (.ref f30)=true)
  (a31:PySem.W.nsIn K mainGlobals "_law_saying" = some (some (.ref f31)))
  (l31:K.lookup f31=some ⟨oc31,od31,.func (PySem.W.fnOf "_law_saying" "_law_saying" (defArgs (z9 36)) (defBody (z9 36)) (defScope (z9 36)) .none kV31 dc31 pm31 an31 cd31 ct31),sl31⟩)
  (c31:PySem.W.codeIn K cd31 "_law_saying" = true)
  (k31:PySem.W.keepIn K (.ref f31)=true)
  (a32:PySem.W.nsIn K mainGlobals "_law_say" = some (some (.ref f32)))
  (l32:K.lookup f32=some ⟨oc32,od32,.func (PySem.W.fnOf "_law_say" "_law_say" (defArgs (z9 37)) (defBody (z9 37)) (defScope (z9 37)) .none kV32 dc32 pm32 an32 cd32 ct32),sl32⟩)
  (c32:PySem.W.codeIn K cd32 "_law_say" = true)
  (k32:PySem.W.keepIn K (.ref f32)=true)
  (a33:PySem.W.nsIn K mainGlobals "_law_walked_to" = some (some (.ref f33)))
  (l33:K.lookup f33=some ⟨oc33,od33,.func (PySem.W.fnOf "_law_walked_to" "_law_walked_to" (defArgs (z9 38)) (defBody (z9 38)) (defScope (z9 38)) .none kV33 dc33 pm33 an33 cd33 ct33),sl33⟩)
  (c33:PySem.W.codeIn K cd33 "_law_walked_to" = true)
  (k33:PySem.W.keepIn K (.ref f33)=true)
  (a34:PySem.W.nsIn K mainGlobals "_law_played_sayings" = some (some (.ref f34)))
  (l34:K.lookup f34=some ⟨oc34,od34,.func (PySem.W.fnOf "_law_played_sayings" "_law_played_sayings" (defArgs (z9 39)) (defBody (z9 39)) (defScope (z9 39)) .none kV34 dc34 pm34 an34 cd34 ct34),sl34⟩)
  (c34:PySem.W.codeIn K cd34 "_law_played_sayings" = true)
  (k34:PySem.W.keepIn K (.ref f34)=true)
  (a35:PySem.W.nsIn K mainGlobals "_law_chain_due" = some (some (.ref f35)))
  (l35:K.lookup f35=some ⟨oc35,od35,.func (PySem.W.fnOf "_law_chain_due" "_law_chain_due" (defArgs (z9 40)) (defBody (z9 40)) (defScope (z9 40)) .none kV35 dc35 pm35 an35 cd35 ct35),sl35⟩)
  (c35:PySem.W.codeIn K cd35 "_law_chain_due" = true)
  (k35:PySem.W.keepIn K (.ref f35)=true)
  (a36:PySem.W.nsIn K mainGlobals "_law_size_some" = some (some (.ref f36)))
  (l36:K.lookup f36=some ⟨oc36,od36,.func (PySem.W.fnOf "_law_size_some" "_law_size_some" (defArgs (z9 41)) (defBody (z9 41)) (defScope (z9 41)) .none kV36 dc36 pm36 an36 cd36 ct36),sl36⟩)
  (c36:PySem.W.codeIn K cd36 "_law_size_some" = true)
  (k36:PySem.W.keepIn K (.ref f36)=true)
  (a37:PySem.W.nsIn K mainGlobals "_law_chain_ok" = some (some (.ref f37)))
  (l37:K.lookup f37=some ⟨oc37,od37,.func (PySem.W.fnOf "_law_chain_ok" "_law_chain_ok" (defArgs (z9 42)) (defBody (z9 42)) (defScope (z9 42)) .none kV37 dc37 pm37 an37 cd37 ct37),sl37⟩)
  (c37:PySem.W.codeIn K cd37 "_law_chain_ok" = true)
  (k37:PySem.W.keepIn K (.ref f37)=true)
  (a38:PySem.W.nsIn K mainGlobals "_law_asked" = some (some (.ref f38)))
  (l38:K.lookup f38=some ⟨oc38,od38,.func (PySem.W.fnOf "_law_asked" "_law_asked" (defArgs (z9 43)) (defBody (z9 43)) (defScope (z9 43)) .none kV38 dc38 pm38 an38 cd38 ct38),sl38⟩)
  (c38:PySem.W.codeIn K cd38 "_law_asked" = true)
  (k38:PySem.W.keepIn K (.ref f38)=true)
  (a39:PySem.W.nsIn K mainGlobals "_law_chains_ok" = some (some (.ref f39)))
  (l39:K.lookup f39=some ⟨oc39,od39,.func (PySem.W.fnOf "_law_chains_ok" "_law_chains_ok" (defArgs (z9 44)) (defBody (z9 44)) (defScope (z9 44)) .none kV39 dc39 pm39 an39 cd39 ct39),sl39⟩)
  (c39:PySem.W.codeIn K cd39 "_law_chains_ok" = true)
  (k39:PySem.W.keepIn K (.ref f39)=true)
  (a40:PySem.W.nsIn K mainGlobals "law" = some (some (.ref f40)))
  (l40:K.lookup f40=some ⟨oc40,od40,.func (PySem.W.fnOf "law" "law" (defArgs (z9 45)) (defBody (z9 45)) (defScope (z9 45)) .none kV40 dc40 pm40 an40 cd40 ct40),sl40⟩)
  (c40:PySem.W.codeIn K cd40 "law" = true)
  (k40:PySem.W.keepIn K (.ref f40)=true)
  (g_GREATEST:PySem.W.nsIn K mainGlobals "GREATEST" = some (some (.int 9 tg_GREATEST)))
  (g_all:PySem.W.nsIn K mainGlobals "all" = some none)
  (g_bool:PySem.W.nsIn K mainGlobals "bool" = some none)
  (g_enumerate:PySem.W.nsIn K mainGlobals "enumerate" = some none)
  (g_int:PySem.W.nsIn K mainGlobals "int" = some none)
  (g_isinstance:PySem.W.nsIn K mainGlobals "isinstance" = some none)
  (g_len:PySem.W.nsIn K mainGlobals "len" = some none)
  (g_list:PySem.W.nsIn K mainGlobals "list" = some none)
  (g_max:PySem.W.nsIn K mainGlobals "max" = some none)
  (g_min:PySem.W.nsIn K mainGlobals "min" = some none)
  (g_range:PySem.W.nsIn K mainGlobals "range" = some none)
  (g_sum:PySem.W.nsIn K mainGlobals "sum" = some none)
  (g_tuple:PySem.W.nsIn K mainGlobals "tuple" = some none)
  (xa_BadMany:PySem.W.nsIn K mainGlobals "BadMany" = some (some (.ref C_BadMany)))
  (xb_BadMany:PySem.W.subIn K (.ref C_BadMany) (.type "BaseException")=some true)
  (xt_BadMany:PySem.W.typeIn K (.ref C_BadMany)=some (.type "type"))
  (xk_BadMany:PySem.W.keepIn K (.ref C_BadMany)=true)
  (xi_BadMany:PySem.W.excIn K C_BadMany [.type "ValueError",.type "Exception",.type "BaseException",.type "object"] "ValueError.__new__" = true)
  (xa_BadSaying:PySem.W.nsIn K mainGlobals "BadSaying" = some (some (.ref C_BadSaying)))
  (xb_BadSaying:PySem.W.subIn K (.ref C_BadSaying) (.type "BaseException")=some true)
  (xt_BadSaying:PySem.W.typeIn K (.ref C_BadSaying)=some (.type "type"))
  (xk_BadSaying:PySem.W.keepIn K (.ref C_BadSaying)=true)
  (xi_BadSaying:PySem.W.excIn K C_BadSaying [.type "ValueError",.type "Exception",.type "BaseException",.type "object"] "ValueError.__new__" = true)
  (xa_Clash:PySem.W.nsIn K mainGlobals "Clash" = some (some (.ref C_Clash)))
  (xb_Clash:PySem.W.subIn K (.ref C_Clash) (.type "BaseException")=some true)
  (xt_Clash:PySem.W.typeIn K (.ref C_Clash)=some (.type "type"))
  (xk_Clash:PySem.W.keepIn K (.ref C_Clash)=true)
  (vg_Clash:PySem.W.findIn K (.ref C_Clash) "__getattribute__" = some (some (.builtin "BaseException.__getattribute__")))
  (vh_Clash:PySem.W.findIn K (.ref C_Clash) "__getattr__" = some none)
  (vd_Clash:PySem.W.hasDictIn K C_Clash=true)
  (vn_Clash:PySem.W.findIn K (.ref C_Clash) (Str.ofString "ring")=some none)
  (xa_NoCenser:PySem.W.nsIn K mainGlobals "NoCenser" = some (some (.ref C_NoCenser)))
  (xb_NoCenser:PySem.W.subIn K (.ref C_NoCenser) (.type "BaseException")=some true)
  (xt_NoCenser:PySem.W.typeIn K (.ref C_NoCenser)=some (.type "type"))
  (xk_NoCenser:PySem.W.keepIn K (.ref C_NoCenser)=true)
  (xi_NoCenser:PySem.W.excIn K C_NoCenser [.type "ValueError",.type "Exception",.type "BaseException",.type "object"] "ValueError.__new__" = true)
  (xa_NoFit:PySem.W.nsIn K mainGlobals "NoFit" = some (some (.ref C_NoFit)))
  (xb_NoFit:PySem.W.subIn K (.ref C_NoFit) (.type "BaseException")=some true)
  (xt_NoFit:PySem.W.typeIn K (.ref C_NoFit)=some (.type "type"))
  (xk_NoFit:PySem.W.keepIn K (.ref C_NoFit)=true)
  (vg_NoFit:PySem.W.findIn K (.ref C_NoFit) "__getattribute__" = some (some (.builtin "BaseException.__getattribute__")))
  (vh_NoFit:PySem.W.findIn K (.ref C_NoFit) "__getattr__" = some none)
  (vd_NoFit:PySem.W.hasDictIn K C_NoFit=true)
  (vn_NoFit:PySem.W.findIn K (.ref C_NoFit) (Str.ofString "paper")=some none)
  (xa_NoSaying:PySem.W.nsIn K mainGlobals "NoSaying" = some (some (.ref C_NoSaying)))
  (xb_NoSaying:PySem.W.subIn K (.ref C_NoSaying) (.type "BaseException")=some true)
  (xt_NoSaying:PySem.W.typeIn K (.ref C_NoSaying)=some (.type "type"))
  (xk_NoSaying:PySem.W.keepIn K (.ref C_NoSaying)=true)
  (xi_NoSaying:PySem.W.excIn K C_NoSaying [.type "ValueError",.type "Exception",.type "BaseException",.type "object"] "ValueError.__new__" = true)
  (xa_Withdrawn:PySem.W.nsIn K mainGlobals "Withdrawn" = some (some (.ref C_Withdrawn)))
  (xb_Withdrawn:PySem.W.subIn K (.ref C_Withdrawn) (.type "BaseException")=some true)
  (xt_Withdrawn:PySem.W.typeIn K (.ref C_Withdrawn)=some (.type "type"))
  (xk_Withdrawn:PySem.W.keepIn K (.ref C_Withdrawn)=true)
  (xi_Withdrawn:PySem.W.excIn K C_Withdrawn [.type "ValueError",.type "Exception",.type "BaseException",.type "object"] "ValueError.__new__" = true)
  (va_CenserError:PySem.W.nsIn K mainGlobals "CenserError" = some (some (.ref C_CenserError)))
  (vs_CenserError:PySem.W.specialIn K (.ref C_CenserError) "__getattribute__" = some (some (.builtin "type.__getattribute__")))
  (vr_CenserError:PySem.W.readsIn K C_CenserError (.type "type")=true)
  (vf_CenserError:PySem.W.findCls K (.ref C_CenserError) (.type "type") "__init__" = some (.val (.builtin "ValueError.__init__")))
  (vL_Clash:K.lookup C_Clash=some (excClassObj vnm_Clash vq_Clash C_Clash vN_Clash vbs_Clash [.ref C_CenserError,.type "ValueError",.type "Exception",.type "BaseException",.type "object"] true vsn_Clash vsub_Clash vab_Clash vcol_Clash vdd_Clash vm0_Clash vm1_Clash vm2_Clash vm3_Clash vm5_Clash "ValueError.__new__"))
  (vsa_Clash:PySem.W.findIn K (.ref C_Clash) "__setattr__" = some (some (.builtin "object.__setattr__")))
  (vi_Clash:PySem.W.findIn K (.ref C_Clash) "__init__" = some (some (.ref fx_Clash)))
  (vt_Clash:PySem.W.typeIn K (.ref fx_Clash)=some (.type "function"))
  (vl_Clash:K.lookup fx_Clash=some ⟨voc_Clash,vod_Clash,.func (PySem.W.fnOf "__init__" "Clash.__init__" (defArgs (inClass (z9 6) 0)) (defBody (inClass (z9 6) 0)) (defScope (inClass (z9 6) 0)) .none vkV_Clash vdc_Clash vpm_Clash van_Clash vcd_Clash vct_Clash),vsl_Clash⟩)
  (vc_Clash:PySem.W.codeIn K vcd_Clash "Clash.__init__" = true)
  (vk_Clash:PySem.W.keepIn K (.ref fx_Clash)=true)
  (vL_NoFit:K.lookup C_NoFit=some (excClassObj vnm_NoFit vq_NoFit C_NoFit vN_NoFit vbs_NoFit [.ref C_CenserError,.type "ValueError",.type "Exception",.type "BaseException",.type "object"] true vsn_NoFit vsub_NoFit vab_NoFit vcol_NoFit vdd_NoFit vm0_NoFit vm1_NoFit vm2_NoFit vm3_NoFit vm5_NoFit "ValueError.__new__"))
  (vsa_NoFit:PySem.W.findIn K (.ref C_NoFit) "__setattr__" = some (some (.builtin "object.__setattr__")))
  (vi_NoFit:PySem.W.findIn K (.ref C_NoFit) "__init__" = some (some (.ref fx_NoFit)))
  (vt_NoFit:PySem.W.typeIn K (.ref fx_NoFit)=some (.type "function"))
  (vl_NoFit:K.lookup fx_NoFit=some ⟨voc_NoFit,vod_NoFit,.func (PySem.W.fnOf "__init__" "NoFit.__init__" (defArgs (inClass (z9 7) 0)) (defBody (inClass (z9 7) 0)) (defScope (inClass (z9 7) 0)) .none vkV_NoFit vdc_NoFit vpm_NoFit van_NoFit vcd_NoFit vct_NoFit),vsl_NoFit⟩)
  (vc_NoFit:PySem.W.codeIn K vcd_NoFit "NoFit.__init__" = true)
  (vk_NoFit:PySem.W.keepIn K (.ref fx_NoFit)=true)
  (ya_BadSaying_Clash:PySem.W.subIn K (.ref C_BadSaying) (.ref C_Clash)=some false)
  (xc_Clash:PySem.W.isClsIn K C_Clash=true)
  (ya_BadSaying_NoFit:PySem.W.subIn K (.ref C_BadSaying) (.ref C_NoFit)=some false)
  (xc_NoFit:PySem.W.isClsIn K C_NoFit=true)
  (ya_Clash_Clash:PySem.W.subIn K (.ref C_Clash) (.ref C_Clash)=some true)
  (ya_Clash_NoFit:PySem.W.subIn K (.ref C_Clash) (.ref C_NoFit)=some false)
  (ya_NoCenser_Clash:PySem.W.subIn K (.ref C_NoCenser) (.ref C_Clash)=some false)
  (ya_NoCenser_NoCenser:PySem.W.subIn K (.ref C_NoCenser) (.ref C_NoCenser)=some true)
  (xc_NoCenser:PySem.W.isClsIn K C_NoCenser=true)
  (ya_NoCenser_NoFit:PySem.W.subIn K (.ref C_NoCenser) (.ref C_NoFit)=some false)
  (ya_NoFit_Clash:PySem.W.subIn K (.ref C_NoFit) (.ref C_Clash)=some false)
  (ya_NoFit_NoFit:PySem.W.subIn K (.ref C_NoFit) (.ref C_NoFit)=some true)
  (ug_LENGTHS:PySem.W.nsIn K mainGlobals "LENGTHS" = some (some (.ref ta_LENGTHS)))
  (ul_LENGTHS:K.lookup ta_LENGTHS=some ⟨.type "dict",none,.dict te_LENGTHS tn_LENGTHS,#[]⟩)
  (uk_LENGTHS:te_LENGTHS.toList.map He.keyOf=He.keysIn w.params [Str.ofString "alike",Str.ofString "unlike",Str.ofString "least",Str.ofString "most"])
  (uz_LENGTHS:(ta_LENGTHS == sysModules)=false)
  (uv_LENGTHS_0:PySem.W.nsIn K ta_LENGTHS (Str.ofString "alike")=some (some (.int 3 tk_LENGTHS_0)))
  (uv_LENGTHS_1:PySem.W.nsIn K ta_LENGTHS (Str.ofString "unlike")=some (some (.int 3 tk_LENGTHS_1)))
  (uv_LENGTHS_2:PySem.W.nsIn K ta_LENGTHS (Str.ofString "least")=some (some (.int 2 tk_LENGTHS_2)))
  (uv_LENGTHS_3:PySem.W.nsIn K ta_LENGTHS (Str.ofString "most")=some (some (.int 2 tk_LENGTHS_3)))
  (hlaw:∀ ns:List Int,ns.length<=63->(∀ z∈ns,Builtin.Int.intBits z<=1048576)->A3 [.scr (ns.map D.int)]=.ok (.own,.bl true)) :
  ∃ fd:FuncData,(∀ (s:Shared) (v:Value),BindsTo s fd ⟨[v],[]⟩ [("_law_script",v)])/\∀ base:Heap,K.In base->base.Ns mainGlobals mg->FnOk P w K mg base (L2.CX P w) 55 fa fd ["_law_script"] (z0U K):=by
 have e:=hfa.symm.trans (PySem.W.mg_of X G a40)
 cases e
 have GG:Gs K w mg (T1 mg):={ g_GREATEST:=⟨_,PySem.W.mg_of X G g_GREATEST⟩,g_all:=PySem.W.mg_none_of X G g_all,g_bool:=PySem.W.mg_none_of X G g_bool,g_enumerate:=PySem.W.mg_none_of X G g_enumerate,g_int:=PySem.W.mg_none_of X G g_int,g_isinstance:=PySem.W.mg_none_of X G g_isinstance,g_len:=PySem.W.mg_none_of X G g_len,g_list:=PySem.W.mg_none_of X G g_list,g_max:=PySem.W.mg_none_of X G g_max,g_min:=PySem.W.mg_none_of X G g_min,g_range:=PySem.W.mg_none_of X G g_range,g_sum:=PySem.W.mg_none_of X G g_sum,g_tuple:=PySem.W.mg_none_of X G g_tuple,x_BadMany:=zB2 X G xa_BadMany xi_BadMany xk_BadMany xb_BadMany xt_BadMany,x_BadSaying:=zB2 X G xa_BadSaying xi_BadSaying xk_BadSaying xb_BadSaying xt_BadSaying,x_Clash:=z2D X G xa_Clash vg_Clash vh_Clash xb_Clash vd_Clash vn_Clash,x_NoCenser:=zB2 X G xa_NoCenser xi_NoCenser xk_NoCenser xb_NoCenser xt_NoCenser,x_NoFit:=z2D X G xa_NoFit vg_NoFit vh_NoFit xb_NoFit vd_NoFit vn_NoFit,x_NoSaying:=zB2 X G xa_NoSaying xi_NoSaying xk_NoSaying xb_NoSaying xt_NoSaying,x_Withdrawn:=zB2 X G xa_Withdrawn xi_Withdrawn xk_Withdrawn xb_Withdrawn xt_Withdrawn,y_BadSaying_Clash:=ze3 X G xa_BadSaying xa_Clash (ze8 xb_Clash xc_Clash xt_Clash ya_BadSaying_Clash),y_BadSaying_NoFit:=ze3 X G xa_BadSaying xa_NoFit (ze8 xb_NoFit xc_NoFit xt_NoFit ya_BadSaying_NoFit),y_Clash_Clash:=ze3 X G xa_Clash xa_Clash (ze8 xb_Clash xc_Clash xt_Clash ya_Clash_Clash),y_Clash_NoFit:=ze3 X G xa_Clash xa_NoFit (ze8 xb_NoFit xc_NoFit xt_NoFit ya_Clash_NoFit),y_NoCenser_Clash:=ze3 X G xa_NoCenser xa_Clash (ze8 xb_Clash xc_Clash xt_Clash ya_NoCenser_Clash),y_NoCenser_NoCenser:=ze3 X G xa_NoCenser xa_NoCenser (ze8 xb_NoCenser xc_NoCenser xt_NoCenser ya_NoCenser_NoCenser),y_NoCenser_NoFit:=ze3 X G xa_NoCenser xa_NoFit (ze8 xb_NoFit xc_NoFit xt_NoFit ya_NoCenser_NoFit),y_NoFit_Clash:=ze3 X G xa_NoFit xa_Clash (ze8 xb_Clash xc_Clash xt_Clash ya_NoFit_Clash),y_NoFit_NoFit:=ze3 X G xa_NoFit xa_NoFit (ze8 xb_NoFit xc_NoFit xt_NoFit ya_NoFit_NoFit),tb_LENGTHS:=⟨⟨_,_,_,PySem.W.mg_of X G ug_LENGTHS,⟨ul_LENGTHS,He.keysLit_of uk_LENGTHS,uz_LENGTHS⟩,uk_LENGTHS,(List.forall_mem_cons.2 ⟨⟨_,uv_LENGTHS_0⟩,(List.forall_mem_cons.2 ⟨⟨_,uv_LENGTHS_1⟩,(List.forall_mem_cons.2 ⟨⟨_,uv_LENGTHS_2⟩,(List.forall_mem_cons.2 ⟨⟨_,uv_LENGTHS_3⟩,(fun _ h=>absurd h List.not_mem_nil)⟩)⟩)⟩)⟩)⟩⟩,fl_given:=(fun C hC=>by simp at hC; subst hC; exact ⟨⟨_,aC_Sayings,⟨pg_Sayings,hd_Sayings,po_Sayings,sa_Sayings⟩,nA_Sayings_given⟩⟩),fl_size:=(fun C hC=>by simp at hC; subst hC; exact ⟨⟨_,aC_Sayings,⟨pg_Sayings,hd_Sayings,po_Sayings,sa_Sayings⟩,nA_Sayings_size⟩⟩) }
 have F0:=i9 (x := "_wall") (qual := "_wall") (st:=(z9 0)) l0 c0 k0
 have F1:=i9 (x := "look_censer") (qual := "look_censer") (st:=(z9 12)) l1 c1 k1
 have F2:=i9 (x := "numbered") (qual := "numbered") (st:=(z9 13)) l2 c2 k2
 have F3:=i9 (x := "look_many") (qual := "look_many") (st:=(z9 15)) l3 c3 k3
 have F4:=i9 (x := "look_saying") (qual := "look_saying") (st:=(z9 18)) l4 c4 k4
 have F5:=i9 (x := "links") (qual := "links") (st:=(z9 19)) l5 c5 k5
 have F6:=i9 (x := "said_apart") (qual := "said_apart") (st:=(z9 20)) l6 c6 k6
 have F7:=i9 (x := "fewest_said") (qual := "fewest_said") (st:=(z9 21)) l7 c7 k7
 have F8:=i9 (x := "most_said") (qual := "most_said") (st:=(z9 22)) l8 c8 k8
 have F9:=i9 (x := "plain_paper") (qual := "plain_paper") (st:=(z9 23)) l9 c9 k9
 have F10:=i9 (x := "either_pair") (qual := "either_pair") (st:=(z9 24)) l10 c10 k10
 have F11:=i9 (x := "searched") (qual := "searched") (st:=(z9 25)) l11 c11 k11
 have F12:=i9 (x := "__init__") (qual := "Sayings.__init__") (st:=(inClass (z9 27) 0)) l12 c12 k12
 have F13:=i9 (x := "censers") (qual := "Sayings.censers") (st:=(inClass (z9 27) 1)) l13 c13 k13
 have F14:=i9 (x := "said") (qual := "Sayings.said") (st:=(inClass (z9 27) 2)) l14 c14 k14
 have F15:=i9 (x := "standing") (qual := "Sayings.standing") (st:=(inClass (z9 27) 3)) l15 c15 k15
 have F16:=i9 (x := "plain") (qual := "Sayings.plain") (st:=(inClass (z9 27) 4)) l16 c16 k16
 have F17:=i9 (x := "say") (qual := "Sayings.say") (st:=(inClass (z9 27) 5)) l17 c17 k17
 have F18:=i9 (x := "withdraw") (qual := "Sayings.withdraw") (st:=(inClass (z9 27) 6)) l18 c18 k18
 have F19:=i9 (x := "onward") (qual := "Sayings.onward") (st:=(inClass (z9 27) 7)) l19 c19 k19
 have F20:=i9 (x := "chain") (qual := "Sayings.chain") (st:=(inClass (z9 27) 8)) l20 c20 k20
 have F21:=i9 (x := "why") (qual := "Sayings.why") (st:=(inClass (z9 27) 9)) l21 c21 k21
 have F22:=i9 (x := "told") (qual := "Sayings.told") (st:=(inClass (z9 27) 10)) l22 c22 k22
 have F23:=i9 (x := "twin") (qual := "Sayings.twin") (st:=(inClass (z9 27) 11)) l23 c23 k23
 have F24:=i9 (x := "_law_draw") (qual := "_law_draw") (st:=(z9 29)) l24 c24 k24
 have F25:=i9 (x := "_law_cell") (qual := "_law_cell") (st:=(z9 30)) l25 c25 k25
 have F26:=i9 (x := "_law_many") (qual := "_law_many") (st:=(z9 31)) l26 c26 k26
 have F27:=i9 (x := "_law_num") (qual := "_law_num") (st:=(z9 32)) l27 c27 k27
 have F28:=i9 (x := "_law_nums") (qual := "_law_nums") (st:=(z9 33)) l28 c28 k28
 have F29:=z89 (x := "_law_split") (qual := "_law_split") (st:=(z9 34)) (dvs:=[.int 0]) (its:=[.int 0 t29_0]) l29 c29 k29 m29 (.cons ⟨_,rfl⟩ .nil) (by decide)
 have F30:=i9 (x := "_law_refused") (qual := "_law_refused") (st:=(z9 35)) l30 c30 k30
 have F31:=i9 (x := "_law_saying") (qual := "_law_saying") (st:=(z9 36)) l31 c31 k31
 have F32:=i9 (x := "_law_say") (qual := "_law_say") (st:=(z9 37)) l32 c32 k32
 have F33:=i9 (x := "_law_walked_to") (qual := "_law_walked_to") (st:=(z9 38)) l33 c33 k33
 have F34:=i9 (x := "_law_played_sayings") (qual := "_law_played_sayings") (st:=(z9 39)) l34 c34 k34
 have F35:=i9 (x := "_law_chain_due") (qual := "_law_chain_due") (st:=(z9 40)) l35 c35 k35
 have F36:=i9 (x := "_law_size_some") (qual := "_law_size_some") (st:=(z9 41)) l36 c36 k36
 have F37:=i9 (x := "_law_chain_ok") (qual := "_law_chain_ok") (st:=(z9 42)) l37 c37 k37
 have F38:=i9 (x := "_law_asked") (qual := "_law_asked") (st:=(z9 43)) l38 c38 k38
 have F39:=i9 (x := "_law_chains_ok") (qual := "_law_chains_ok") (st:=(z9 44)) l39 c39 k39
 have F40:=i9 (x := "law") (qual := "law") (st:=(z9 45)) l40 c40 k40
 refine ⟨PySem.W.fnOf "law" "law" (defArgs (z9 45)) (defBody (z9 45)) (defScope (z9 45)) .none kV40 dc40 pm40 an40 cd40 ct40,fun s v=>.of_eq rfl,fun base _ _=>?_⟩
 have Fx_Clash:=i9 (x := "__init__") (qual := "Clash.__init__") (st:=(inClass (z9 6) 0)) vl_Clash vc_Clash vk_Clash
 have c_xi_Clash:XrI P w K mg base (T1 mg) "Clash" "ring" 1:=z1D X G xa_Clash vL_Clash (by rfl) vsa_Clash xb_Clash xt_Clash xk_Clash vi_Clash vt_Clash (z4v (m := "refused") (y := "ring") Fx_Clash ⟨rfl,rfl,rfl,by decide +kernel,rfl,by decide +kernel,by decide +kernel⟩ fun cdv A outer s H E hr=>pss_cons (ps_expr (zP2 (PySem.W.mg_of X G va_CenserError) vs_CenserError vr_CenserError vf_CenserError (pa_cons (pv 0) (pa_cons pe_str pa_nil)))) (pss_one (ps_ost (pv 0) (pv 1)))) (Fx_Clash.bindsN (ps:=["self", "ring"]) fun _ _ _ _ _ _ us hl=>match us,hl with | [_,_],_=>rfl) vn_Clash
 have Fx_NoFit:=i9 (x := "__init__") (qual := "NoFit.__init__") (st:=(inClass (z9 7) 0)) vl_NoFit vc_NoFit vk_NoFit
 have c_xi_NoFit:XrI P w K mg base (T1 mg) "NoFit" "paper" 1:=z1D X G xa_NoFit vL_NoFit (by rfl) vsa_NoFit xb_NoFit xt_NoFit xk_NoFit vi_NoFit vt_NoFit (z4v (m := "refused") (y := "paper") Fx_NoFit ⟨rfl,rfl,rfl,by decide +kernel,rfl,by decide +kernel,by decide +kernel⟩ fun cdv A outer s H E hr=>pss_cons (ps_expr (zP2 (PySem.W.mg_of X G va_CenserError) vs_CenserError vr_CenserError vf_CenserError (pa_cons (pv 0) (pa_cons pe_str pa_nil)))) (pss_one (ps_ost (pv 0) (pv 1)))) (Fx_NoFit.bindsN (ps:=["self", "paper"]) fun _ _ _ _ _ _ us hl=>match us,hl with | [_,_],_=>rfl) vn_NoFit
 have o0:=z1I (P:=P) (w:=w) (base:=base) GG  F0
 have zz9:=O3 (base:=base) (dvs:=[]) (dd:=[]) (PySem.W.mg_of X G a0) o0 F0.kp (F0.bindsN (ps:=["k"]) fun _ _ _ _ _ _ us hl=>match us,hl with | [_],_=>rfl) .nil (fun _=>.nil) rfl
 have o1:=zI4 (P:=P) (w:=w) (base:=base) GG  F1
 have Z6:=O3 (base:=base) (dvs:=[]) (dd:=[]) (PySem.W.mg_of X G a1) o1 F1.kp (F1.bindsN (ps:=["censers", "one"]) fun _ _ _ _ _ _ us hl=>match us,hl with | [_,_],_=>rfl) .nil (fun _=>.nil) rfl
 have o2:=zT6 (P:=P) (w:=w) (base:=base) GG  F2
 have ze4:=O3 (base:=base) (dvs:=[]) (dd:=[]) (PySem.W.mg_of X G a2) o2 F2.kp (F2.bindsN (ps:=["marks"]) fun _ _ _ _ _ _ us hl=>match us,hl with | [_],_=>rfl) .nil (fun _=>.nil) rfl
 have o3:=zQ3 (P:=P) (w:=w) (base:=base) GG  F3
 have zk2:=O3 (base:=base) (dvs:=[]) (dd:=[]) (PySem.W.mg_of X G a3) o3 F3.kp (F3.bindsN (ps:=["censers"]) fun _ _ _ _ _ _ us hl=>match us,hl with | [_],_=>rfl) .nil (fun _=>.nil) rfl
 have o5:=z1y (P:=P) (w:=w) (base:=base) GG  F5
 have zp1:=O3 (base:=base) (dvs:=[]) (dd:=[]) (PySem.W.mg_of X G a5) o5 F5.kp (F5.bindsN (ps:=["censers", "sayings"]) fun _ _ _ _ _ _ us hl=>match us,hl with | [_,_],_=>rfl) .nil (fun _=>.nil) rfl
 have o6:=zL3 (P:=P) (w:=w) (base:=base) GG  F6
 have A9:=O3 (base:=base) (dvs:=[]) (dd:=[]) (PySem.W.mg_of X G a6) o6 F6.kp (F6.bindsN (ps:=["row", "sayings"]) fun _ _ _ _ _ _ us hl=>match us,hl with | [_,_],_=>rfl) .nil (fun _=>.nil) rfl
 have o7:=zJ0 (P:=P) (w:=w) (base:=base) GG  F7
 have C6:=O3 (base:=base) (dvs:=[]) (dd:=[]) (PySem.W.mg_of X G a7) o7 F7.kp (F7.bindsN (ps:=["sayings"]) fun _ _ _ _ _ _ us hl=>match us,hl with | [_],_=>rfl) .nil (fun _=>.nil) rfl
 have o8:=zR0 (P:=P) (w:=w) (base:=base) GG  F8
 have zb6:=O3 (base:=base) (dvs:=[]) (dd:=[]) (PySem.W.mg_of X G a8) o8 F8.kp (F8.bindsN (ps:=["censers", "sayings"]) fun _ _ _ _ _ _ us hl=>match us,hl with | [_,_],_=>rfl) .nil (fun _=>.nil) rfl
 have o10:=zJ2 (P:=P) (w:=w) (base:=base) GG  F10
 have D7:=O3 (base:=base) (dvs:=[]) (dd:=[]) (PySem.W.mg_of X G a10) o10 F10.kp (F10.bindsN (ps:=["censers", "row", "parted"]) fun _ _ _ _ _ _ us hl=>match us,hl with | [_,_,_],_=>rfl) .nil (fun _=>.nil) rfl
 have o13:=zx2 (P:=P) (w:=w) (base:=base) GG  F13
 have z1e:MtR P w K mg base (T1 mg) "Sayings" "censers" zg7 1:=⟨⟨C_Sayings,f13,_,["self"],aC_Sayings,⟨pg_Sayings,hd_Sayings,po_Sayings,sa_Sayings⟩,⟨a13,i13,k13⟩,o13,(F13.bindsN (ps:=["self"]) fun _ _ _ _ _ _ us hl=>match us,hl with | [_],_=>rfl),fun as z=>J8 z⟩⟩
 have o14:=zF5 (P:=P) (w:=w) (base:=base) GG  F14
 have z3f:MtR P w K mg base (T1 mg) "Sayings" "said" zn5 1:=⟨⟨C_Sayings,f14,_,["self"],aC_Sayings,⟨pg_Sayings,hd_Sayings,po_Sayings,sa_Sayings⟩,⟨a14,i14,k14⟩,o14,(F14.bindsN (ps:=["self"]) fun _ _ _ _ _ _ us hl=>match us,hl with | [_],_=>rfl),fun as z=>J8 z⟩⟩
 have o15:=zu0 (P:=P) (w:=w) (base:=base) GG  F15
 have H9:MtR P w K mg base (T1 mg) "Sayings" "standing" Y5 1:=⟨⟨C_Sayings,f15,_,["self"],aC_Sayings,⟨pg_Sayings,hd_Sayings,po_Sayings,sa_Sayings⟩,⟨a15,i15,k15⟩,o15,(F15.bindsN (ps:=["self"]) fun _ _ _ _ _ _ us hl=>match us,hl with | [_],_=>rfl),fun as z=>J8 z⟩⟩
 have o16:=zD4 (P:=P) (w:=w) (base:=base) GG  F16
 have U4:MtR P w K mg base (T1 mg) "Sayings" "plain" i3 1:=⟨⟨C_Sayings,f16,_,["self"],aC_Sayings,⟨pg_Sayings,hd_Sayings,po_Sayings,sa_Sayings⟩,⟨a16,i16,k16⟩,o16,(F16.bindsN (ps:=["self"]) fun _ _ _ _ _ _ us hl=>match us,hl with | [_],_=>rfl),fun as z=>J8 z⟩⟩
 have o18:=zo4 (P:=P) (w:=w) (base:=base) GG  F18
 have M7:MtC P w K mg base (T1 mg) "Sayings" "withdraw" p7 1:=⟨⟨C_Sayings,f18,_,["self", "number"],aC_Sayings,⟨pg_Sayings,hd_Sayings,po_Sayings,sa_Sayings⟩,⟨a18,i18,k18⟩,o18,(F18.bindsN (ps:=["self", "number"]) fun _ _ _ _ _ _ us hl=>match us,hl with | [_,_],_=>rfl),fun t fs ds z=>zJ6 z⟩⟩
 have o24:=z3N (P:=P) (w:=w) (base:=base) GG  F24
 have P7:=O3 (base:=base) (dvs:=[]) (dd:=[]) (PySem.W.mg_of X G a24) o24 F24.kp (F24.bindsN (ps:=["_law_cell_here", "_law_limits"]) fun _ _ _ _ _ _ us hl=>match us,hl with | [_,_],_=>rfl) .nil (fun _=>.nil) rfl
 have o25:=z2K (P:=P) (w:=w) (base:=base) GG  F25
 have zm8:=O3 (base:=base) (dvs:=[]) (dd:=[]) (PySem.W.mg_of X G a25) o25 F25.kp (F25.bindsN (ps:=["_law_script", "_law_k"]) fun _ _ _ _ _ _ us hl=>match us,hl with | [_,_],_=>rfl) .nil (fun _=>.nil) rfl
 have o26:=z2T (P:=P) (w:=w) (base:=base) GG  F26
 have zG6:=O3 (base:=base) (dvs:=[]) (dd:=[]) (PySem.W.mg_of X G a26) o26 F26.kp (F26.bindsN (ps:=["_law_script", "_law_few"]) fun _ _ _ _ _ _ us hl=>match us,hl with | [_,_],_=>rfl) .nil (fun _=>.nil) rfl
 have o27:=z53 (P:=P) (w:=w) (base:=base) GG  F27
 have zK8:=O3 (base:=base) (dvs:=[]) (dd:=[]) (PySem.W.mg_of X G a27) o27 F27.kp (F27.bindsN (ps:=["_law_found"]) fun _ _ _ _ _ _ us hl=>match us,hl with | [_],_=>rfl) .nil (fun _=>.nil) rfl
 have o29:=z2f (P:=P) (w:=w) (base:=base) GG  F29
 obtain ⟨ds29_1,vv29_1,bb29_1⟩:=F29.binds1 (ps:=["_law_cell_here", "_law_parts", "_law_wide"]) 2 0 (by decide) rfl fun _ _ _ _ _ _ _ us its h1 h2=>match us,its,h1,h2 with | [_,_],[_],_,_=>⟨_,rfl,rfl⟩
 have zp7:=O3 (base:=base) (dvs:=[.int 0]) (dd:=[.int 0]) (PySem.W.mg_of X G a29) o29 F29.kp bb29_1 vv29_1 (fun _=>(.cons (f:=[]) (g:=[]) (.int _) .nil)) rfl
 have o30:=zX7 (P:=P) (w:=w) (base:=base) GG  F30
 have zq2:=O3 (base:=base) (dvs:=[]) (dd:=[]) (PySem.W.mg_of X G a30) o30 F30.kp (F30.bindsN (ps:=["_law_found"]) fun _ _ _ _ _ _ us hl=>match us,hl with | [_],_=>rfl) .nil (fun _=>.nil) rfl
 have o33:=zQ4 (P:=P) (w:=w) (base:=base) GG  F33
 have zl0:=O3 (base:=base) (dvs:=[]) (dd:=[]) (PySem.W.mg_of X G a33) o33 F33.kp (F33.bindsN (ps:=["_law_given", "_law_numbers", "_law_one", "_law_other"]) fun _ _ _ _ _ _ us hl=>match us,hl with | [_,_,_,_],_=>rfl) .nil (fun _=>.nil) rfl
 have o35:=zQ6 (P:=P) (w:=w) (base:=base) GG  F35
 have zk7:=O3 (base:=base) (dvs:=[]) (dd:=[]) (PySem.W.mg_of X G a35) o35 F35.kp (F35.bindsN (ps:=["_law_size", "_law_given", "_law_one"]) fun _ _ _ _ _ _ us hl=>match us,hl with | [_,_,_],_=>rfl) .nil (fun _=>.nil) rfl
 have o4:=zH1 (P:=P) (w:=w) (base:=base) GG Z6 F4
 have zf1:=O3 (base:=base) (dvs:=[]) (dd:=[]) (PySem.W.mg_of X G a4) o4 F4.kp (F4.bindsN (ps:=["censers", "saying"]) fun _ _ _ _ _ _ us hl=>match us,hl with | [_,_],_=>rfl) .nil (fun _=>.nil) rfl
 have o9:=zI0 (P:=P) (w:=w) (base:=base) GG C6 zb6 F9
 have C5:=O3 (base:=base) (dvs:=[]) (dd:=[]) (PySem.W.mg_of X G a9) o9 F9.kp (F9.bindsN (ps:=["censers", "sayings", "row", "parted"]) fun _ _ _ _ _ _ us hl=>match us,hl with | [_,_,_,_],_=>rfl) .nil (fun _=>.nil) rfl
 have o12:=zv7 (P:=P) (w:=w) (base:=base) GG zk2 F12
 have G5:MtI P w K mg base (T1 mg) "Sayings" X8 2:=⟨⟨C_Sayings,f12,_,["self", "censers"],aC_Sayings,PySem.W.mg_of X G aC_Sayings,⟨mk_Sayings,a12,i12,kc_Sayings⟩,o12,(F12.bindsN (ps:=["self", "censers"]) fun _ _ _ _ _ _ us hl=>match us,hl with | [_,_],_=>rfl),fun t fs ds z=>zJ6 z⟩⟩
 have o19:=zq8 (P:=P) (w:=w) (base:=base) GG H9 F19
 have I8:MtR P w K mg base (T1 mg) "Sayings" "onward" Y1 2:=⟨⟨C_Sayings,f19,_,["self", "censer", "turns", "numbers"],aC_Sayings,⟨pg_Sayings,hd_Sayings,po_Sayings,sa_Sayings⟩,⟨a19,i19,k19⟩,o19,(F19.bindsN (ps:=["self", "censer", "turns", "numbers"]) fun _ _ _ _ _ _ us hl=>match us,hl with | [_,_,_,_],_=>rfl),fun as z=>J8 z⟩⟩
 have o23:=zx6 (P:=P) (w:=w) (base:=base) GG zz9 F23
 have z1f:MtR P w K mg base (T1 mg) "Sayings" "twin" zg5 2:=⟨⟨C_Sayings,f23,_,["self"],aC_Sayings,⟨pg_Sayings,hd_Sayings,po_Sayings,sa_Sayings⟩,⟨a23,i23,k23⟩,o23,(F23.bindsN (ps:=["self"]) fun _ _ _ _ _ _ us hl=>match us,hl with | [_],_=>rfl),fun as z=>J8 z⟩⟩
 have o28:=z3H (P:=P) (w:=w) (base:=base) GG zK8 F28
 have zF3:=O3 (base:=base) (dvs:=[]) (dd:=[]) (PySem.W.mg_of X G a28) o28 F28.kp (F28.bindsN (ps:=["_law_found"]) fun _ _ _ _ _ _ us hl=>match us,hl with | [_],_=>rfl) .nil (fun _=>.nil) rfl
 have o31:=z04 (P:=P) (w:=w) (base:=base) GG P7 F31
 have zu8:=O3 (base:=base) (dvs:=[]) (dd:=[]) (PySem.W.mg_of X G a31) o31 F31.kp (F31.bindsN (ps:=["_law_cell_here", "_law_size"]) fun _ _ _ _ _ _ us hl=>match us,hl with | [_,_],_=>rfl) .nil (fun _=>.nil) rfl
 have o36:=zQ2 (P:=P) (w:=w) (base:=base) GG P7 F36
 have zk4:=O3 (base:=base) (dvs:=[]) (dd:=[]) (PySem.W.mg_of X G a36) o36 F36.kp (F36.bindsN (ps:=["_law_cell_here", "_law_top"]) fun _ _ _ _ _ _ us hl=>match us,hl with | [_,_],_=>rfl) .nil (fun _=>.nil) rfl
 have o20:=zw3 (P:=P) (w:=w) (base:=base) GG Z6 I8 F20
 have b9:MtR P w K mg base (T1 mg) "Sayings" "chain" v8 3:=⟨⟨C_Sayings,f20,_,["self", "one", "other"],aC_Sayings,⟨pg_Sayings,hd_Sayings,po_Sayings,sa_Sayings⟩,⟨a20,i20,k20⟩,o20,(F20.bindsN (ps:=["self", "one", "other"]) fun _ _ _ _ _ _ us hl=>match us,hl with | [_,_,_],_=>rfl),fun as z=>J8 z⟩⟩
 have o37:=zU0 (P:=P) (w:=w) (base:=base) GG zF3 zl0 F37
 have zm3:=O3 (base:=base) (dvs:=[]) (dd:=[]) (PySem.W.mg_of X G a37) o37 F37.kp (F37.bindsN (ps:=["_law_found", "_law_given", "_law_there", "_law_one", "_law_other"]) fun _ _ _ _ _ _ us hl=>match us,hl with | [_,_,_,_,_],_=>rfl) .nil (fun _=>.nil) rfl
 have o39:=zF0 (P:=P) (w:=w) (base:=base) GG zk7 b9 zm3 F39
 have E0:=O3 (base:=base) (dvs:=[]) (dd:=[]) (PySem.W.mg_of X G a39) o39 F39.kp (F39.bindsN (ps:=["_law_said", "_law_size", "_law_given"]) fun _ _ _ _ _ _ us hl=>match us,hl with | [_,_,_],_=>rfl) .nil (fun _=>.nil) rfl
 have b11:=F11.bindsN (ps:=["censers", "sayings"]) fun _ _ _ _ _ _ us hl=>match us,hl with | [_,_],_=>rfl
 have m_11:=fun (j:Nat) h=>z84 (k:=3 + j) (i:=j) (base:=base) (P:=P) (w:=w) (CA:=T1 mg) (n:=2) (m:=10) (b:=T8) (ps:=["censers", "sayings"]) (PySem.W.mg_of X G a11) h F11.kp b11 rfl
 have U7:=m_11 48 (zA9 (P:=P) (w:=w) (base:=base) GG zp1 A9 C5 D7 ze4 F11 m_11 48)
 have o17:=zz2 (P:=P) (w:=w) (base:=base) GG zf1 b9 c_xi_Clash U4 U7 c_xi_NoFit F17
 have B5:MtC P w K mg base (T1 mg) "Sayings" "say" i8 52:=⟨⟨C_Sayings,f17,_,["self", "saying"],aC_Sayings,⟨pg_Sayings,hd_Sayings,po_Sayings,sa_Sayings⟩,⟨a17,i17,k17⟩,o17,(F17.bindsN (ps:=["self", "saying"]) fun _ _ _ _ _ _ us hl=>match us,hl with | [_,_],_=>rfl),fun t fs ds z=>zJ6 z⟩⟩
 have o21:=zz7 (P:=P) (w:=w) (base:=base) GG Z6 U4 U7 F21
 have T3:MtR P w K mg base (T1 mg) "Sayings" "why" i6 52:=⟨⟨C_Sayings,f21,_,["self", "one", "other"],aC_Sayings,⟨pg_Sayings,hd_Sayings,po_Sayings,sa_Sayings⟩,⟨a21,i21,k21⟩,o21,(F21.bindsN (ps:=["self", "one", "other"]) fun _ _ _ _ _ _ us hl=>match us,hl with | [_,_,_],_=>rfl),fun as z=>J8 z⟩⟩
 have o22:=zx9 (P:=P) (w:=w) (base:=base) GG T3 F22
 have D2:MtR P w K mg base (T1 mg) "Sayings" "told" V1 53:=⟨⟨C_Sayings,f22,_,["self", "one", "other"],aC_Sayings,⟨pg_Sayings,hd_Sayings,po_Sayings,sa_Sayings⟩,⟨a22,i22,k22⟩,o22,(F22.bindsN (ps:=["self", "one", "other"]) fun _ _ _ _ _ _ us hl=>match us,hl with | [_,_,_],_=>rfl),fun as z=>J8 z⟩⟩
 have o32:=z05 (P:=P) (w:=w) (base:=base) GG B5 F32
 have zw7:FnGH P w K mg base (T1 mg) K0 [0] 53 "_law_say" := ⟨⟨f32,_,["_law_said", "_law_saying_here"],PySem.W.mg_of X G a32,o32,F32.kp,(F32.bindsN (ps:=["_law_said", "_law_saying_here"]) fun _ _ _ _ _ _ us hl=>match us,hl with | [_,_],_=>rfl),fun t as z=>zY6 z⟩⟩
 have o34:=zr1 (P:=P) (w:=w) (base:=base) GG zp7 P7 M7 zu8 zw7 F34
 have J9:FnGH P w K mg base (T1 mg) b6 [0,3] 54 "_law_played_sayings" := ⟨⟨f34,_,["_law_said", "_law_cell_here", "_law_size", "_law_given"],PySem.W.mg_of X G a34,o34,F34.kp,(F34.bindsN (ps:=["_law_said", "_law_cell_here", "_law_size", "_law_given"]) fun _ _ _ _ _ _ us hl=>match us,hl with | [_,_,_,_],_=>rfl),fun t as z=>zY6 z⟩⟩
 have o38:=zW3 (P:=P) (w:=w) (base:=base) GG b9 D2 T3 F38
 have zn9:=O3 (base:=base) (dvs:=[]) (dd:=[]) (PySem.W.mg_of X G a38) o38 F38.kp (F38.bindsN (ps:=["_law_said", "_law_turn", "_law_one", "_law_other"]) fun _ _ _ _ _ _ us hl=>match us,hl with | [_,_,_,_],_=>rfl) .nil (fun _=>.nil) rfl
 exact z7D (zM4 (P:=P) (w:=w) (base:=base) GG zm8 zk4 P7 G5 zG6 J9 E0 zn9 zq2 F40) hlaw
end Cz
open PySem PySem.W PyProof.Rows
set_option maxHeartbeats 0 in
theorem PySem.Challenge.cw_censers_k38_whole_chains_as_short_as_can_holds : PySem.Challenge.rw_censers_k38_whole_chains_as_short_as_can.Holds := by
 w_on; o_law; k_head; (case hw=>w_witness2)
 k_fill
 refine L2.walk_ofB (l:=PySem.Challenge.rw_censers_k38_whole_chains_as_short_as_can) (n:=63) (k:=55) (x := "_law_script") (CX:=fun w=>L2.CX PySem.Challenge.rw_censers_k38_whole_chains_as_short_as_can.prog w) (sp:=fun w=>Cz.z0U _) rfl (by decide) rfl ⟨rfl,by decide,by decide⟩ (fun w h Y=>PySem.W.kIn_of Y) ?F (fun _ _ a ns hl hb _ hS=>⟨a,ns,rfl,hS,hl,hb,fun _=>rfl⟩) ?C
 case C=>
  intro w H s e s' c
  obtain ⟨_,_,_,_,_,_,_,_,_,_,_,_,z⟩:=c
  exact z
 case F=>
  intro w mg fa h KX G hmg
  refine' Cz.z8e KX G hmg ?aC_Sayings ?pg_Sayings ?hd_Sayings ?po_Sayings ?sa_Sayings ?mk_Sayings ?kc_Sayings ?nA_Sayings_given ?nA_Sayings_size ?a0 ?l0 ?c0 ?k0 ?a1 ?l1 ?c1 ?k1 ?a2 ?l2 ?c2 ?k2 ?a3 ?l3 ?c3 ?k3 ?a4 ?l4 ?c4 ?k4 ?a5 ?l5 ?c5 ?k5 ?a6 ?l6 ?c6 ?k6 ?a7 ?l7 ?c7 ?k7 ?a8 ?l8 ?c8 ?k8 ?a9 ?l9 ?c9 ?k9 ?a10 ?l10 ?c10 ?k10 ?a11 ?l11 ?c11 ?k11 ?a12 ?i12 ?l12 ?c12 ?k12 ?a13 ?i13 ?l13 ?c13 ?k13 ?a14 ?i14 ?l14 ?c14 ?k14 ?a15 ?i15 ?l15 ?c15 ?k15 ?a16 ?i16 ?l16 ?c16 ?k16 ?a17 ?i17 ?l17 ?c17 ?k17 ?a18 ?i18 ?l18 ?c18 ?k18 ?a19 ?i19 ?l19 ?c19 ?k19 ?a20 ?i20 ?l20 ?c20 ?k20 ?a21 ?i21 ?l21 ?c21 ?k21 ?a22 ?i22 ?l22 ?c22 ?k22 ?a23 ?i23 ?l23 ?c23 ?k23 ?a24 ?l24 ?c24 ?k24 ?a25 ?l25 ?c25 ?k25 ?a26 ?l26 ?c26 ?k26 ?a27 ?l27 ?c27 ?k27 ?a28 ?l28 ?c28 ?k28 ?a29 ?l29 ?m29 ?c29 ?k29 ?a30 ?l30 ?c30 ?k30 ?a31 ?l31 ?c31 ?k31 ?a32 ?l32 ?c32 ?k32 ?a33 ?l33 ?c33 ?k33 ?a34 ?l34 ?c34 ?k34 ?a35 ?l35 ?c35 ?k35 ?a36 ?l36 ?c36 ?k36 ?a37 ?l37 ?c37 ?k37 ?a38 ?l38 ?c38 ?k38 ?a39 ?l39 ?c39 ?k39 ?a40 ?l40 ?c40 ?k40 ?g_GREATEST ?g_all ?g_bool ?g_enumerate ?g_int ?g_isinstance ?g_len ?g_list ?g_max ?g_min ?g_range ?g_sum ?g_tuple ?xa_BadMany ?xb_BadMany ?xt_BadMany ?xk_BadMany ?xi_BadMany ?xa_BadSaying ?xb_BadSaying ?xt_BadSaying ?xk_BadSaying ?xi_BadSaying ?xa_Clash ?xb_Clash ?xt_Clash ?xk_Clash ?vg_Clash ?vh_Clash ?vd_Clash ?vn_Clash ?xa_NoCenser ?xb_NoCenser ?xt_NoCenser ?xk_NoCenser ?xi_NoCenser ?xa_NoFit ?xb_NoFit ?xt_NoFit ?xk_NoFit ?vg_NoFit ?vh_NoFit ?vd_NoFit ?vn_NoFit ?xa_NoSaying ?xb_NoSaying ?xt_NoSaying ?xk_NoSaying ?xi_NoSaying ?xa_Withdrawn ?xb_Withdrawn ?xt_Withdrawn ?xk_Withdrawn ?xi_Withdrawn ?va_CenserError ?vs_CenserError ?vr_CenserError ?vf_CenserError ?vL_Clash ?vsa_Clash ?vi_Clash ?vt_Clash ?vl_Clash ?vc_Clash ?vk_Clash ?vL_NoFit ?vsa_NoFit ?vi_NoFit ?vt_NoFit ?vl_NoFit ?vc_NoFit ?vk_NoFit ?ya_BadSaying_Clash ?xc_Clash ?ya_BadSaying_NoFit ?xc_NoFit ?ya_Clash_Clash ?ya_Clash_NoFit ?ya_NoCenser_Clash ?ya_NoCenser_NoCenser ?xc_NoCenser ?ya_NoCenser_NoFit ?ya_NoFit_Clash ?ya_NoFit_NoFit ?ug_LENGTHS ?ul_LENGTHS ?uk_LENGTHS ?uz_LENGTHS ?uv_LENGTHS_0 ?uv_LENGTHS_1 ?uv_LENGTHS_2 ?uv_LENGTHS_3 Cz.z0G
  (case aC_Sayings=>k_is)
  (case pg_Sayings=>k_is)
  (case hd_Sayings=>k_is)
  (case po_Sayings=>k_is)
  (case sa_Sayings=>k_is)
  (case mk_Sayings=>k_is)
  (case kc_Sayings=>k_is)
  (case nA_Sayings_given=>k_is)
  (case nA_Sayings_size=>k_is)
  (case a0=>k_is)
  (case l0=>k_is)
  (case c0=>k_is)
  (case k0=>k_is)
  (case a1=>k_is)
  (case l1=>k_is)
  (case c1=>k_is)
  (case k1=>k_is)
  (case a2=>k_is)
  (case l2=>k_is)
  (case c2=>k_is)
  (case k2=>k_is)
  (case a3=>k_is)
  (case l3=>k_is)
  (case c3=>k_is)
  (case k3=>k_is)
  (case a4=>k_is)
  (case l4=>k_is)
  (case c4=>k_is)
  (case k4=>k_is)
  (case a5=>k_is)
  (case l5=>k_is)
  (case c5=>k_is)
  (case k5=>k_is)
  (case a6=>k_is)
  (case l6=>k_is)
  (case c6=>k_is)
  (case k6=>k_is)
  (case a7=>k_is)
  (case l7=>k_is)
  (case c7=>k_is)
  (case k7=>k_is)
  (case a8=>k_is)
  (case l8=>k_is)
  (case c8=>k_is)
  (case k8=>k_is)
  (case a9=>k_is)
  (case l9=>k_is)
  (case c9=>k_is)
  (case k9=>k_is)
  (case a10=>k_is)
  (case l10=>k_is)
  (case c10=>k_is)
  (case k10=>k_is)
  (case a11=>k_is)
  (case l11=>k_is)
  (case c11=>k_is)
  (case k11=>k_is)
  (case a12=>k_is)
  (case i12=>k_is)
  (case l12=>k_is)
  (case c12=>k_is)
  (case k12=>k_is)
  (case a13=>k_is)
  (case i13=>k_is)
  (case l13=>k_is)
  (case c13=>k_is)
  (case k13=>k_is)
  (case a14=>k_is)
  (case i14=>k_is)
  (case l14=>k_is)
  (case c14=>k_is)
  (case k14=>k_is)
  (case a15=>k_is)
  (case i15=>k_is)
  (case l15=>k_is)
  (case c15=>k_is)
  (case k15=>k_is)
  (case a16=>k_is)
  (case i16=>k_is)
  (case l16=>k_is)
  (case c16=>k_is)
  (case k16=>k_is)
  (case a17=>k_is)
  (case i17=>k_is)
  (case l17=>k_is)
  (case c17=>k_is)
  (case k17=>k_is)
  (case a18=>k_is)
  (case i18=>k_is)
  (case l18=>k_is)
  (case c18=>k_is)
  (case k18=>k_is)
  (case a19=>k_is)
  (case i19=>k_is)
  (case l19=>k_is)
  (case c19=>k_is)
  (case k19=>k_is)
  (case a20=>k_is)
  (case i20=>k_is)
  (case l20=>k_is)
  (case c20=>k_is)
  (case k20=>k_is)
  (case a21=>k_is)
  (case i21=>k_is)
  (case l21=>k_is)
  (case c21=>k_is)
  (case k21=>k_is)
  (case a22=>k_is)
  (case i22=>k_is)
  (case l22=>k_is)
  (case c22=>k_is)
  (case k22=>k_is)
  (case a23=>k_is)
  (case i23=>k_is)
  (case l23=>k_is)
  (case c23=>k_is)
  (case k23=>k_is)
  (case a24=>k_is)
  (case l24=>k_is)
  (case c24=>k_is)
  (case k24=>k_is)
  (case a25=>k_is)
  (case l25=>k_is)
  (case c25=>k_is)
  (case k25=>k_is)
  (case a26=>k_is)
  (case l26=>k_is)
  (case c26=>k_is)
  (case k26=>k_is)
  (case a27=>k_is)
  (case l27=>k_is)
  (case c27=>k_is)
  (case k27=>k_is)
  (case a28=>k_is)
  (case l28=>k_is)
  (case c28=>k_is)
  (case k28=>k_is)
  (case a29=>k_is)
  (case l29=>k_is)
  (case m29=>k_is)
  (case c29=>k_is)
  (case k29=>k_is)
  (case a30=>k_is)
  (case l30=>k_is)
  (case c30=>k_is)
  (case k30=>k_is)
  (case a31=>k_is)
  (case l31=>k_is)
  (case c31=>k_is)
  (case k31=>k_is)
  (case a32=>k_is)
  (case l32=>k_is)
  (case c32=>k_is)
  (case k32=>k_is)
  (case a33=>k_is)
  (case l33=>k_is)
  (case c33=>k_is)
  (case k33=>k_is)
  (case a34=>k_is)
  (case l34=>k_is)
  (case c34=>k_is)
  (case k34=>k_is)
  (case a35=>k_is)
  (case l35=>k_is)
  (case c35=>k_is)
  (case k35=>k_is)
  (case a36=>k_is)
  (case l36=>k_is)
  (case c36=>k_is)
  (case k36=>k_is)
  (case a37=>k_is)
  (case l37=>k_is)
  (case c37=>k_is)
  (case k37=>k_is)
  (case a38=>k_is)
  (case l38=>k_is)
  (case c38=>k_is)
  (case k38=>k_is)
  (case a39=>k_is)
  (case l39=>k_is)
  (case c39=>k_is)
  (case k39=>k_is)
  (case a40=>k_is)
  (case l40=>k_is)
  (case c40=>k_is)
  (case k40=>k_is)
  (case g_GREATEST=>k_is)
  (case g_all=>k_is)
  (case g_bool=>k_is)
  (case g_enumerate=>k_is)
  (case g_int=>k_is)
  (case g_isinstance=>k_is)
  (case g_len=>k_is)
  (case g_list=>k_is)
  (case g_max=>k_is)
  (case g_min=>k_is)
  (case g_range=>k_is)
  (case g_sum=>k_is)
  (case g_tuple=>k_is)
  (case xa_BadMany=>k_is)
  (case xb_BadMany=>k_is)
  (case xt_BadMany=>k_is)
  (case xk_BadMany=>k_is)
  (case xi_BadMany=>k_exc)
  (case xa_BadSaying=>k_is)
  (case xb_BadSaying=>k_is)
  (case xt_BadSaying=>k_is)
  (case xk_BadSaying=>k_is)
  (case xi_BadSaying=>k_exc)
  (case xa_Clash=>k_is)
  (case xb_Clash=>k_is)
  (case xt_Clash=>k_is)
  (case xk_Clash=>k_is)
  (case vg_Clash=>k_is)
  (case vh_Clash=>k_is)
  (case vd_Clash=>k_is)
  (case vn_Clash=>k_is)
  (case xa_NoCenser=>k_is)
  (case xb_NoCenser=>k_is)
  (case xt_NoCenser=>k_is)
  (case xk_NoCenser=>k_is)
  (case xi_NoCenser=>k_exc)
  (case xa_NoFit=>k_is)
  (case xb_NoFit=>k_is)
  (case xt_NoFit=>k_is)
  (case xk_NoFit=>k_is)
  (case vg_NoFit=>k_is)
  (case vh_NoFit=>k_is)
  (case vd_NoFit=>k_is)
  (case vn_NoFit=>k_is)
  (case xa_NoSaying=>k_is)
  (case xb_NoSaying=>k_is)
  (case xt_NoSaying=>k_is)
  (case xk_NoSaying=>k_is)
  (case xi_NoSaying=>k_exc)
  (case xa_Withdrawn=>k_is)
  (case xb_Withdrawn=>k_is)
  (case xt_Withdrawn=>k_is)
  (case xk_Withdrawn=>k_is)
  (case xi_Withdrawn=>k_exc)
  (case va_CenserError=>k_is)
  (case vs_CenserError=>k_is)
  (case vr_CenserError=>k_is)
  (case vf_CenserError=>k_is)
  (case vL_Clash=>k_is)
  (case vsa_Clash=>k_is)
  (case vi_Clash=>k_is)
  (case vt_Clash=>k_is)
  (case vl_Clash=>k_is)
  (case vc_Clash=>k_is)
  (case vk_Clash=>k_is)
  (case vL_NoFit=>k_is)
  (case vsa_NoFit=>k_is)
  (case vi_NoFit=>k_is)
  (case vt_NoFit=>k_is)
  (case vl_NoFit=>k_is)
  (case vc_NoFit=>k_is)
  (case vk_NoFit=>k_is)
  (case ya_BadSaying_Clash=>k_is)
  (case xc_Clash=>k_is)
  (case ya_BadSaying_NoFit=>k_is)
  (case xc_NoFit=>k_is)
  (case ya_Clash_Clash=>k_is)
  (case ya_Clash_NoFit=>k_is)
  (case ya_NoCenser_Clash=>k_is)
  (case ya_NoCenser_NoCenser=>k_is)
  (case xc_NoCenser=>k_is)
  (case ya_NoCenser_NoFit=>k_is)
  (case ya_NoFit_Clash=>k_is)
  (case ya_NoFit_NoFit=>k_is)
  (case ug_LENGTHS=>k_is)
  (case ul_LENGTHS=>k_is)
  (case uk_LENGTHS=>rfl)
  (case uz_LENGTHS=>rfl)
  (case uv_LENGTHS_0=>k_is)
  (case uv_LENGTHS_1=>k_is)
  (case uv_LENGTHS_2=>k_is)
  (case uv_LENGTHS_3=>k_is)
